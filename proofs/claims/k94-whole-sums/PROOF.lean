import PyProof.Rows.All
import Wide.All
import OpenK.AllK
import Wide.FinOn
import KE.KStateDown
import Lean
import HandS.ForMost
import HandS.Evl
import HandS.Flow
import HandS.Style
import HandS.IsInst
import HandS.Zip
import HandS.NoneIn
import HandS.TupMul
import HandS.TupAny
import HandS.Strs
import HandS.Exc
import HandS.ExcInit
import HandS.ExcOwn
import HandS.TryMany
import HandS.RaiseMore
import HandS.Conv
import HandS.WordsExc
import KE.DataMinMax
import KE.GoesEnum
import HandS.SortKw
import HandS.SetFor
import HandS.ClsMeth
import HandS.ExcSuper
import HandS.HeadHook1
import HandS.HeadHook2
import HandS.HeadHook3
import HandS.HeadHook4
import HandS.Head0
import HandS.Head1
import HandS.Head2
import HandS.HeadEnd
import PySem.Challenge.RW_selfrights_k94_whole_sums_on_any_web
set_option Elab.async false
set_option linter.all false
set_option maxRecDepth 100000
section
set_option autoImplicit false
/-! K9M: the mathematics of sums on webs: plain Lean, no program. -/
namespace K9M
/-- terms (true) and claims (false) -/
inductive E : Bool → Type where
  | num (k : Nat) : E true
  | own : E true
  | eye (e : Nat) : E true
  | me : E true
  | plus (a b : E true) : E true
  | less (a b : E true) : E true
  | rest (a : E true) (k : Nat) : E true
  | least (a : E true) : E true
  | most (a : E true) : E true
  | many (c : E false) : E true
  | ite (c : E false) (a b : E true) : E true
  | its : E true
  | it : E true
  | yes : E false
  | like (a b : E true) : E false
  | blw (a b : E true) : E false
  | not (c : E false) : E false
  | and (c d : E false) : E false
  | or (c d : E false) : E false
abbrev Tm := E true
abbrev Cl := E false

def minL : List Nat → Nat
  | [] => 0
  | x :: xs => xs.foldl min x
def maxL (xs : List Nat) : Nat := xs.foldl max 0
def b2n (b : Bool) : Nat := if b then 1 else 0
theorem b2n_le (b : Bool) : b2n b ≤ 1 := by cases b <;> decide
theorem b2n_eq {b : Bool} : (b2n b != 0) = b := by cases b <;> rfl
/-- whom a hand sees -/
abbrev seen (ey : List (List Nat)) (h : Nat) : List Nat := ey.getD h []
/-- a term's number, a claim's truth (0, 1) -/
def val (ey : List (List Nat)) (st : List Nat) (h : Nat) : {b : Bool} → E b → Nat → Nat
  | _, .num k, _ => k
  | _, .own, _ => st.getD h 0
  | _, .eye e, _ => if e < (seen ey h).length then st.getD ((seen ey h).getD e 0) 0 else 0
  | _, .me, _ => h
  | _, .plus a b, o => val ey st h a o + val ey st h b o
  | _, .less a b, o => val ey st h a o - val ey st h b o
  | _, .rest a k, o => val ey st h a o % k
  | _, .least a, _ => minL ((seen ey h).map fun p => val ey st h a p)
  | _, .most a, _ => maxL ((seen ey h).map fun p => val ey st h a p)
  | _, .many c, _ => ((seen ey h).filter fun p => val ey st h c p != 0).length
  | _, .ite c a b, o => if (val ey st h c o != 0) = true then val ey st h a o else val ey st h b o
  | _, .its, o => st.getD o 0
  | _, .it, o => o
  | _, .yes, _ => 1
  | _, .like a b, o => b2n (decide (val ey st h a o = val ey st h b o))
  | _, .blw a b, o => b2n (decide (val ey st h a o < val ey st h b o))
  | _, .not c, o => b2n (!(val ey st h c o != 0))
  | _, .and c d, o => b2n ((val ey st h c o != 0) && (val ey st h d o != 0))
  | _, .or c d, o => b2n ((val ey st h c o != 0) || (val ey st h d o != 0))
abbrev hol (ey : List (List Nat)) (st : List Nat) (h : Nat) (c : Cl) (o : Nat) : Bool := val ey st h c o != 0

/-- its, it only within a look; no look within one -/
def okL : Bool → {b : Bool} → E b → Bool
  | _, _, .num _ => true
  | _, _, .own => true
  | _, _, .eye _ => true
  | _, _, .me => true
  | l, _, .plus a b => okL l a && okL l b
  | l, _, .less a b => okL l a && okL l b
  | l, _, .rest a _ => okL l a
  | l, _, .least a => !l && okL true a
  | l, _, .most a => !l && okL true a
  | l, _, .many c => !l && okL true c
  | l, _, .ite c a b => okL l c && okL l a && okL l b
  | l, _, .its => l
  | l, _, .it => l
  | _, _, .yes => true
  | l, _, .like a b => okL l a && okL l b
  | l, _, .blw a b => okL l a && okL l b
  | l, _, .not c => okL l c
  | l, _, .and c d => okL l c && okL l d
  | l, _, .or c d => okL l c && okL l d
def size : {b : Bool} → E b → Nat
  | _, .num _ => 1
  | _, .own => 1
  | _, .eye _ => 1
  | _, .me => 1
  | _, .plus a b => size a + size b + 1
  | _, .less a b => size a + size b + 1
  | _, .rest a _ => size a + 1
  | _, .least a => size a + 1
  | _, .most a => size a + 1
  | _, .many c => size c + 1
  | _, .ite c a b => size c + size a + size b + 1
  | _, .its => 1
  | _, .it => 1
  | _, .yes => 1
  | _, .like a b => size a + size b + 1
  | _, .blw a b => size a + size b + 1
  | _, .not c => size c + 1
  | _, .and c d => size c + size d + 1
  | _, .or c d => size c + size d + 1
def deep : {b : Bool} → E b → Nat
  | _, .num _ => 1
  | _, .own => 1
  | _, .eye _ => 1
  | _, .me => 1
  | _, .plus a b => max (deep a) (deep b) + 1
  | _, .less a b => max (deep a) (deep b) + 1
  | _, .rest a _ => deep a + 1
  | _, .least a => deep a + 1
  | _, .most a => deep a + 1
  | _, .many c => deep c + 1
  | _, .ite c a b => max (deep c) (max (deep a) (deep b)) + 1
  | _, .its => 1
  | _, .it => 1
  | _, .yes => 1
  | _, .like a b => max (deep a) (deep b) + 1
  | _, .blw a b => max (deep a) (deep b) + 1
  | _, .not c => deep c + 1
  | _, .and c d => max (deep c) (deep d) + 1
  | _, .or c d => max (deep c) (deep d) + 1
/-- the written numbers are within bounds -/
def rng : {b : Bool} → E b → Bool
  | _, .num k => decide (k ≤ 99)
  | _, .own => true
  | _, .eye e => decide (e ≤ 5)
  | _, .me => true
  | _, .plus a b => rng a && rng b
  | _, .less a b => rng a && rng b
  | _, .rest a k => rng a && decide (1 ≤ k) && decide (k ≤ 12)
  | _, .least a => rng a
  | _, .most a => rng a
  | _, .many c => rng c
  | _, .ite c a b => rng c && rng a && rng b
  | _, .its => true
  | _, .it => true
  | _, .yes => true
  | _, .like a b => rng a && rng b
  | _, .blw a b => rng a && rng b
  | _, .not c => rng c
  | _, .and c d => rng c && rng d
  | _, .or c d => rng c && rng d
/-- one of eye (ey), least, most, many (lk) stands in it -/
def hasW (we wl : Bool) : {b : Bool} → E b → Bool
  | _, .num _ => false
  | _, .own => false
  | _, .eye _ => we
  | _, .me => false
  | _, .plus a b => hasW we wl a || hasW we wl b
  | _, .less a b => hasW we wl a || hasW we wl b
  | _, .rest a _ => hasW we wl a
  | _, .least a => wl || hasW we wl a
  | _, .most a => wl || hasW we wl a
  | _, .many c => wl || hasW we wl c
  | _, .ite c a b => hasW we wl c || hasW we wl a || hasW we wl b
  | _, .its => false
  | _, .it => false
  | _, .yes => false
  | _, .like a b => hasW we wl a || hasW we wl b
  | _, .blw a b => hasW we wl a || hasW we wl b
  | _, .not c => hasW we wl c
  | _, .and c d => hasW we wl c || hasW we wl d
  | _, .or c d => hasW we wl c || hasW we wl d
/-- what fits lets by -/
def fitsM (l : Bool) {b : Bool} (e : E b) : Bool := rng e && okL l e && decide (size e ≤ 60) && decide (deep e ≤ 12)

/-! ### values hang on few hands -/
theorem val_frame {ey : List (List Nat)} {st st' : List Nat} {h : Nat} (h0 : st.getD h 0 = st'.getD h 0) (hs : ∀ p, p ∈ seen ey h → st.getD p 0 = st'.getD p 0) :
    ∀ {b : Bool} (e : E b) (o : Nat), st.getD o 0 = st'.getD o 0 → val ey st h e o = val ey st' h e o := by
  have hg : ∀ e : Nat, e < (seen ey h).length → (seen ey h).getD e 0 ∈ seen ey h := fun e he => by
    rw [List.getD_eq_getElem?_getD, List.getElem?_eq_getElem he]
    exact List.getElem_mem he
  intro b e
  induction e with
  | num k => intro o _; rfl
  | own => intro o _; exact h0
  | eye e =>
    intro o _
    simp only [val]
    split
    · rename_i he
      exact hs _ (hg e he)
    · rfl
  | me => intro o _; rfl
  | plus a b iha ihb => intro o ho; simp only [val, iha o ho, ihb o ho]
  | less a b iha ihb => intro o ho; simp only [val, iha o ho, ihb o ho]
  | rest a k iha => intro o ho; simp only [val, iha o ho]
  | least a iha =>
    intro o ho
    simp only [val]
    rw [List.map_congr_left fun p hp => iha p (hs p hp)]
  | most a iha =>
    intro o ho
    simp only [val]
    rw [List.map_congr_left fun p hp => iha p (hs p hp)]
  | many c ihc =>
    intro o ho
    simp only [val]
    rw [List.filter_congr fun p hp => by rw [ihc p (hs p hp)]]
  | ite c a b ihc iha ihb => intro o ho; simp only [val, ihc o ho, iha o ho, ihb o ho]
  | its => intro o ho; exact ho
  | it => intro o _; rfl
  | yes => intro o _; rfl
  | like a b iha ihb => intro o ho; simp only [val, iha o ho, ihb o ho]
  | blw a b iha ihb => intro o ho; simp only [val, iha o ho, ihb o ho]
  | not c ihc => intro o ho; simp only [val, ihc o ho]
  | and c d ihc ihd => intro o ho; simp only [val, ihc o ho, ihd o ho]
  | or c d ihc ihd => intro o ho; simp only [val, ihc o ho, ihd o ho]
/-- without eyes and looks: the own box and that of the one looked at -/
theorem val_near {ey : List (List Nat)} {st st' : List Nat} {h : Nat} (h0 : st.getD h 0 = st'.getD h 0) :
    ∀ {b : Bool} (e : E b) (o : Nat), hasW true true e = false → st.getD o 0 = st'.getD o 0 → val ey st h e o = val ey st' h e o := by
  intro b e
  induction e with
  | num k => intro o _ _; rfl
  | own => intro o _ _; exact h0
  | eye e => intro o q; simp [hasW] at q
  | me => intro o _ _; rfl
  | plus a b iha ihb => intro o q ho; simp only [hasW, Bool.or_eq_false_iff] at q; simp only [val, iha o q.1 ho, ihb o q.2 ho]
  | less a b iha ihb => intro o q ho; simp only [hasW, Bool.or_eq_false_iff] at q; simp only [val, iha o q.1 ho, ihb o q.2 ho]
  | rest a k iha => intro o q ho; simp only [hasW] at q; simp only [val, iha o q ho]
  | least a iha => intro o q; simp [hasW] at q
  | most a iha => intro o q; simp [hasW] at q
  | many c ihc => intro o q; simp [hasW] at q
  | ite c a b ihc iha ihb => intro o q ho; simp only [hasW, Bool.or_eq_false_iff] at q; simp only [val, ihc o q.1.1 ho, iha o q.1.2 ho, ihb o q.2 ho]
  | its => intro o _ ho; exact ho
  | it => intro o _ _; rfl
  | yes => intro o _ _; rfl
  | like a b iha ihb => intro o q ho; simp only [hasW, Bool.or_eq_false_iff] at q; simp only [val, iha o q.1 ho, ihb o q.2 ho]
  | blw a b iha ihb => intro o q ho; simp only [hasW, Bool.or_eq_false_iff] at q; simp only [val, iha o q.1 ho, ihb o q.2 ho]
  | not c ihc => intro o q ho; simp only [hasW] at q; simp only [val, ihc o q ho]
  | and c d ihc ihd => intro o q ho; simp only [hasW, Bool.or_eq_false_iff] at q; simp only [val, ihc o q.1 ho, ihd o q.2 ho]
  | or c d ihc ihd => intro o q ho; simp only [hasW, Bool.or_eq_false_iff] at q; simp only [val, ihc o q.1 ho, ihd o q.2 ho]
/-- what stands within a look has no look; its eyes are told by hasW true false -/
theorem inner_near : ∀ {b : Bool} (e : E b), okL true e = true → hasW true false e = false → hasW true true e = false := by
  intro b e
  induction e with
  | num k => intro _ _; rfl
  | own => intro _ _; rfl
  | eye e => intro _ q; exact q
  | me => intro _ _; rfl
  | plus a b iha ihb => intro k q; simp only [hasW, okL, Bool.or_eq_false_iff, Bool.and_eq_true] at *; exact ⟨iha k.1 q.1, ihb k.2 q.2⟩
  | less a b iha ihb => intro k q; simp only [hasW, okL, Bool.or_eq_false_iff, Bool.and_eq_true] at *; exact ⟨iha k.1 q.1, ihb k.2 q.2⟩
  | rest a k iha => intro k q; simp only [hasW, okL] at *; exact iha k q
  | least a iha => intro k; simp [okL] at k
  | most a iha => intro k; simp [okL] at k
  | many c ihc => intro k; simp [okL] at k
  | ite c a b ihc iha ihb => intro k q; simp only [hasW, okL, Bool.or_eq_false_iff, Bool.and_eq_true] at *; exact ⟨⟨ihc k.1.1 q.1.1, iha k.1.2 q.1.2⟩, ihb k.2 q.2⟩
  | its => intro _ _; rfl
  | it => intro _ _; rfl
  | yes => intro _ _; rfl
  | like a b iha ihb => intro k q; simp only [hasW, okL, Bool.or_eq_false_iff, Bool.and_eq_true] at *; exact ⟨iha k.1 q.1, ihb k.2 q.2⟩
  | blw a b iha ihb => intro k q; simp only [hasW, okL, Bool.or_eq_false_iff, Bool.and_eq_true] at *; exact ⟨iha k.1 q.1, ihb k.2 q.2⟩
  | not c ihc => intro k q; simp only [hasW, okL] at *; exact ihc k q
  | and c d ihc ihd => intro k q; simp only [hasW, okL, Bool.or_eq_false_iff, Bool.and_eq_true] at *; exact ⟨ihc k.1 q.1, ihd k.2 q.2⟩
  | or c d ihc ihd => intro k q; simp only [hasW, okL, Bool.or_eq_false_iff, Bool.and_eq_true] at *; exact ⟨ihc k.1 q.1, ihd k.2 q.2⟩

/-! ### systems of one kind and one box -/
structure Sy where
  ey : List (List Nat)
  m : Nat
  ru : List (Cl × Tm)
def Sy.n (S : Sy) : Nat := S.ey.length
def rul (S : Sy) (st : List Nat) (h : Nat) : Option (Cl × Tm) := S.ru.find? fun r => hol S.ey st h r.1 0
def idx (S : Sy) (st : List Nat) (h : Nat) : Option Nat := S.ru.findIdx? fun r => hol S.ey st h r.1 0
def rdy (S : Sy) (st : List Nat) (h : Nat) : Bool := (rul S st h).isSome
def newv (S : Sy) (st : List Nat) (h : Nat) : Nat := match rul S st h with
  | some r => val S.ey st h r.2 0 % S.m
  | none => st.getD h 0
def act (S : Sy) (st : List Nat) (h : Nat) : List Nat := st.set h (newv S st h)
def share (ey : List (List Nat)) (t p : Tm) (st : List Nat) (h : Nat) : Nat := val ey st h t 0 + ((seen ey h).map fun o => val ey st h p o).sum
def total (ey : List (List Nat)) (t p : Tm) (st : List Nat) : Nat := ((List.range ey.length).map fun h => share ey t p st h).sum
def seenBy (ey : List (List Nat)) (h : Nat) : List Nat := (List.range ey.length).filter fun o => decide (h ∈ seen ey o)
/-- the hands around a hand -/
def isAround (ey : List (List Nat)) (t : Tm) (h g : Nat) : Prop := g = h ∨ g ∈ seen ey h ∨ ∃ o, o ∈ seenBy ey h ∧ (g = o ∨ (hasW true true t = true ∧ g ∈ seen ey o))
def filled (m : Nat) : List Nat → List (List Nat) → List (List Nat)
  | [], F => F
  | h :: hs, F => filled m hs (F.flatMap fun one => (List.range m).map fun b => one.set h b)
/-- a web: symmetric, nobody sees himself, nobody twice -/
structure Web (ey : List (List Nat)) : Prop where
  lt : ∀ h o, o ∈ seen ey h → o < ey.length
  self : ∀ h, h ∉ seen ey h
  nd : ∀ h, (seen ey h).Nodup
  sym : ∀ h o, o ∈ seen ey h → h < ey.length → h ∈ seen ey o
structure Stand (S : Sy) (st : List Nat) : Prop where
  len : st.length = S.ey.length
  lt : ∀ i, i < S.ey.length → st.getD i 0 < S.m

theorem seen_lt {ey : List (List Nat)} {h o : Nat} (k : o ∈ seen ey h) : h < ey.length := by
  by_cases q : h < ey.length
  · exact q
  · have k' : o ∈ ey.getD h [] := k
    rw [List.getD_eq_getElem?_getD, List.getElem?_eq_none (by omega)] at k'
    cases k'
theorem getD_set_self {st : List Nat} {h v : Nat} (k : h < st.length) : (st.set h v).getD h 0 = v := by
  rw [List.getD_eq_getElem?_getD, List.getElem?_set_self k]
  rfl
theorem getD_set_ne {st : List Nat} {h g v : Nat} (k : h ≠ g) : (st.set h v).getD g 0 = st.getD g 0 := by
  rw [List.getD_eq_getElem?_getD, List.getD_eq_getElem?_getD, List.getElem?_set_ne k]
theorem act_stand {S : Sy} {st : List Nat} (X : Stand S st) (hm : 0 < S.m) (h : Nat) : Stand S (act S st h) := by
  refine ⟨by unfold act; rw [List.length_set]; exact X.len, fun i hi => ?_⟩
  unfold act
  by_cases e : h = i
  · subst e
    rw [getD_set_self (by rw [X.len]; exact hi)]
    unfold newv
    split
    · exact Nat.mod_lt _ hm
    · exact X.lt h hi
  · rw [getD_set_ne e]
    exact X.lt i hi

/-! ### fillings -/
def put (st : List Nat) (A : List Nat) (one : List Nat) : List Nat := A.foldl (fun acc h => acc.set h (st.getD h 0)) one
theorem put_len (st : List Nat) : ∀ (A : List Nat) (one : List Nat), (put st A one).length = one.length
  | [], _ => rfl
  | h :: A, one => by
    show (put st A (one.set h (st.getD h 0))).length = _
    rw [put_len st A, List.length_set]
theorem put_in {m : Nat} {st : List Nat} : ∀ (A : List Nat) (F : List (List Nat)) (one : List Nat), one ∈ F → (∀ h, h ∈ A → st.getD h 0 < m) → put st A one ∈ filled m A F
  | [], F, one, h1, _ => h1
  | h :: A, F, one, h1, h2 => by
    show put st A (one.set h (st.getD h 0)) ∈ filled m A _
    refine put_in A _ _ ?_ fun g hg => h2 g (List.mem_cons_of_mem _ hg)
    exact List.mem_flatMap.mpr ⟨one, h1, List.mem_map.mpr ⟨st.getD h 0, List.mem_range.mpr (h2 h List.mem_cons_self), rfl⟩⟩
theorem put_out {st : List Nat} {g : Nat} : ∀ (A : List Nat) (one : List Nat), g ∉ A → (put st A one).getD g 0 = one.getD g 0
  | [], _, _ => rfl
  | h :: A, one, hg => by
    show (put st A (one.set h (st.getD h 0))).getD g 0 = _
    rw [put_out A _ fun q => hg (List.mem_cons_of_mem _ q)]
    exact getD_set_ne fun e => hg (by rw [e]; exact List.mem_cons_self)
theorem put_at {st : List Nat} {g : Nat} : ∀ (A : List Nat) (one : List Nat), g ∈ A → g < one.length → (put st A one).getD g 0 = st.getD g 0
  | [], _, h, _ => by cases h
  | h :: A, one, hg, hl => by
    show (put st A (one.set h (st.getD h 0))).getD g 0 = _
    by_cases q : g ∈ A
    · exact put_at A _ q (by rw [List.length_set]; exact hl)
    · rw [put_out A _ q]
      have e : g = h := by
        rcases List.mem_cons.mp hg with e | e
        · exact e
        · exact absurd e q
      subst e
      exact getD_set_self hl
theorem filled_ok {m n : Nat} : ∀ (A : List Nat) (F : List (List Nat)), (∀ one ∈ F, one.length = n ∧ ∀ i, one.getD i 0 < m) → ∀ st ∈ filled m A F, st.length = n ∧ ∀ i, st.getD i 0 < m
  | [], F, h, st, hs => h st hs
  | h :: A, F, hF, st, hs => by
    refine filled_ok A _ (fun one ho => ?_) st hs
    obtain ⟨x, hx, hb⟩ := List.mem_flatMap.mp ho
    obtain ⟨b, hb1, rfl⟩ := List.mem_map.mp hb
    obtain ⟨l1, l2⟩ := hF x hx
    refine ⟨by rw [List.length_set]; exact l1, fun i => ?_⟩
    by_cases e : h = i
    · subst e
      by_cases hl : h < x.length
      · rw [getD_set_self hl]
        exact List.mem_range.mp hb1
      · rw [List.set_eq_of_length_le (by omega)]
        exact l2 h
    · rw [getD_set_ne e]
      exact l2 i
theorem nought_ok {m n : Nat} (hm : 0 < m) : ∀ one ∈ [List.replicate n 0], one.length = n ∧ ∀ i, one.getD i 0 < m := by
  intro one h
  have e : one = List.replicate n 0 := by simpa using h
  subst e
  refine ⟨List.length_replicate, fun i => ?_⟩
  rw [List.getD_eq_getElem?_getD, List.getElem?_replicate]
  split <;> exact hm

/-! ### the sum falls -/
theorem find_congr {α : Type} {p q : α → Bool} : ∀ {l : List α}, (∀ x ∈ l, p x = q x) → l.find? p = l.find? q
  | [], _ => rfl
  | x :: l, h => by
    have h1 := h x List.mem_cons_self
    have h2 := find_congr (l := l) fun y hy => h y (List.mem_cons_of_mem _ hy)
    simp only [List.find?_cons, h1, h2]
theorem rul_frame {S : Sy} {st st' : List Nat} {h : Nat} (h0 : st.getD h 0 = st'.getD h 0) (hs : ∀ p, p ∈ seen S.ey h → st.getD p 0 = st'.getD p 0) (hz : ∀ r ∈ S.ru, okL false r.1 = true ∧ okL false r.2 = true)
    (hv : ∀ {b : Bool} (e : E b), okL false e = true → val S.ey st h e 0 = val S.ey st' h e 0) : rul S st h = rul S st' h :=
  find_congr fun r hr => by
    show (val S.ey st h r.1 0 != 0) = (val S.ey st' h r.1 0 != 0)
    rw [hv r.1 (hz r hr).1]
/-- outside a look the one looked at is nothing -/
theorem val_any {ey : List (List Nat)} {st : List Nat} {h : Nat} : ∀ {b : Bool} (e : E b), okL false e = true → ∀ o o', val ey st h e o = val ey st h e o' := by
  intro b e
  induction e with
  | num k => intro _ _ _; rfl
  | own => intro _ _ _; rfl
  | eye e => intro _ _ _; rfl
  | me => intro _ _ _; rfl
  | plus a b iha ihb => intro k o o'; simp only [okL, Bool.and_eq_true] at k; simp only [val, iha k.1 o o', ihb k.2 o o']
  | less a b iha ihb => intro k o o'; simp only [okL, Bool.and_eq_true] at k; simp only [val, iha k.1 o o', ihb k.2 o o']
  | rest a k iha => intro k o o'; simp only [okL] at k; simp only [val, iha k o o']
  | least a iha => intro _ _ _; rfl
  | most a iha => intro _ _ _; rfl
  | many c ihc => intro _ _ _; rfl
  | ite c a b ihc iha ihb => intro k o o'; simp only [okL, Bool.and_eq_true] at k; simp only [val, ihc k.1.1 o o', iha k.1.2 o o', ihb k.2 o o']
  | its => intro k; simp [okL] at k
  | it => intro k; simp [okL] at k
  | yes => intro _ _ _; rfl
  | like a b iha ihb => intro k o o'; simp only [okL, Bool.and_eq_true] at k; simp only [val, iha k.1 o o', ihb k.2 o o']
  | blw a b iha ihb => intro k o o'; simp only [okL, Bool.and_eq_true] at k; simp only [val, iha k.1 o o', ihb k.2 o o']
  | not c ihc => intro k o o'; simp only [okL] at k; simp only [val, ihc k o o']
  | and c d ihc ihd => intro k o o'; simp only [okL, Bool.and_eq_true] at k; simp only [val, ihc k.1 o o', ihd k.2 o o']
  | or c d ihc ihd => intro k o o'; simp only [okL, Bool.and_eq_true] at k; simp only [val, ihc k.1 o o', ihd k.2 o o']
theorem val_sight {ey : List (List Nat)} {st st' : List Nat} {h : Nat} (h0 : st.getD h 0 = st'.getD h 0) (hs : ∀ p, p ∈ seen ey h → st.getD p 0 = st'.getD p 0) {b : Bool} (e : E b) (k : okL false e = true) (o o' : Nat) :
    val ey st h e o = val ey st' h e o' := by
  rw [val_any e k o h, val_frame h0 hs e h h0, val_any e k h o']
def OkRules (S : Sy) : Prop := ∀ r ∈ S.ru, okL false r.1 = true ∧ okL false r.2 = true
theorem rul_sight {S : Sy} (Z : OkRules S) {st st' : List Nat} {h : Nat} (h0 : st.getD h 0 = st'.getD h 0) (hs : ∀ p, p ∈ seen S.ey h → st.getD p 0 = st'.getD p 0) : rul S st h = rul S st' h :=
  rul_frame h0 hs Z fun e k => val_sight h0 hs e k 0 0
theorem newv_sight {S : Sy} (Z : OkRules S) {st st' : List Nat} {h : Nat} (h0 : st.getD h 0 = st'.getD h 0) (hs : ∀ p, p ∈ seen S.ey h → st.getD p 0 = st'.getD p 0) : newv S st h = newv S st' h := by
  unfold newv
  rw [rul_sight Z h0 hs]
  cases e : rul S st' h with
  | none => exact h0
  | some r =>
    have hr : r ∈ S.ru := List.mem_of_find?_eq_some e
    show val S.ey st h r.2 0 % S.m = val S.ey st' h r.2 0 % S.m
    rw [val_sight h0 hs r.2 (Z r hr).2 0 0]

theorem sum_map_add {α : Type} (f g f' g' : α → Nat) : ∀ l : List α, (∀ x ∈ l, f x + g x = f' x + g' x) → (l.map f).sum + (l.map g).sum = (l.map f').sum + (l.map g').sum
  | [], _ => rfl
  | x :: l, h => by
    have h1 := h x List.mem_cons_self
    have h2 := sum_map_add f g f' g' l fun y hy => h y (List.mem_cons_of_mem _ hy)
    simp only [List.map_cons, List.sum_cons]
    omega
theorem sum_map_le {α : Type} (f g : α → Nat) : ∀ l : List α, (∀ x ∈ l, f x ≤ g x) → (l.map f).sum ≤ (l.map g).sum
  | [], _ => Nat.le_refl _
  | x :: l, h => by
    have h1 := h x List.mem_cons_self
    have h2 := sum_map_le f g l fun y hy => h y (List.mem_cons_of_mem _ hy)
    simp only [List.map_cons, List.sum_cons]
    omega
theorem sum_filter_swap {α : Type} (a b : α → Nat) (q : α → Bool) : ∀ l : List α, (∀ x ∈ l, q x = false → a x = b x) → (l.map a).sum + ((l.filter q).map b).sum = (l.map b).sum + ((l.filter q).map a).sum
  | [], _ => rfl
  | x :: l, h => by
    have h2 := sum_filter_swap a b q l fun y hy => h y (List.mem_cons_of_mem _ hy)
    by_cases e : q x = true
    · simp only [List.map_cons, List.sum_cons, List.filter_cons, e, if_true]
      omega
    · have e' : q x = false := by simpa using e
      have h1 := h x List.mem_cons_self e'
      simp only [List.map_cons, List.sum_cons, List.filter_cons, e', Bool.false_eq_true, if_false]
      omega
theorem sum_filter_one {f : Nat → Nat} {q : Nat → Bool} {h : Nat} (hq : q h = false) : ∀ l : List Nat, l.Nodup → h ∈ l → ((l.filter fun g => q g || g == h).map f).sum = f h + ((l.filter q).map f).sum
  | [], _, k => by cases k
  | x :: l, nd, k => by
    have nd' := List.nodup_cons.mp nd
    by_cases e : x = h
    · subst e
      have e2 : (l.filter fun g => q g || g == x) = l.filter q := List.filter_congr fun g hg => by
        have ne : g ≠ x := fun z => nd'.1 (by rw [← z]; exact hg)
        have nb : (g == x) = false := beq_eq_false_iff_ne.mpr ne
        rw [nb, Bool.or_false]
      simp only [List.filter_cons, hq, Bool.false_or, beq_self_eq_true, if_true, Bool.false_eq_true, if_false, List.map_cons, List.sum_cons, e2]
    · have k2 : h ∈ l := by
        rcases List.mem_cons.mp k with z | z
        · exact absurd z.symm e
        · exact z
      have ih := sum_filter_one (f := f) hq l nd'.2 k2
      have nb : (x == h) = false := beq_eq_false_iff_ne.mpr e
      by_cases c : q x = true
      · simp only [List.filter_cons, c, nb, Bool.or_false, if_true, List.map_cons, List.sum_cons, ih]
        omega
      · have c' : q x = false := by simpa using c
        simp only [List.filter_cons, c', nb, Bool.or_false, Bool.false_eq_true, if_false, ih]
theorem seenBy_self {ey : List (List Nat)} (Wb : Web ey) (h : Nat) : h ∉ seenBy ey h := fun k => Wb.self h (of_decide_eq_true (List.mem_filter.mp k).2)
theorem mem_seenBy {ey : List (List Nat)} {h o : Nat} : o ∈ seenBy ey h ↔ h ∈ seen ey o := by
  unfold seenBy
  rw [List.mem_filter, decide_eq_true_iff, List.mem_range]
  exact ⟨fun k => k.2, fun k => ⟨seen_lt k, k⟩⟩
/-- the shares that an act turns -/
theorem total_turn {ey : List (List Nat)} (Wb : Web ey) {t p : Tm} (ht : okL false t = true) {st : List Nat} {h v : Nat} (hh : h < ey.length) :
    total ey t p (st.set h v) + (share ey t p st h + ((seenBy ey h).map fun g => share ey t p st g).sum) = total ey t p st + (share ey t p (st.set h v) h + ((seenBy ey h).map fun g => share ey t p (st.set h v) g).sum) := by
  have far : ∀ g ∈ List.range ey.length, (decide (h ∈ seen ey g) || g == h) = false → share ey t p (st.set h v) g = share ey t p st g := fun g _ hq => by
    obtain ⟨q1, q2⟩ := Bool.or_eq_false_iff.mp hq
    have n1 : h ∉ seen ey g := of_decide_eq_false q1
    have n2 : h ≠ g := fun z => by rw [z, beq_self_eq_true] at q2; cases q2
    have e0 : (st.set h v).getD g 0 = st.getD g 0 := getD_set_ne n2
    have es : ∀ o, o ∈ seen ey g → (st.set h v).getD o 0 = st.getD o 0 := fun o ho => getD_set_ne fun z => n1 (by rw [z]; exact ho)
    unfold share
    rw [val_sight e0 es t ht 0 0, List.map_congr_left fun o ho => val_frame e0 es p o (es o ho)]
  have s1 := sum_filter_swap (fun g => share ey t p (st.set h v) g) (fun g => share ey t p st g) (fun g => decide (h ∈ seen ey g) || g == h) (List.range ey.length) far
  have hq : decide (h ∈ seen ey h) = false := decide_eq_false (Wb.self h)
  have s2 := fun f : Nat → Nat => sum_filter_one (f := f) (q := fun g => decide (h ∈ seen ey g)) hq (List.range ey.length) List.nodup_range (List.mem_range.mpr hh)
  rw [s2, s2] at s1
  exact s1
/-- the same change is seen by the hands around alone -/
theorem turn_same {ey : List (List Nat)} (Wb : Web ey) {t p : Tm} (ht : okL false t = true) (hp : hasW true true p = false) {st st' : List Nat} {h v : Nat} (hh : h < st.length) (hl : st'.length = st.length)
    (ag : ∀ g, isAround ey t h g → st.getD g 0 = st'.getD g 0) {g : Nat} (hg : g = h ∨ g ∈ seenBy ey h) :
    share ey t p (st.set h v) g + share ey t p st' g = share ey t p st g + share ey t p (st'.set h v) g := by
  have ag' : ∀ o, isAround ey t h o → (st.set h v).getD o 0 = (st'.set h v).getD o 0 := fun o ho => by
    by_cases e : h = o
    · subst e
      rw [getD_set_self hh, getD_set_self (by rw [hl]; exact hh)]
    · rw [getD_set_ne e, getD_set_ne e]
      exact ag o ho
  have all : (∀ o, o ∈ seen ey g → isAround ey t h o) → isAround ey t h g → share ey t p (st.set h v) g + share ey t p st' g = share ey t p st g + share ey t p (st'.set h v) g := fun k1 k2 => by
    have e1 : share ey t p st g = share ey t p st' g := by
      unfold share
      rw [val_sight (ag g k2) (fun o ho => ag o (k1 o ho)) t ht 0 0, List.map_congr_left fun o ho => val_frame (ag g k2) (fun o ho => ag o (k1 o ho)) p o (ag o (k1 o ho))]
    have e2 : share ey t p (st.set h v) g = share ey t p (st'.set h v) g := by
      unfold share
      rw [val_sight (ag' g k2) (fun o ho => ag' o (k1 o ho)) t ht 0 0, List.map_congr_left fun o ho => val_frame (ag' g k2) (fun o ho => ag' o (k1 o ho)) p o (ag' o (k1 o ho))]
    omega
  by_cases eg : g = h
  · subst eg
    exact all (fun o ho => .inr (.inl ho)) (.inl rfl)
  · have hs : g ∈ seenBy ey h := by
      rcases hg with z | z
      · exact absurd z eg
      · exact z
    have kg : isAround ey t h g := .inr (.inr ⟨g, hs, .inl rfl⟩)
    by_cases lk : hasW true true t = true
    · exact all (fun o ho => .inr (.inr ⟨g, hs, .inr ⟨lk, ho⟩⟩)) kg
    · have lk' : hasW true true t = false := by simpa using lk
      have n2 : h ≠ g := fun z => eg z.symm
      have a0 : (st.set h v).getD g 0 = st.getD g 0 := getD_set_ne n2
      have a1 : (st'.set h v).getD g 0 = st'.getD g 0 := getD_set_ne n2
      unfold share
      have t1 : val ey (st.set h v) g t 0 = val ey st g t 0 := by
        rw [val_any t ht 0 g, val_near a0 t g lk' a0, val_any t ht g 0]
      have t2 : val ey (st'.set h v) g t 0 = val ey st' g t 0 := by
        rw [val_any t ht 0 g, val_near a1 t g lk' a1, val_any t ht g 0]
      have s := sum_map_add (fun o => val ey (st.set h v) g p o) (fun o => val ey st' g p o) (fun o => val ey st g p o) (fun o => val ey (st'.set h v) g p o) (seen ey g) fun o _ => by
        by_cases e : h = o
        · subst e
          have kh : isAround ey t h h := .inl rfl
          rw [val_near (ag' g kg) p h hp (ag' h kh), val_near (ag g kg) p h hp (ag h kh)]
          omega
        · rw [val_near a0 p o hp (getD_set_ne e), val_near a1 p o hp (getD_set_ne e)]
      rw [t1, t2]
      omega
/-- what the sum checker looks at -/
def SumOk (S : Sy) (t p : Tm) : Prop := ∀ h, h < S.n → ∀ A : List Nat, (∀ g, g ∈ A ↔ isAround S.ey t h g) → A.Nodup →
  ∀ st ∈ filled S.m A [List.replicate S.n 0], rdy S st h = true →
    share S.ey t p (act S st h) h + ((seenBy S.ey h).map fun g => share S.ey t p (act S st h) g).sum < share S.ey t p st h + ((seenBy S.ey h).map fun g => share S.ey t p st g).sum
/-- ahead of an act and behind it -/
theorem sum_falls {S : Sy} (Wb : Web S.ey) (Z : OkRules S) {t p : Tm} (ht : okL false t = true) (hp : hasW true true p = false) {st : List Nat} (X : Stand S st) {h : Nat} (hh : h < S.n)
    (A : List Nat) (hA : ∀ g, g ∈ A ↔ isAround S.ey t h g)
    (ok : ∀ st ∈ filled S.m A [List.replicate S.n 0], rdy S st h = true →
      share S.ey t p (act S st h) h + ((seenBy S.ey h).map fun g => share S.ey t p (act S st h) g).sum < share S.ey t p st h + ((seenBy S.ey h).map fun g => share S.ey t p st g).sum)
    (r : rdy S st h = true) : total S.ey t p (act S st h) < total S.ey t p st := by
  have inN : ∀ g, isAround S.ey t h g → g < S.n := fun g k => by
    rcases k with rfl | k | ⟨o, ho, rfl | ⟨_, k⟩⟩
    · exact hh
    · exact Wb.lt _ _ k
    · exact seen_lt (mem_seenBy.mp ho)
    · exact Wb.lt _ _ k
  have hin := put_in (m := S.m) (st := st) A [List.replicate S.n 0] (List.replicate S.n 0) List.mem_cons_self fun g hg => X.lt g (inN g ((hA g).mp hg))
  have hln : (put st A (List.replicate S.n 0)).length = st.length := by rw [put_len, List.length_replicate, X.len]; rfl
  have ag : ∀ g, isAround S.ey t h g → st.getD g 0 = (put st A (List.replicate S.n 0)).getD g 0 := fun g k => (put_at A _ ((hA g).mpr k) (by rw [List.length_replicate]; exact inN g k)).symm
  have ag0 := ag h (.inl rfl)
  have ags : ∀ o, o ∈ seen S.ey h → st.getD o 0 = (put st A (List.replicate S.n 0)).getD o 0 := fun o ho => ag o (.inr (.inl ho))
  have er := rul_sight Z ag0 ags
  have ev := newv_sight Z ag0 ags
  have key := ok _ hin (by unfold rdy at r ⊢; rw [← er]; exact r)
  have T := total_turn Wb (p := p) ht (st := st) (v := newv S st h) hh
  have hh' : h < st.length := by rw [X.len]; exact hh
  have t0 := turn_same Wb (p := p) ht hp (v := newv S st h) hh' hln ag (g := h) (.inl rfl)
  have t1 := sum_map_add (fun g => share S.ey t p (st.set h (newv S st h)) g) (fun g => share S.ey t p (put st A (List.replicate S.n 0)) g) (fun g => share S.ey t p st g) (fun g => share S.ey t p ((put st A (List.replicate S.n 0)).set h (newv S st h)) g)
    (seenBy S.ey h) fun g hg => turn_same Wb (p := p) ht hp (v := newv S st h) hh' hln ag (.inr hg)
  unfold act at key ⊢
  rw [← ev] at key
  omega
/-- where nobody is ready each hand's claim is so -/
theorem settled_so {S : Sy} (Wb : Web S.ey) (Z : OkRules S) {c : Cl} (hc : okL false c = true) {st : List Nat} (X : Stand S st) {h : Nat} (hh : h < S.n)
    (ok : ∀ st ∈ filled S.m (h :: seen S.ey h) [List.replicate S.n 0], rdy S st h = false → hol S.ey st h c 0 = true) (r : rdy S st h = false) : hol S.ey st h c 0 = true := by
  have inN : ∀ g, g ∈ h :: seen S.ey h → g < S.n := fun g k => by
    rcases List.mem_cons.mp k with rfl | k
    · exact hh
    · exact Wb.lt _ _ k
  have hin := put_in (m := S.m) (st := st) (h :: seen S.ey h) [List.replicate S.n 0] (List.replicate S.n 0) List.mem_cons_self fun g hg => X.lt g (inN g hg)
  have ag : ∀ g, g ∈ h :: seen S.ey h → st.getD g 0 = (put st (h :: seen S.ey h) (List.replicate S.n 0)).getD g 0 := fun g k => (put_at _ _ k (by rw [List.length_replicate]; exact inN g k)).symm
  have ag0 := ag h List.mem_cons_self
  have ags : ∀ o, o ∈ seen S.ey h → st.getD o 0 = (put st (h :: seen S.ey h) (List.replicate S.n 0)).getD o 0 := fun o ho => ag o (List.mem_cons_of_mem _ ho)
  have key := ok _ hin (by unfold rdy at r ⊢; rw [← rul_sight Z ag0 ags]; exact r)
  show (val S.ey st h c 0 != 0) = true
  rw [val_sight ag0 ags c hc 0 0]
  exact key
end K9M
end
section
set_option maxHeartbeats 4000000
/-! K9Dv: plain data, what stands for it, what evaluates to it. -/
namespace K9
open PySem PySem.Spec PyProof.Rows L2 Evl
/-! ### plain data -/
inductive Dt where
  | non | bl (b : Bool) | int (i : Int) | str (s : Str) | tup (l : List Dt)
mutual
/-- the value v stands for the datum -/
inductive At (K : PySem.W.Frag) (H : Hp) : V → Dt → Prop
  | non : At K H .non .non
  | bl (b : Bool) : At K H (.bl b) (.bl b)
  | int (i : Int) : At K H (.int i) (.int i)
  | str (s : Str) : At K H (.str s) (.str s)
  | tup {a : Addr} {xs : List V} {ds : List Dt} (h : SqT K H a xs) (l : AtL K H xs ds) : At K H (.ref a) (.tup ds)
inductive AtL (K : PySem.W.Frag) (H : Hp) : List V → List Dt → Prop
  | nil : AtL K H [] []
  | cons {v : V} {d : Dt} {vs : List V} {ds : List Dt} (h : At K H v d) (t : AtL K H vs ds) : AtL K H (v :: vs) (d :: ds)
end
/-- tuples stay -/
def TKp (K : PySem.W.Frag) (H H' : Hp) : Prop := ∀ a xs, SqT K H a xs → SqT K H' a xs
theorem TKp.ex {K : PySem.W.Frag} {H H' : Hp} (e : Ex H H') : TKp K H H' := fun _ _ h => ex_t e h
theorem TKp.trans {K : PySem.W.Frag} {H H1 H2 : Hp} (a : TKp K H H1) (b : TKp K H1 H2) : TKp K H H2 := fun p xs h => b p xs (a p xs h)
/-- all but one thing stays; that one is a list -/
def ExF (f : Addr) (H H' : Hp) : Prop := ∀ a o, a ≠ f → H a = some o → H' a = some o
theorem TKp.exF {K : PySem.W.Frag} {f : Addr} {H H' : Hp} {xs : List V} (hf : H f = some (.lst xs)) (e : ExF f H H') : TKp K H H' := fun a ys h => by
  rcases h with (h | ⟨o, h⟩) | h
  · exact .inl (.inl (e a _ (ne_of h hf (by intro z; cases z)) h))
  · exact .inl (.inr ⟨o, e a _ (ne_of h hf (by intro z; cases z)) h⟩)
  · exact .inr h
section
variable {K : PySem.W.Frag} {H H' : Hp}
mutual
theorem At.tk (e : TKp K H H') : ∀ {v : V} {d : Dt}, At K H v d → At K H' v d
  | _, _, .non => .non
  | _, _, .bl b => .bl b
  | _, _, .int i => .int i
  | _, _, .str s => .str s
  | _, _, .tup h l => .tup (e _ _ h) (AtL.tk e l)
theorem AtL.tk (e : TKp K H H') : ∀ {vs : List V} {ds : List Dt}, AtL K H vs ds → AtL K H' vs ds
  | _, _, .nil => .nil
  | _, _, .cons h t => .cons (At.tk e h) (AtL.tk e t)
end
theorem At.mono (e : Ex H H') {v : V} {d : Dt} (h : At K H v d) : At K H' v d := h.tk (.ex e)
theorem AtL.mono (e : Ex H H') {vs : List V} {ds : List Dt} (h : AtL K H vs ds) : AtL K H' vs ds := h.tk (.ex e)
theorem AtL.len : ∀ {vs : List V} {ds : List Dt}, AtL K H vs ds → vs.length = ds.length
  | _, _, .nil => rfl
  | _, _, .cons _ t => congrArg (· + 1) (AtL.len t)
theorem AtL.get : ∀ {vs : List V} {ds : List Dt} {i : Nat} {d : Dt}, AtL K H vs ds → ds[i]? = some d → ∃ v, vs[i]? = some v ∧ At K H v d
  | _, _, _, _, .nil, e => by simp at e
  | _, _, 0, _, .cons h _, e => by simp at e; subst e; exact ⟨_, rfl, h⟩
  | _, _, i + 1, d, .cons _ t, e => by
    obtain ⟨v, h1, h2⟩ := AtL.get (i := i) (d := d) t (by simpa using e)
    exact ⟨v, by simpa using h1, h2⟩
theorem AtL.at : ∀ {vs : List V} {ds : List Dt} {i : Nat} {v : V}, AtL K H vs ds → vs[i]? = some v → ∃ d, ds[i]? = some d ∧ At K H v d
  | _, _, _, _, .nil, e => by simp at e
  | _, _, 0, _, .cons h _, e => by simp at e; subst e; exact ⟨_, rfl, h⟩
  | _, _, i + 1, v, .cons _ t, e => by
    obtain ⟨d, h1, h2⟩ := AtL.at (i := i) (v := v) t (by simpa using e)
    exact ⟨d, by simpa using h1, h2⟩
theorem AtL.append : ∀ {vs ws : List V} {ds es : List Dt}, AtL K H vs ds → AtL K H ws es → AtL K H (vs ++ ws) (ds ++ es)
  | _, _, _, _, .nil, s => s
  | _, _, _, _, .cons h t, s => .cons h (AtL.append t s)
theorem AtL.one {v : V} {d : Dt} (h : At K H v d) : AtL K H [v] [d] := .cons h .nil
theorem AtL.take : ∀ {vs : List V} {ds : List Dt} (n : Nat), AtL K H vs ds → AtL K H (vs.take n) (ds.take n)
  | _, _, 0, _ => .nil
  | _, _, _ + 1, .nil => .nil
  | _, _, n + 1, .cons h t => .cons h (AtL.take n t)
theorem AtL.drop : ∀ {vs : List V} {ds : List Dt} (n : Nat), AtL K H vs ds → AtL K H (vs.drop n) (ds.drop n)
  | _, _, 0, h => h
  | _, _, _ + 1, .nil => .nil
  | _, _, n + 1, .cons _ t => AtL.drop n t
theorem AtL.set {v : V} {d : Dt} (h : At K H v d) : ∀ {vs : List V} {ds : List Dt} (i : Nat), AtL K H vs ds → AtL K H (vs.set i v) (ds.set i d)
  | _, _, _, .nil => .nil
  | _, _, 0, .cons _ t => .cons h t
  | _, _, i + 1, .cons q t => .cons q (AtL.set h i t)
theorem At.of_int {v : V} {i : Int} (h : At K H v (.int i)) : v = .int i := by cases h; rfl
theorem At.of_bl {v : V} {b : Bool} (h : At K H v (.bl b)) : v = .bl b := by cases h; rfl
theorem At.of_str {v : V} {s : Str} (h : At K H v (.str s)) : v = .str s := by cases h; rfl
theorem At.of_non {v : V} (h : At K H v .non) : v = .non := by cases h; rfl
theorem At.of_tup {v : V} {ds : List Dt} (h : At K H v (.tup ds)) : ∃ a xs, v = .ref a ∧ SqT K H a xs ∧ AtL K H xs ds := by
  cases h with
  | tup h l => exact ⟨_, _, rfl, h, l⟩
theorem AtL.of_nil {vs : List V} (h : AtL K H vs []) : vs = [] := by cases h; rfl
theorem AtL.of_cons {vs : List V} {d : Dt} {ds : List Dt} (h : AtL K H vs (d :: ds)) : ∃ v r, vs = v :: r ∧ At K H v d ∧ AtL K H r ds := by
  cases h with
  | cons h t => exact ⟨_, _, rfl, h, t⟩
theorem AtL.ints : ∀ {vs : List V} {ns : List Int}, AtL K H vs (ns.map .int) → vs = ns.map V.int
  | _, [], h => h.of_nil
  | _, n :: ns, h => by
    obtain ⟨v, r, rfl, h1, h2⟩ := AtL.of_cons h
    rw [h1.of_int, AtL.ints h2] <;> rfl
theorem AtL.bls : ∀ {vs : List V} {ns : List Bool}, AtL K H vs (ns.map .bl) → vs = ns.map V.bl
  | _, [], h => h.of_nil
  | _, n :: ns, h => by
    obtain ⟨v, r, rfl, h1, h2⟩ := AtL.of_cons h
    rw [h1.of_bl, AtL.bls h2] <;> rfl
theorem AtL.strs : ∀ {vs : List V} {ns : List Str}, AtL K H vs (ns.map .str) → vs = ns.map V.str
  | _, [], h => h.of_nil
  | _, n :: ns, h => by
    obtain ⟨v, r, rfl, h1, h2⟩ := AtL.of_cons h
    rw [h1.of_str, AtL.strs h2] <;> rfl
theorem AtL.of_ints : ∀ ns : List Int, AtL K H (ns.map V.int) (ns.map .int)
  | [] => .nil
  | n :: ns => .cons (.int n) (AtL.of_ints ns)
theorem AtL.atI {vs : List V} {ds : List Dt} {i : Int} {d : Dt} (h : AtL K H vs ds) (e : L2.atI ds i = some d) : ∃ v, L2.atI vs i = some v ∧ At K H v d := by
  unfold L2.atI at e ⊢
  rw [h.len]
  cases q : ixN ds.length i with
  | none => rw [q] at e; cases e
  | some j =>
    rw [q] at e
    exact h.get (i := j) e
end
/-! ### the slots -/
inductive Sl where
  | d (d : Dt) | v (v : V) | no
inductive Sg (K : PySem.W.Frag) (H : Hp) : L2.St → List Sl → Prop
  | nil : Sg K H [] []
  | d {v : V} {d : Dt} {σ : L2.St} {l : List Sl} (h : At K H v d) (t : Sg K H σ l) : Sg K H (some v :: σ) (.d d :: l)
  | v (v : V) {σ : L2.St} {l : List Sl} (t : Sg K H σ l) : Sg K H (some v :: σ) (.v v :: l)
  | no (o : Option V) {σ : L2.St} {l : List Sl} (t : Sg K H σ l) : Sg K H (o :: σ) (.no :: l)
section
variable {K : PySem.W.Frag} {H H' : Hp}
theorem Sg.tk (e : TKp K H H') {σ : L2.St} {l : List Sl} (h : Sg K H σ l) : Sg K H' σ l := by
  induction h with
  | nil => exact .nil
  | d h _ ih => exact .d (h.tk e) ih
  | v v _ ih => exact .v v ih
  | no o _ ih => exact .no o ih
theorem Sg.mono (e : Ex H H') {σ : L2.St} {l : List Sl} (h : Sg K H σ l) : Sg K H' σ l := h.tk (.ex e)
theorem Sg.get {σ : L2.St} {l : List Sl} (h : Sg K H σ l) : ∀ {i : Nat} {d : Dt}, l[i]? = some (.d d) → ∃ v, σ[i]? = some (some v) ∧ At K H v d := by
  induction h with
  | nil => intro i d e; simp at e
  | d h _ ih =>
    intro i d e
    cases i with
    | zero => simp at e; subst e; exact ⟨_, rfl, h⟩
    | succ i => exact ih (by simpa using e)
  | v v _ ih =>
    intro i d e
    cases i with
    | zero => simp at e
    | succ i => exact ih (by simpa using e)
  | no o _ ih =>
    intro i d e
    cases i with
    | zero => simp at e
    | succ i => exact ih (by simpa using e)
theorem Sg.val {σ : L2.St} {l : List Sl} (h : Sg K H σ l) : ∀ {i : Nat} {v : V}, l[i]? = some (.v v) → σ[i]? = some (some v) := by
  induction h with
  | nil => intro i d e; simp at e
  | d h _ ih =>
    intro i d e
    cases i with
    | zero => simp at e
    | succ i => exact ih (by simpa using e)
  | v v _ ih =>
    intro i d e
    cases i with
    | zero => simp at e; subst e; rfl
    | succ i => exact ih (by simpa using e)
  | no o _ ih =>
    intro i d e
    cases i with
    | zero => simp at e
    | succ i => exact ih (by simpa using e)
theorem Sg.setD {v : V} {d : Dt} (hv : At K H v d) {σ : L2.St} {l : List Sl} (h : Sg K H σ l) : ∀ (i : Nat), Sg K H (σ.set i (some v)) (l.set i (.d d)) := by
  induction h with
  | nil => intro i; exact .nil
  | d h t ih =>
    intro i
    cases i with
    | zero => exact .d hv t
    | succ i => exact .d h (ih i)
  | v w t ih =>
    intro i
    cases i with
    | zero => exact .d hv t
    | succ i => exact .v w (ih i)
  | no o t ih =>
    intro i
    cases i with
    | zero => exact .d hv t
    | succ i => exact .no o (ih i)
theorem Sg.setV (v : V) {σ : L2.St} {l : List Sl} (h : Sg K H σ l) : ∀ (i : Nat), Sg K H (σ.set i (some v)) (l.set i (.v v)) := by
  induction h with
  | nil => intro i; exact .nil
  | d h t ih =>
    intro i
    cases i with
    | zero => exact .v v t
    | succ i => exact .d h (ih i)
  | v w t ih =>
    intro i
    cases i with
    | zero => exact .v v t
    | succ i => exact .v w (ih i)
  | no o t ih =>
    intro i
    cases i with
    | zero => exact .v v t
    | succ i => exact .no o (ih i)
theorem Sg.setN (o : Option V) {σ : L2.St} {l : List Sl} (h : Sg K H σ l) : ∀ (i : Nat), Sg K H (σ.set i o) (l.set i .no) := by
  induction h with
  | nil => intro i; exact .nil
  | d h t ih =>
    intro i
    cases i with
    | zero => exact .no o t
    | succ i => exact .d h (ih i)
  | v w t ih =>
    intro i
    cases i with
    | zero => exact .no o t
    | succ i => exact .v w (ih i)
  | no o' t ih =>
    intro i
    cases i with
    | zero => exact .no o t
    | succ i => exact .no o' (ih i)
def wipeS (l : List Sl) : List Nat → List Sl
  | [] => l
  | v :: vs => (wipeS l vs).set v .no
theorem Sg.wipe {σ : L2.St} {l : List Sl} (h : Sg K H σ l) : ∀ vs : List Nat, Sg K H (L2.wipe σ vs) (wipeS l vs)
  | [] => h
  | i :: is => (Sg.wipe h is).setN none i
/-- less may be known -/
def Sl.le : Sl → Sl → Prop
  | _, .no => True
  | .d a, .d b => a = b
  | .v a, .v b => a = b
  | _, _ => False
theorem Sg.less {σ : L2.St} {l : List Sl} (h : Sg K H σ l) : ∀ {m : List Sl}, m.length = l.length → (∀ i, Sl.le (l.getD i .no) (m.getD i .no)) → Sg K H σ m := by
  induction h with
  | nil => intro m e _; cases m with | nil => exact .nil | cons _ _ => cases e
  | d h t ih =>
    intro m e q
    cases m with
    | nil => cases e
    | cons x m =>
      have q0 := q 0
      have ht := ih (m := m) (by simpa using e) fun i => by have := q (i + 1); simpa using this
      cases x with
      | d d' =>
        simp [Sl.le] at q0
        subst q0
        exact .d h ht
      | v w => simp [Sl.le] at q0
      | no => exact .no _ ht
  | v v t ih =>
    intro m e q
    cases m with
    | nil => cases e
    | cons x m =>
      have q0 := q 0
      have ht := ih (m := m) (by simpa using e) fun i => by have := q (i + 1); simpa using this
      cases x with
      | d d' => simp [Sl.le] at q0
      | v w =>
        simp [Sl.le] at q0
        subst q0
        exact .v _ ht
      | no => exact .no _ ht
  | no o t ih =>
    intro m e q
    cases m with
    | nil => cases e
    | cons x m =>
      have q0 := q 0
      have ht := ih (m := m) (by simpa using e) fun i => by have := q (i + 1); simpa using this
      cases x with
      | d d' => simp [Sl.le] at q0
      | v w => simp [Sl.le] at q0
      | no => exact .no _ ht
theorem Sg.nones : ∀ n : Nat, Sg K H (List.replicate n none) (List.replicate n .no)
  | 0 => .nil
  | n + 1 => .no none (Sg.nones n)
theorem Sg.start {N : List Str} {vs : List V} {ds : List Dt} (h : AtL K H vs ds) : Sg K H (start N vs) (ds.map .d ++ List.replicate (N.length - ds.length) .no) := by
  unfold L2.start
  rw [h.len]
  generalize N.length - ds.length = n
  have go : ∀ {vs : List V} {ds : List Dt}, AtL K H vs ds → Sg K H (vs.map some ++ List.replicate n none) (ds.map .d ++ List.replicate n .no) := by
    intro vs
    induction vs with
    | nil => intro ds h; cases h; exact Sg.nones n
    | cons v vs ih => intro ds h; cases h with | cons h t => exact .d h (ih t)
  exact go h
end
/-! ### what evaluates to what -/
def EvD (K : PySem.W.Frag) (te : TE) (σ : L2.St) (H : Hp) (d : Dt) : Prop := ∀ H1, Ex H H1 → ∀ Q : VK, (∀ v H2, Ex H1 H2 → At K H2 v d → Q v H2) → te σ H1 Q
/-- a new list of data -/
def EvM (K : PySem.W.Frag) (te : TE) (σ : L2.St) (H : Hp) (ds : List Dt) : Prop := ∀ H1, Ex H H1 → ∀ Q : VK, (∀ p xs H2, H1 p = none → Ex H1 H2 → H2 p = some (.lst xs) → AtL K H2 xs ds → Q (.ref p) H2) → te σ H1 Q
def EvS (K : PySem.W.Frag) (ta : TA) (σ : L2.St) (H : Hp) (ds : List Dt) : Prop := ∀ H1, Ex H H1 → ∀ Q : List V → Hp → Prop, (∀ vs H2, Ex H1 H2 → AtL K H2 vs ds → Q vs H2) → ta σ H1 Q
section
variable {K : PySem.W.Frag} {σ : L2.St} {H H' : Hp} {ta tb te tx : TE} {t u : TT} {d d' : Dt} {ds : List Dt} {r : R2}
theorem EvD.mono (e : Ex H H') (h : EvD K te σ H d) : EvD K te σ H' d := fun H1 a Q q => h H1 (e.trans a) Q q
theorem EvM.mono (e : Ex H H') (h : EvM K te σ H ds) : EvM K te σ H' ds := fun H1 a Q q => h H1 (e.trans a) Q q
theorem EvD.is (h : EvD K te σ H d) (e : d = d') : EvD K te σ H d' := by rw [← e]; exact h
theorem EvM.is {es : List Dt} (h : EvM K te σ H ds) (e : ds = es) : EvM K te σ H es := by rw [← e]; exact h
theorem EvD.i {i : Int} (h : EvD K te σ H (.int i)) : Ev te σ H (.int i) := fun H1 e Q q => h H1 e Q fun v H2 e2 a => by rw [a.of_int]; exact q H2 e2
theorem EvD.b {b : Bool} (h : EvD K te σ H (.bl b)) : Ev te σ H (.bl b) := fun H1 e Q q => h H1 e Q fun v H2 e2 a => by rw [a.of_bl]; exact q H2 e2
theorem EvD.s {s : Str} (h : EvD K te σ H (.str s)) : Ev te σ H (.str s) := fun H1 e Q q => h H1 e Q fun v H2 e2 a => by rw [a.of_str]; exact q H2 e2
theorem ed_ev {v : V} (h : Ev te σ H v) (a : ∀ H1, At K H1 v d) : EvD K te σ H d := fun H1 e Q q => h H1 e Q fun H2 e2 => q v H2 e2 (a H2)
theorem ed_int {i : Int} (h : Ev te σ H (.int i)) : EvD K te σ H (.int i) := ed_ev h fun _ => .int i
theorem ed_bl {b : Bool} (h : Ev te σ H (.bl b)) : EvD K te σ H (.bl b) := ed_ev h fun _ => .bl b
/-! names and constants -/
theorem ed_var {l : List Sl} (S : Sg K H σ l) {i : Nat} (h : l[i]? = some (.d d)) : EvD K (tVar i) σ H d := fun H1 e Q q => by
  obtain ⟨v, h1, h2⟩ := S.get h
  exact ⟨v, h1, q v H1 (Ex.refl H1) (h2.mono e)⟩
theorem ed_varV {v : V} {l : List Sl} (S : Sg K H σ l) {i : Nat} (h : l[i]? = some (.v v)) (a : At K H v d) : EvD K (tVar i) σ H d := fun H1 e Q q => ⟨v, S.val h, q v H1 (Ex.refl H1) (a.mono e)⟩
theorem ev_varV {v : V} {l : List Sl} (S : Sg K H σ l) {i : Nat} (h : l[i]? = some (.v v)) : Ev (tVar i) σ H v := fun H1 e Q q => ⟨v, S.val h, q H1 (Ex.refl H1)⟩
theorem ed_cI {i : Int} : EvD K (tC (.int i)) σ H (.int i) := fun H1 _ _ q => q _ H1 (Ex.refl H1) (.int i)
theorem ed_cS {s : Str} : EvD K (tC (.str s)) σ H (.str s) := fun H1 _ _ q => q _ H1 (Ex.refl H1) (.str s)
theorem ed_cB {b : Bool} : EvD K (tC (.bl b)) σ H (.bl b) := fun H1 _ _ q => q _ H1 (Ex.refl H1) (.bl b)
theorem ed_cN : EvD K (tC .non) σ H .non := fun H1 _ _ q => q _ H1 (Ex.refl H1) .non
/-- a datum of the module's own -/
theorem ed_cR {v : V} (a : ∀ H1, At K H1 v d) : EvD K (tC v) σ H d := fun H1 _ _ q => q _ H1 (Ex.refl H1) (a H1)
/-! operators -/
theorem ed_II {g : Int → Int → Int} {i j : Int} (ha : EvD K ta σ H (.int i)) (hb : EvD K tb σ H (.int j)) : EvD K (tOp (rI0 fun i j => .int (g i j)) ta tb) σ H (.int (g i j)) := ed_int (ev_op ha.i hb.i rv_I0)
theorem ed_IB {g : Int → Int → Bool} {i j : Int} (ha : EvD K ta σ H (.int i)) (hb : EvD K tb σ H (.int j)) : EvD K (tOp (rI0 fun i j => .bl (g i j)) ta tb) σ H (.bl (g i j)) := ed_bl (ev_op ha.i hb.i rv_I0)
theorem ed_IC {C : Int → Int → Prop} {g : Int → Int → Int} {i j : Int} (ha : EvD K ta σ H (.int i)) (hb : EvD K tb σ H (.int j)) (hc : C i j) : EvD K (tOp (rI C fun i j => .int (g i j)) ta tb) σ H (.int (g i j)) := ed_int (ev_op ha.i hb.i (rv_I hc))
theorem ed_neg {i : Int} (ha : EvD K ta σ H (.int i)) : EvD K (tUn (rU fun i => .int (-i)) ta) σ H (.int (-i)) := ed_int (ev_un ha.i ru_neg)
theorem ed_eqI {i j : Int} (ha : EvD K ta σ H (.int i)) (hb : EvD K tb σ H (.int j)) : EvD K (tOp rEq ta tb) σ H (.bl (decide (i = j))) :=
  ed_bl (ev_is (ev_op ha.i hb.i (rv_eq rfl)) (by
    have e : (V.int i = V.int j) = (i = j) := propext ⟨fun z => V.int.inj z, fun z => by rw [z]⟩
    simp only [e]))
theorem ed_neI {i j : Int} (ha : EvD K ta σ H (.int i)) (hb : EvD K tb σ H (.int j)) : EvD K (tOp rNe ta tb) σ H (.bl (!decide (i = j))) :=
  ed_bl (ev_is (ev_op ha.i hb.i (rv_ne rfl)) (by
    have e : (V.int i = V.int j) = (i = j) := propext ⟨fun z => V.int.inj z, fun z => by rw [z]⟩
    simp only [e]))
theorem ed_eqS {i j : Str} (ha : EvD K ta σ H (.str i)) (hb : EvD K tb σ H (.str j)) : EvD K (tOp rEq ta tb) σ H (.bl (decide (i = j))) :=
  ed_bl (ev_is (ev_op ha.s hb.s (rv_eq rfl)) (by
    have e : (V.str i = V.str j) = (i = j) := propext ⟨fun z => V.str.inj z, fun z => by rw [z]⟩
    simp only [e]))
theorem ed_neS {i j : Str} (ha : EvD K ta σ H (.str i)) (hb : EvD K tb σ H (.str j)) : EvD K (tOp rNe ta tb) σ H (.bl (!decide (i = j))) :=
  ed_bl (ev_is (ev_op ha.s hb.s (rv_ne rfl)) (by
    have e : (V.str i = V.str j) = (i = j) := propext ⟨fun z => V.str.inj z, fun z => by rw [z]⟩
    simp only [e]))
theorem ed_not {b : Bool} (ha : EvD K ta σ H (.bl b)) : EvD K (tNotV ta) σ H (.bl (!b)) := ed_bl (ev_notV ha.b)
theorem ed_and {a b : Bool} (h1 : EvD K ta σ H (.bl a)) (h2 : a = true → EvD K tb σ H (.bl b)) : EvD K (tAndV ta tb) σ H (.bl (a && b)) := ed_bl (ev_andV h1.b fun e => (h2 e).b)
theorem ed_or {a b : Bool} (h1 : EvD K ta σ H (.bl a)) (h2 : a = false → EvD K tb σ H (.bl b)) : EvD K (tOrV ta tb) σ H (.bl (a || b)) := ed_bl (ev_orV h1.b fun e => (h2 e).b)
theorem ed_if {b : Bool} (h : EvT t σ H b) (h1 : b = true → EvD K ta σ H d) (h2 : b = false → EvD K tb σ H d) : EvD K (tIf t ta tb) σ H d := fun H1 e Q q => h H1 e _ fun H2 e2 => by
  cases b with
  | true => exact h1 rfl H2 (e.trans e2) Q fun v H3 e3 a => q v H3 (e2.trans e3) a
  | false => exact h2 rfl H2 (e.trans e2) Q fun v H3 e3 a => q v H3 (e2.trans e3) a
/-- it is None -/
def isNon : Dt → Bool
  | .non => true
  | _ => false
theorem at_isNon {v : V} (a : At K H v d) : decide (v = V.non) = isNon d := by cases a <;> rfl
theorem ed_isN (ha : EvD K ta σ H d) : EvD K (tOp (fun x y H Q => y = .non ∧ Q (.bl (decide (x = .non))) H) ta (tC .non)) σ H (.bl (isNon d)) := fun H1 e Q q =>
  ha H1 e _ fun v H2 e2 a => ⟨rfl, by
    rw [at_isNon a]
    exact q _ H2 e2 (.bl _)⟩
theorem ed_notN (ha : EvD K ta σ H d) : EvD K (tOp (fun x y H Q => y = .non ∧ Q (.bl (!decide (x = .non))) H) ta (tC .non)) σ H (.bl (!isNon d)) := fun H1 e Q q =>
  ha H1 e _ fun v H2 e2 a => ⟨rfl, by
    rw [at_isNon a]
    exact q _ H2 e2 (.bl _)⟩
/-! tests -/
theorem et_d {b : Bool} (h : EvD K te σ H (.bl b)) : EvT (tTest te) σ H b := et_test h.b
theorem et_b {b : Bool} (h : EvD K te σ H (.bl b)) : EvT (tB te) σ H b := et_B h.b
/-- of truth -/
def truD : Dt → Bool
  | .non => false
  | .bl b => b
  | .int i => i != 0
  | .str s => (s.length : Int) != 0
  | .tup l => !l.isEmpty
theorem atl_empty {xs : List V} (h : AtL K H xs ds) : (!xs.isEmpty) = !ds.isEmpty := by cases h <;> rfl
/-! arguments, displays -/
theorem es_nil : EvS K tNil σ H [] := fun H1 _ _ q => q [] H1 (Ex.refl H1) .nil
theorem es_cons {tr : TA} (h : EvD K ta σ H d) (hr : EvS K tr σ H ds) : EvS K (tCons ta tr) σ H (d :: ds) := fun H1 e _ q =>
  h H1 e _ fun v H2 e2 a => hr H2 (e.trans e2) _ fun vs H3 e3 l => q _ H3 (e2.trans e3) (.cons (a.mono e3) l)
theorem es_one (h : EvD K ta σ H d) : EvS K (tCons ta tNil) σ H [d] := es_cons h es_nil
theorem ed_tup {tr : TA} (h : EvS K tr σ H ds) (hl : ds.length ≤ 100000 := by decide) : EvD K (tTup tr) σ H (.tup ds) := fun H1 e _ q =>
  h H1 e _ fun vs H2 e2 l => ⟨sz_of (by rw [l.len]; exact hl), fun p hp => q _ _ (e2.trans (Ex.new hp)) (.tup (st_of upd_same) (l.mono (Ex.new hp)))⟩
theorem em_lst {tr : TA} (h : EvS K tr σ H ds) (hl : ds.length ≤ 100000 := by decide) : EvM K (tLst tr) σ H ds := fun H1 e _ q =>
  h H1 e _ fun vs H2 e2 l => ⟨sz_of (by rw [l.len]; exact hl), fun p hp => q p vs _ (fresh_back e2 hp) (e2.trans (Ex.new hp)) upd_same (l.mono (Ex.new hp))⟩
/-! subscripts -/
theorem ed_ix {i : Int} (ha : EvD K ta σ H (.tup ds)) (hi : EvD K tb σ H (.int i)) (e : atI ds i = some d) : EvD K (tOp (rIxT K) ta tb) σ H d := fun H1 e1 Q q =>
  ha H1 e1 _ fun v H2 e2 a => hi H2 (e1.trans e2) _ fun w H3 e3 b => by
    obtain ⟨p, xs, rfl, hs, l⟩ := (a.mono e3).of_tup
    obtain ⟨x, hx, ax⟩ := l.atI e
    rw [b.of_int]
    exact ⟨p, xs, i, x, rfl, rfl, hs, hx, q x H3 (e2.trans e3) ax⟩
theorem atI_n {α : Type} {l : List α} {j : Nat} {x : α} (h : l[j]? = some x) : atI l (j : Int) = some x := atI_nat h
theorem ed_ixn {j : Nat} (ha : EvD K ta σ H (.tup ds)) (hi : EvD K tb σ H (.int (j : Int))) (e : ds[j]? = some d) : EvD K (tOp (rIxT K) ta tb) σ H d := ed_ix ha hi (atI_nat e)
/-- at a written place -/
theorem ed_ixc {j : Nat} (ha : EvD K ta σ H (.tup ds)) (e : ds[j]? = some d) : EvD K (tOp (rIxT K) ta (tC (.int (j : Int)))) σ H d := ed_ixn ha ed_cI e
/-- of a list that was just made -/
theorem ed_ixM {i : Int} (ha : EvM K ta σ H ds) (hi : EvD K tb σ H (.int i)) (e : atI ds i = some d) : EvD K (tOp (rIxL K) ta tb) σ H d := fun H1 e1 Q q =>
  ha H1 e1 _ fun p xs H2 hp e2 hx l => hi H2 (e1.trans e2) _ fun w H3 e3 b => by
    obtain ⟨x, hx', ax⟩ := (l.mono e3).atI e
    rw [b.of_int]
    exact ⟨p, xs, i, x, rfl, rfl, sq_of (e3 _ _ hx), hx', q x H3 (e2.trans e3) ax⟩
/-! built-in functions -/
def rLn (K : PySem.W.Frag) : List V → Hp → VK → Prop := fun xs H Q => ∃ p ys, xs = [.ref p] ∧ (SqL K H p ys ∨ SqT K H p ys) ∧ Q (.int ys.length) H
theorem ed_len (ha : EvD K ta σ H (.tup ds)) : EvD K (tCB (rLn K) (tCons ta tNil)) σ H (.int (ds.length : Int)) := fun H1 e Q q =>
  ha H1 e _ fun v H2 e2 a => by
    obtain ⟨p, xs, rfl, hs, l⟩ := a.of_tup
    refine ⟨p, xs, rfl, .inr hs, ?_⟩
    rw [l.len]
    exact q _ H2 e2 (.int _)
theorem ed_lenM (ha : EvM K ta σ H ds) : EvD K (tCB (rLn K) (tCons ta tNil)) σ H (.int (ds.length : Int)) := fun H1 e Q q =>
  ha H1 e _ fun p xs H2 hp e2 hx l => by
    refine ⟨p, xs, rfl, .inl (sq_of hx), ?_⟩
    rw [l.len]
    exact q _ H2 e2 (.int _)
theorem ed_sumM {ns : List Int} (ha : EvM K ta σ H (ns.map .int)) : EvD K (tCB (rSum K) (tCons ta tNil)) σ H (.int ns.sum) := fun H1 e Q q =>
  ha H1 e _ fun p xs H2 hp e2 hx l => ⟨p, ns, rfl, sq_of (by rw [hx, l.ints]), q _ H2 e2 (.int _)⟩
theorem ed_allM {bs : List Bool} (ha : EvM K ta σ H (bs.map .bl)) : EvD K (tCB (rAll K) (tCons ta tNil)) σ H (.bl (bs.all id)) := fun H1 e Q q =>
  ha H1 e _ fun p xs H2 hp e2 hx l => ⟨p, bs, rfl, sq_of (by rw [hx, l.bls]), q _ H2 e2 (.bl _)⟩
theorem ed_anyM {bs : List Bool} (ha : EvM K ta σ H (bs.map .bl)) : EvD K (tCB (rAny K) (tCons ta tNil)) σ H (.bl (bs.any id)) := fun H1 e Q q =>
  ha H1 e _ fun p xs H2 hp e2 hx l => ⟨p, bs, rfl, sq_of (by rw [hx, l.bls]), q _ H2 e2 (.bl _)⟩
def rTupO (K : PySem.W.Frag) : List V → Hp → VK → Prop := fun xs H Q => ∃ p ys, xs = [.ref p] ∧ ((SqL K H p ys ∧ ∀ l, H l = none → Q (.ref l) (upd H l (.tup ys))) ∨ (SqT K H p ys ∧ Q (.ref p) H))
theorem ed_tupM (ha : EvM K ta σ H ds) : EvD K (tCB (rTupO K) (tCons ta tNil)) σ H (.tup ds) := fun H1 e Q q =>
  ha H1 e _ fun p xs H2 hp e2 hx l => ⟨p, xs, rfl, .inl ⟨sq_of hx, fun t ht => q _ _ (e2.trans (Ex.new ht)) (.tup (st_of upd_same) (l.mono (Ex.new ht)))⟩⟩
def rLstO (K : PySem.W.Frag) : List V → Hp → VK → Prop := fun xs H Q => ∃ p ys, xs = [.ref p] ∧ (SqL K H p ys ∨ SqT K H p ys) ∧ ∀ l, H l = none → Q (.ref l) (upd H l (.lst ys))
theorem em_list (ha : EvD K ta σ H (.tup ds)) : EvM K (tCB (rLstO K) (tCons ta tNil)) σ H ds := fun H1 e Q q =>
  ha H1 e _ fun v H2 e2 a => by
    obtain ⟨p, xs, rfl, hs, l⟩ := a.of_tup
    exact ⟨p, xs, rfl, .inr hs, fun t ht => q t xs _ (fresh_back e2 ht) (e2.trans (Ex.new ht)) upd_same (l.mono (Ex.new ht))⟩
def rMx2 : List V → Hp → VK → Prop := fun xs H Q => ∃ i j, xs = [.int i, .int j] ∧ Q (.int (if j > i then j else i)) H
theorem ed_max2 {i j : Int} (ha : EvD K ta σ H (.int i)) (hb : EvD K tb σ H (.int j)) : EvD K (tCB rMx2 (tCons ta (tCons tb tNil))) σ H (.int (max i j)) := fun H1 e Q q =>
  ha H1 e _ fun v H2 e2 a => hb H2 (e.trans e2) _ fun w H3 e3 b => by
    rw [a.of_int, b.of_int]
    refine ⟨i, j, rfl, ?_⟩
    have k : (if j > i then j else i) = max i j := by
      rw [Int.max_def]
      split <;> split <;> omega
    rw [k]
    exact q _ H3 (e2.trans e3) (.int _)
/-! in -/
theorem inV_str (s : Str) : ∀ ss : List Str, inV (.str s) (ss.map V.str) = ss.any fun z => z == s
  | [] => rfl
  | z :: ss => by
    have h := inV_str s ss
    unfold inV at h ⊢
    rw [List.map_cons, List.any_cons, List.any_cons, h] <;> rfl
theorem inV_int (s : Int) : ∀ ss : List Int, inV (.int s) (ss.map V.int) = ss.any fun z => z == s
  | [] => rfl
  | z :: ss => by
    have h := inV_int s ss
    unfold inV at h ⊢
    rw [List.map_cons, List.any_cons, List.any_cons, h] <;> rfl
theorem inV_bl (s : Bool) : ∀ ss : List Bool, inV (.bl s) (ss.map V.bl) = ss.any fun z => z == s
  | [] => rfl
  | z :: ss => by
    have h := inV_bl s ss
    unfold inV at h ⊢
    rw [List.map_cons, List.any_cons, List.any_cons, h] <;> rfl
theorem flat_str (ss : List Str) : (ss.map V.str).all flatV = true := by
  rw [List.all_map]
  exact List.all_eq_true.mpr fun _ _ => rfl
theorem flat_int (ss : List Int) : (ss.map V.int).all flatV = true := by
  rw [List.all_map]
  exact List.all_eq_true.mpr fun _ _ => rfl
theorem flat_bl (ss : List Bool) : (ss.map V.bl).all flatV = true := by
  rw [List.all_map]
  exact List.all_eq_true.mpr fun _ _ => rfl
theorem ed_inS {neg : Bool} {s : Str} {ss : List Str} (ha : EvD K ta σ H (.str s)) (hb : EvD K tb σ H (.tup (ss.map .str))) : EvD K (tOp (rIn K neg) ta tb) σ H (.bl (if neg then !(ss.any fun z => z == s) else ss.any fun z => z == s)) := fun H1 e Q q =>
  ha H1 e _ fun v H2 e2 a => hb H2 (e.trans e2) _ fun w H3 e3 b => by
    obtain ⟨p, xs, rfl, hs, l⟩ := b.of_tup
    rw [l.strs] at hs
    rw [a.of_str]
    refine ⟨p, _, rfl, .inr hs, rfl, flat_str ss, ?_⟩
    rw [inV_str]
    exact q _ H3 (e2.trans e3) (.bl _)
theorem ed_inI {neg : Bool} {s : Int} {ss : List Int} (ha : EvD K ta σ H (.int s)) (hb : EvD K tb σ H (.tup (ss.map .int))) : EvD K (tOp (rIn K neg) ta tb) σ H (.bl (if neg then !(ss.any fun z => z == s) else ss.any fun z => z == s)) := fun H1 e Q q =>
  ha H1 e _ fun v H2 e2 a => hb H2 (e.trans e2) _ fun w H3 e3 b => by
    obtain ⟨p, xs, rfl, hs, l⟩ := b.of_tup
    rw [l.ints] at hs
    rw [a.of_int]
    refine ⟨p, _, rfl, .inr hs, rfl, flat_int ss, ?_⟩
    rw [inV_int]
    exact q _ H3 (e2.trans e3) (.bl _)
theorem ed_inBM {neg : Bool} {s : Bool} {ss : List Bool} (ha : EvD K ta σ H (.bl s)) (hb : EvM K tb σ H (ss.map .bl)) : EvD K (tOp (rIn K neg) ta tb) σ H (.bl (if neg then !(ss.any fun z => z == s) else ss.any fun z => z == s)) := fun H1 e Q q =>
  ha H1 e _ fun v H2 e2 a => hb H2 (e.trans e2) _ fun p xs H3 hp e3 hx l => by
    rw [a.of_bl]
    refine ⟨p, _, rfl, .inl (sq_of hx), rfl, by rw [l.bls]; exact flat_bl ss, ?_⟩
    rw [l.bls, inV_bl]
    exact q _ H3 (e2.trans e3) (.bl _)
/-! a def's call -/
/-- a promise: on such data the def hands back that datum -/
def spF (K : PySem.W.Frag) (R : List Dt → Dt → Prop) : Sp := fun vs H Q _ => ∃ ds d, AtL K H vs ds ∧ R ds d ∧ ∀ v H', Ex H H' → At K H' v d → Q v H'
/-- .. a new list of data -/
def spM (K : PySem.W.Frag) (R : List Dt → List Dt → Prop) : Sp := fun vs H Q _ => ∃ ds es, AtL K H vs ds ∧ R ds es ∧ ∀ p xs H', H p = none → Ex H H' → H' p = some (.lst xs) → AtL K H' xs es → Q (.ref p) H'
theorem ed_call {R : List Dt → Dt → Prop} {E : XK} {tr : TA} (h : EvS K tr σ H ds) (hr : R ds d) : EvD K (tCall (spF K R) [] E tr) σ H d := fun H1 e Q q =>
  h H1 e _ fun vs H2 e2 l => by
    rw [List.append_nil]
    exact ⟨ds, d, l, hr, fun v H3 e3 a => q v H3 (e2.trans e3) a⟩
theorem em_call {R : List Dt → List Dt → Prop} {E : XK} {tr : TA} {es : List Dt} (h : EvS K tr σ H ds) (hr : R ds es) : EvM K (tCall (spM K R) [] E tr) σ H es := fun H1 e Q q =>
  h H1 e _ fun vs H2 e2 l => by
    rw [List.append_nil]
    exact ⟨ds, es, l, hr, fun p xs H3 hp e3 hx a => q p xs H3 (fresh_back e2 hp) (e2.trans e3) hx a⟩
/-! ### comprehensions -/
theorem filter_take_more {α : Type} {l : List α} {i : Nat} {x : α} (h : l[i]? = some x) : l.take (i + 1) = l.take i ++ [x] := by
  rw [List.take_add_one, h] <;> rfl
/-- what is made so far -/
def Cd (K : PySem.W.Frag) {α : Type} (H : Hp) (xs : List α) (f : α → Bool) (g : α → Dt) (D : Addr) (i : Nat) (H' : Hp) : Prop :=
  H D = none ∧ Ex H H' ∧ ∃ vs, H' D = some (.lst vs) ∧ AtL K H' vs (((xs.take i).filter f).map g)
theorem cd_turn {α : Type} {xs : List α} {f : α → Bool} {g : α → Dt} {D : Addr} {i : Nat} {x : α} {H H' : Hp} {σ2 : L2.St} (hx : xs[i]? = some x) (hz : xs.length ≤ 40000) (p : Cd K H xs f g D i H') (ht : EvT t σ2 H' (f x)) (he : f x = true → EvD K te σ2 H' (g x)) :
    t σ2 H' fun b H3 => if b = true then te σ2 H3 fun y H4 => ∃ acc, H4 D = some (.lst acc) ∧ acc.length < sizeLine ∧ Cd K H xs f g D (i + 1) (upd H4 D (.lst (acc ++ [y]))) else Cd K H xs f g D (i + 1) H3 := by
  obtain ⟨p1, p2, vs, p3, p4⟩ := p
  have hl : vs.length ≤ 40000 := by
    rw [p4.len, List.length_map]
    refine Nat.le_trans (List.length_filter_le _ _) ?_
    rw [List.length_take]
    omega
  refine ht H' (Ex.refl _) _ fun H3 e3 => ?_
  cases hf : f x with
  | true =>
    refine he hf H3 e3 _ fun y H4 e4 ay => ⟨vs, e4 _ _ (e3 _ _ p3), sz_lt (by omega), p1, (p2.trans (e3.trans e4)).mut p1, _, upd_same, ?_⟩
    have tk : TKp K H4 (upd H4 D (.lst (vs ++ [y]))) := .exF (f := D) (e4 _ _ (e3 _ _ p3)) fun a o ha h => by rw [upd_ne ha]; exact h
    rw [filter_take_more hx, List.filter_append, List.map_append, List.filter_cons, if_pos hf]
    exact ((p4.mono (e3.trans e4)).append (.one ay)).tk tk
  | false =>
    refine ⟨p1, p2.trans e3, vs, e3 _ _ p3, ?_⟩
    rw [filter_take_more hx, List.filter_append, List.map_append, List.filter_cons, if_neg (by rw [hf]; decide)]
    show AtL K H3 vs (_ ++ [])
    rw [List.append_nil]
    exact p4.mono e3
theorem cd_end {α : Type} {xs : List α} {f : α → Bool} {g : α → Dt} {D : Addr} {H H' : Hp} (p : Cd K H xs f g D xs.length H') : H D = none ∧ Ex H H' ∧ ∃ vs, H' D = some (.lst vs) ∧ AtL K H' vs ((xs.filter f).map g) := by
  obtain ⟨p1, p2, vs, p3, p4⟩ := p
  rw [List.take_length] at p4
  exact ⟨p1, p2, vs, p3, p4⟩
theorem wipe_one {σ : L2.St} {j : Nat} (x : Option V) : wipe ((wipe σ [j]).set j x) [j] = wipe σ [j] := by
  show ((σ.set j none).set j x).set j none = σ.set j none
  rw [List.set_set, List.set_set]
/-- [e for x in t if ..], t a tuple of data enc a -/
theorem em_lcT {α : Type} {tl : TE} {j : Nat} {enc : α → Dt} (xs : List α) (f : α → Bool) (g : α → Dt) (h : EvD K tl σ H (.tup (xs.map enc))) (hz : xs.length ≤ 40000)
    (hb : ∀ a v H1, a ∈ xs → Ex H H1 → At K H1 v (enc a) → EvT t ((wipe σ [j]).set j (some v)) H1 (f a) ∧ (f a = true → EvD K te ((wipe σ [j]).set j (some v)) H1 (g a))) :
    EvM K (tLc (iTup K tl) (gName j) t te [j]) σ H ((xs.filter f).map g) := fun H0 e Q q => h H0 e _ fun v H1 e1 a => by
  obtain ⟨p, vs, rfl, hs, l⟩ := a.of_tup
  refine ⟨p, rfl, ⟨vs, hs⟩, fun D hD => lc_tup (xs := vs) (Cd K H1 xs f g D) ⟨hD, Ex.new hD, [], upd_same, .nil⟩ (fun i H' _ c => ex_t c.2.1 hs) (fun i x H' hi c => ⟨wipe_one _, ?_⟩) (fun H' c => ?_)⟩
  · obtain ⟨d, hd, ad⟩ := l.at hi
    rw [List.getElem?_map] at hd
    cases ea : xs[i]? with
    | none => rw [ea] at hd; cases hd
    | some y =>
      rw [ea] at hd
      have ed : enc y = d := Option.some.inj hd
      rw [← ed] at ad
      obtain ⟨b1, b2⟩ := hb y x H' (List.mem_of_getElem? ea) ((e.trans e1).trans c.2.1) (ad.mono c.2.1)
      exact cd_turn ea hz c b1 b2
  · have ll : vs.length = xs.length := by rw [l.len, List.length_map]
    rw [ll] at c
    obtain ⟨c1, c2, ws, c3, c4⟩ := cd_end c
    exact q D ws H' (fresh_back e1 c1) (e1.trans c2) c3 c4
/-- .. over a list that stands -/
theorem em_lcL {α : Type} {tl : TE} {j : Nat} {enc : α → Dt} {p : Addr} {vs : List V} (xs : List α) (f : α → Bool) (g : α → Dt) (h : Ev tl σ H (.ref p)) (hs : SqL K H p vs) (l : AtL K H vs (xs.map enc)) (hz : xs.length ≤ 40000)
    (hb : ∀ a v H1, a ∈ xs → Ex H H1 → At K H1 v (enc a) → EvT t ((wipe σ [j]).set j (some v)) H1 (f a) ∧ (f a = true → EvD K te ((wipe σ [j]).set j (some v)) H1 (g a))) :
    EvM K (tLc (iList K tl) (gName j) t te [j]) σ H ((xs.filter f).map g) := fun H0 e Q q => h H0 e _ fun H1 e1 => by
  refine ⟨p, rfl, ⟨vs, ex_l (e.trans e1) hs⟩, fun D hD => lc_list (xs := vs) (Cd K H1 xs f g D) ⟨hD, Ex.new hD, [], upd_same, .nil⟩ (fun i H' _ c => ex_l ((e.trans e1).trans c.2.1) hs) (fun i x H' hi c => ⟨wipe_one _, ?_⟩) (fun H' c => ?_)⟩
  · obtain ⟨d, hd, ad⟩ := l.at hi
    rw [List.getElem?_map] at hd
    cases ea : xs[i]? with
    | none => rw [ea] at hd; cases hd
    | some y =>
      rw [ea] at hd
      have ed : enc y = d := Option.some.inj hd
      rw [← ed] at ad
      obtain ⟨b1, b2⟩ := hb y x H' (List.mem_of_getElem? ea) ((e.trans e1).trans c.2.1) (ad.mono ((e.trans e1).trans c.2.1))
      exact cd_turn ea hz c b1 b2
  · have ll : vs.length = xs.length := by rw [l.len, List.length_map]
    rw [ll] at c
    obtain ⟨c1, c2, ws, c3, c4⟩ := cd_end c
    exact q D ws H' (fresh_back e1 c1) (e1.trans c2) c3 c4
/-- .. over a list that was just made -/
theorem em_lcM {α : Type} {tl : TE} {j : Nat} {enc : α → Dt} (xs : List α) (f : α → Bool) (g : α → Dt) (h : EvM K tl σ H (xs.map enc)) (hz : xs.length ≤ 40000)
    (hb : ∀ a v H1, a ∈ xs → Ex H H1 → At K H1 v (enc a) → EvT t ((wipe σ [j]).set j (some v)) H1 (f a) ∧ (f a = true → EvD K te ((wipe σ [j]).set j (some v)) H1 (g a))) :
    EvM K (tLc (iList K tl) (gName j) t te [j]) σ H ((xs.filter f).map g) := fun H0 e Q q => h H0 e _ fun p vs H1 hp e1 hs l => by
  refine ⟨p, rfl, ⟨vs, sq_of hs⟩, fun D hD => lc_list (xs := vs) (Cd K H1 xs f g D) ⟨hD, Ex.new hD, [], upd_same, .nil⟩ (fun i H' _ c => ex_l c.2.1 (sq_of hs)) (fun i x H' hi c => ⟨wipe_one _, ?_⟩) (fun H' c => ?_)⟩
  · obtain ⟨d, hd, ad⟩ := l.at hi
    rw [List.getElem?_map] at hd
    cases ea : xs[i]? with
    | none => rw [ea] at hd; cases hd
    | some y =>
      rw [ea] at hd
      have ed : enc y = d := Option.some.inj hd
      rw [← ed] at ad
      obtain ⟨b1, b2⟩ := hb y x H' (List.mem_of_getElem? ea) ((e.trans e1).trans c.2.1) (ad.mono c.2.1)
      exact cd_turn ea hz c b1 b2
  · have ll : vs.length = xs.length := by rw [l.len, List.length_map]
    rw [ll] at c
    obtain ⟨c1, c2, ws, c3, c4⟩ := cd_end c
    exact q D ws H' (fresh_back e1 c1) (e1.trans c2) c3 c4
/-- .. over range(n) -/
theorem em_lcR {ta : TA} {j n : Nat} (f : Nat → Bool) (g : Nat → Dt) (h : EvS K ta σ H [.int (n : Int)]) (hz : n ≤ 40000)
    (hb : ∀ a v H1, a < n → Ex H H1 → At K H1 v (.int (a : Int)) → EvT t ((wipe σ [j]).set j (some v)) H1 (f a) ∧ (f a = true → EvD K te ((wipe σ [j]).set j (some v)) H1 (g a))) :
    EvM K (tLc (iRng1 ta) (gName j) t te [j]) σ H (((List.range n).filter f).map g) := fun H0 e Q q => h H0 e _ fun ws H1 e1 al => by
  obtain ⟨v, r, rfl, a1, a2⟩ := al.of_cons
  rw [a1.of_int, a2.of_nil]
  refine ⟨(n : Int), rfl, by omega, by omega, fun D hD => lc_range (lo := 0) (n := (n : Int).toNat) (Cd K H1 (List.range n) f g D) ⟨hD, Ex.new hD, [], upd_same, .nil⟩ (fun i H' hi c => ⟨wipe_one _, ?_⟩) (fun H' c => ?_)⟩
  · have hi' : i < n := by omega
    have e0 : (0 : Int) + (i : Int) = (i : Int) := Int.zero_add _
    have ea : (List.range n)[i]? = some i := by rw [List.getElem?_range hi']
    obtain ⟨b1, b2⟩ := hb i (.int (i : Int)) H' hi' ((e.trans e1).trans c.2.1) (.int _)
    show t ((wipe σ [j]).set j (some (.int ((0 : Int) + (i : Int))))) H' fun b H3 => if b = true then te ((wipe σ [j]).set j (some (.int ((0 : Int) + (i : Int))))) H3 fun y H4 => ∃ acc, H4 D = some (.lst acc) ∧ acc.length < sizeLine ∧ Cd K H1 (List.range n) f g D (i + 1) (upd H4 D (.lst (acc ++ [y]))) else Cd K H1 (List.range n) f g D (i + 1) H3
    rw [e0]
    exact cd_turn ea (by rw [List.length_range]; exact hz) c b1 b2
  · have ll : (n : Int).toNat = (List.range n).length := by rw [List.length_range]; omega
    rw [ll] at c
    obtain ⟨c1, c2, us, c3, c4⟩ := cd_end c
    exact q D us H' (fresh_back e1 c1) (e1.trans c2) c3 c4
theorem filter_yes {α : Type} (l : List α) : l.filter (fun _ => true) = l := List.filter_eq_self.mpr fun _ _ => rfl
theorem et_yes : EvT tYes σ H true := fun H1 _ _ q => q H1 (Ex.refl H1)
/-! ### statements -/
variable {D : Ends} {tu tw tz : TS} {g : TG} {l : List Sl}
theorem p_asg {i : Nat} (h : EvD K te σ H d) (k : ∀ v H1, Ex H H1 → At K H1 v d → D.nx (σ.set i (some v)) H1) : tAsg te (gName i) D σ H := h H (Ex.refl H) _ fun v H1 e a => k v H1 e a
/-- x = e, in the middle of a block: the slots' word goes on -/
theorem z_asg {i : Nat} (S : Sg K H σ l) (h : EvD K te σ H d) (k : ∀ σ' H1, Ex H H1 → Sg K H1 σ' (l.set i (.d d)) → tz D σ' H1) : tSeq (tAsg te (gName i)) tz D σ H :=
  p_asg (D := { D with nx := tz D }) h fun v H1 e a => k _ H1 e ((S.mono e).setD a i)
theorem y_asg {i : Nat} (S : Sg K H σ l) (h : EvD K te σ H d) (k : ∀ σ' H1, Ex H H1 → Sg K H1 σ' (l.set i (.d d)) → D.nx σ' H1) : tAsg te (gName i) D σ H :=
  p_asg h fun v H1 e a => k _ H1 e ((S.mono e).setD a i)
/-- x = a new list -/
theorem z_asgM {i : Nat} (S : Sg K H σ l) (h : EvM K te σ H ds) (k : ∀ p xs σ' H1, H p = none → Ex H H1 → H1 p = some (.lst xs) → AtL K H1 xs ds → Sg K H1 σ' (l.set i (.v (.ref p))) → tz D σ' H1) : tSeq (tAsg te (gName i)) tz D σ H :=
  h H (Ex.refl H) _ fun p xs H1 hp e hx a => k p xs _ H1 hp e hx a ((S.mono e).setV _ i)
theorem y_asgM {i : Nat} (S : Sg K H σ l) (h : EvM K te σ H ds) (k : ∀ p xs σ' H1, H p = none → Ex H H1 → H1 p = some (.lst xs) → AtL K H1 xs ds → Sg K H1 σ' (l.set i (.v (.ref p))) → D.nx σ' H1) : tAsg te (gName i) D σ H :=
  h H (Ex.refl H) _ fun p xs H1 hp e hx a => k p xs _ H1 hp e hx a ((S.mono e).setV _ i)
theorem y_ret (h : EvD K te σ H d) (k : ∀ v H1, Ex H H1 → At K H1 v d → D.rt v H1) : tRet te D σ H := h H (Ex.refl H) _ k
theorem y_retM (h : EvM K te σ H ds) (k : ∀ p xs H1, H p = none → Ex H H1 → H1 p = some (.lst xs) → AtL K H1 xs ds → D.rt (.ref p) H1) : tRet te D σ H := h H (Ex.refl H) _ k
/-- an if whose answer is known -/
theorem z_ifT (h : EvT t σ H true) (k : ∀ H1, Ex H H1 → tu { D with nx := tz D } σ H1) : tSeq (tIfS t tu tw) tz D σ H := q_if h (fun _ => k) fun z => nomatch z
theorem z_ifF (h : EvT t σ H false) (k : ∀ H1, Ex H H1 → tw { D with nx := tz D } σ H1) : tSeq (tIfS t tu tw) tz D σ H := q_if h (fun z => nomatch z) fun _ => k
/-- .. without else, not taken -/
theorem z_no (h : EvT t σ H false) (k : ∀ H1, Ex H H1 → tz D σ H1) : tSeq (tIfS t tu tNext) tz D σ H := q_when h (fun z => nomatch z) fun _ => k
theorem z_if {b : Bool} (h : EvT t σ H b) (h1 : b = true → ∀ H1, Ex H H1 → tu { D with nx := tz D } σ H1) (h2 : b = false → ∀ H1, Ex H H1 → tw { D with nx := tz D } σ H1) : tSeq (tIfS t tu tw) tz D σ H := q_if h h1 h2
theorem z_when {b : Bool} (h : EvT t σ H b) (h1 : b = true → ∀ H1, Ex H H1 → tu { D with nx := tz D } σ H1) (h2 : b = false → ∀ H1, Ex H H1 → tz D σ H1) : tSeq (tIfS t tu tNext) tz D σ H := q_when h h1 h2
/-- a, b = a tuple -/
theorem g_tup2 {i j : Nat} {v : V} {d1 d2 : Dt} {Q : L2.St → Hp → Prop} (a : At K H v (.tup [d1, d2])) (k : ∀ x y, At K H x d1 → At K H y d2 → Q ((σ.set i (some x)).set j (some y)) H) : gTup K 2 (gCons (gName i) (gCons (gName j) gNil)) v σ H Q := by
  obtain ⟨p, xs, rfl, hs, l⟩ := a.of_tup
  obtain ⟨x, r, rfl, ax, l⟩ := l.of_cons
  obtain ⟨y, r, rfl, ay, l⟩ := l.of_cons
  obtain rfl := l.of_nil
  exact ⟨p, _, rfl, hs, rfl, x, _, rfl, y, _, rfl, rfl, k x y ax ay⟩
theorem g_tup4 {i j m n : Nat} {v : V} {d1 d2 d3 d4 : Dt} {Q : L2.St → Hp → Prop} (a : At K H v (.tup [d1, d2, d3, d4])) (k : ∀ x y z w, At K H x d1 → At K H y d2 → At K H z d3 → At K H w d4 → Q ((((σ.set i (some x)).set j (some y)).set m (some z)).set n (some w)) H) :
    gTup K 4 (gCons (gName i) (gCons (gName j) (gCons (gName m) (gCons (gName n) gNil)))) v σ H Q := by
  obtain ⟨p, xs, rfl, hs, l⟩ := a.of_tup
  obtain ⟨x, r, rfl, ax, l⟩ := l.of_cons
  obtain ⟨y, r, rfl, ay, l⟩ := l.of_cons
  obtain ⟨z, r, rfl, az, l⟩ := l.of_cons
  obtain ⟨w, r, rfl, aw, l⟩ := l.of_cons
  obtain rfl := l.of_nil
  exact ⟨p, _, rfl, hs, rfl, x, _, rfl, y, _, rfl, z, _, rfl, w, _, rfl, rfl, k x y z w ax ay az aw⟩
theorem z_tup2 {i j : Nat} {d1 d2 : Dt} (S : Sg K H σ l) (h : EvD K te σ H (.tup [d1, d2])) (k : ∀ σ' H1, Ex H H1 → Sg K H1 σ' ((l.set i (.d d1)).set j (.d d2)) → tz D σ' H1) : tSeq (tAsg te (gTup K 2 (gCons (gName i) (gCons (gName j) gNil)))) tz D σ H :=
  h H (Ex.refl H) _ fun v H1 e a => g_tup2 a fun x y ax ay => k _ H1 e (((S.mono e).setD ax i).setD ay j)
theorem z_tup4 {i j m n : Nat} {d1 d2 d3 d4 : Dt} (S : Sg K H σ l) (h : EvD K te σ H (.tup [d1, d2, d3, d4])) (k : ∀ σ' H1, Ex H H1 → Sg K H1 σ' ((((l.set i (.d d1)).set j (.d d2)).set m (.d d3)).set n (.d d4)) → tz D σ' H1) :
    tSeq (tAsg te (gTup K 4 (gCons (gName i) (gCons (gName j) (gCons (gName m) (gCons (gName n) gNil)))))) tz D σ H :=
  h H (Ex.refl H) _ fun v H1 e a => g_tup4 a fun x y z w ax ay az aw => k _ H1 e (((((S.mono e).setD ax i).setD ay j).setD az m).setD aw n)
end
/-! ### the defs of the text -/
def top (i : Nat) : Stmt := PySem.Challenge.pw_selfrights_k94_whole_sums_on_any_web.main.body.getD i (.Pass ⟨0, 0, 0, 0⟩)
/-- a def of the module that keeps a promise -/
structure Ok (P : Program) (w : World) (K : PySem.W.Frag) (mg : Str → Option Value) (base : Heap) (CX : CXT) (k : Nat) (x : Str) (ps : List Str) (sp : Sp) : Prop where
  ex : ∃ f fd, mg x = some (.ref f) ∧ PySem.W.keepIn K (.ref f) = true ∧ Binds K fd ps [] ∧ FnOk P w K mg base CX k f fd ps sp
/-- a def that stands as the text says -/
structure Df (K : PySem.W.Frag) (mg : Str → Option Value) (x : Str) (st : Stmt) (ps : List Str) : Prop where
  ex : ∃ f fd, mg x = some (.ref f) ∧ Binds K fd ps [] ∧ Fun K x x st f fd
section
variable {P : Program} {w : World} {K : PySem.W.Frag} {mg : Str → Option Value} {base : Heap} {k : Nat} {x : Str} {st : Stmt} {N ps : List Str}
theorem Ok.mono {CX : CXT} {sp : Sp} {j : Nat} (o : Ok P w K mg base CX j x ps sp) (h : j ≤ k) : Ok P w K mg base CX k x ps sp := by
  obtain ⟨f, fd, a, b, c, d⟩ := o.ex
  exact ⟨f, fd, a, b, c, d.mono h⟩
/-- a def over data -/
theorem Df.okF {R : List Dt → Dt → Prop} (D : Df K mg x st ps) (S : FnScope N ps (defScope st)) (len : ∀ ds d, R ds d → ds.length = ps.length)
    (hb : ∀ (cdv : Value) (A : Around) (outer : List PySem.Env) (s : Shared) (H : Hp) (f : Addr) (ds : List Dt) (d : Dt) (Q : VK) (E : XK), Room k (A.deeper (envOfC x (defScope st) s.heap.objs.size f cdv)) → R ds d → (∀ v H', Ex H H' → At K H' v d → Q v H') →
      ∃ t, PSs (cxOf CX0 P w K mg base N x (defScope st) f cdv A outer s H E).nox (defBody st) t ∧ ∀ σ, Sg K H σ (ds.map .d ++ List.replicate (N.length - ds.length) .no) → t { nx := fun _ H' => Q .non H', rt := Q } σ H) :
    Ok P w K mg base CX0 (k + 1) x ps (spF K R) := by
  obtain ⟨f, fd, hm, b, F⟩ := D.ex
  refine ⟨f, fd, hm, F.kp, b, F.ok S (fun vs H Q E h => ?_) (fun cdv A outer s H vs Q E hr h => ?_)⟩
  · obtain ⟨ds, d, l, hR, _⟩ := h
    rw [l.len]
    exact len ds d hR
  · obtain ⟨ds, d, l, hR, q⟩ := h
    obtain ⟨t, h1, h2⟩ := hb cdv A outer s H f ds d Q E hr hR q
    exact ⟨t, h1, h2 _ (Sg.start l)⟩
theorem Df.okM {R : List Dt → List Dt → Prop} (D : Df K mg x st ps) (S : FnScope N ps (defScope st)) (len : ∀ ds d, R ds d → ds.length = ps.length)
    (hb : ∀ (cdv : Value) (A : Around) (outer : List PySem.Env) (s : Shared) (H : Hp) (f : Addr) (ds es : List Dt) (Q : VK) (E : XK), Room k (A.deeper (envOfC x (defScope st) s.heap.objs.size f cdv)) → R ds es → (∀ p xs H', H p = none → Ex H H' → H' p = some (.lst xs) → AtL K H' xs es → Q (.ref p) H') →
      ∃ t, PSs (cxOf CX0 P w K mg base N x (defScope st) f cdv A outer s H E).nox (defBody st) t ∧ ∀ σ, Sg K H σ (ds.map .d ++ List.replicate (N.length - ds.length) .no) → t { nx := fun _ H' => Q .non H', rt := Q } σ H) :
    Ok P w K mg base CX0 (k + 1) x ps (spM K R) := by
  obtain ⟨f, fd, hm, b, F⟩ := D.ex
  refine ⟨f, fd, hm, F.kp, b, F.ok S (fun vs H Q E h => ?_) (fun cdv A outer s H vs Q E hr h => ?_)⟩
  · obtain ⟨ds, d, l, hR, _⟩ := h
    rw [l.len]
    exact len ds d hR
  · obtain ⟨ds, d, l, hR, q⟩ := h
    obtain ⟨t, h1, h2⟩ := hb cdv A outer s H f ds d Q E hr hR q
    exact ⟨t, h1, h2 _ (Sg.start l)⟩
end
section
variable {X : Cx} {CX : CXT} {k : Nat} {ps : List Str} {sp : Sp} {x : Str} {p pos : Pos} {e : Expr} {es : List Expr} {t : TA}
theorem pe_ok (o : Ok X.prog X.w X.K X.mg X.base CX0 k x ps sp) (hr : Room k X.A) (hg : Gl X x) (ha : PA X (e :: es) t)
    (hdb : (x == ("__debug__" : Str)) = false := by decide) (he : starEach (e :: es) X.env = (false, eval e X.env) :: starEach es X.env := by rfl) (hpl : (backTo pos (starEach es X.env)).any (·.1) = false := by rfl) :
    PE X (.Call (.Name x p) (e :: es) [] pos) (tCall sp [] E0 t) := by
  obtain ⟨f, fd, hm, hk, hb, F⟩ := o.ex
  exact pe_call F hr hg hm hk hb .nil pass0 ha hdb he hpl
theorem pe_ok0 (o : Ok X.prog X.w X.K X.mg X.base CX0 k x ps sp) (hr : Room k X.A) (hg : Gl X x) (hdb : (x == ("__debug__" : Str)) = false := by decide) : PE X (.Call (.Name x p) [] [] pos) (tCall sp [] E0 tNil) := by
  obtain ⟨f, fd, hm, hk, hb, F⟩ := o.ex
  exact pe_call0 F hr hg hm hk hb .nil pass0 hdb
end
end K9
end
section
set_option maxHeartbeats 4000000
/-! K9R: rules that the layer lacks. -/
namespace K9
open PySem PySem.Spec PyProof.Rows L2 Evl

/-! ### min(xs, default = d), max(xs, default = d) of a list of ints -/
theorem reads_ints {h : Heap} : ∀ {us : List Value} {ns : List Int}, IntsAre us ns → ReadsAll h us (ns.map .int) []
  | _, _, .nil => .nil
  | _, _, .cons n t r => .cons (as := []) (bs := []) (.int n t) (reads_ints r)
theorem depth_ints : ∀ ns : List Int, PyData.depthAll (ns.map .int) ≤ 1
  | [] => Nat.zero_le _
  | n :: ns => by
    have h := depth_ints ns
    show max (PyData.depth (.int n)) (PyData.depthAll (ns.map .int)) ≤ 1
    have e : PyData.depth (.int n) ≤ 1 := by simp [PyData.depth]
    omega
theorem alike_ints (ns : List Int) : PySem.W.AlikeAll (ns.map .int) := by
  refine ⟨fun x hx y hy => ?_, fun x hx => ?_⟩
  · obtain ⟨a, _, rfl⟩ := List.mem_map.mp hx
    obtain ⟨b, _, rfl⟩ := List.mem_map.mp hy
    rfl
  · obtain ⟨a, _, rfl⟩ := List.mem_map.mp hx
    intro z
    cases z
def minI (d : Int) : List Int → Int
  | [] => d
  | n :: r => r.foldl min n
def maxI (d : Int) : List Int → Int
  | [] => d
  | n :: r => r.foldl max n
def rMinD (K : PySem.W.Frag) (g : Int → List Int → Int) : List V → List V → Hp → VK → Prop := fun vs zs H Q => ∃ (a : Addr) (ns : List Int) (d : Int), vs = [V.ref a] ∧ zs = [.int d] ∧ SqL K H a (ns.map V.int) ∧ Q (.int (g d ns)) H
section
variable {X : Cx}
theorem cr_minD (hc : X.calm = true) (hu : X.A.units + 64 < cLine) : CallRK X (.builtin "min") ["default"] (rMinD X.K minI) := by
  intro pins s σ H vs zs us ws Q I r rz h
  obtain ⟨a, ns, d, rfl, rfl, hs, q⟩ := h
  obtain ⟨its, rv, hl, _⟩ := I.list hs
  rw [Vals.ref1 r]
  obtain ⟨u, rfl, t, rfl⟩ := rz.one
  have hi := rv.ints
  have e : (["default"] : List Str).zip [Value.int d t] = [(Str.ofString "default", Value.int d t)] := rfl
  rw [e]
  refine PySem.W.min_list_default (I.ok.hd hc) hl.isList (xs := ns.map .int) (as := []) (by simpa using reads_ints hi) (alike_ints ns) (by have := depth_ints ns; omega) (fun hz h' tk hk => ?_) (fun y ys i v h' tk bs he hv hr hk => ?_)
  · have hn : ns = [] := List.map_eq_nil_iff.mp hz
    subst hn
    exact ⟨.int d, H, I.kept hk, ⟨t, rfl⟩, q⟩
  · cases ns with
    | nil => cases he
    | cons n r =>
      have h1 : PyData.int n = y := (List.cons.inj he).1
      have h2 : r.map PyData.int = ys := (List.cons.inj he).2
      subst h1 h2
      rw [PySem.W.minD_ints] at hr
      cases hr with
      | int _ t' => exact ⟨.int _, H, I.kept hk, ⟨t', rfl⟩, q⟩
theorem cr_maxD (hc : X.calm = true) (hu : X.A.units + 64 < cLine) : CallRK X (.builtin "max") ["default"] (rMinD X.K maxI) := by
  intro pins s σ H vs zs us ws Q I r rz h
  obtain ⟨a, ns, d, rfl, rfl, hs, q⟩ := h
  obtain ⟨its, rv, hl, _⟩ := I.list hs
  rw [Vals.ref1 r]
  obtain ⟨u, rfl, t, rfl⟩ := rz.one
  have hi := rv.ints
  have e : (["default"] : List Str).zip [Value.int d t] = [(Str.ofString "default", Value.int d t)] := rfl
  rw [e]
  refine PySem.W.max_list_default (I.ok.hd hc) hl.isList (xs := ns.map .int) (as := []) (by simpa using reads_ints hi) (alike_ints ns) (by have := depth_ints ns; omega) (fun hz h' tk hk => ?_) (fun y ys i v h' tk bs he hv hr hk => ?_)
  · have hn : ns = [] := List.map_eq_nil_iff.mp hz
    subst hn
    exact ⟨.int d, H, I.kept hk, ⟨t, rfl⟩, q⟩
  · cases ns with
    | nil => cases he
    | cons n r =>
      have h1 : PyData.int n = y := (List.cons.inj he).1
      have h2 : r.map PyData.int = ys := (List.cons.inj he).2
      subst h1 h2
      rw [PySem.W.maxD_ints] at hr
      cases hr with
      | int _ t' => exact ⟨.int _, H, I.kept hk, ⟨t', rfl⟩, q⟩
/-! ### xs.extend(t), t a tuple -/
def rExtT (K : PySem.W.Frag) : V → List V → Hp → VK → Prop := fun x vs H Q => ∃ l b xs zs, x = .ref l ∧ vs = [.ref b] ∧ H l = some (.lst xs) ∧ H b = some (.tup zs) ∧ xs.length + zs.length ≤ sizeLine ∧ Q .non (upd H l (.lst (xs ++ zs)))
end

/-! ### set(xs), xs a list of ints -/
section
variable {P : Program} {w : World} {A : Around} {E : Value → Shared → Prop} {s : Shared}
abbrev newSet (w : World) : Obj := { cls := .type "set", dict := none, data := .set #[] 0 (.fresh 0 0 (!w.params.followText "set-order")) }
set_option maxHeartbeats 8000000 in
theorem set_of_list {l : Addr} {items : Array Value} (ns : List Int) {Q : Value → Shared → Prop} (hh : A.handled = none) (hl : s.heap.IsList l items) (hit : IntsAre items.toList ns) (hb : ns.length + 1 < scanBound)
    (h : ∀ (h' : Heap) (tk c : Nat), SetR w h' s.heap.objs.size (fun j => decide (j ∈ ns)) c → c ≤ ns.length → (∀ b o, s.heap.get? b = some o → h'.get? b = some o) → Q (.ref s.heap.objs.size) { s with heap := h', toks := tk }) :
    wpAny (model P w) A (call (.type "set") [.ref l]) Q E s := by
  have hisz : items.size = ns.length := by have q := IntsAre.length hit; rw [Array.length_toList] at q; exact q
  obtain ⟨c, tl, hmro⟩ := F.called_set.mro
  have hmade := F.called_set.made
  have hsub := F.called_set.sub
  refine wpAny_call (codeAny_of_tree (show wpAny _ _ (callAny (.type "set") _) _ _ _ from wpAny_pure ⟨Code.quiet_builtin _ (by decide +kernel), codeAny_builtin F.entry_type_call ?_⟩))
  rw [Around.under_plain (weight_type_call_type "set" [.ref l] []) rfl]
  have h1 := F.called_set.notType
  have h2 := F.called_set.canCreate
  have hct := F.typeCall_set_1 (.ref l)
  repeat (any_goals (first | assumption | wp_step))
  refine codeAny_mono (code_set_led1 (.ref l) (E := E) (Q₁ := fun obj s₁ => obj = .ref s.heap.objs.size ∧ s₁ = { s with heap := s.heap.push (newSet w) }) ⟨rfl, rfl⟩) fun r s₁ hr => ?_
  match r, hr with
  | .error e, hr => exact hr
  | .ok .next, hr => exact hr.elim
  | .ok .brk, hr => exact hr.elim
  | .ok .cont, hr => exact hr.elim
  | .ok (.ret obj), hr =>
    obtain ⟨rfl, rfl⟩ := hr
    have hS : (s.heap.push (newSet w)).get? s.heap.objs.size = some (newSet w) := Heap.get?_push_size _ rfl
    have hT : Shared.TypeIs { s with heap := s.heap.push (newSet w) } (.ref s.heap.objs.size) "set" := ⟨_, hS, rfl⟩
    have hli := F.called_set.init.lookup
    have hbi := F.called_set.init.bind (.ref s.heap.objs.size)
    repeat (any_goals (first | assumption | wp_step))
    refine codeAny_mono (codeAny_call_builtin (R := wants (fun r s₂ => r = .none ∧ ∃ h' tk c, s₂ = { s with heap := h', toks := tk } ∧ SetR w h' s.heap.objs.size (fun j => decide (j ∈ ns)) c ∧ c ≤ ns.length ∧
        (∀ b o, s.heap.get? b = some o → h'.get? b = some o)) E) F.called_set.init.plain F.entry_set_init (check_set_init_1 hT ?_)) fun r₂ s₂ hr₂ => ?_
    · obtain ⟨⟨ocls, odict, odata, oslots⟩, hol, hcl, nl, hdl⟩ := hl
      simp only at hcl hdl
      subst hcl hdl
      have hol' : (s.heap.push (newSet w)).get? l = some { cls := .type "list", dict := odict, data := .seq items nl, slots := oslots } := Heap.get?_push_of_some _ hol
      have hsls := F.sub_list_set
      have hslf := F.sub_list_frozenset
      have hne : (Value.type "list" == Value.type "dict") = false := by decide
      have hl1 : (s.heap.push (newSet w)).IsList l items := ⟨_, hol', rfl, nl, rfl⟩
      unfold Builtin.«set.__init__» noKeywords Builtin.Frozenset.updateFrom
      generalize hPI : pyIter = PI
      wp_walk
      subst hPI
      refine wpAny_pyIter_list hl1 (wpAny_bind (wpAny_runValue ?_))
      have hlS : l < s.heap.objs.size := Heap.lt_size hol
      have hz1 : (s.heap.push (newSet w)).objs.size = s.heap.objs.size + 1 := Heap.size_push ..
      have hneI : l ≠ (s.heap.push (newSet w)).objs.size := by rw [hz1]; exact Nat.ne_of_lt (Nat.lt_succ_of_lt hlS)
      have hSf : s.heap.objs.size ∉ [(s.heap.push (newSet w)).objs.size, l] := by
        rw [hz1]
        simp only [List.mem_cons, List.mem_singleton, List.not_mem_nil, or_false, not_or]
        exact ⟨Nat.ne_of_lt (Nat.lt_succ_self _), Nat.ne_of_gt hlS⟩
      have hval : ∀ (i : Nat) (v : Value), items[i]? = some v → ∃ k t, ns[i]? = some k ∧ v = .int k t := fun i v hv => by
        have hi : i < ns.length := by rw [← hisz]; exact (Array.getElem?_eq_some_iff.mp hv).1
        obtain ⟨t, e⟩ := PyProof.Rows.IntsAre.int_at hit i v (by rw [Array.getElem?_toList]; exact hv)
        refine ⟨ns[i], t, List.getElem?_eq_getElem hi, ?_⟩
        rw [e, List.getD_eq_getElem?_getD, List.getElem?_eq_getElem hi] <;> rfl
      refine set_update_ints ((Walks.list (by simp [hh]) _ l hneI items).toS) s.heap.objs.size hSf ns hisz hb hval (items.size - 0) 0 _ (by omega) (Nat.zero_le _) ⟨⟨_, Heap.get?_push_size _ rfl, rfl, rfl⟩, (hl1.push _)⟩ ?hS0 ?hR
      case hS0 => exact ⟨0, Nat.le_refl 0, setR_new_at (Heap.get?_push_of_some _ hS)⟩
      case hR =>
        intro s' c' hm hc' hS'
        obtain ⟨h', g2, d', tk', os'⟩ := s'
        have eg : g2 = s.gens := hm.gens
        have ed : d' = s.drawn := hm.drawn
        have eo : os' = s.os := hm.os
        subst eg ed eo
        show wpAny _ _ _ _ _ _
        refine wpAny_pure ?_
        show wpAny _ _ (ret Value.none) _ _ _
        rw [hisz] at hc'
        refine wpAny_pure ⟨rfl, h', tk', c', rfl, hS', hc', fun b o e => ?_⟩
        have hb0 : b < s.heap.objs.size := Heap.lt_size e
        refine hm.heap b o ?_ (Heap.get?_push_of_some _ (Heap.get?_push_of_some _ e))
        simp only [List.mem_cons, List.mem_singleton, List.not_mem_nil, or_false, not_or]
        exact ⟨Nat.ne_of_lt hb0, by rw [hz1]; exact Nat.ne_of_lt (Nat.lt_succ_of_lt hb0)⟩
    · match r₂, hr₂ with
      | .error e, hr₂ => exact hr₂
      | .ok .next, hr₂ => exact hr₂.elim
      | .ok .brk, hr₂ => exact hr₂.elim
      | .ok .cont, hr₂ => exact hr₂.elim
      | .ok (.ret r), hr₂ =>
        obtain ⟨rfl, h', tk, c', rfl, hS', hc', hk'⟩ := hr₂
        repeat (any_goals (first | assumption | wp_step))
        exact h _ _ _ hS' hc' hk'
end
section
variable {X : Cx}
def rSetL (K : PySem.W.Frag) (w : World) : List V → Hp → VK → Prop := fun xs H Q => ∃ (p : Addr) (ns : List Int), xs = [.ref p] ∧ SqL K H p (ns.map V.int) ∧ ns.length ≤ 1000 ∧ ∀ a c, H a = none → c ≤ ns.length → Q (.ref a) (upd H a (SetO w a (fun j => decide (j ∈ ns)) c))
theorem cr_setL (hc : X.calm = true) : CallR X (.type "set") (rSetL X.K X.w) := by
  intro pins s σ H vs us Q I r h
  obtain ⟨p, ns, rfl, hs, hz, q⟩ := h
  obtain ⟨its, rv, hl, _⟩ := I.list hs
  rw [Vals.ref1 r]
  refine set_of_list (P := X.prog) (w := X.w) ns (I.ok.hd hc) hl.isList (by simpa using rv.ints) (by unfold scanBound; omega) fun h' tk c R hcn k => ?_
  exact ⟨.ref _, _, I.laid (t' := tk) k (Nat.le_refl _) (setO_new R), rfl, q _ c (I.hok.fresh (Nat.le_refl _)) hcn⟩
end

/-! ### enumerate(t), t a tuple -/
set_option maxHeartbeats 1000000 in
theorem meets_enum1 {v : Value} {o : Obj} {H : Heap → Prop} (B : Begins v o H) :
    Meets (Builtin.«enumerate.__new__» ⟨[.type "enumerate", v], []⟩) (fun _ R s => H s.heap ∧
      R (.ok (.ret (.ref (s.heap.push o).objs.size))) { s with heap := (s.heap.push o).push { cls := .type "enumerate", data := .fields #[.none, .bool false, .ref s.heap.objs.size, rawInt 0, .none, .none] } }) :=
  .of_wp fun prog w A R s h => by
    obtain ⟨hp, g, d, tk, os⟩ := s
    obtain ⟨h1, h⟩ := h
    have hsub := sub_enumerate
    have q1 : ∀ {A' : Around} {E : Value → Shared → Prop} {Q : Value → Shared → Prop}, Q (.ref hp.objs.size) ⟨hp.push o, g, d, tk, os⟩ → wpAny (model prog w) A' (pyIter v) Q E ⟨hp, g, d, tk, os⟩ :=
      fun q => B.iter prog w _ _ ⟨hp, g, d, tk, os⟩ _ h1 q
    wp_walk using q1
    refine wpAny_stack_any fun st => wpAny_pure ?_
    split
    · rename_i c _ _ _ _ _
      cases (c == Value.type "enumerate") <;> (wp_walk using q1; exact ⟨_, rfl, h⟩)
    · wp_walk using q1
      exact ⟨_, rfl, h⟩
theorem enum_one {prog : Program} {w : World} {A : Around} {E : Value → Shared → Prop} {s : Shared} {v : Value} {o : Obj} {H : Heap → Prop} {Q : Value → Shared → Prop} (B : Begins v o H) (h1 : H s.heap)
    (h : ∀ h', IsEnum h' (s.heap.objs.size + 1) s.heap.objs.size 0 .none → h'.get? s.heap.objs.size = some o → h'.objs.size = s.heap.objs.size + 2 →
      (∀ b o, s.heap.get? b = some o → h'.get? b = some o) → Q (.ref (s.heap.objs.size + 1)) { s with heap := h' }) :
    wpAny (model prog w) A (call (.type "enumerate") [v]) Q E s := by
  refine callType_new F.called_enumerate (by decide) (F.typeCall_enumerate_1 _) (F.newCall_enumerate_1 _) (fun obj => F.args_object_init_2 obj _) F.entry_enumerate_new (meets_enum1 B) ⟨h1, ?_⟩
  have hz : (s.heap.push o).objs.size = s.heap.objs.size + 1 := Heap.size_push ..
  show _ ∧ _
  rw [hz]
  have he : IsEnum ((s.heap.push o).push { cls := .type "enumerate", data := .fields #[.none, .bool false, .ref s.heap.objs.size, rawInt 0, .none, .none] }) (s.heap.objs.size + 1) s.heap.objs.size 0 .none := by
    have q := Heap.get?_push_size (s.heap.push o) (o := { cls := .type "enumerate", data := .fields #[.none, .bool false, .ref s.heap.objs.size, rawInt 0, .none, .none] }) rfl
    rw [hz] at q
    exact q
  exact ⟨⟨_, he, rfl⟩, h _ he (Heap.get?_push_of_some _ (Heap.get?_push_size _ B.free)) (by rw [Heap.size_push, hz]) fun b o x => Heap.get?_push_of_some _ (Heap.get?_push_of_some _ x)⟩
theorem tup_is {h : Heap} {a : Addr} {its : Array Value} (p : IsTup h a its) : h.IsTuple a its := by
  obtain ⟨o, e, c, n, d⟩ := p
  exact ⟨o, e, c, n, d⟩
/-- the tuple at a, each item in a new pair -/
def ItT (K : PySem.W.Frag) (a : Addr) : It :=
  ⟨fun i H => ∃ (xs : List V) (x : V), SqT K H a xs ∧ xs[i]? = some x, fun i H v H' => ∃ T x, v = .ref T ∧ H T = none ∧ H' = upd H T (.tup [.int (i : Nat), x]) ∧ ∀ xs, SqT K H a xs → xs[i]? = some x, fun i H => ∃ xs : List V, SqT K H a xs ∧ xs.length ≤ i⟩
theorem turn_enumT {P : Program} {w : World} {K : PySem.W.Frag} {elts : List Expr} {kk : Nat} {tpos : Pos} (a e it : Addr) (hai : a ≠ it) (hae : a ≠ e) :
    Turn P w K (.Tuple elts kk tpos) (ItT K a) [e, it] e (fun i h => (∃ old, IsEnum h e it ((i : Nat) : Int) old) ∧ h.IsTupleIter it a i ∧ e ≠ it) where
  mem := by simp
  obj := fun i h st b hb => by
    obtain ⟨⟨old, he⟩, ⟨o, ho, hc, hd⟩, _⟩ := st
    rcases (show b = e ∨ b = it by simpa using hb) with z | z
    · rw [z]; exact ⟨_, he, fun v q => nomatch q⟩
    · rw [z]; exact ⟨o, ho, fun v q => by rw [hd] at q; cases q⟩
  keep := fun i h h' st k => let ⟨⟨old, he⟩, hi, hne⟩ := st; ⟨⟨old, k e (by simp) _ he⟩, hi.at fun o q => k it (by simp) o q, hne⟩
  item := by
    intro X hP hw hK hc i pins s σ H E I hf st hg
    subst hP hw hK
    obtain ⟨⟨old, he⟩, hit, hne⟩ := st
    obtain ⟨xs, x, hq, hx⟩ := hg
    obtain ⟨its, rv, p, hz⟩ := I.tuple hq
    have hel : e < s.heap.objs.size := Heap.lt_size he
    have hil : it < s.heap.objs.size := by obtain ⟨_, q, _⟩ := hit; exact Heap.lt_size q
    have hi : i < its.toArray.size := by rw [List.size_toArray, ← rv.length]; exact (List.getElem?_eq_some_iff.mp hx).1
    have hef : e ∉ [it, a] := by
      simp only [List.mem_cons, List.mem_singleton, List.not_mem_nil, or_false, not_or]
      exact ⟨hne, hae.symm⟩
    refine wpAny_pyNext_enum_itemD (Draws.tuple (A := X.A.in1) (by show X.A.handled = none; exact I.ok.hd hc) it a hai its.toArray) he ⟨hit, tup_is p⟩ hi hne hef fun u h' tk hu ho hst hT hsz hk => ?_
    have ru : RelV x u := by
      obtain ⟨u', hu', ru⟩ := rv.get hx
      have q : its[i]? = some u := by simpa using hu
      rw [hu'] at q
      cases q
      exact ru
    refine ⟨_, rfl, wpAny_letOwnedTupleGo_enum (s := { s with heap := h', toks := tk + 1 }) ho fun h'' he' sb => ?_⟩
    have hT2 : h''.get? s.heap.objs.size = some { cls := .type "tuple", data := .seq #[.int i tk, u] } := (sb.2 _ (Nat.ne_of_gt hel)).trans hT
    have new : ObjOk X.prog X.w (upd H s.heap.objs.size (.tup [.int (i : Nat), x])) h'' s.heap.objs.size (.tup [.int (i : Nat), x]) :=
      ⟨by show 2 ≤ sizeLine; decide, [.int i tk, u], .cons ⟨_, rfl⟩ (.cons ru .nil), ⟨_, hT2, rfl, _, rfl⟩⟩
    have I1 : Inv X pins σ (upd H s.heap.objs.size (.tup [.int (i : Nat), x])) { s with heap := h'', toks := tk + 1 } :=
      I.turnedNew (ch := [e, it]) (fun b ob hb q => (sb.2 b (fun z => hb (by simp [z]))).trans (hk b ob (fun z => hb (by simp [z])) (fun z => hb (by simp [z])) q)) hf (Nat.le_refl _) new
    refine ⟨.ref s.heap.objs.size, _, I1, rfl, ⟨_, x, rfl, I.hok.fresh (Nat.le_refl _), rfl, fun ys hy => by rw [I.tuple_inj hy hq]; exact hx⟩, ⟨⟨u, ?_⟩, hst.1.at fun o q => (sb.2 it (Ne.symm hne)).trans q, hne⟩, fun b hb => ?_⟩
    · have e1 : ((i + 1 : Nat) : Int) = (i : Int) + 1 := by omega
      rw [e1]; exact he'
    · have hb' : b < s.heap.objs.size := by
        rcases (show b = e ∨ b = it by simpa using hb) with z | z
        · rw [z]; exact hel
        · rw [z]; exact hil
      rw [upd_ne (Nat.ne_of_lt hb')]
      exact (hf b hb).1
  done := by
    intro X hP hw hK hc i pins s σ H E I hf st hg
    subst hP hw hK
    obtain ⟨⟨old, he⟩, hit, hne⟩ := st
    obtain ⟨xs, hq, hx⟩ := hg
    obtain ⟨its, rv, p, hz⟩ := I.tuple hq
    obtain ⟨f0, f1, f2, f3, f4, f5⟩ := hf it (by simp)
    have hl := rv.length
    unfold pyNext
    refine wpAny_bind (wpAny_attempt (wpAny_callSpecial?_slot (name := Str.ofString "__next__") ⟨_, he, rfl⟩ F.slot_enumerate_next
      (wpAny_call_entry F.slot_enumerate_next ⟨_, he, rfl⟩ F.entry_enumerate_next ?_ (F.args_enumerate_next_1 _))))
    show wpAny _ _ (field (.ref e) 2 >>= _) _ _ _
    refine wpAny_bind (wpAny_field he rfl (x := .ref it) rfl ?_)
    refine wpAny_bind (wpAny_nextOf_tuple_end (by show X.A.handled = none; exact I.ok.hd hc) hit (tup_is p) (by simp; omega) fun h' x he' hx' => ?_)
    obtain ⟨o, ho, hcc⟩ := hx'
    refine wpAny_bind (wpAny_isInstance (T := "StopIteration") (b := true) ⟨o, ho, hcc⟩ isSubtype_stop ?_)
    exact wpAny_pure ⟨rfl, I.turned (t' := s.toks) (fun b o hb q => he' b o hb q) f0 f1 f3 f4 f5⟩
  self := fun A i s Q E st h => let ⟨⟨_, he⟩, _⟩ := st; wpAny_pyIter_enum he h
def iEnT (K : PySem.W.Frag) (ta : TA) : TI := fun σ H R => ta σ H fun vs H1 => ∃ a xs, vs = [.ref a] ∧ SqT K H1 a xs ∧ R (ItT K a) H1
theorem pi_enumT {X : Cx} {e : Expr} {ta : TA} {p pos tpos : Pos} {elts : List Expr} {kk : Nat} (hg : Gl X "enumerate") (hm : X.mg "enumerate" = none) (ha : PA X [e] ta) (hs : starEach [e] X.env = [(false, eval e X.env)] := by rfl) :
    PI X (.Tuple elts kk tpos) (.Call (.Name "enumerate" p) [e] [] pos) (iEnT X.K ta) := by
  refine ⟨fun pins s σ H R I h => ?_⟩
  refine Call_ (ld_blt I hg hm boot_enumerate (PyProof.Rows.callWith_type1 (thn (ha.run pos pins s σ H _ I h) fun us s1 ⟨vs, H1, I1, r1, q1⟩ => ?_) hs rfl))
  obtain ⟨a, xs, ex, hq, q⟩ := q1
  subst ex
  cases r1 with
  | cons r rr =>
    cases rr
    cases r
    obtain ⟨its, rv, p', hz⟩ := I1.tuple hq
    have hlt : a < s1.heap.objs.size := by obtain ⟨o, e, _⟩ := p'; exact Heap.lt_size e
    refine enum_one (begins_tuple a its.toArray) (tup_is p') fun h' he hit hsz hk => wpAny_pyIter_enum he ?_
    have I2 : Inv X pins σ H1 { s1 with heap := h' } := I1.kept (t' := s1.toks) hk
    refine ⟨s1.heap.objs.size + 1, [s1.heap.objs.size + 1, s1.heap.objs.size], _, _, H1, rfl, I2, turn_enumT a (s1.heap.objs.size + 1) s1.heap.objs.size (Nat.ne_of_lt hlt) (Nat.ne_of_lt (Nat.lt_succ_of_lt hlt)), ⟨⟨.none, he⟩, ⟨_, hit, rfl, rfl⟩, Nat.succ_ne_self _⟩, fun b hb => ?_, q⟩
    have hle : s1.heap.objs.size ≤ b := by
      rcases (show b = s1.heap.objs.size + 1 ∨ b = s1.heap.objs.size by simpa using hb) with z | z
      · rw [z]; exact Nat.le_add_right _ _
      · rw [z]; exact Nat.le_refl _
    exact I1.fpOk hle (I1.hok.fresh hle)
end K9
end
section
set_option maxHeartbeats 4000000
/-! K9R2: further rules. -/
namespace K9
open PySem PySem.Spec PyProof.Rows L2 Evl
theorem ext_tup (l : Addr) (items : Array Value) (n : Nat) (b : Addr) (items2 : Array Value) (n2 : Nat) (dd : Option Addr) (sl : Array (Option Value)) (hs0 : ¬(!items.isEmpty && Builtin.List.listTooLong (items.size + items2.size)) = true) (hs1 : items.size ≤ sizeLine) (hs2 : items.size + items2.size ≤ sizeLine + 1) :
    Meets (Builtin.«list.extend» ⟨[.ref l, .ref b], []⟩) (fun _ R s => s.heap.get? l = some { cls := .type "list", dict := none, data := .seq items n, slots := #[] } ∧ s.heap.get? b = some { cls := .type "tuple", dict := dd, data := .seq items2 n2, slots := sl } ∧ R (.ok (.ret Value.none)) { s with heap := s.heap.update l (Obj.mapSeq fun x => x ++ items2), toks := s.toks }) :=
  .of_wp fun prog w A R s h => by
    obtain ⟨hp, g, d, tk, os⟩ := s
    obtain ⟨hl, hb, h⟩ := h
    have f1 := AutoSeq1.idx_int
    have f2 := AutoSeq1.sub_tuple_tuple
    have f3 := AutoSeq1.sub_list_list
    have f4 := AutoSeq1.sub_tuple_list
    have f5 := AutoSeq1.sub_list_tuple
    have hz' : (items ++ items2).size ≤ sizeLine + 1 := by rw [Array.size_append]; exact hs2
    wp_walk using (wpAny_updateSeq hl rfl (hz := hs1) (_hz' := hz')), AutoSeq1.wpAny_loadPart' hl, AutoSeq1.wpAny_loadPart' hb
    exact ⟨_, rfl, h⟩
section
variable {X : Cx}
/-! ### xs.extend(t), t a tuple without a dict of its own (the layer's own tuples) -/
theorem mt_extT : MtM X "list.extend" (fun x vs H Q => ∃ l b xs zs, x = .ref l ∧ vs = [.ref b] ∧ H l = some (.lst xs) ∧ SqT X.K H b zs ∧ xs.length + zs.length ≤ sizeLine ∧ Q .non (upd H l (.lst (xs ++ zs)))) := by
  intro pins s σ H x vs v us Q I rx rv h
  obtain ⟨l, b, xs, zs, rfl, rfl, hH, hB, hz, q⟩ := h
  cases rx
  obtain ⟨u, rfl, ru⟩ := rv.one
  cases ru
  obtain ⟨z, its, n, r, hl, e⟩ := I.lstM hH
  obtain ⟨its2, r2, ⟨⟨cls, dd, data, sl⟩, ho, hc, n2, hd⟩, hz2⟩ := I.tuple hB
  simp only at hc hd
  subst hc hd
  have l2 := r2.length
  have hsz : its.toArray.size + its2.toArray.size ≤ sizeLine := by rw [List.size_toArray, List.size_toArray]; omega
  have hlong : ¬ (!its.toArray.isEmpty && Builtin.List.listTooLong (its.toArray.size + its2.toArray.size)) = true := by
    rw [notLongL hsz, Bool.and_false]
    exact Bool.false_ne_true
  refine call_meets F.slot_list_extend ⟨_, e, rfl⟩ F.entry_list_extend (F.args_list_extend_2 _ _) (ext_tup l its.toArray n b its2.toArray n2 dd sl hlong (by rw [List.size_toArray]; omega) (by omega)) ⟨e, ho, ?_⟩
  refine ⟨.non, _, I.lset (its' := its ++ its2) hH e (by simp) (r.append r2) ?_, rfl, q⟩
  rw [List.length_append]
  omega
end

/-! ### d.get(k, x), d a written dict with text keys -/
def tKGet (K : PySem.W.Frag) (w : World) (td ty tx : TE) : TE := fun σ H Q => td σ H fun x H1 => ∃ a es n, x = .ref a ∧ KDict K w a es n ∧ ty σ H1 fun y H2 => tx σ H2 fun _ H3 => ∃ (z : Str) (u : Value) (v : V), y = .str z ∧ PySem.W.nsIn K a z = some (some u) ∧ RelV v u ∧ Q v H3
section
variable {X : Cx} {o e f : Expr} {td ty tx : TE} {apos cpos : Pos}
theorem pe_kget2 (ho : PE X o td) (he : PE X e ty) (hf : PE X f tx) (m : M2 X o "get" apos e f cpos) : PE X (.Call (.Attribute o "get" apos) [e, f] [] cpos) (tKGet X.K X.w td ty tx) := by
  refine ⟨fun pins s σ H Q I h => ?_⟩
  refine wpAny_Call_method m.base m.few m.line PySem.F.plainAttrs_dict PySem.F.slot_dict_get PySem.F.type_dict_get (thn (ho.run pins s σ H _ I h) fun u s1 ⟨x, H1, I1, rx, a, es, n, ex, D, q1⟩ => ?_)
  subst ex
  obtain rfl : u = Value.ref a := rx
  refine ⟨kd_type D I1, fun b z => ?_, ?_⟩
  · cases z
    exact ⟨_, I1.kIn _ _ D.at_, rfl⟩
  rw [m.trees]
  refine Calls.callWith_builtin rfl (Calls.evalArgs_plain (Calls.spliced_cons (thn (he.run pins s1 σ H1 _ I1 q1) fun iv s2 ⟨y, H2, I2, ry, q2⟩ =>
    Calls.spliced_cons (thn (hf.run pins s2 σ H2 _ I2 q2) fun fv s3 ⟨z, H3, I3, rz, k, u0, v0, ey, hn, rv, q3⟩ => Calls.spliced_nil ?_))))
  subst ey
  obtain ⟨t, rfl⟩ := ry
  have mo := PySem.W.mapOf_K (prog := X.prog) (w := X.w) I3.kIn D.at_ D.lit
  refine call_meetsIn F.slot_dict_get mo.typeIs F.entry_dict_get (F.args_dict_get_3 _ _ _) (meets_dict_get_default (PySem.strKind X.prog X.w) a (PySem.strKind_is X.prog X.w k t) D.low fv) ⟨_, mo, ?_⟩
  rw [PySem.W.find_K D.at_ hn]
  exact ⟨v0, H3, I3.tok _, rv, q3⟩
end

/-! ### xs[::k], k = 1 or -1 -/
def tStepL (K : PySem.W.Frag) (te tk : TE) : TE := fun σ H Q => te σ H fun x H1 => tPart tk σ H1 fun o H2 => ∃ (a : Addr) (xs : List V) (k : Int), x = .ref a ∧ SqL K H2 a xs ∧ o = some k ∧
  ((k = 1 ∧ ∀ p, H2 p = none → Q (.ref p) (upd H2 p (.lst xs))) ∨ (k = -1 ∧ ∀ p, H2 p = none → Q (.ref p) (upd H2 p (.lst xs.reverse))))
section
variable {X : Cx}
theorem pick_one (items : Array Value) : slicePick items none none (some 1) = items := by
  have e : slicePick items none none (some 1) = slicePick items none none none := by
    unfold slicePick
    rfl
  rw [e, slicePick_all]
theorem pe_stepL {e k : Expr} {te tk : TE} {p3 pos : Pos} (he : PE X e te) (hk : PE X k tk) : PE X (.Subscript e (.Slice none none (some k) p3) pos) (tStepL X.K te tk) := by
  refine ⟨fun pins s σ H Q I h => ?_⟩
  refine Subscript_ (thn (he.run pins s σ H _ I h) fun v s1 ⟨x, H1, I1, r1, q1⟩ => ?_)
  have hst : PO X (some k) (tPart tk) := po_some hk
  refine wpAny_Slice (thn (po_none.run pins s1 σ H1 (fun o H2 => o = none ∧ H2 = H1) I1 ⟨rfl, rfl⟩) fun vl s2 ⟨l, H2, I2, pl, el, e2⟩ => ?_)
  subst el e2
  refine thn (po_none.run pins s2 σ H2 (fun o H3 => o = none ∧ H3 = H2) I2 ⟨rfl, rfl⟩) fun vu s3 ⟨u, H3, I3, pu, eu, e3⟩ => ?_
  subst eu e3
  refine thn (hst.run pins s3 σ H3 _ I3 q1) fun vs s4 ⟨o, H4, I4, ps, a, xs, k, ex, hx, eo, q⟩ => ?_
  subst ex eo
  cases r1
  have I5 : Inv X pins σ H4 { s4 with heap := s4.heap.push { cls := .type "slice", data := .fields #[vl, vu, vs] } } := I4.kept (t' := s4.toks) fun b ob q => Heap.get?_push_of_some _ q
  obtain ⟨its, r, ht, hz⟩ := I5.list hx
  have hlen := r.length
  refine tail_any (ops := [.ref a, .ref s4.heap.objs.size]) ht.isList.typeIs (PySem.slot_list_getitem.lookup) ?_ (by with_unfolding_all rfl)
  refine wpAny_getItem_list_slice ht.isList (Heap.IsSliceOf.new _ vl vu vs) pl pu ps ?_ ?_ (by rw [List.size_toArray]; omega)
  · rcases q with ⟨rfl, _⟩ | ⟨rfl, _⟩ <;> (intro z; cases z)
  · rcases q with ⟨rfl, q⟩ | ⟨rfl, q⟩
    · rw [pick_one]
      refine ⟨.ref _, _, I5.laid (t' := s4.toks) (o := .lst xs) (fun b ob q => Heap.get?_push_of_some _ q) (Nat.le_refl _) ?_, rfl, q _ (I5.hok.fresh (Nat.le_refl _))⟩
      exact ⟨hz, _, 0, r, Heap.get?_push_size _ rfl⟩
    · rw [PySem.W.krv_pick]
      refine ⟨.ref _, _, I5.laid (t' := s4.toks) (o := .lst xs.reverse) (fun b ob q => Heap.get?_push_of_some _ q) (Nat.le_refl _) ?_, rfl, q _ (I5.hok.fresh (Nat.le_refl _))⟩
      exact ⟨by rw [List.length_reverse]; exact hz, _, 0, r.reverse, Heap.get?_push_size _ rfl⟩
end
/-! ### C.__init__(self, ..), C an own class over ValueError without its own __init__ -/
section
variable {X : Cx} {e : Expr} {es : List Expr} {ta : TA} {x : Str} {p1 p2 pos : Pos} {C0 : Addr} {mc : Value}
theorem pe_reinit {pl : Sem Bool} (hg : Gl X x) (hm : X.mg x = some (.ref C0)) (r : ClX.CRead X.K C0 mc) (vV : PySem.W.findCls X.K (.ref C0) mc "__init__" = some (.val (.builtin "ValueError.__init__"))) (ha : PA X (e :: es) ta)
    (hdb : (x == ("__debug__" : Str)) = false := by decide)
    (hc : eval (.Call (.Attribute (.Name x p1) "__init__" p2) (e :: es) [] pos) X.env = (do
      let ov ← eval (.Name x p1) X.env
      standAt p2.atName
      let (f, first) ← holding [ov] (getMethod ov "__init__" pl)
      callWith pos f first (backTo pos (starEach (e :: es) X.env)) (backToKw pos (keywordEach [] X.env))) := by rfl)
    (he : starEach (e :: es) X.env = (false, eval e X.env) :: starEach es X.env := by rfl) (hpl : (backTo pos (starEach es X.env)).any (·.1) = false := by rfl) :
    PE X (.Call (.Attribute (.Name x p1) "__init__" p2) (e :: es) [] pos) (tVeI X.K ta) := by
  refine ⟨fun pins s σ H Q I h => ?_⟩
  refine PySem.W.methodCall_KW (ld_glob I hg hm ?_ hdb) hc
  refine PySem.W.method_cls I.kIn r.ga (PySem.W.cls_value I.kIn r.rd vV (by decide +kernel) ?_)
  show wpAny _ _ (callWith pos (Value.builtin "ValueError.__init__") [] (backTo pos (starEach (e :: es) X.env)) []) _ _ _
  refine PyProof.Rows.callWith_method1 (thn (ha.run pos pins _ σ H _ (I.tok _) h) fun us s1 ⟨vs, H1, I1, r1, a, C, ws, ev, hl, T, ea, q⟩ => ?_) he hpl
  subst ev
  cases r1 with
  | @cons _ u0 _ ur ra rw' =>
    obtain rfl : u0 = Value.ref a := ra
    have hlen : ur.length ≤ sizeLine := by
      rw [← Paired.length rw', sizeLine_eq]
      omega
    exact oinit_ok T I1 ea hlen fun s' J => ⟨.non, H1, J, rfl, q⟩
end
/-! ### a comprehension over things that are no data -/
/-- a new list of things that stand in relation W to xs -/
def EvW {α : Type} (W : Hp → V → α → Prop) (te : TE) (σ : L2.St) (H : Hp) (xs : List α) : Prop := ∀ H1, Ex H H1 → ∀ Q : VK, (∀ p vs H2, H1 p = none → Ex H1 H2 → H2 p = some (.lst vs) → Paired (W H2) vs xs → Q (.ref p) H2) → te σ H1 Q
theorem paired_at {α β : Type} {W : α → β → Prop} : ∀ {vs : List α} {xs : List β} {i : Nat} {v : α}, Paired W vs xs → vs[i]? = some v → ∃ x, xs[i]? = some x ∧ W v x
  | _, _, _, _, .nil, e => by simp at e
  | _, _, 0, _, .cons h _, e => by simp at e; subst e; exact ⟨_, rfl, h⟩
  | _, _, i + 1, v, .cons _ t, e => by
    obtain ⟨x, h1, h2⟩ := paired_at (i := i) (v := v) t (by simpa using e)
    exact ⟨x, by simpa using h1, h2⟩
theorem paired_snoc {α β : Type} {W : α → β → Prop} {v : α} {x : β} (h : W v x) : ∀ {vs : List α} {xs : List β}, Paired W vs xs → Paired W (vs ++ [v]) (xs ++ [x])
  | _, _, .nil => .cons h .nil
  | _, _, .cons k t => .cons k (paired_snoc h t)
theorem paired_map {α β : Type} {W W' : α → β → Prop} (f : ∀ a b, W a b → W' a b) : ∀ {vs : List α} {xs : List β}, Paired W vs xs → Paired W' vs xs
  | _, _, .nil => .nil
  | _, _, .cons k t => .cons (f _ _ k) (paired_map f t)
section
variable {K : PySem.W.Frag} {σ : L2.St} {H H' : Hp} {te : TE} {t : TT}
theorem em_lcW {α : Type} {W : Hp → V → α → Prop} {tl : TE} {j : Nat} (mono : ∀ {H H' : Hp} {v : V} {a : α}, Ex H H' → W H v a → W H' v a) (xs : List α) (f : α → Bool) (g : α → Dt) (h : EvW W tl σ H xs) (hz : xs.length ≤ 40000)
    (hb : ∀ a v H1, a ∈ xs → Ex H H1 → W H1 v a → EvT t ((wipe σ [j]).set j (some v)) H1 (f a) ∧ (f a = true → EvD K te ((wipe σ [j]).set j (some v)) H1 (g a))) :
    EvM K (tLc (iList K tl) (gName j) t te [j]) σ H ((xs.filter f).map g) := fun H0 e Q q => h H0 e _ fun p vs H1 hp e1 hs l => by
  refine ⟨p, rfl, ⟨vs, sq_of hs⟩, fun D hD => lc_list (xs := vs) (Cd K H1 xs f g D) ⟨hD, Ex.new hD, [], upd_same, .nil⟩ (fun i H' _ c => ex_l c.2.1 (sq_of hs)) (fun i x H' hi c => ⟨wipe_one _, ?_⟩) (fun H' c => ?_)⟩
  · obtain ⟨y, hy, wy⟩ := paired_at l hi
    obtain ⟨b1, b2⟩ := hb y x H' (List.mem_of_getElem? hy) ((e.trans e1).trans c.2.1) (mono c.2.1 wy)
    exact cd_turn hy hz c b1 b2
  · have ll : vs.length = xs.length := Paired.length l
    rw [ll] at c
    obtain ⟨c1, c2, ws, c3, c4⟩ := cd_end c
    exact q D ws H' (fresh_back e1 c1) (e1.trans c2) c3 c4
/-- len([x for x in those if ..]) -/
theorem ew_lcW {α : Type} {W : Hp → V → α → Prop} {tl : TE} {j : Nat} (monoF : ∀ {H H' : Hp} {v : V} {a : α} {D : Addr} {xs : List V}, H D = some (.lst xs) → ExF D H H' → W H v a → W H' v a) (mono : ∀ {H H' : Hp} {v : V} {a : α}, Ex H H' → W H v a → W H' v a) (xs : List α) (f : α → Bool) (h : EvW W tl σ H xs) (hz : xs.length ≤ 40000)
    (hb : ∀ a v H1, a ∈ xs → Ex H H1 → W H1 v a → EvT t ((wipe σ [j]).set j (some v)) H1 (f a) ∧ Ev te ((wipe σ [j]).set j (some v)) H1 v) :
    EvW W (tLc (iList K tl) (gName j) t te [j]) σ H (xs.filter f) := fun H0 e Q q => h H0 e _ fun p vs H1 hp e1 hs l => by
  let Pv : Addr → Nat → Hp → Prop := fun D i H' => H1 D = none ∧ Ex H1 H' ∧ ∃ us, H' D = some (.lst us) ∧ us.length ≤ i ∧ Paired (W H') us ((xs.take i).filter f)
  refine ⟨p, rfl, ⟨vs, sq_of hs⟩, fun D hD => lc_list (xs := vs) (Pv D) ⟨hD, Ex.new hD, [], upd_same, Nat.zero_le _, .nil⟩ (fun i H' _ c => ex_l c.2.1 (sq_of hs)) (fun i x H' hi c => ⟨wipe_one _, ?_⟩) (fun H' c => ?_)⟩
  · obtain ⟨y, hy, wy⟩ := paired_at l hi
    obtain ⟨c1, c2, us, c3, c4, c5⟩ := c
    have hil : i < xs.length := (List.getElem?_eq_some_iff.mp hy).1
    obtain ⟨b1, b2⟩ := hb y x H' (List.mem_of_getElem? hy) ((e.trans e1).trans c2) (mono c2 wy)
    refine b1 H' (Ex.refl _) _ fun H3 e3 => ?_
    cases hf : f y with
    | true =>
      refine b2 H3 e3 _ fun H4 e4 => ⟨us, e4 _ _ (e3 _ _ c3), sz_lt (by omega), c1, (c2.trans (e3.trans e4)).mut c1, _, upd_same, by rw [List.length_append, List.length_singleton]; omega, ?_⟩
      have ex : ∀ {v : V} {a : α}, W H' v a → W (upd H4 D (.lst (us ++ [x]))) v a := fun {v a} hw => monoF (e4 _ _ (e3 _ _ c3)) (fun b o hb h => by rw [upd_ne hb]; exact h) (mono (e3.trans e4) hw)
      rw [filter_take_more hy, List.filter_append, List.filter_cons, if_pos hf]
      exact paired_snoc (ex (mono c2 wy)) (paired_map (fun _ _ z => ex z) c5)
    | false =>
      refine ⟨c1, c2.trans e3, us, e3 _ _ c3, by omega, ?_⟩
      rw [filter_take_more hy, List.filter_append, List.filter_cons, if_neg (by rw [hf]; decide)]
      show Paired (W H3) us (_ ++ [])
      rw [List.append_nil]
      exact paired_map (fun _ _ z => mono e3 z) c5
  · have ll : vs.length = xs.length := Paired.length l
    obtain ⟨c1, c2, us, c3, _, c5⟩ := c
    rw [ll, List.take_length] at c5
    exact q D us H' (fresh_back e1 c1) (e1.trans c2) c3 c5
end
end K9
end
section
set_option maxHeartbeats 4000000
/-! K9S: the class Sight. -/
namespace K9
open PySem PySem.Spec PyProof.Rows L2 Evl K9M
/-! ### the data of the program -/
def encE : {b : Bool} → E b → Dt
  | _, .num k => .tup [.str "num", .int (k : Int)]
  | _, .own => .tup [.str "own", .int ((0 : Nat) : Int)]
  | _, .eye e => .tup [.str "eye", .int (e : Int), .int ((0 : Nat) : Int)]
  | _, .me => .tup [.str "me"]
  | _, .plus a b => .tup [.str "plus", encE a, encE b]
  | _, .less a b => .tup [.str "less", encE a, encE b]
  | _, .rest a k => .tup [.str "rest", encE a, .int (k : Int)]
  | _, .least a => .tup [.str "least", encE a]
  | _, .most a => .tup [.str "most", encE a]
  | _, .many c => .tup [.str "many", encE c]
  | _, .ite c a b => .tup [.str "if", encE c, encE a, encE b]
  | _, .its => .tup [.str "its", .int ((0 : Nat) : Int)]
  | _, .it => .tup [.str "it"]
  | _, .yes => .tup [.str "yes"]
  | _, .like a b => .tup [.str "like", encE a, encE b]
  | _, .blw a b => .tup [.str "below", encE a, encE b]
  | _, .not c => .tup [.str "not", encE c]
  | _, .and c d => .tup [.str "and", encE c, encE d]
  | _, .or c d => .tup [.str "or", encE c, encE d]
abbrev nD (n : Nat) : Dt := .int (n : Int)
def rowD (s : List Nat) : Dt := .tup (s.map nD)
def eyD (ey : List (List Nat)) : Dt := .tup (ey.map rowD)
def boxD (b : Nat) : Dt := .tup [nD b]
def stD (st : List Nat) : Dt := .tup (st.map boxD)
def opD : Option Nat → Dt
  | none => .non
  | some n => nD n
structure SC where
  ey : List (List Nat)
  st : List Nat
  h : Nat
  o : Option Nat
/-- what a sight leans on -/
structure SC.Ok (c : SC) : Prop where
  h : c.h < c.ey.length
  st : c.st.length = c.ey.length
  lt : ∀ h o, o ∈ seen c.ey h → o < c.ey.length
  o : ∀ n, c.o = some n → n < c.ey.length
  few : ∀ h, (seen c.ey h).length ≤ 100
  sm : c.ey.length ≤ 100
theorem eyD_at {ey : List (List Nat)} {h : Nat} (k : h < ey.length) : (ey.map rowD)[h]? = some (rowD (seen ey h)) := by
  show _ = some (rowD (ey.getD h []))
  rw [List.getElem?_map, List.getElem?_eq_getElem k, List.getD_eq_getElem?_getD, List.getElem?_eq_getElem k] <;> rfl
theorem stD_at {st : List Nat} {h : Nat} (k : h < st.length) : (st.map boxD)[h]? = some (boxD (st.getD h 0)) := by
  rw [List.getElem?_map, List.getElem?_eq_getElem k, List.getD_eq_getElem?_getD, List.getElem?_eq_getElem k] <;> rfl
theorem rowD_at {s : List Nat} {i : Nat} (k : i < s.length) : (s.map nD)[i]? = some (nD (s.getD i 0)) := by
  rw [List.getElem?_map, List.getElem?_eq_getElem k, List.getD_eq_getElem?_getD, List.getElem?_eq_getElem k] <;> rfl
/-! ### what the top says of the class -/
structure SiT (K : PySem.W.Frag) (mg : Str → Option Value) (C fI : Addr) : Prop where
  cl : Cls K C
  n1 : NoAttr K C "eyes_told"
  n2 : NoAttr K C "stand_told"
  n3 : NoAttr K C "own_hand"
  n4 : NoAttr K C "looked_at"
  mkk : Mk K C fI
  mgC : mg "Sight" = some (.ref C)
structure Bi (mg : Str → Option Value) : Prop where
  len : mg "len" = none
  sum : mg "sum" = none
  any : mg "any" = none
  all : mg "all" = none
  min : mg "min" = none
  max : mg "max" = none
  tuple : mg "tuple" = none
  list : mg "list" = none
  int : mg "int" = none
  str : mg "str" = none
  bool : mg "bool" = none
  set : mg "set" = none
  range : mg "range" = none
  zip : mg "zip" = none
  enumerate : mg "enumerate" = none
  sorted : mg "sorted" = none
  isinstance : mg "isinstance" = none
  repr : mg "repr" = none
def sgF (v1 v2 : V) (h : Nat) (v4 : V) : List (Str × V) := [("eyes_told", v1), ("stand_told", v2), ("own_hand", .int (h : Int)), ("looked_at", v4)]
def SiAt (K : PySem.W.Frag) (C : Addr) (H : Hp) (p : Addr) (c : SC) : Prop :=
  ∃ dx v1 v2 v4, H p = some (.ins C dx (sgF v1 v2 c.h v4)) ∧ At K H v1 (eyD c.ey) ∧ At K H v2 (stD c.st) ∧ At K H v4 (opD c.o)
theorem SiAt.mono {K : PySem.W.Frag} {C : Addr} {H H' : Hp} {p : Addr} {c : SC} (e : Ex H H') (h : SiAt K C H p c) : SiAt K C H' p c := by
  obtain ⟨dx, v1, v2, v4, h0, h1, h2, h4⟩ := h
  exact ⟨dx, v1, v2, v4, e _ _ h0, h1.mono e, h2.mono e, h4.mono e⟩
def SiW (K : PySem.W.Frag) (C : Addr) (c : SC) (H : Hp) (v : V) (o : Nat) : Prop := ∃ p, v = .ref p ∧ SiAt K C H p { c with o := some o }
theorem SiW.mono {K : PySem.W.Frag} {C : Addr} {c : SC} {H H' : Hp} {v : V} {o : Nat} (e : Ex H H') (h : SiW K C c H v o) : SiW K C c H' v o := by
  obtain ⟨p, q, k⟩ := h
  exact ⟨p, q, k.mono e⟩
theorem SiW.monoF {K : PySem.W.Frag} {C : Addr} {c : SC} {H H' : Hp} {v : V} {o : Nat} {D : Addr} {xs : List V} (hd : H D = some (.lst xs)) (e : ExF D H H') (h : SiW K C c H v o) : SiW K C c H' v o := by
  obtain ⟨p, q, dx, v1, v2, v4, h0, h1, h2, h4⟩ := h
  have tk := TKp.exF (K := K) hd e
  exact ⟨p, q, dx, v1, v2, v4, e _ _ (ne_of h0 hd (by intro z; cases z)) h0, h1.tk tk, h2.tk tk, h4.tk tk⟩
section
variable {K : PySem.W.Frag} {mg : Str → Option Value} {C fI : Addr} {σ : L2.St} {H : Hp} {l : List Sl} {p : Addr} {c : SC} {i : Nat}
theorem lk1 (v1 v2 : V) (h : Nat) (v4 : V) : (sgF v1 v2 h v4).lookup ("eyes_told" : Str) = some v1 := rfl
theorem lk2 (v1 v2 : V) (h : Nat) (v4 : V) : (sgF v1 v2 h v4).lookup ("stand_told" : Str) = some v2 := by
  unfold sgF
  simp only [List.lookup, show (("stand_told" : Str) == "eyes_told") = false by decide +kernel, show (("stand_told" : Str) == "stand_told") = true by decide +kernel]
theorem lk3 (v1 v2 : V) (h : Nat) (v4 : V) : (sgF v1 v2 h v4).lookup ("own_hand" : Str) = some (.int (h : Int)) := by
  unfold sgF
  simp only [List.lookup, show (("own_hand" : Str) == "eyes_told") = false by decide +kernel, show (("own_hand" : Str) == "stand_told") = false by decide +kernel, show (("own_hand" : Str) == "own_hand") = true by decide +kernel]
theorem lk4 (v1 v2 : V) (h : Nat) (v4 : V) : (sgF v1 v2 h v4).lookup ("looked_at" : Str) = some v4 := by
  unfold sgF
  simp only [List.lookup, show (("looked_at" : Str) == "eyes_told") = false by decide +kernel, show (("looked_at" : Str) == "stand_told") = false by decide +kernel, show (("looked_at" : Str) == "own_hand") = false by decide +kernel, show (("looked_at" : Str) == "looked_at") = true by decide +kernel]
theorem lk0 (v1 v2 : V) (h : Nat) (v4 : V) {m : Str} (k1 : (m == "eyes_told") = false) (k2 : (m == "stand_told") = false) (k3 : (m == "own_hand") = false) (k4 : (m == "looked_at") = false) : (sgF v1 v2 h v4).lookup m = none := by
  unfold sgF
  simp only [List.lookup, k1, k2, k3, k4]
theorem ed_f1 (T : SiT K mg C fI) (S : Sg K H σ l) (hi : l[i]? = some (.v (.ref p))) (A : SiAt K C H p c) : EvD K (tFld K (tVar i) "eyes_told") σ H (eyD c.ey) := fun H1 e Q q => by
  obtain ⟨dx, v1, v2, v4, h0, h1, h2, h4⟩ := A.mono e
  exact ⟨_, S.val hi, p, C, dx, _, v1, rfl, h0, T.cl, T.n1, lk1 _ _ _ _, q v1 H1 (Ex.refl H1) h1⟩
theorem ed_f2 (T : SiT K mg C fI) (S : Sg K H σ l) (hi : l[i]? = some (.v (.ref p))) (A : SiAt K C H p c) : EvD K (tFld K (tVar i) "stand_told") σ H (stD c.st) := fun H1 e Q q => by
  obtain ⟨dx, v1, v2, v4, h0, h1, h2, h4⟩ := A.mono e
  exact ⟨_, S.val hi, p, C, dx, _, v2, rfl, h0, T.cl, T.n2, lk2 _ _ _ _, q v2 H1 (Ex.refl H1) h2⟩
theorem ed_f3 (T : SiT K mg C fI) (S : Sg K H σ l) (hi : l[i]? = some (.v (.ref p))) (A : SiAt K C H p c) : EvD K (tFld K (tVar i) "own_hand") σ H (nD c.h) := fun H1 e Q q => by
  obtain ⟨dx, v1, v2, v4, h0, h1, h2, h4⟩ := A.mono e
  exact ⟨_, S.val hi, p, C, dx, _, _, rfl, h0, T.cl, T.n3, lk3 _ _ _ _, q _ H1 (Ex.refl H1) (.int _)⟩
theorem ed_f4 (T : SiT K mg C fI) (S : Sg K H σ l) (hi : l[i]? = some (.v (.ref p))) (A : SiAt K C H p c) : EvD K (tFld K (tVar i) "looked_at") σ H (opD c.o) := fun H1 e Q q => by
  obtain ⟨dx, v1, v2, v4, h0, h1, h2, h4⟩ := A.mono e
  exact ⟨_, S.val hi, p, C, dx, _, v4, rfl, h0, T.cl, T.n4, lk4 _ _ _ _, q v4 H1 (Ex.refl H1) h4⟩
/-! ### __init__ -/
def spInit (C : Addr) : Sp := fun vs H Q _ => ∃ (p dx : Addr) (v1 v2 v4 : V) (h : Nat), vs = [.ref p, v1, v2, .int (h : Int), v4] ∧ H p = some (.ins C dx []) ∧
  ∀ H' : Hp, (∀ b o, b ≠ p → H b = some o → H' b = some o) → H' p = some (.ins C dx (sgF v1 v2 h v4)) → Q .non H'
abbrev s_init : Stmt := inClass (top 6) 0
theorem sc_init : FnScope ["self", "eyes", "stand", "hand", "other"] ["self", "eyes", "stand", "hand", "other"] (defScope s_init) := ⟨rfl, rfl, rfl, by decide +kernel, rfl, by decide +kernel, by decide +kernel⟩
theorem put1 (v1 : V) : putF "eyes_told" v1 [] = [(("eyes_told" : Str), v1)] := rfl
theorem put2 (v1 v2 : V) : putF "stand_told" v2 [(("eyes_told" : Str), v1)] = [(("eyes_told" : Str), v1), (("stand_told" : Str), v2)] := by
  simp only [putF, show ¬ ("eyes_told" : Str) = "stand_told" by decide +kernel, if_false]
theorem put3 (v1 v2 v3 : V) : putF "own_hand" v3 [(("eyes_told" : Str), v1), (("stand_told" : Str), v2)] = [(("eyes_told" : Str), v1), (("stand_told" : Str), v2), (("own_hand" : Str), v3)] := by
  simp only [putF, show ¬ ("eyes_told" : Str) = "own_hand" by decide +kernel, show ¬ ("stand_told" : Str) = "own_hand" by decide +kernel, if_false]
theorem put4 (v1 v2 v3 v4 : V) : putF "looked_at" v4 [(("eyes_told" : Str), v1), (("stand_told" : Str), v2), (("own_hand" : Str), v3)] = [(("eyes_told" : Str), v1), (("stand_told" : Str), v2), (("own_hand" : Str), v3), (("looked_at" : Str), v4)] := by
  simp only [putF, show ¬ ("eyes_told" : Str) = "looked_at" by decide +kernel, show ¬ ("stand_told" : Str) = "looked_at" by decide +kernel, show ¬ ("own_hand" : Str) = "looked_at" by decide +kernel, if_false]
theorem ok_init {P : Program} {w : World} {base : Heap} {f : Addr} {fd : FuncData} (F : Fun K "__init__" "Sight.__init__" s_init f fd) (T : SiT K mg C fI) : FnOk P w K mg base CX0 1 f fd ["self", "eyes", "stand", "hand", "other"] (spInit C) := by
  refine F.ok sc_init (fun vs H Q E h => ?_) (fun cdv A outer s H vs Q E hr h => ?_)
  · obtain ⟨p, dx, v1, v2, v4, h, rfl, _⟩ := h
    rfl
  · obtain ⟨p, dx, v1, v2, v4, h, rfl, hp, k⟩ := h
    refine ⟨_, pss_cons (ps_fld (pv 0) (pv 1) rfl) (pss_cons (ps_fld (pv 0) (pv 2) rfl) (pss_cons (ps_fld (pv 0) (pv 3) rfl) (pss_one (ps_fld (pv 0) (pv 4) rfl)))), ?_⟩
    refine ⟨_, rfl, _, rfl, p, C, dx, [], rfl, hp, T.cl, T.n1, (by show 0 < 1000; decide), _, rfl, _, rfl, p, C, dx, _, rfl, upd_same, T.cl, T.n2, (by show 1 < 1000; decide), ?_⟩
    rw [put1, upd_upd]
    refine ⟨_, rfl, _, rfl, p, C, dx, _, rfl, upd_same, T.cl, T.n3, (by rw [put2]; show 2 < 1000; decide), _, rfl, _, rfl, p, C, dx, _, rfl, upd_same, T.cl, T.n4, (by rw [put2, put3]; show 3 < 1000; decide), ?_⟩
    rw [put2, put3, put4, upd_upd, upd_upd]
    exact k _ (fun b o hb h => by rw [upd_ne hb]; exact h) upd_same
/-! ### Sight(..) -/
def EvSi (K : PySem.W.Frag) (C : Addr) (te : TE) (σ : L2.St) (H : Hp) (c : SC) : Prop := ∀ H1, Ex H H1 → ∀ Q : VK, (∀ p H2, H1 p = none → Ex H1 H2 → SiAt K C H2 p c → Q (.ref p) H2) → te σ H1 Q
theorem ev_make {ta : TA} {E : XK} (h : EvS K ta σ H [eyD c.ey, stD c.st, nD c.h, opD c.o]) : EvSi K C (tMake C (spInit C) [] E ta) σ H c := fun H1 e Q q =>
  h H1 e _ fun vs H2 e2 a x dx nx ndx nex => by
    obtain ⟨v1, r, rfl, a1, a⟩ := a.of_cons
    obtain ⟨v2, r, rfl, a2, a⟩ := a.of_cons
    obtain ⟨v3, r, rfl, a3, a⟩ := a.of_cons
    obtain ⟨v4, r, rfl, a4, a⟩ := a.of_cons
    obtain rfl := a.of_nil
    rw [a3.of_int]
    refine ⟨x, dx, v1, v2, v4, c.h, rfl, upd_same, fun H3 k1 k2 => ⟨rfl, ?_⟩⟩
    have e3 : Ex H2 H3 := fun b o hb => k1 b o (ne_of_none hb nx) (by rw [upd_ne (ne_of_none hb nx), upd_ne (ne_of_none hb ndx)]; exact hb)
    exact q x H3 (fresh_back e2 nx) (e2.trans e3) ⟨dx, v1, v2, v4, k2, a1.mono e3, a2.mono e3, a4.mono e3⟩
end
/-! ### methods -/
structure Mo (K : PySem.W.Frag) (C : Addr) (m qual : Str) (st : Stmt) (ps : List Str) : Prop where
  ex : ∃ f fd, Meth K C m f ∧ Binds K fd ps [] ∧ Fun K m qual st f fd
structure OkM (P : Program) (w : World) (K : PySem.W.Frag) (mg : Str → Option Value) (base : Heap) (C : Addr) (k : Nat) (m : Str) (ps : List Str) (sp : Sp) : Prop where
  ex : ∃ f fd, Meth K C m f ∧ Binds K fd ps [] ∧ FnOk P w K mg base CX0 k f fd ps sp
/-- self, data -/
def spS (K : PySem.W.Frag) (C : Addr) (R : SC → List Dt → Dt → Prop) : Sp := fun vs H Q _ => ∃ p us c ds d, vs = .ref p :: us ∧ SiAt K C H p c ∧ AtL K H us ds ∧ R c ds d ∧ ∀ v H', Ex H H' → At K H' v d → Q v H'
section
variable {P : Program} {w : World} {K : PySem.W.Frag} {mg : Str → Option Value} {base : Heap} {C fI : Addr} {k : Nat} {m qual : Str} {st : Stmt} {N ps : List Str}
theorem OkM.mono {sp : Sp} {j : Nat} (o : OkM P w K mg base C j m ps sp) (h : j ≤ k) : OkM P w K mg base C k m ps sp := by
  obtain ⟨f, fd, a, b, c⟩ := o.ex
  exact ⟨f, fd, a, b, c.mono h⟩
theorem OkM.imp {sp sp' : Sp} (o : OkM P w K mg base C k m ps sp) (h : ∀ vs H Q E, sp' vs H Q E → sp vs H Q E) : OkM P w K mg base C k m ps sp' := by
  obtain ⟨f, fd, a, b, c⟩ := o.ex
  exact ⟨f, fd, a, b, c.imp h⟩
theorem Mo.okS {R : SC → List Dt → Dt → Prop} (D : Mo K C m qual st ("self" :: ps)) (S : FnScope N ("self" :: ps) (defScope st)) (len : ∀ c ds d, R c ds d → ds.length = ps.length)
    (hb : ∀ (cdv : Value) (A : Around) (outer : List PySem.Env) (s : Shared) (H : Hp) (f : Addr) (p : Addr) (c : SC) (ds : List Dt) (d : Dt) (Q : VK) (E : XK), Room k (A.deeper (envOfC qual (defScope st) s.heap.objs.size f cdv)) → SiAt K C H p c → R c ds d → (∀ v H', Ex H H' → At K H' v d → Q v H') →
      ∃ t, PSs (cxOf CX0 P w K mg base N qual (defScope st) f cdv A outer s H E).nox (defBody st) t ∧ ∀ σ, Sg K H σ (.v (.ref p) :: (ds.map .d ++ List.replicate (N.length - (ds.length + 1)) .no)) → t { nx := fun _ H' => Q .non H', rt := Q } σ H) :
    OkM P w K mg base C (k + 1) m ("self" :: ps) (spS K C R) := by
  obtain ⟨f, fd, hm, b, F⟩ := D.ex
  refine ⟨f, fd, hm, b, F.ok S (fun vs H Q E h => ?_) (fun cdv A outer s H vs Q E hr h => ?_)⟩
  · obtain ⟨p, us, c, ds, d, rfl, _, l, hR, _⟩ := h
    show us.length + 1 = ps.length + 1
    rw [l.len, len c ds d hR]
  · obtain ⟨p, us, c, ds, d, rfl, si, l, hR, q⟩ := h
    obtain ⟨t, h1, h2⟩ := hb cdv A outer s H f p c ds d Q E hr si hR q
    refine ⟨t, h1, h2 _ ?_⟩
    have key : Sg K H (start N (.ref p :: us)) (.v (.ref p) :: (ds.map .d ++ List.replicate (N.length - (ds.length + 1)) .no)) := by
      have e1 : N.length - (ds.length + 1) = N.length - (V.ref p :: us).length := by
        show _ = N.length - (us.length + 1)
        rw [l.len]
      unfold L2.start
      rw [← e1, List.map_cons, List.cons_append]
      generalize N.length - (ds.length + 1) = n
      have go : ∀ {vs : List V} {ds : List Dt}, AtL K H vs ds → Sg K H (vs.map some ++ List.replicate n none) (ds.map .d ++ List.replicate n .no) := by
        intro vs
        induction vs with
        | nil => intro ds h; cases h; exact Sg.nones n
        | cons v vs ih => intro ds h; cases h with | cons h t => exact .d h (ih t)
      exact .v _ (go l)
    exact key
end
section
variable {X : Cx} {k : Nat} {ps : List Str} {sp : Sp} {m : Str} {apos pos : Pos} {o e : Expr} {es : List Expr} {ta : TE} {t : TA} {C : Addr}
theorem pe_okm {pl : Sem Bool} (he : PE X o ta) (c : Cls X.K C) (ok : OkM X.prog X.w X.K X.mg X.base C k m ps sp) (hr : Room k X.A) (ha : PA X (e :: es) t)
    (hst : starEach (e :: es) X.env = (false, eval e X.env) :: starEach es X.env := by rfl) (hpl : (backTo pos (starEach es X.env)).any (·.1) = false := by rfl)
    (ht : eval (.Call (.Attribute o m apos) (e :: es) [] pos) X.env = (do
      let ov ← eval o X.env
      standAt apos.atName
      let (f, first) ← holding [ov] (getMethod ov m pl)
      callWith pos f first (backTo pos (starEach (e :: es) X.env)) (backToKw pos (keywordEach [] X.env))) := by rfl) :
    PE X (.Call (.Attribute o m apos) (e :: es) [] pos) (tMeth C m sp [] E0 ta t) := by
  obtain ⟨f, fd, hm, hb, F⟩ := ok.ex
  exact pe_meth (pl := pl) he c hm F hr hb .nil pass0 ha hst hpl ht
theorem pe_okm0 {pl : Sem Bool} (he : PE X o ta) (c : Cls X.K C) (ok : OkM X.prog X.w X.K X.mg X.base C k m ps sp) (hr : Room k X.A)
    (ht : eval (.Call (.Attribute o m apos) [] [] pos) X.env = (do
      let ov ← eval o X.env
      standAt apos.atName
      let (f, first) ← holding [ov] (getMethod ov m pl)
      callWith pos f first (backTo pos (starEach [] X.env)) (backToKw pos (keywordEach [] X.env))) := by rfl) :
    PE X (.Call (.Attribute o m apos) [] [] pos) (tMeth C m sp [] E0 ta tNil) := by
  obtain ⟨f, fd, hm, hb, F⟩ := ok.ex
  exact pe_meth0 (pl := pl) he c hm F hr hb .nil pass0 ht
end
section
variable {K : PySem.W.Frag} {mg : Str → Option Value} {C fI : Addr} {σ : L2.St} {H : Hp} {l : List Sl} {p : Addr} {c : SC} {i : Nat} {E : XK}
/-- self.m(..) -/
theorem ed_meth {R : SC → List Dt → Dt → Prop} {m : Str} {ta : TA} {ds : List Dt} {d : Dt} (S : Sg K H σ l) (hi : l[i]? = some (.v (.ref p))) (A : SiAt K C H p c) (h : EvS K ta σ H ds) (hR : R c ds d)
    (k1 : (m == "eyes_told") = false := by decide +kernel) (k2 : (m == "stand_told") = false := by decide +kernel) (k3 : (m == "own_hand") = false := by decide +kernel) (k4 : (m == "looked_at") = false := by decide +kernel) :
    EvD K (tMeth C m (spS K C R) [] E (tVar i) ta) σ H d := fun H1 e Q q => by
  obtain ⟨dx, v1, v2, v4, h0, _⟩ := A.mono e
  refine ⟨_, S.val hi, p, dx, _, rfl, h0, lk0 _ _ _ _ k1 k2 k3 k4, h H1 e _ fun vs H2 e2 a => ?_⟩
  rw [List.append_nil]
  exact ⟨p, vs, c, ds, d, rfl, A.mono (e.trans e2), a, hR, fun v H3 e3 b => q v H3 (e2.trans e3) b⟩
end
/-! ### over_others -/
def spOver (K : PySem.W.Frag) (C : Addr) : Sp := fun vs H Q _ => ∃ p c, vs = [.ref p] ∧ SiAt K C H p c ∧ c.Ok ∧ ∀ q ws H', H q = none → Ex H H' → H' q = some (.lst ws) → Paired (SiW K C c H') ws (seen c.ey c.h) → Q (.ref q) H'
abbrev s_over : Stmt := inClass (top 6) 1
theorem sc_over : FnScope ["self", "found", "other"] ["self"] (defScope s_over) := ⟨rfl, rfl, rfl, by decide +kernel, rfl, by decide +kernel, by decide +kernel⟩
section
variable {P : Program} {w : World} {K : PySem.W.Frag} {mg : Str → Option Value} {base : Heap} {C fI : Addr}
theorem ok_over (D : Mo K C "over_others" "Sight.over_others" s_over ["self"]) (T : SiT K mg C fI) {fdI : FuncData} (FI : Fun K "__init__" "Sight.__init__" s_init fI fdI) (bI : Binds K fdI ["self", "eyes", "stand", "hand", "other"] []) :
    OkM P w K mg base C 3 "over_others" ["self"] (spOver K C) := by
  obtain ⟨f, fd, hm, b, F⟩ := D.ex
  have GI : FnOk P w K mg base CX0 1 fI fdI ["self", "eyes", "stand", "hand", "other"] (spInit C) := ok_init FI T
  refine ⟨f, fd, hm, b, F.ok sc_over (fun vs H Q E h => ?_) (fun cdv A outer s H vs Q E hr h => ?_)⟩
  · obtain ⟨p, c, rfl, _⟩ := h
    rfl
  · obtain ⟨p, c, rfl, si, ok, q⟩ := h
    refine ⟨_, pss_cons (ps_set (i := 1) sc_over.nd rfl (Or.inl rfl) (pe_lst pa_nil))
      (pss_cons (ps_for PassesOwn.never rfl (pi_tup (pe_ix ix_tup (pe_fld (pv 0) rfl) (pe_fld (pv 0) rfl) (fun _ _ => rfl))) (pg_name (i := 2) sc_over.nd rfl (Or.inl rfl))
        (pss_one (ps_expr (pe_bm PySem.F.plainAttrs_list PySem.F.slot_list_append PySem.F.type_list_append mt_append (pv 1) (pa_cons (pe_make T.mkk GI hr rfl T.mgC bI .nil pass0 (pa_cons (pe_fld (pv 0) rfl) (pa_cons (pe_fld (pv 0) rfl) (pa_cons (pe_fld (pv 0) rfl) (pa_cons (pv 2) pa_nil))))) pa_nil)))))
      (pss_one (ps_ret (pv 1)))), ?_⟩
    have S : Sg K H (start ["self", "found", "other"] [.ref p]) [.v (.ref p), .no, .no] := .v _ (.no _ (.no _ .nil))
    refine z_asgM S (em_lst es_nil) fun fa xs σ1 H1 hfa e1 hx1 ax1 S1 => ?_
    obtain rfl := ax1.of_nil
    have si1 := si.mono e1
    refine (ed_ixn (ed_f1 T S1 rfl si1) (ed_f3 T S1 rfl si1) (eyD_at ok.h)) H1 (Ex.refl _) _ fun v H2 e2 av => ?_
    obtain ⟨a, ys, rfl, hs, al⟩ := av.of_tup
    refine ⟨a, rfl, ⟨ys, hs⟩, for_tup (xs := ys) (fun i σ' H' => Sg K H' σ' [.v (.ref p), .v (.ref fa), .no] ∧ Ex H H' ∧ Ex H2 (upd H' fa (.lst [])) ∧ ∃ ws, H' fa = some (.lst ws) ∧ Paired (SiW K C c H') ws ((seen c.ey c.h).take i))
      ⟨S1.mono e2, e1.trans e2, fun b o h => ?_, [], e2 _ _ hx1, .nil⟩ (fun i σ' H' _ k => ?_) (fun i x σ' H' hi k => ?_) (fun σ' H' k => ?_)⟩
    · by_cases hb : b = fa
      · rw [hb] at h ⊢; rw [e2 _ _ hx1] at h; rw [upd_same]; exact h
      · rw [upd_ne hb]; exact h
    · obtain ⟨_, _, k3, _⟩ := k
      have t := ex_t (K := K) k3 hs
      rcases t with (t | ⟨o, t⟩) | t
      · by_cases hb : a = fa
        · rw [hb, upd_same] at t; cases t
        · rw [upd_ne hb] at t; exact .inl (.inl t)
      · by_cases hb : a = fa
        · rw [hb, upd_same] at t; cases t
        · rw [upd_ne hb] at t; exact .inl (.inr ⟨o, t⟩)
      · exact .inr t
    · obtain ⟨S', ex, k3, ws, hw, pw⟩ := k
      obtain ⟨d, hd, ad⟩ := al.at hi
      rw [List.getElem?_map] at hd
      cases eo : (seen c.ey c.h)[i]? with
      | none => rw [eo] at hd; cases hd
      | some o =>
        rw [eo] at hd
        have ed : nD o = d := Option.some.inj hd
        subst ed
        have ex0 := ad.of_int
        subst ex0
        have si' := si.mono ex
        have S2 : Sg K H' (σ'.set 2 (some (.int (o : Int)))) [.v (.ref p), .v (.ref fa), .d (nD o)] := S'.setD (.int _) 2
        have hl : ws.length ≤ 100 := by
          rw [Paired.length pw, List.length_take]
          have := ok.few c.h
          omega
        refine ⟨_, S2.val (i := 1) rfl, .inl ⟨rfl, _, sq_of hw⟩, ?_⟩
        refine ev_make (c := { c with o := some o }) (es_cons (ed_f1 (c := c) T S2 rfl si') (es_cons (ed_f2 (c := c) T S2 rfl si') (es_cons (ed_f3 (c := c) T S2 rfl si') (es_one (ed_var S2 rfl))))) H' (Ex.refl _) _ fun x H3 hx3 e3 si3 => ?_
        refine ⟨fa, ws, .ref x, rfl, rfl, e3 _ _ hw, sz_lt (by omega), ?_⟩
        have tk : TKp K H3 (upd H3 fa (.lst (ws ++ [V.ref x]))) := .exF (f := fa) (e3 _ _ hw) fun b o hb h => by rw [upd_ne hb]; exact h
        have eF : ExF fa H3 (upd H3 fa (.lst (ws ++ [V.ref x]))) := fun b o hb h => by rw [upd_ne hb]; exact h
        refine ⟨((S2.mono e3).tk tk).less rfl (fun i => ?_), (ex.trans e3).mut hfa, fun b o h => ?_, _, upd_same, ?_⟩
        · match i with
          | 0 => rfl
          | 1 => rfl
          | 2 => trivial
          | n + 3 => trivial
        · have h' := k3 b o h
          by_cases hb : b = fa
          · rw [hb, upd_same] at h' ⊢; exact h'
          · rw [upd_ne hb, upd_ne hb]; rw [upd_ne hb] at h'; exact e3 _ _ h'
        · rw [filter_take_more eo]
          exact paired_snoc (SiW.monoF (e3 _ _ hw) eF ⟨x, rfl, si3⟩) (paired_map (fun _ _ z => SiW.monoF (e3 _ _ hw) eF (z.mono e3)) pw)
    · obtain ⟨S', ex, _, ws, hw, pw⟩ := k
      have ll : ys.length = (seen c.ey c.h).length := by rw [al.len, List.length_map]
      rw [ll, List.take_length] at pw
      exact ⟨_, S'.val (i := 1) rfl, q fa ws H' hfa ex hw pw⟩
theorem ew_over {σ : L2.St} {H : Hp} {l : List Sl} {p : Addr} {c : SC} {i : Nat} {E : XK} (S : Sg K H σ l) (hi : l[i]? = some (.v (.ref p))) (A : SiAt K C H p c) (ok : c.Ok) :
    EvW (SiW K C c) (tMeth C "over_others" (spOver K C) [] E (tVar i) tNil) σ H (seen c.ey c.h) := fun H1 e Q q => by
  obtain ⟨dx, v1, v2, v4, h0, _⟩ := A.mono e
  exact ⟨_, S.val hi, p, dx, _, rfl, h0, lk0 _ _ _ _ (by decide +kernel) (by decide +kernel) (by decide +kernel) (by decide +kernel), p, c, rfl, A.mono e, ok, fun a ws H2 ha e2 hw pw => q a ws H2 ha e2 hw pw⟩
end
end K9
end
section
set_option maxHeartbeats 4000000
/-! K9S2: the sight's methods: what a term says, whether a claim is so. -/
namespace K9
open PySem PySem.Spec PyProof.Rows L2 Evl K9M
section
variable {K : PySem.W.Frag} {σ : L2.St} {H H' : Hp} {ta tb te tx : TE} {d : Dt} {D : Ends} {tu tw tz : TS} {l : List Sl}
theorem z_skS {i : Nat} {w lit : Str} (S : Sg K H σ l) (hi : l[i]? = some (.d (.str w))) (hn : (decide (w = lit)) = false) (k : tz D σ H) : tSeq (tIfS (tTest (tOp rEq (tVar i) (tC (.str lit)))) tu tNext) tz D σ H := by
  obtain ⟨v, h1, h2⟩ := S.get hi
  have e := h2.of_str
  subst e
  refine ⟨_, h1, rfl, _, rfl, ?_⟩
  have hne : ¬ w = lit := of_decide_eq_false hn
  have hd : decide (V.str w = V.str lit) = false := decide_eq_false fun z => hne (V.str.inj z)
  rw [hd]
  exact k
theorem z_hitS {i : Nat} {w lit : Str} (S : Sg K H σ l) (hi : l[i]? = some (.d (.str w))) (hn : (decide (w = lit)) = true) (k : tu { D with nx := tz D } σ H) : tSeq (tIfS (tTest (tOp rEq (tVar i) (tC (.str lit)))) tu tNext) tz D σ H := by
  obtain ⟨v, h1, h2⟩ := S.get hi
  have e := h2.of_str
  subst e
  refine ⟨_, h1, rfl, _, rfl, ?_⟩
  have hd : decide (V.str w = V.str lit) = true := decide_eq_true (by rw [of_decide_eq_true hn])
  rw [hd]
  exact k
theorem ed_minD {g : Int → List Int → Int} {ns : List Int} {x : Int} (ha : EvM K ta σ H (ns.map .int)) : EvD K (tCKw (rMinD K g) (tCons ta tNil) (tCons (tC (.int x)) tNil)) σ H (.int (g x ns)) := fun H1 e Q q =>
  ha H1 e _ fun p xs H2 hp e2 hx al => ⟨p, ns, x, rfl, rfl, sq_of (by rw [hx, al.ints]), q _ H2 e2 (.int _)⟩
theorem ed_lenW {α : Type} {W : Hp → V → α → Prop} {xs : List α} (ha : EvW W ta σ H xs) : EvD K (tCB (rLn K) (tCons ta tNil)) σ H (.int (xs.length : Int)) := fun H1 e Q q =>
  ha H1 e _ fun p vs H2 hp e2 hx l => by
    refine ⟨p, vs, rfl, .inl (sq_of hx), ?_⟩
    rw [Paired.length l]
    exact q _ H2 e2 (.int _)
end
theorem minI_nat (xs : List Nat) : minI 0 (xs.map fun n : Nat => (n : Int)) = ((minL xs : Nat) : Int) := by
  cases xs with
  | nil => rfl
  | cons x xs =>
    show (xs.map fun n : Nat => (n : Int)).foldl min (x : Int) = ((xs.foldl min x : Nat) : Int)
    induction xs generalizing x with
    | nil => rfl
    | cons y xs ih =>
      rw [List.map_cons, List.foldl_cons, List.foldl_cons, ← ih]
      congr 1
      omega
theorem maxI_nat (xs : List Nat) : maxI 0 (xs.map fun n : Nat => (n : Int)) = ((maxL xs : Nat) : Int) := by
  cases xs with
  | nil => rfl
  | cons x xs =>
    show (xs.map fun n : Nat => (n : Int)).foldl max (x : Int) = ((xs.foldl max (max 0 x) : Nat) : Int)
    rw [Nat.zero_max]
    induction xs generalizing x with
    | nil => rfl
    | cons y xs ih =>
      rw [List.map_cons, List.foldl_cons, List.foldl_cons, ← ih]
      congr 1
      omega
theorem deep_pos {b : Bool} (e : E b) : 1 ≤ deep e := by cases e <;> simp [deep]
/-! ### what the methods promise -/
def isPl : {b : Bool} → E b → Bool
  | _, .num _ => true
  | _, .own => true
  | _, .me => true
  | _, .its => true
  | _, .it => true
  | _, _ => false
def isRk : {b : Bool} → E b → Bool
  | _, .plus _ _ => true
  | _, .less _ _ => true
  | _, .rest _ _ => true
  | _, .ite _ _ _ => true
  | _, _ => false
def RPl : SC → List Dt → Dt → Prop := fun c ds d => c.Ok ∧ ∃ e : E true, isPl e = true ∧ okL c.o.isSome e = true ∧ ds = [encE e] ∧ d = nD (val c.ey c.st c.h e (c.o.getD 0))
def REy : SC → List Dt → Dt → Prop := fun c ds d => c.Ok ∧ ∃ k : Nat, ds = [nD k, nD 0] ∧ d = nD (val c.ey c.st c.h (.eye k : E true) 0)
def RNm (n : Nat) : SC → List Dt → Dt → Prop := fun c ds d => c.Ok ∧ ∃ e : E true, deep e ≤ n ∧ okL c.o.isSome e = true ∧ rng e = true ∧ ds = [encE e] ∧ d = nD (val c.ey c.st c.h e (c.o.getD 0))
def RSo (n : Nat) : SC → List Dt → Dt → Prop := fun c ds d => c.Ok ∧ ∃ e : E false, deep e ≤ n ∧ okL c.o.isSome e = true ∧ rng e = true ∧ ds = [encE e] ∧ d = .bl (hol c.ey c.st c.h e (c.o.getD 0))
def RRk (n : Nat) : SC → List Dt → Dt → Prop := fun c ds d => c.Ok ∧ ∃ e : E true, isRk e = true ∧ deep e ≤ n ∧ okL c.o.isSome e = true ∧ rng e = true ∧ ds = [encE e] ∧ d = nD (val c.ey c.st c.h e (c.o.getD 0))
abbrev s_Sight_plain : Stmt := inClass (top 6) 2
theorem sc_Sight_plain : FnScope ["self", "term", "word"] ["self", "term"] (defScope s_Sight_plain) := ⟨rfl, rfl, rfl, by decide +kernel, rfl, by decide +kernel, by decide +kernel⟩
abbrev s_Sight_by_eye : Stmt := inClass (top 6) 3
theorem sc_Sight_by_eye : FnScope ["self", "place", "box", "seen"] ["self", "place", "box"] (defScope s_Sight_by_eye) := ⟨rfl, rfl, rfl, by decide +kernel, rfl, by decide +kernel, by decide +kernel⟩
abbrev s_Sight_reckoned : Stmt := inClass (top 6) 4
theorem sc_Sight_reckoned : FnScope ["self", "term", "word"] ["self", "term"] (defScope s_Sight_reckoned) := ⟨rfl, rfl, rfl, by decide +kernel, rfl, by decide +kernel, by decide +kernel⟩
abbrev s_Sight_number_at : Stmt := inClass (top 6) 5
theorem sc_Sight_number_at : FnScope ["self", "term", "word", "one"] ["self", "term"] (defScope s_Sight_number_at) := ⟨rfl, rfl, rfl, by decide +kernel, rfl, by decide +kernel, by decide +kernel⟩
abbrev s_Sight_is_so : Stmt := inClass (top 6) 6
theorem sc_Sight_is_so : FnScope ["self", "claim", "word"] ["self", "claim"] (defScope s_Sight_is_so) := ⟨rfl, rfl, rfl, by decide +kernel, rfl, by decide +kernel, by decide +kernel⟩
section
variable {P : Program} {w : World} {K : PySem.W.Frag} {mg : Str → Option Value} {base : Heap} {C fI : Addr}
theorem stD_get {c : SC} (ok : c.Ok) {h : Nat} (k : h < c.ey.length) : (c.st.map boxD)[h]? = some (boxD (c.st.getD h 0)) := stD_at (by rw [ok.st]; exact k)
theorem ok_plain (D : Mo K C "plain" "Sight.plain" s_Sight_plain ["self", "term"]) (T : SiT K mg C fI) : OkM P w K mg base C 1 "plain" ["self", "term"] (spS K C RPl) := by
  refine D.okS sc_Sight_plain (fun c ds d h => ?_) (fun cdv A outer s H f p c ds d Q E hr si h q => ?_)
  · obtain ⟨_, e, _, _, rfl, _⟩ := h
    rfl
  · obtain ⟨ok, e, hp, hl, rfl, rfl⟩ := h
    refine ⟨_, (pss_cons (ps_set (i := 2) sc_Sight_plain.nd rfl (Or.inl rfl) (pe_ix ix_tup (pv 1) pe_int (fun _ _ => rfl)))
    (pss_cons (ps_if (pt_cmpR op_eq (pv 2) pe_str (nomark _)) (pss_one (ps_ret (pe_ix ix_tup (pv 1) pe_int (fun _ _ => rfl)))) pss_nil)
    (pss_cons (ps_if (pt_cmpR op_eq (pv 2) pe_str (nomark _)) (pss_one (ps_ret (pe_ix ix_tup (pe_ix ix_tup (pe_fld (pv 0) rfl) (pe_fld (pv 0) rfl) (fun _ _ => rfl)) (pe_ix ix_tup (pv 1) pe_int (fun _ _ => rfl)) (fun _ _ => rfl)))) pss_nil)
    (pss_cons (ps_if (pt_cmpR op_eq (pv 2) pe_str (nomark _)) (pss_one (ps_ret (pe_fld (pv 0) rfl))) pss_nil)
    (pss_cons (ps_if (pt_cmpR op_eq (pv 2) pe_str (nomark _)) (pss_one (ps_ret (pe_ix ix_tup (pe_ix ix_tup (pe_fld (pv 0) rfl) (pe_fld (pv 0) rfl) (fun _ _ => rfl)) (pe_ix ix_tup (pv 1) pe_int (fun _ _ => rfl)) (fun _ _ => rfl)))) pss_nil)
    (pss_cons (ps_if (pt_cmpR op_eq (pv 2) pe_str (nomark _)) (pss_one (ps_ret (pe_fld (pv 0) rfl))) pss_nil)
    (pss_one (ps_ret pe_non)))))))), fun σ S => ?_⟩
    cases e with
    | num k =>
      refine z_asg S (ed_ixc (j := 0) (ed_var S rfl) rfl) fun σ1 H1 e1 S1 => ?_
      refine z_hitS S1 rfl (by decide +kernel) ?_
      exact y_ret (ed_ixc (j := 1) (ed_var S1 rfl) rfl) fun v H2 e2 a => q v H2 (e1.trans e2) a
    | own =>
      refine z_asg S (ed_ixc (j := 0) (ed_var S rfl) rfl) fun σ1 H1 e1 S1 => ?_
      refine z_skS S1 rfl (by decide +kernel) ?_
      refine z_hitS S1 rfl (by decide +kernel) ?_
      exact y_ret (ed_ixn (ed_ixn (ed_f2 T S1 rfl (si.mono e1)) (ed_f3 T S1 rfl (si.mono e1)) (stD_get ok ok.h)) (ed_ixc (j := 1) (ed_var S1 rfl) rfl) rfl) fun v H2 e2 a => q v H2 (e1.trans e2) a
    | me =>
      refine z_asg S (ed_ixc (j := 0) (ed_var S rfl) rfl) fun σ1 H1 e1 S1 => ?_
      refine z_skS S1 rfl (by decide +kernel) ?_
      refine z_skS S1 rfl (by decide +kernel) ?_
      refine z_hitS S1 rfl (by decide +kernel) ?_
      exact y_ret (ed_f3 T S1 rfl (si.mono e1)) fun v H2 e2 a => q v H2 (e1.trans e2) a
    | its =>
      cases eo : c.o with
      | none => rw [eo] at hl; cases hl
      | some o =>
        rw [eo] at q
        refine z_asg S (ed_ixc (j := 0) (ed_var S rfl) rfl) fun σ1 H1 e1 S1 => ?_
        refine z_skS S1 rfl (by decide +kernel) ?_
        refine z_skS S1 rfl (by decide +kernel) ?_
        refine z_skS S1 rfl (by decide +kernel) ?_
        refine z_hitS S1 rfl (by decide +kernel) ?_
        exact y_ret (ed_ixn (ed_ixn (ed_f2 T S1 rfl (si.mono e1)) ((ed_f4 T S1 rfl (si.mono e1)).is (by rw [eo] <;> rfl)) (stD_get ok (ok.o o eo))) (ed_ixc (j := 1) (ed_var S1 rfl) rfl) rfl) fun v H2 e2 a => q v H2 (e1.trans e2) a
    | it =>
      cases eo : c.o with
      | none => rw [eo] at hl; cases hl
      | some o =>
        rw [eo] at q
        refine z_asg S (ed_ixc (j := 0) (ed_var S rfl) rfl) fun σ1 H1 e1 S1 => ?_
        refine z_skS S1 rfl (by decide +kernel) ?_
        refine z_skS S1 rfl (by decide +kernel) ?_
        refine z_skS S1 rfl (by decide +kernel) ?_
        refine z_skS S1 rfl (by decide +kernel) ?_
        refine z_hitS S1 rfl (by decide +kernel) ?_
        exact y_ret ((ed_f4 T S1 rfl (si.mono e1)).is (by rw [eo] <;> rfl)) fun v H2 e2 a => q v H2 (e1.trans e2) a
    | _ => cases hp
theorem ok_by_eye (D : Mo K C "by_eye" "Sight.by_eye" s_Sight_by_eye ["self", "place", "box"]) (T : SiT K mg C fI) (B : Bi mg) : OkM P w K mg base C 1 "by_eye" ["self", "place", "box"] (spS K C REy) := by
  refine D.okS sc_Sight_by_eye (fun c ds d h => ?_) (fun cdv A outer s H f p c ds d Q E hr si h q => ?_)
  · obtain ⟨_, e, rfl, _⟩ := h
    rfl
  · obtain ⟨ok, k, rfl, rfl⟩ := h
    refine ⟨_, (pss_cons (ps_set (i := 3) sc_Sight_by_eye.nd rfl (Or.inl rfl) (pe_ix ix_tup (pe_fld (pv 0) rfl) (pe_fld (pv 0) rfl) (fun _ _ => rfl)))
    (pss_cons (ps_if (pt_cmpR op_ge (pv 1) (pe_callB call_len_seq rfl B.len (by decide +kernel) (pa_cons (pv 3) pa_nil)) (nomark _)) (pss_one (ps_ret pe_int)) pss_nil)
    (pss_one (ps_ret (pe_ix ix_tup (pe_ix ix_tup (pe_fld (pv 0) rfl) (pe_ix ix_tup (pv 3) (pv 1) (fun _ _ => rfl)) (fun _ _ => rfl)) (pv 2) (fun _ _ => rfl)))))), fun σ S => ?_⟩
    refine z_asg S (ed_ixn (ed_f1 T S rfl si) (ed_f3 T S rfl si) (eyD_at ok.h)) fun σ1 H1 e1 S1 => ?_
    have hlen : ((seen c.ey c.h).map nD).length = (seen c.ey c.h).length := List.length_map _
    refine z_when (et_d (ed_IB (ed_var S1 rfl) (ed_len (ed_var S1 rfl)))) (fun hb H2 e2 => ?_) fun hb H2 e2 => ?_
    · have hk : ¬ k < (seen c.ey c.h).length := by
        have z := of_decide_eq_true hb
        rw [hlen] at z
        omega
      refine y_ret (K := K) ed_cI fun v H3 e3 a => q v H3 ((e1.trans e2).trans e3) ?_
      show At K H3 v (nD (if k < (seen c.ey c.h).length then _ else 0))
      rw [if_neg hk]
      exact a
    · have hk : k < (seen c.ey c.h).length := by
        have z := of_decide_eq_false hb
        rw [hlen] at z
        omega
      have hm : (seen c.ey c.h).getD k 0 ∈ seen c.ey c.h := by
        rw [List.getD_eq_getElem?_getD, List.getElem?_eq_getElem hk]
        exact List.getElem_mem hk
      have S2 := S1.mono e2
      refine y_ret (ed_ixn (ed_ixn (ed_f2 T S2 rfl (si.mono (e1.trans e2))) (ed_ixn (ed_var S2 rfl) (ed_var S2 rfl) (rowD_at hk)) (stD_get ok (ok.lt _ _ hm))) (ed_var S2 rfl) rfl) fun v H3 e3 a => q v H3 ((e1.trans e2).trans e3) ?_
      show At K H3 v (nD (if k < (seen c.ey c.h).length then _ else 0))
      rw [if_pos hk]
      exact a
/-- one part of a term, as the argument of a method -/
theorem es_part {σ : L2.St} {H : Hp} {l : List Sl} {ds : List Dt} {d : Dt} {i : Nat} (j : Nat) (S : Sg K H σ l) (hi : l[i]? = some (.d (.tup ds))) (hd : ds[j]? = some d) : EvS K (tCons (tOp (rIxT K) (tVar i) (tC (.int (j : Int)))) tNil) σ H [d] :=
  es_one (ed_ixc (ed_var S hi) hd)
theorem ok_reckoned {n : Nat} (D : Mo K C "reckoned" "Sight.reckoned" s_Sight_reckoned ["self", "term"]) (T : SiT K mg C fI) (B : Bi mg)
    (O_number_at : OkM P w K mg base C (2 * n + 4) "number_at" ["self", "term"] (spS K C (RNm n))) (O_is_so : OkM P w K mg base C (2 * n + 4) "is_so" ["self", "claim"] (spS K C (RSo n))) :
    OkM P w K mg base C (2 * n + 5) "reckoned" ["self", "term"] (spS K C (RRk (n + 1))) := by
  refine D.okS sc_Sight_reckoned (fun c ds d h => ?_) (fun cdv A outer s H f p c ds d Q E hr si h q => ?_)
  · obtain ⟨_, e, _, _, _, _, rfl, _⟩ := h
    rfl
  · obtain ⟨ok, e, hp, hd, hl, hg, rfl, rfl⟩ := h
    refine ⟨_, (pss_cons (ps_set (i := 2) sc_Sight_reckoned.nd rfl (Or.inl rfl) (pe_ix ix_tup (pv 1) pe_int (fun _ _ => rfl)))
    (pss_cons (ps_if (pt_cmpR op_eq (pv 2) pe_str (nomark _)) (pss_one (ps_ret (pe_op op_add (pe_okm (pv 0) T.cl O_number_at hr (pa_cons (pe_ix ix_tup (pv 1) pe_int (fun _ _ => rfl)) pa_nil)) (pe_okm (pv 0) T.cl O_number_at hr (pa_cons (pe_ix ix_tup (pv 1) pe_int (fun _ _ => rfl)) pa_nil))))) pss_nil)
    (pss_cons (ps_if (pt_cmpR op_eq (pv 2) pe_str (nomark _)) (pss_one (ps_ret (pe_callB (call_max2 rfl) rfl B.max (by decide +kernel) (pa_cons pe_int (pa_cons (pe_op op_sub (pe_okm (pv 0) T.cl O_number_at hr (pa_cons (pe_ix ix_tup (pv 1) pe_int (fun _ _ => rfl)) pa_nil)) (pe_okm (pv 0) T.cl O_number_at hr (pa_cons (pe_ix ix_tup (pv 1) pe_int (fun _ _ => rfl)) pa_nil))) pa_nil))))) pss_nil)
    (pss_cons (ps_if (pt_cmpR op_eq (pv 2) pe_str (nomark _)) (pss_one (ps_ret (pe_op op_mod (pe_okm (pv 0) T.cl O_number_at hr (pa_cons (pe_ix ix_tup (pv 1) pe_int (fun _ _ => rfl)) pa_nil)) (pe_ix ix_tup (pv 1) pe_int (fun _ _ => rfl))))) pss_nil)
    (pss_cons (ps_if (pt_val (pe_okm (pv 0) T.cl O_is_so hr (pa_cons (pe_ix ix_tup (pv 1) pe_int (fun _ _ => rfl)) pa_nil))) (pss_one (ps_ret (pe_okm (pv 0) T.cl O_number_at hr (pa_cons (pe_ix ix_tup (pv 1) pe_int (fun _ _ => rfl)) pa_nil)))) pss_nil)
    (pss_one (ps_ret (pe_okm (pv 0) T.cl O_number_at hr (pa_cons (pe_ix ix_tup (pv 1) pe_int (fun _ _ => rfl)) pa_nil))))))))), fun σ S => ?_⟩
    cases e with
    | plus a b =>
      simp only [deep, okL, rng, Bool.and_eq_true] at hd hl hg
      refine z_asg S (ed_ixc (j := 0) (ed_var S rfl) rfl) fun σ1 H1 e1 S1 => ?_
      refine z_hitS S1 rfl (by decide +kernel) ?_
      refine y_ret ((ed_II (ed_meth S1 rfl (si.mono e1) (es_part 1 S1 rfl rfl) ⟨ok, a, by omega, hl.1, hg.1, rfl, rfl⟩) (ed_meth S1 rfl (si.mono e1) (es_part 2 S1 rfl rfl) ⟨ok, b, by omega, hl.2, hg.2, rfl, rfl⟩)).is ?_) fun v H2 e2 a => q v H2 (e1.trans e2) a
      exact congrArg Dt.int (Int.natCast_add _ _).symm
    | less a b =>
      simp only [deep, okL, rng, Bool.and_eq_true] at hd hl hg
      refine z_asg S (ed_ixc (j := 0) (ed_var S rfl) rfl) fun σ1 H1 e1 S1 => ?_
      refine z_skS S1 rfl (by decide +kernel) ?_
      refine z_hitS S1 rfl (by decide +kernel) ?_
      refine y_ret ((ed_max2 ed_cI (ed_II (ed_meth S1 rfl (si.mono e1) (es_part 1 S1 rfl rfl) ⟨ok, a, by omega, hl.1, hg.1, rfl, rfl⟩) (ed_meth S1 rfl (si.mono e1) (es_part 2 S1 rfl rfl) ⟨ok, b, by omega, hl.2, hg.2, rfl, rfl⟩))).is ?_) fun v H2 e2 a => q v H2 (e1.trans e2) a
      refine congrArg Dt.int ?_
      show max 0 (((val c.ey c.st c.h a (c.o.getD 0) : Nat) : Int) - ((val c.ey c.st c.h b (c.o.getD 0) : Nat) : Int)) = ((val c.ey c.st c.h a (c.o.getD 0) - val c.ey c.st c.h b (c.o.getD 0) : Nat) : Int)
      omega
    | rest a k =>
      simp only [deep, okL, rng, Bool.and_eq_true] at hd hl hg
      have hk := of_decide_eq_true hg.1.2
      refine z_asg S (ed_ixc (j := 0) (ed_var S rfl) rfl) fun σ1 H1 e1 S1 => ?_
      refine z_skS S1 rfl (by decide +kernel) ?_
      refine z_skS S1 rfl (by decide +kernel) ?_
      refine z_hitS S1 rfl (by decide +kernel) ?_
      refine y_ret ((ed_IC (ed_meth S1 rfl (si.mono e1) (es_part 1 S1 rfl rfl) ⟨ok, a, by omega, hl, hg.1.1, rfl, rfl⟩) (ed_ixc (j := 2) (ed_var S1 rfl) rfl) ?_).is ?_) fun v H2 e2 a => q v H2 (e1.trans e2) a
      · show (0 : Int) < (k : Int)
        omega
      · exact congrArg Dt.int (Int.natCast_emod _ _).symm
    | ite a0 b b' =>
      simp only [deep, okL, rng, Bool.and_eq_true] at hd hl hg
      refine z_asg S (ed_ixc (j := 0) (ed_var S rfl) rfl) fun σ1 H1 e1 S1 => ?_
      refine z_skS S1 rfl (by decide +kernel) ?_
      refine z_skS S1 rfl (by decide +kernel) ?_
      refine z_skS S1 rfl (by decide +kernel) ?_
      refine z_when (et_b (ed_meth S1 rfl (si.mono e1) (es_part 1 S1 rfl rfl) ⟨ok, a0, by omega, hl.1.1, hg.1.1, rfl, rfl⟩)) (fun hb H2 e2 => ?_) fun hb H2 e2 => ?_
      · have S2 := S1.mono e2
        refine y_ret (ed_meth S2 rfl (si.mono (e1.trans e2)) (es_part 2 S2 rfl rfl) ⟨ok, b, by omega, hl.1.2, hg.1.2, rfl, rfl⟩) fun v H3 e3 a => q v H3 ((e1.trans e2).trans e3) ?_
        show At K H3 v (nD (if _ then _ else _))
        rw [if_pos hb]
        exact a
      · have S2 := S1.mono e2
        refine y_ret (ed_meth S2 rfl (si.mono (e1.trans e2)) (es_part 3 S2 rfl rfl) ⟨ok, b', by omega, hl.2, hg.2, rfl, rfl⟩) fun v H3 e3 a => q v H3 ((e1.trans e2).trans e3) ?_
        show At K H3 v (nD (if _ then _ else _))
        rw [if_neg (by
          have hb' : (val c.ey c.st c.h a0 (c.o.getD 0) != 0) = false := hb
          rw [hb']
          decide)]
        exact a
    | _ => cases hp
theorem ok_is_so {n : Nat} (D : Mo K C "is_so" "Sight.is_so" s_Sight_is_so ["self", "claim"]) (T : SiT K mg C fI) (B : Bi mg)
    (O_number_at : OkM P w K mg base C (2 * n + 5) "number_at" ["self", "term"] (spS K C (RNm n))) (O_is_so : OkM P w K mg base C (2 * n + 5) "is_so" ["self", "claim"] (spS K C (RSo n))) :
    OkM P w K mg base C (2 * n + 6) "is_so" ["self", "claim"] (spS K C (RSo (n + 1))) := by
  refine D.okS sc_Sight_is_so (fun c ds d h => ?_) (fun cdv A outer s H f p c ds d Q E hr si h q => ?_)
  · obtain ⟨_, e, _, _, _, rfl, _⟩ := h
    rfl
  · obtain ⟨ok, e, hd, hl, hg, rfl, rfl⟩ := h
    refine ⟨_, (pss_cons (ps_set (i := 2) sc_Sight_is_so.nd rfl (Or.inl rfl) (pe_ix ix_tup (pv 1) pe_int (fun _ _ => rfl)))
    (pss_cons (ps_if (pt_cmpR op_eq (pv 2) pe_str (nomark _)) (pss_one (ps_ret pe_bl)) pss_nil)
    (pss_cons (ps_if (pt_cmpR op_eq (pv 2) pe_str (nomark _)) (pss_one (ps_ret (pe_cmpR op_eq (pe_okm (pv 0) T.cl O_number_at hr (pa_cons (pe_ix ix_tup (pv 1) pe_int (fun _ _ => rfl)) pa_nil)) (pe_okm (pv 0) T.cl O_number_at hr (pa_cons (pe_ix ix_tup (pv 1) pe_int (fun _ _ => rfl)) pa_nil)) (nomark _)))) pss_nil)
    (pss_cons (ps_if (pt_cmpR op_eq (pv 2) pe_str (nomark _)) (pss_one (ps_ret (pe_cmpR op_lt (pe_okm (pv 0) T.cl O_number_at hr (pa_cons (pe_ix ix_tup (pv 1) pe_int (fun _ _ => rfl)) pa_nil)) (pe_okm (pv 0) T.cl O_number_at hr (pa_cons (pe_ix ix_tup (pv 1) pe_int (fun _ _ => rfl)) pa_nil)) (nomark _)))) pss_nil)
    (pss_cons (ps_if (pt_cmpR op_eq (pv 2) pe_str (nomark _)) (pss_one (ps_ret (pe_not (pe_okm (pv 0) T.cl O_is_so hr (pa_cons (pe_ix ix_tup (pv 1) pe_int (fun _ _ => rfl)) pa_nil))))) pss_nil)
    (pss_cons (ps_if (pt_cmpR op_eq (pv 2) pe_str (nomark _)) (pss_one (ps_ret (pe_and (pe_okm (pv 0) T.cl O_is_so hr (pa_cons (pe_ix ix_tup (pv 1) pe_int (fun _ _ => rfl)) pa_nil)) (pe_one (pe_okm (pv 0) T.cl O_is_so hr (pa_cons (pe_ix ix_tup (pv 1) pe_int (fun _ _ => rfl)) pa_nil)))))) pss_nil)
    (pss_one (ps_ret (pe_or (pe_okm (pv 0) T.cl O_is_so hr (pa_cons (pe_ix ix_tup (pv 1) pe_int (fun _ _ => rfl)) pa_nil)) (pe_one (pe_okm (pv 0) T.cl O_is_so hr (pa_cons (pe_ix ix_tup (pv 1) pe_int (fun _ _ => rfl)) pa_nil)))))))))))), fun σ S => ?_⟩
    cases e with
    | yes =>
      refine z_asg S (ed_ixc (j := 0) (ed_var S rfl) rfl) fun σ1 H1 e1 S1 => ?_
      refine z_hitS S1 rfl (by decide +kernel) ?_
      exact y_ret (K := K) ed_cB fun v H2 e2 a => q v H2 (e1.trans e2) a
    | like a b =>
      simp only [deep, okL, rng, Bool.and_eq_true] at hd hl hg
      refine z_asg S (ed_ixc (j := 0) (ed_var S rfl) rfl) fun σ1 H1 e1 S1 => ?_
      refine z_skS S1 rfl (by decide +kernel) ?_
      refine z_hitS S1 rfl (by decide +kernel) ?_
      refine y_ret ((ed_eqI (ed_meth S1 rfl (si.mono e1) (es_part 1 S1 rfl rfl) ⟨ok, a, by omega, hl.1, hg.1, rfl, rfl⟩) (ed_meth S1 rfl (si.mono e1) (es_part 2 S1 rfl rfl) ⟨ok, b, by omega, hl.2, hg.2, rfl, rfl⟩)).is ?_) fun v H2 e2 a => q v H2 (e1.trans e2) a
      refine congrArg Dt.bl ?_
      show _ = (b2n _ != 0)
      rw [b2n_eq]
      exact decide_eq_decide.mpr ⟨fun z => by omega, fun z => by omega⟩
    | blw a b =>
      simp only [deep, okL, rng, Bool.and_eq_true] at hd hl hg
      refine z_asg S (ed_ixc (j := 0) (ed_var S rfl) rfl) fun σ1 H1 e1 S1 => ?_
      refine z_skS S1 rfl (by decide +kernel) ?_
      refine z_skS S1 rfl (by decide +kernel) ?_
      refine z_hitS S1 rfl (by decide +kernel) ?_
      refine y_ret ((ed_IB (ed_meth S1 rfl (si.mono e1) (es_part 1 S1 rfl rfl) ⟨ok, a, by omega, hl.1, hg.1, rfl, rfl⟩) (ed_meth S1 rfl (si.mono e1) (es_part 2 S1 rfl rfl) ⟨ok, b, by omega, hl.2, hg.2, rfl, rfl⟩)).is ?_) fun v H2 e2 a => q v H2 (e1.trans e2) a
      refine congrArg Dt.bl ?_
      show _ = (b2n _ != 0)
      rw [b2n_eq]
      exact decide_eq_decide.mpr ⟨fun z => by omega, fun z => by omega⟩
    | not a =>
      simp only [deep, okL, rng] at hd hl hg
      refine z_asg S (ed_ixc (j := 0) (ed_var S rfl) rfl) fun σ1 H1 e1 S1 => ?_
      refine z_skS S1 rfl (by decide +kernel) ?_
      refine z_skS S1 rfl (by decide +kernel) ?_
      refine z_skS S1 rfl (by decide +kernel) ?_
      refine z_hitS S1 rfl (by decide +kernel) ?_
      refine y_ret ((ed_not (ed_meth S1 rfl (si.mono e1) (es_part 1 S1 rfl rfl) ⟨ok, a, by omega, hl, hg, rfl, rfl⟩)).is ?_) fun v H2 e2 a => q v H2 (e1.trans e2) a
      exact congrArg Dt.bl b2n_eq.symm
    | and a b =>
      simp only [deep, okL, rng, Bool.and_eq_true] at hd hl hg
      refine z_asg S (ed_ixc (j := 0) (ed_var S rfl) rfl) fun σ1 H1 e1 S1 => ?_
      refine z_skS S1 rfl (by decide +kernel) ?_
      refine z_skS S1 rfl (by decide +kernel) ?_
      refine z_skS S1 rfl (by decide +kernel) ?_
      refine z_skS S1 rfl (by decide +kernel) ?_
      refine z_hitS S1 rfl (by decide +kernel) ?_
      refine y_ret ((ed_and (ed_meth S1 rfl (si.mono e1) (es_part 1 S1 rfl rfl) ⟨ok, a, by omega, hl.1, hg.1, rfl, rfl⟩) fun _ => ed_meth S1 rfl (si.mono e1) (es_part 2 S1 rfl rfl) ⟨ok, b, by omega, hl.2, hg.2, rfl, rfl⟩).is ?_) fun v H2 e2 a => q v H2 (e1.trans e2) a
      exact congrArg Dt.bl b2n_eq.symm
    | or a b =>
      simp only [deep, okL, rng, Bool.and_eq_true] at hd hl hg
      refine z_asg S (ed_ixc (j := 0) (ed_var S rfl) rfl) fun σ1 H1 e1 S1 => ?_
      refine z_skS S1 rfl (by decide +kernel) ?_
      refine z_skS S1 rfl (by decide +kernel) ?_
      refine z_skS S1 rfl (by decide +kernel) ?_
      refine z_skS S1 rfl (by decide +kernel) ?_
      refine z_skS S1 rfl (by decide +kernel) ?_
      refine y_ret ((ed_or (ed_meth S1 rfl (si.mono e1) (es_part 1 S1 rfl rfl) ⟨ok, a, by omega, hl.1, hg.1, rfl, rfl⟩) fun _ => ed_meth S1 rfl (si.mono e1) (es_part 2 S1 rfl rfl) ⟨ok, b, by omega, hl.2, hg.2, rfl, rfl⟩).is ?_) fun v H2 e2 a => q v H2 (e1.trans e2) a
      exact congrArg Dt.bl b2n_eq.symm
theorem SC.Ok.look {c : SC} (ok : c.Ok) {o : Nat} (h : o ∈ seen c.ey c.h) : SC.Ok { c with o := some o } :=
  ⟨ok.h, ok.st, ok.lt, fun n e => by cases e; exact ok.lt _ _ h, ok.few, ok.sm⟩
theorem ok_number_at {n : Nat} (D : Mo K C "number_at" "Sight.number_at" s_Sight_number_at ["self", "term"]) (T : SiT K mg C fI) (B : Bi mg)
    (O_plain : OkM P w K mg base C (2 * n + 5) "plain" ["self", "term"] (spS K C RPl)) (O_by_eye : OkM P w K mg base C (2 * n + 5) "by_eye" ["self", "place", "box"] (spS K C REy)) (O_over_others : OkM P w K mg base C (2 * n + 5) "over_others" ["self"] (spOver K C))
    (O_reckoned : OkM P w K mg base C (2 * n + 5) "reckoned" ["self", "term"] (spS K C (RRk (n + 1))))
    (O_number_at : OkM P w K mg base C (2 * n + 5) "number_at" ["self", "term"] (spS K C (RNm n))) (O_is_so : OkM P w K mg base C (2 * n + 5) "is_so" ["self", "claim"] (spS K C (RSo n))) :
    OkM P w K mg base C (2 * n + 6) "number_at" ["self", "term"] (spS K C (RNm (n + 1))) := by
  refine D.okS sc_Sight_number_at (fun c ds d h => ?_) (fun cdv A outer s H f p c ds d Q E hr si h q => ?_)
  · obtain ⟨_, e, _, _, _, rfl, _⟩ := h
    rfl
  · obtain ⟨ok, e, hd, hl, hg, rfl, rfl⟩ := h
    have hu := hr.units
    refine ⟨_, (pss_cons (ps_set (i := 2) sc_Sight_number_at.nd rfl (Or.inl rfl) (pe_ix ix_tup (pv 1) pe_int (fun _ _ => rfl)))
    (pss_cons (ps_if (pt_cmpR op_in_seq (pv 2) (pe_tup (pa_cons pe_str (pa_cons pe_str (pa_cons pe_str (pa_cons pe_str (pa_cons pe_str pa_nil)))))) (by rfl)) (pss_one (ps_ret (pe_okm (pv 0) T.cl O_plain hr (pa_cons (pv 1) pa_nil)))) pss_nil)
    (pss_cons (ps_if (pt_cmpR op_eq (pv 2) pe_str (nomark _)) (pss_one (ps_ret (pe_okm (pv 0) T.cl O_by_eye hr (pa_cons (pe_ix ix_tup (pv 1) pe_int (fun _ _ => rfl)) (pa_cons (pe_ix ix_tup (pv 1) pe_int (fun _ _ => rfl)) pa_nil))))) pss_nil)
    (pss_cons (ps_if (pt_cmpR op_eq (pv 2) pe_str (nomark _)) (pss_one (ps_ret ((pe_callBK (cr_minD rfl hu) rfl B.min (by decide +kernel) (pa_cons (pe_lc (own := [("one", 3)]) (g := gName 3) (tt := tYes) rfl sc_Sight_number_at.nd (pi_list (pe_okm0 (pv 0) T.cl O_over_others hr)) (blkOk_by (N := ["self", "term", "word", "one"]) (sc := defScope s_Sight_number_at) (by decide +kernel)) (fun _ _ _ _ _ => (pg_name (i := 3) sc_Sight_number_at.nd rfl (Or.inl rfl))) (fun _ _ _ _ _ => pts_nil) (fun _ _ _ _ _ => (pe_okm (pv 3) T.cl O_number_at hr (pa_cons (pe_ix (show IxR _ (rIxT K) from ix_tup) (pv 1) pe_int (fun _ _ => rfl)) pa_nil)))) pa_nil) (pk_cons pe_int pk_nil))))) pss_nil)
    (pss_cons (ps_if (pt_cmpR op_eq (pv 2) pe_str (nomark _)) (pss_one (ps_ret ((pe_callBK (cr_maxD rfl hu) rfl B.max (by decide +kernel) (pa_cons (pe_lc (own := [("one", 3)]) (g := gName 3) (tt := tYes) rfl sc_Sight_number_at.nd (pi_list (pe_okm0 (pv 0) T.cl O_over_others hr)) (blkOk_by (N := ["self", "term", "word", "one"]) (sc := defScope s_Sight_number_at) (by decide +kernel)) (fun _ _ _ _ _ => (pg_name (i := 3) sc_Sight_number_at.nd rfl (Or.inl rfl))) (fun _ _ _ _ _ => pts_nil) (fun _ _ _ _ _ => (pe_okm (pv 3) T.cl O_number_at hr (pa_cons (pe_ix (show IxR _ (rIxT K) from ix_tup) (pv 1) pe_int (fun _ _ => rfl)) pa_nil)))) pa_nil) (pk_cons pe_int pk_nil))))) pss_nil)
    (pss_cons (ps_if (pt_cmpR op_eq (pv 2) pe_str (nomark _)) (pss_one (ps_ret (pe_callB call_len_seq rfl B.len (by decide +kernel) (pa_cons (pe_lc (own := [("one", 3)]) (g := gName 3) rfl sc_Sight_number_at.nd (pi_list (pe_okm0 (pv 0) T.cl O_over_others hr)) (blkOk_by (N := ["self", "term", "word", "one"]) (sc := defScope s_Sight_number_at) (by decide +kernel)) (fun _ _ _ _ _ => (pg_name (i := 3) sc_Sight_number_at.nd rfl (Or.inl rfl))) (fun _ _ _ _ _ => (pts_one (pt_val (pe_okm (pv 3) T.cl O_is_so hr (pa_cons (pe_ix (show IxR _ (rIxT K) from ix_tup) (pv 1) pe_int (fun _ _ => rfl)) pa_nil))))) (fun _ _ _ _ _ => (pv 3))) pa_nil)))) pss_nil)
    (pss_one (ps_ret (pe_okm (pv 0) T.cl O_reckoned hr (pa_cons (pv 1) pa_nil)))))))))), fun σ S => ?_⟩
    have hin : ∀ {wd : Str} {σ1 : L2.St} {H1 : Hp} {l : List Sl}, Sg K H1 σ1 l → l[2]? = some (.d (.str wd)) → EvT (tTest (tOp (rIn K false) (tVar 2) (tTup (tCons (tC (.str "num")) (tCons (tC (.str "own")) (tCons (tC (.str "me")) (tCons (tC (.str "its")) (tCons (tC (.str "it")) tNil)))))))) σ1 H1 ((["num", "own", "me", "its", "it"] : List Str).any fun z => z == wd) :=
      fun {wd σ1 H1 l} S1 hi => et_d (ed_inS (neg := false) (ss := ["num", "own", "me", "its", "it"]) (ed_var S1 hi) (ed_tup (es_cons ed_cS (es_cons ed_cS (es_cons ed_cS (es_cons ed_cS (es_one ed_cS)))))))
    have lk : ∀ {σ1 : L2.St} {H1 : Hp} {l : List Sl} {p' : Addr} {o : Nat} {v : V} {ds : List Dt} {d : Dt}, Sg K H1 σ1 l → l[1]? = some (.d (.tup ds)) → ds[1]? = some d → SiW K C c H1 v o → 3 < l.length → Sg K H1 ((wipe σ1 [3]).set 3 (some v)) ((wipeS l [3]).set 3 (.v v)) := fun {σ1 H1 l p' o v ds d} S1 _ _ _ _ => (S1.wipe [3]).setV v 3
    cases e with
    | num k =>
      refine z_asg S (ed_ixc (j := 0) (ed_var S rfl) rfl) fun σ1 H1 e1 S1 => ?_
      refine z_ifT (hin S1 rfl) fun H2 e2 => ?_
      have S2 := S1.mono e2
      exact y_ret (ed_meth S2 rfl (si.mono (e1.trans e2)) (es_one (ed_var S2 rfl)) ⟨ok, .num k, rfl, hl, rfl, rfl⟩) fun v H3 e3 a => q v H3 ((e1.trans e2).trans e3) a
    | own =>
      refine z_asg S (ed_ixc (j := 0) (ed_var S rfl) rfl) fun σ1 H1 e1 S1 => ?_
      refine z_ifT (hin S1 rfl) fun H2 e2 => ?_
      have S2 := S1.mono e2
      exact y_ret (ed_meth S2 rfl (si.mono (e1.trans e2)) (es_one (ed_var S2 rfl)) ⟨ok, .own, rfl, hl, rfl, rfl⟩) fun v H3 e3 a => q v H3 ((e1.trans e2).trans e3) a
    | me =>
      refine z_asg S (ed_ixc (j := 0) (ed_var S rfl) rfl) fun σ1 H1 e1 S1 => ?_
      refine z_ifT (hin S1 rfl) fun H2 e2 => ?_
      have S2 := S1.mono e2
      exact y_ret (ed_meth S2 rfl (si.mono (e1.trans e2)) (es_one (ed_var S2 rfl)) ⟨ok, .me, rfl, hl, rfl, rfl⟩) fun v H3 e3 a => q v H3 ((e1.trans e2).trans e3) a
    | its =>
      refine z_asg S (ed_ixc (j := 0) (ed_var S rfl) rfl) fun σ1 H1 e1 S1 => ?_
      refine z_ifT (hin S1 rfl) fun H2 e2 => ?_
      have S2 := S1.mono e2
      exact y_ret (ed_meth S2 rfl (si.mono (e1.trans e2)) (es_one (ed_var S2 rfl)) ⟨ok, .its, rfl, hl, rfl, rfl⟩) fun v H3 e3 a => q v H3 ((e1.trans e2).trans e3) a
    | it =>
      refine z_asg S (ed_ixc (j := 0) (ed_var S rfl) rfl) fun σ1 H1 e1 S1 => ?_
      refine z_ifT (hin S1 rfl) fun H2 e2 => ?_
      have S2 := S1.mono e2
      exact y_ret (ed_meth S2 rfl (si.mono (e1.trans e2)) (es_one (ed_var S2 rfl)) ⟨ok, .it, rfl, hl, rfl, rfl⟩) fun v H3 e3 a => q v H3 ((e1.trans e2).trans e3) a
    | eye k =>
      refine z_asg S (ed_ixc (j := 0) (ed_var S rfl) rfl) fun σ1 H1 e1 S1 => ?_
      refine z_no (hin S1 rfl) fun H2 e2 => ?_
      have S2 := S1.mono e2
      refine z_hitS S2 rfl (by decide +kernel) ?_
      exact y_ret (ed_meth S2 rfl (si.mono (e1.trans e2)) (es_cons (ed_ixc (j := 1) (ed_var S2 rfl) rfl) (es_part 2 S2 rfl rfl)) ⟨ok, k, rfl, rfl⟩) fun v H3 e3 a => q v H3 ((e1.trans e2).trans e3) a
    | least a =>
      simp only [deep, okL, rng, Bool.and_eq_true] at hd hl hg
      refine z_asg S (ed_ixc (j := 0) (ed_var S rfl) rfl) fun σ1 H1 e1 S1 => ?_
      refine z_no (hin S1 rfl) fun H2 e2 => ?_
      have S2 := S1.mono e2
      refine z_skS S2 rfl (by decide +kernel) ?_
      refine z_hitS S2 rfl (by decide +kernel) ?_
      refine y_ret ((ed_minD (ns := (seen c.ey c.h).map fun o => ((val c.ey c.st c.h a o : Nat) : Int)) ((em_lcW (W := SiW K C c) (fun e w => w.mono e) (seen c.ey c.h) (fun _ => true) (fun o => nD (val c.ey c.st c.h a o)) (ew_over S2 rfl (si.mono (e1.trans e2)) ok) (Nat.le_trans (ok.few _) (by decide)) fun o v H3 ho e3 w => ⟨et_yes, fun _ => ?_⟩).is ?_)).is ?_) fun v H3 e3 a => q v H3 ((e1.trans e2).trans e3) a
      · obtain ⟨p', rfl, si'⟩ := w
        have S3 := ((S2.mono e3).wipe [3]).setV (.ref p') 3
        exact ed_meth S3 rfl si' (es_part 1 S3 rfl rfl) ⟨ok.look ho, a, by omega, hl.2, hg, rfl, rfl⟩
      · rw [filter_yes, List.map_map]
        rfl
      · refine congrArg Dt.int ?_
        have e0 := minI_nat ((seen c.ey c.h).map fun o => val c.ey c.st c.h a o)
        rw [List.map_map] at e0
        exact e0
    | most a =>
      simp only [deep, okL, rng, Bool.and_eq_true] at hd hl hg
      refine z_asg S (ed_ixc (j := 0) (ed_var S rfl) rfl) fun σ1 H1 e1 S1 => ?_
      refine z_no (hin S1 rfl) fun H2 e2 => ?_
      have S2 := S1.mono e2
      refine z_skS S2 rfl (by decide +kernel) ?_
      refine z_skS S2 rfl (by decide +kernel) ?_
      refine z_hitS S2 rfl (by decide +kernel) ?_
      refine y_ret ((ed_minD (ns := (seen c.ey c.h).map fun o => ((val c.ey c.st c.h a o : Nat) : Int)) ((em_lcW (W := SiW K C c) (fun e w => w.mono e) (seen c.ey c.h) (fun _ => true) (fun o => nD (val c.ey c.st c.h a o)) (ew_over S2 rfl (si.mono (e1.trans e2)) ok) (Nat.le_trans (ok.few _) (by decide)) fun o v H3 ho e3 w => ⟨et_yes, fun _ => ?_⟩).is ?_)).is ?_) fun v H3 e3 a => q v H3 ((e1.trans e2).trans e3) a
      · obtain ⟨p', rfl, si'⟩ := w
        have S3 := ((S2.mono e3).wipe [3]).setV (.ref p') 3
        exact ed_meth S3 rfl si' (es_part 1 S3 rfl rfl) ⟨ok.look ho, a, by omega, hl.2, hg, rfl, rfl⟩
      · rw [filter_yes, List.map_map]
        rfl
      · refine congrArg Dt.int ?_
        have e0 := maxI_nat ((seen c.ey c.h).map fun o => val c.ey c.st c.h a o)
        rw [List.map_map] at e0
        exact e0
    | many a =>
      simp only [deep, okL, rng, Bool.and_eq_true] at hd hl hg
      refine z_asg S (ed_ixc (j := 0) (ed_var S rfl) rfl) fun σ1 H1 e1 S1 => ?_
      refine z_no (hin S1 rfl) fun H2 e2 => ?_
      have S2 := S1.mono e2
      refine z_skS S2 rfl (by decide +kernel) ?_
      refine z_skS S2 rfl (by decide +kernel) ?_
      refine z_skS S2 rfl (by decide +kernel) ?_
      refine z_hitS S2 rfl (by decide +kernel) ?_
      refine y_ret (ed_lenW (ew_lcW (W := SiW K C c) (fun hd e w => w.monoF hd e) (fun e w => w.mono e) (seen c.ey c.h) (fun o => hol c.ey c.st c.h a o) (ew_over S2 rfl (si.mono (e1.trans e2)) ok) (Nat.le_trans (ok.few _) (by decide)) fun o v H3 ho e3 w => ?_)) fun v H3 e3 a => q v H3 ((e1.trans e2).trans e3) a
      obtain ⟨p', rfl, si'⟩ := w
      have S3 := ((S2.mono e3).wipe [3]).setV (.ref p') 3
      exact ⟨et_b (ed_meth S3 rfl si' (es_part 1 S3 rfl rfl) ⟨ok.look ho, a, by omega, hl.2, hg, rfl, rfl⟩), ev_varV S3 rfl⟩
    | _ =>
      refine z_asg S (ed_ixc (j := 0) (ed_var S rfl) rfl) fun σ1 H1 e1 S1 => ?_
      refine z_no (hin S1 rfl) fun H2 e2 => ?_
      have S2 := S1.mono e2
      refine z_skS S2 rfl (by decide +kernel) ?_
      refine z_skS S2 rfl (by decide +kernel) ?_
      refine z_skS S2 rfl (by decide +kernel) ?_
      refine z_skS S2 rfl (by decide +kernel) ?_
      exact y_ret (ed_meth S2 rfl (si.mono (e1.trans e2)) (es_one (ed_var S2 rfl)) ⟨ok, _, rfl, hd, hl, hg, rfl, rfl⟩) fun v H3 e3 a => q v H3 ((e1.trans e2).trans e3) a
/-- the methods of the class -/
structure SiM (K : PySem.W.Frag) (C : Addr) (fI : Addr) : Prop where
  ini : ∃ fd, Fun K "__init__" "Sight.__init__" s_init fI fd ∧ Binds K fd ["self", "eyes", "stand", "hand", "other"] []
  over : Mo K C "over_others" "Sight.over_others" s_over ["self"]
  plain : Mo K C "plain" "Sight.plain" s_Sight_plain ["self", "term"]
  by_eye : Mo K C "by_eye" "Sight.by_eye" s_Sight_by_eye ["self", "place", "box"]
  reckoned : Mo K C "reckoned" "Sight.reckoned" s_Sight_reckoned ["self", "term"]
  number_at : Mo K C "number_at" "Sight.number_at" s_Sight_number_at ["self", "term"]
  is_so : Mo K C "is_so" "Sight.is_so" s_Sight_is_so ["self", "claim"]
theorem ok_sight (D : SiM K C fI) (T : SiT K mg C fI) (B : Bi mg) : ∀ n : Nat, OkM P w K mg base C (2 * n + 4) "number_at" ["self", "term"] (spS K C (RNm n)) ∧ OkM P w K mg base C (2 * n + 4) "is_so" ["self", "claim"] (spS K C (RSo n))
  | 0 => by
    have h1 : ∀ c ds d, ¬ RNm 0 c ds d := fun c ds d h => by
      obtain ⟨_, e, h, _⟩ := h
      have := deep_pos e
      omega
    have h2 : ∀ c ds d, ¬ RSo 0 c ds d := fun c ds d h => by
      obtain ⟨_, e, h, _⟩ := h
      have := deep_pos e
      omega
    refine ⟨D.number_at.okS sc_Sight_number_at (fun c ds d h => absurd h (h1 c ds d)) fun cdv A outer s H f p c ds d Q E hr si h q => absurd h (h1 c ds d), D.is_so.okS sc_Sight_is_so (fun c ds d h => absurd h (h2 c ds d)) fun cdv A outer s H f p c ds d Q E hr si h q => absurd h (h2 c ds d)⟩
  | n + 1 => by
    obtain ⟨i1, i2⟩ := ok_sight D T B n
    obtain ⟨fd, F, b⟩ := D.ini
    have r := ok_reckoned D.reckoned T B i1 i2
    have i1' := i1.mono (k := 2 * n + 5) (by omega)
    have i2' := i2.mono (k := 2 * n + 5) (by omega)
    exact ⟨ok_number_at D.number_at T B ((ok_plain D.plain T).mono (by omega)) ((ok_by_eye D.by_eye T B).mono (by omega)) ((ok_over D.over T F b).mono (by omega)) r i1' i2', ok_is_so D.is_so T B i1' i2'⟩
end
/-! ### value_at, holds_at, value_by -/
abbrev s_value_at : Stmt := top 7
theorem sc_value_at : FnScope ["eyes", "stand", "hand", "term"] ["eyes", "stand", "hand", "term"] (defScope s_value_at) := ⟨rfl, rfl, rfl, by decide +kernel, rfl, by decide +kernel, by decide +kernel⟩
abbrev s_holds_at : Stmt := top 8
theorem sc_holds_at : FnScope ["eyes", "stand", "hand", "claim"] ["eyes", "stand", "hand", "claim"] (defScope s_holds_at) := ⟨rfl, rfl, rfl, by decide +kernel, rfl, by decide +kernel, by decide +kernel⟩
abbrev s_value_by : Stmt := top 9
theorem sc_value_by : FnScope ["eyes", "stand", "hand", "other", "inner"] ["eyes", "stand", "hand", "other", "inner"] (defScope s_value_by) := ⟨rfl, rfl, rfl, by decide +kernel, rfl, by decide +kernel, by decide +kernel⟩
/-- deepest a term may be -/
abbrev DP : Nat := 12
def RVal (K : PySem.W.Frag) : List Dt → Dt → Prop := fun ds d => ∃ (ey : List (List Nat)) (st : List Nat) (h : Nat) (e : E true), SC.Ok ⟨ey, st, h, none⟩ ∧ deep e ≤ DP ∧ okL false e = true ∧ rng e = true ∧ ds = [eyD ey, stD st, nD h, encE e] ∧ d = nD (val ey st h e 0)
def RHol (K : PySem.W.Frag) : List Dt → Dt → Prop := fun ds d => ∃ (ey : List (List Nat)) (st : List Nat) (h : Nat) (e : E false), SC.Ok ⟨ey, st, h, none⟩ ∧ deep e ≤ DP ∧ okL false e = true ∧ rng e = true ∧ ds = [eyD ey, stD st, nD h, encE e] ∧ d = .bl (hol ey st h e 0)
def RVby (K : PySem.W.Frag) : List Dt → Dt → Prop := fun ds d => ∃ (ey : List (List Nat)) (st : List Nat) (h o : Nat) (e : E true), SC.Ok ⟨ey, st, h, some o⟩ ∧ deep e ≤ DP ∧ okL true e = true ∧ rng e = true ∧ ds = [eyD ey, stD st, nD h, nD o, encE e] ∧ d = nD (val ey st h e o)
section
variable {P : Program} {w : World} {K : PySem.W.Frag} {mg : Str → Option Value} {base : Heap} {C fI : Addr}
theorem ed_mkm {R : SC → List Dt → Dt → Prop} {m : Str} {σ : L2.St} {H : Hp} {tm : TE} {ta : TA} {c : SC} {ds : List Dt} {d : Dt} {E : XK} (hm : EvSi K C tm σ H c) (h : EvS K ta σ H ds) (hR : R c ds d)
    (k1 : (m == "eyes_told") = false := by decide +kernel) (k2 : (m == "stand_told") = false := by decide +kernel) (k3 : (m == "own_hand") = false := by decide +kernel) (k4 : (m == "looked_at") = false := by decide +kernel) :
    EvD K (tMeth C m (spS K C R) [] E tm ta) σ H d := fun H1 e Q q => hm H1 e _ fun p H2 hp e2 si => by
  obtain ⟨dx, v1, v2, v4, h0, h1⟩ := si
  refine ⟨p, dx, _, rfl, h0, lk0 _ _ _ _ k1 k2 k3 k4, h H2 (e.trans e2) _ fun vs H3 e3 a => ?_⟩
  rw [List.append_nil]
  exact ⟨p, vs, c, ds, d, rfl, SiAt.mono e3 ⟨dx, v1, v2, v4, h0, h1⟩, a, hR, fun v H4 e4 b => q v H4 ((e2.trans e3).trans e4) b⟩
theorem ok_value_at (D : Df K mg "value_at" s_value_at ["eyes", "stand", "hand", "term"]) (M : SiM K C fI) (T : SiT K mg C fI) (B : Bi mg) : Ok P w K mg base CX0 29 "value_at" ["eyes", "stand", "hand", "term"] (spF K (RVal K)) := by
  obtain ⟨fdI, FI, bI⟩ := M.ini
  have GI : FnOk P w K mg base CX0 27 fI fdI ["self", "eyes", "stand", "hand", "other"] (spInit C) := (ok_init FI T).mono (by decide)
  have O_number_at : OkM P w K mg base C 28 "number_at" ["self", "term"] (spS K C (RNm DP)) := (ok_sight M T B DP).1
  refine D.okF sc_value_at (fun ds d h => ?_) fun cdv A outer s H f ds d Q E hr h q => ?_
  · obtain ⟨ey, st, h, e, _, _, _, _, rfl, _⟩ := h
    rfl
  · obtain ⟨ey, st, h, e, ok, h1, h2, h3, rfl, rfl⟩ := h
    refine ⟨_, (pss_one (ps_ret (pe_okm (pe_make T.mkk GI hr rfl T.mgC bI .nil pass0 (pa_cons (pv 0) (pa_cons (pv 1) (pa_cons (pv 2) (pa_cons pe_non pa_nil))))) T.cl O_number_at hr (pa_cons (pv 3) pa_nil)))), fun σ S => ?_⟩
    exact y_ret (ed_mkm (ev_make (c := ⟨ey, st, h, none⟩) (es_cons (ed_var S rfl) (es_cons (ed_var S rfl) (es_cons (ed_var S rfl) (es_one ed_cN))))) (es_one (ed_var S rfl)) ⟨ok, e, h1, h2, h3, rfl, rfl⟩) q
theorem ok_holds_at (D : Df K mg "holds_at" s_holds_at ["eyes", "stand", "hand", "claim"]) (M : SiM K C fI) (T : SiT K mg C fI) (B : Bi mg) : Ok P w K mg base CX0 29 "holds_at" ["eyes", "stand", "hand", "claim"] (spF K (RHol K)) := by
  obtain ⟨fdI, FI, bI⟩ := M.ini
  have GI : FnOk P w K mg base CX0 27 fI fdI ["self", "eyes", "stand", "hand", "other"] (spInit C) := (ok_init FI T).mono (by decide)
  have O_is_so : OkM P w K mg base C 28 "is_so" ["self", "claim"] (spS K C (RSo DP)) := (ok_sight M T B DP).2
  refine D.okF sc_holds_at (fun ds d h => ?_) fun cdv A outer s H f ds d Q E hr h q => ?_
  · obtain ⟨ey, st, h, e, _, _, _, _, rfl, _⟩ := h
    rfl
  · obtain ⟨ey, st, h, e, ok, h1, h2, h3, rfl, rfl⟩ := h
    refine ⟨_, (pss_one (ps_ret (pe_okm (pe_make T.mkk GI hr rfl T.mgC bI .nil pass0 (pa_cons (pv 0) (pa_cons (pv 1) (pa_cons (pv 2) (pa_cons pe_non pa_nil))))) T.cl O_is_so hr (pa_cons (pv 3) pa_nil)))), fun σ S => ?_⟩
    exact y_ret (ed_mkm (ev_make (c := ⟨ey, st, h, none⟩) (es_cons (ed_var S rfl) (es_cons (ed_var S rfl) (es_cons (ed_var S rfl) (es_one ed_cN))))) (es_one (ed_var S rfl)) ⟨ok, e, h1, h2, h3, rfl, rfl⟩) q
theorem ok_value_by (D : Df K mg "value_by" s_value_by ["eyes", "stand", "hand", "other", "inner"]) (M : SiM K C fI) (T : SiT K mg C fI) (B : Bi mg) : Ok P w K mg base CX0 29 "value_by" ["eyes", "stand", "hand", "other", "inner"] (spF K (RVby K)) := by
  obtain ⟨fdI, FI, bI⟩ := M.ini
  have GI : FnOk P w K mg base CX0 27 fI fdI ["self", "eyes", "stand", "hand", "other"] (spInit C) := (ok_init FI T).mono (by decide)
  have O_number_at : OkM P w K mg base C 28 "number_at" ["self", "term"] (spS K C (RNm DP)) := (ok_sight M T B DP).1
  refine D.okF sc_value_by (fun ds d h => ?_) fun cdv A outer s H f ds d Q E hr h q => ?_
  · obtain ⟨ey, st, h, o, e, _, _, _, _, rfl, _⟩ := h
    rfl
  · obtain ⟨ey, st, h, o, e, ok, h1, h2, h3, rfl, rfl⟩ := h
    refine ⟨_, (pss_one (ps_ret (pe_okm (pe_make T.mkk GI hr rfl T.mgC bI .nil pass0 (pa_cons (pv 0) (pa_cons (pv 1) (pa_cons (pv 2) (pa_cons (pv 3) pa_nil))))) T.cl O_number_at hr (pa_cons (pv 4) pa_nil)))), fun σ S => ?_⟩
    exact y_ret (ed_mkm (ev_make (c := ⟨ey, st, h, some o⟩) (es_cons (ed_var S rfl) (es_cons (ed_var S rfl) (es_cons (ed_var S rfl) (es_one (ed_var S rfl)))))) (es_one (ed_var S rfl)) ⟨ok, e, h1, h2, h3, rfl, rfl⟩) q
end
end K9
end
section
set_option maxHeartbeats 4000000
/-! K9L: loops and further rules over data. -/
namespace K9
open PySem PySem.Spec PyProof.Rows L2 Evl K9M RZ
theorem TKp.refl {K : PySem.W.Frag} {H : Hp} : TKp K H H := fun _ _ h => h
theorem ExF.trans {f : Addr} {H H1 H2 : Hp} (a : ExF f H H1) (b : ExF f H1 H2) : ExF f H H2 := fun x o n h => b x o n (a x o n h)
theorem ExF.ex {f : Addr} {H H1 : Hp} (a : Ex H H1) : ExF f H H1 := fun x o n h => a x o h
theorem ExF.upd (f : Addr) (H : Hp) (o : HO) : ExF f H (upd H f o) := fun x u n h => by rw [upd_ne n]; exact h
theorem Ex.exF {f : Addr} {H0 H H1 : Hp} (e : Ex H0 H) (n : H0 f = none) (a : ExF f H H1) : Ex H0 H1 := fun b o h => a b o (ne_of_none h n) (e b o h)
section
variable {K : PySem.W.Frag} {σ : L2.St} {H H' : Hp} {ta tb te tl tx : TE} {t : TT} {d : Dt} {ds : List Dt} {D : Ends} {tw tz : TS} {g : TG} {l : List Sl}
/-! ### for loops -/
theorem tf_tup {α : Type} {enc : α → Dt} (xs : List α) (h : EvD K tl σ H (.tup (xs.map enc))) (Pv : Nat → L2.St → Hp → Prop) (h0 : ∀ H1, Ex H H1 → Pv 0 σ H1)
    (hs : ∀ i a x σ' H', xs[i]? = some a → Pv i σ' H' → At K H' x (enc a) → ∀ N : L2.St → Hp → Prop, (∀ σ3 H3, TKp K H' H3 → Pv (i + 1) σ3 H3 → N σ3 H3) → g x σ' H' fun σ2 H2 => tw { D with nx := N, ct := N, bk := D.nx } σ2 H2)
    (hd : ∀ σ' H', Pv xs.length σ' H' → D.nx σ' H') : tFor (iTup K tl) g tw D σ H := h H (Ex.refl H) _ fun v H1 e1 a => by
  obtain ⟨p, vs, rfl, hs', l⟩ := a.of_tup
  refine ⟨p, rfl, ⟨vs, hs'⟩, for_tup (xs := vs) (fun i σ' H' => TKp K H1 H' ∧ Pv i σ' H') ⟨fun _ _ h => h, h0 H1 e1⟩ (fun i σ' H' _ k => k.1 _ _ hs') (fun i x σ' H' hi k => ?_) fun σ' H' k => ?_⟩
  · obtain ⟨d, hd, ad⟩ := l.at hi
    rw [List.getElem?_map] at hd
    cases ea : xs[i]? with
    | none => rw [ea] at hd; cases hd
    | some a =>
      rw [ea] at hd
      have ed : enc a = d := Option.some.inj hd
      rw [← ed] at ad
      exact hs i a x σ' H' ea k.2 (ad.tk k.1) _ fun σ3 H3 t p => ⟨k.1.trans t, p⟩
  · rw [l.len, List.length_map] at k
    exact hd σ' H' k.2
/-- over range(n) -/
theorem tf_range {ta : TA} {n : Nat} (h : EvS K ta σ H [.int (n : Int)]) (hn : n ≤ 100000) (Pv : Nat → L2.St → Hp → Prop) (h0 : ∀ H1, Ex H H1 → Pv 0 σ H1)
    (hs : ∀ i σ' H', i < n → Pv i σ' H' → g (.int (i : Int)) σ' H' fun σ2 H2 => tw { D with nx := Pv (i + 1), ct := Pv (i + 1), bk := D.nx } σ2 H2)
    (hd : ∀ σ' H', Pv n σ' H' → D.nx σ' H') : tFor (iRng1 ta) g tw D σ H := h H (Ex.refl H) _ fun ws H1 e1 al => by
  obtain ⟨v, r, rfl, a1, a2⟩ := al.of_cons
  rw [a1.of_int, a2.of_nil]
  refine ⟨(n : Int), rfl, by omega, by omega, for_range (lo := 0) (n := (n : Int).toNat) Pv (h0 H1 e1) (fun i σ' H' hi k => ?_) fun σ' H' k => hd σ' H' k⟩
  have e0 : (0 : Int) + (i : Int) = (i : Int) := Int.zero_add _
  rw [e0]
  exact hs i σ' H' hi k
/-- over a list that stands -/
theorem tf_list {p : Addr} {vs : List V} (h : Ev tl σ H (.ref p)) (Pv : Nat → L2.St → Hp → Prop) (h0 : ∀ H1, Ex H H1 → Pv 0 σ H1) (hl : ∀ i σ' H', i ≤ vs.length → Pv i σ' H' → SqL K H' p vs)
    (hs : ∀ i x σ' H', vs[i]? = some x → Pv i σ' H' → g x σ' H' fun σ2 H2 => tw { D with nx := Pv (i + 1), ct := Pv (i + 1), bk := D.nx } σ2 H2)
    (hd : ∀ σ' H', Pv vs.length σ' H' → D.nx σ' H') : tFor (iList K tl) g tw D σ H := h H (Ex.refl H) _ fun H1 e1 =>
  ⟨p, rfl, ⟨vs, hl 0 σ H1 (Nat.zero_le _) (h0 H1 e1)⟩, for_list (xs := vs) Pv (h0 H1 e1) hl hs hd⟩
/-- over zip of two tuples of one length: x, y are the pair's parts -/
theorem tf_zip {ta : TA} {i1 i2 : Nat} {ds es : List Dt} (h : EvS K ta σ H [.tup ds, .tup es]) (hn : ds.length = es.length) (Pv : Nat → L2.St → Hp → Prop) (h0 : ∀ H1, Ex H H1 → Pv 0 σ H1)
    (up : ∀ i σ' H' T o, H' T = none → Pv i σ' H' → Pv i σ' (upd H' T o))
    (hs : ∀ i d e x y σ' H', ds[i]? = some d → es[i]? = some e → Pv i σ' H' → At K H' x d → At K H' y e → ∀ N : L2.St → Hp → Prop, (∀ σ3 H3, TKp K H' H3 → Pv (i + 1) σ3 H3 → N σ3 H3) → tw { D with nx := N, ct := N, bk := D.nx } ((σ'.set i1 (some x)).set i2 (some y)) H')
    (hd : ∀ σ' H', Pv ds.length σ' H' → D.nx σ' H') : tFor (iZipA K ta) (gTup K 2 (gCons (gName i1) (gCons (gName i2) gNil))) tw D σ H := h H (Ex.refl H) _ fun ws H1 e1 al => by
  obtain ⟨v, r, rfl, a1, al⟩ := al.of_cons
  obtain ⟨w, r, rfl, a2, al⟩ := al.of_cons
  obtain rfl := al.of_nil
  obtain ⟨p, xs, rfl, hs1, l1⟩ := a1.of_tup
  obtain ⟨q, ys, rfl, hs2, l2⟩ := a2.of_tup
  refine ⟨p, q, xs, ys, rfl, .inr ⟨hs1, hs2, for_zipT (xs := xs) (ys := ys) (by rw [l1.len, l2.len, hn]) (fun i σ' H' => TKp K H1 H' ∧ Pv i σ' H') ⟨fun _ _ h => h, h0 H1 e1⟩ (fun i σ' H' k => ⟨k.1 _ _ hs1, k.1 _ _ hs2⟩) (fun i x y T σ' H' hx hy k hT => ?_) fun σ' H' k => ?_⟩⟩
  · obtain ⟨d, hd', ad⟩ := l1.at hx
    obtain ⟨e, he', ae⟩ := l2.at hy
    have tk : TKp K H1 (upd H' T (.tup [x, y])) := k.1.trans (.ex (Ex.new hT))
    refine ⟨T, [x, y], rfl, st_of upd_same, rfl, x, _, rfl, y, _, rfl, rfl, ?_⟩
    exact hs i d e x y σ' _ hd' he' (up i σ' H' T _ hT k.2) (ad.tk tk) (ae.tk tk) _ fun σ3 H3 t p => ⟨tk.trans t, p⟩
  · rw [l1.len] at k
    exact hd σ' H' k.2
/-- over enumerate of a tuple -/
theorem tf_enum {α : Type} {ta : TA} {i1 i2 : Nat} {enc : α → Dt} (xs : List α) (h : EvS K ta σ H [.tup (xs.map enc)]) (Pv : Nat → L2.St → Hp → Prop) (h0 : ∀ H1, Ex H H1 → Pv 0 σ H1)
    (up : ∀ i σ' H' T o, H' T = none → Pv i σ' H' → Pv i σ' (upd H' T o))
    (hs : ∀ i a x σ' H', xs[i]? = some a → Pv i σ' H' → At K H' x (enc a) → ∀ N : L2.St → Hp → Prop, (∀ σ3 H3, TKp K H' H3 → Pv (i + 1) σ3 H3 → N σ3 H3) → tw { D with nx := N, ct := N, bk := D.nx } ((σ'.set i1 (some (.int (i : Int)))).set i2 (some x)) H')
    (hd : ∀ σ' H', Pv xs.length σ' H' → D.nx σ' H') : tFor (iEnT K ta) (gTup K 2 (gCons (gName i1) (gCons (gName i2) gNil))) tw D σ H := h H (Ex.refl H) _ fun ws H1 e1 al => by
  obtain ⟨v, r, rfl, a1, al⟩ := al.of_cons
  obtain rfl := al.of_nil
  obtain ⟨p, vs, rfl, hs1, l1⟩ := a1.of_tup
  have ll : vs.length = xs.length := by rw [l1.len, List.length_map]
  refine ⟨p, vs, rfl, hs1, fun i m σ' H' => m = vs.length - i ∧ i ≤ vs.length ∧ TKp K H1 H' ∧ Pv i σ' H', ⟨vs.length, by simp, Nat.zero_le _, fun _ _ h => h, h0 H1 e1⟩, ?_⟩
  rintro i m σ' H' ⟨rfl, hi, tk, k⟩
  by_cases hlt : i < vs.length
  · refine .inr ⟨⟨vs, vs[i], tk _ _ hs1, by simp [hlt]⟩, fun σ3 H3 => TKp K H1 H3 ∧ Pv (i + 1) σ3 H3, fun σ3 H3 p' => ⟨vs.length - (i + 1), by omega, rfl, hlt, p'⟩, fun x H2 y => ?_⟩
    obtain ⟨T, x', rfl, hT, rfl, hx⟩ := y
    have hx' := hx vs (tk _ _ hs1)
    obtain ⟨d, hd', ad⟩ := l1.at hx'
    rw [List.getElem?_map] at hd'
    cases ea : xs[i]? with
    | none => rw [ea] at hd'; cases hd'
    | some a =>
      rw [ea] at hd'
      have ed : enc a = d := Option.some.inj hd'
      rw [← ed] at ad
      have tk' : TKp K H1 (upd H' T (.tup [.int (i : Nat), x'])) := tk.trans (.ex (Ex.new hT))
      refine ⟨T, [.int (i : Nat), x'], rfl, st_of upd_same, rfl, _, _, rfl, x', _, rfl, rfl, ?_⟩
      exact hs i a x' σ' _ ea (up i σ' H' T _ hT k) (ad.tk tk') _ fun σ3 H3 t p => ⟨tk'.trans t, p⟩
  · have e : i = xs.length := by omega
    subst e
    exact .inl ⟨⟨vs, tk _ _ hs1, by omega⟩, hd σ' H' k⟩
/-! ### comprehensions over pairs -/
theorem wipe_two {σ : L2.St} {i j : Nat} (x y : Option V) : wipe (((wipe σ [i, j]).set i x).set j y) [i, j] = wipe σ [i, j] := by
  show (((((σ.set j none).set i none).set i x).set j y).set j none).set i none = (σ.set j none).set i none
  apply List.ext_getElem?
  intro k
  by_cases hi : i = k <;> by_cases hj : j = k <;> simp [List.getElem?_set, hi, hj]
theorem em_lcE {α : Type} {ta : TA} {i1 i2 : Nat} {enc : α → Dt} (xs : List α) (f : Nat → Bool) (gg : Nat → Dt) (h : EvS K ta σ H [.tup (xs.map enc)]) (hz : xs.length ≤ 40000)
    (hb : ∀ (i : Nat) a v H1, xs[i]? = some a → Ex H H1 → At K H1 v (enc a) → EvT t (((wipe σ [i1, i2]).set i1 (some (.int (i : Int)))).set i2 (some v)) H1 (f i) ∧ (f i = true → EvD K te (((wipe σ [i1, i2]).set i1 (some (.int (i : Int)))).set i2 (some v)) H1 (gg i))) :
    EvM K (tLc (iEnT K ta) (gTup K 2 (gCons (gName i1) (gCons (gName i2) gNil))) t te [i1, i2]) σ H (((List.range xs.length).filter f).map gg) := fun H0 e Q q => h H0 e _ fun ws H1 e1 al => by
  obtain ⟨v, r, rfl, a1, al⟩ := al.of_cons
  obtain rfl := al.of_nil
  obtain ⟨p, vs, rfl, hs1, l1⟩ := a1.of_tup
  have ll : vs.length = xs.length := by rw [l1.len, List.length_map]
  refine ⟨p, vs, rfl, hs1, fun D hD => ⟨fun i m H' => m = vs.length - i ∧ i ≤ vs.length ∧ Cd K H1 (List.range xs.length) f gg D i H', ⟨vs.length, by simp, Nat.zero_le _, hD, Ex.new hD, [], upd_same, .nil⟩, ?_⟩⟩
  rintro i m H' ⟨rfl, hi, c⟩
  by_cases hlt : i < vs.length
  · refine .inr ⟨⟨vs, vs[i], ex_t c.2.1 hs1, by simp [hlt]⟩, fun H3 => Cd K H1 (List.range xs.length) f gg D (i + 1) H3, fun H3 p' => ⟨vs.length - (i + 1), by omega, rfl, hlt, p'⟩, fun x H2 y => ?_⟩
    obtain ⟨T, x', rfl, hT, rfl, hx⟩ := y
    have hx' := hx vs (ex_t c.2.1 hs1)
    obtain ⟨d, hd', ad⟩ := l1.at hx'
    rw [List.getElem?_map] at hd'
    cases ea : xs[i]? with
    | none => rw [ea] at hd'; cases hd'
    | some a =>
      rw [ea] at hd'
      have ed : enc a = d := Option.some.inj hd'
      rw [← ed] at ad
      have c' : Cd K H1 (List.range xs.length) f gg D i (upd H' T (.tup [.int (i : Nat), x'])) := by
        obtain ⟨c1, c2, us, c3, c4⟩ := c
        exact ⟨c1, c2.trans (Ex.new hT), us, Ex.new hT _ _ c3, c4.mono (Ex.new hT)⟩
      refine ⟨T, [.int (i : Nat), x'], rfl, st_of upd_same, rfl, _, _, rfl, x', _, rfl, rfl, wipe_two _ _, ?_⟩
      obtain ⟨b1, b2⟩ := hb i a x' _ ea ((e.trans e1).trans c'.2.1) (ad.mono c'.2.1)
      exact cd_turn (x := i) (by rw [List.getElem?_range (by omega)]) (by rw [List.length_range]; exact hz) c' b1 b2
  · have e2 : i = (List.range xs.length).length := by rw [List.length_range]; omega
    subst e2
    obtain ⟨c1, c2, us, c3, c4⟩ := cd_end c
    exact .inl ⟨⟨vs, ex_t c2 hs1, by rw [List.length_range]; omega⟩, q D us H' (fresh_back e1 c1) (e1.trans c2) c3 c4⟩
/-- .. over a list of pairs that stands -/
theorem em_lcP {α : Type} {tl : TE} {i1 i2 : Nat} {e1 e2 : α → Dt} {p : Addr} {vs : List V} (xs : List α) (f : α → Bool) (gg : α → Dt) (h : Ev tl σ H (.ref p)) (hs : SqL K H p vs) (al : AtL K H vs (xs.map fun a => .tup [e1 a, e2 a])) (hz : xs.length ≤ 40000)
    (hb : ∀ a v w H1, a ∈ xs → Ex H H1 → At K H1 v (e1 a) → At K H1 w (e2 a) → EvT t (((wipe σ [i1, i2]).set i1 (some v)).set i2 (some w)) H1 (f a) ∧ (f a = true → EvD K te (((wipe σ [i1, i2]).set i1 (some v)).set i2 (some w)) H1 (gg a))) :
    EvM K (tLc (iList K tl) (gTup K 2 (gCons (gName i1) (gCons (gName i2) gNil))) t te [i1, i2]) σ H ((xs.filter f).map gg) := fun H0 e Q q => h H0 e _ fun H1 e1' => by
  refine ⟨p, rfl, ⟨vs, ex_l (e.trans e1') hs⟩, fun D hD => lc_list (xs := vs) (Cd K H1 xs f gg D) ⟨hD, Ex.new hD, [], upd_same, .nil⟩ (fun i H' _ c => ex_l ((e.trans e1').trans c.2.1) hs) (fun i x H' hi c => ?_) (fun H' c => ?_)⟩
  · obtain ⟨d, hd, ad⟩ := al.at hi
    rw [List.getElem?_map] at hd
    cases ea : xs[i]? with
    | none => rw [ea] at hd; cases hd
    | some y =>
      rw [ea] at hd
      have ed := Option.some.inj hd
      rw [← ed] at ad
      refine g_tup2 (ad.mono ((e.trans e1').trans c.2.1)) fun v w av aw => ⟨wipe_two _ _, ?_⟩
      obtain ⟨b1, b2⟩ := hb y v w H' (List.mem_of_getElem? ea) ((e.trans e1').trans c.2.1) av aw
      exact cd_turn ea hz c b1 b2
  · have ll : vs.length = xs.length := by rw [al.len, List.length_map]
    rw [ll] at c
    obtain ⟨c1, c2, us, c3, c4⟩ := cd_end c
    exact q D us H' (fresh_back e1' c1) (e1'.trans c2) c3 c4
/-! ### lists that are changed -/
theorem y_app {i : Nat} {p : Addr} {vs : List V} (S : Sg K H σ l) (hi : l[i]? = some (.v (.ref p))) (hp : H p = some (.lst vs)) (ha : AtL K H vs ds) (hz : vs.length ≤ 90000) (h : EvD K te σ H d)
    (k : ∀ v H1, ExF p H H1 → TKp K H H1 → H1 p = some (.lst (vs ++ [v])) → AtL K H1 (vs ++ [v]) (ds ++ [d]) → Sg K H1 σ l → D.nx σ H1) : tDrop (tBM K "list" rAppend (tVar i) (tCons te tNil)) D σ H := by
  refine ⟨_, S.val hi, .inl ⟨rfl, _, sq_of hp⟩, h H (Ex.refl _) _ fun v H1 e a => ⟨p, vs, v, rfl, rfl, e _ _ hp, sz_lt (by omega), ?_⟩⟩
  have tk : TKp K H1 (upd H1 p (.lst (vs ++ [v]))) := .exF (e _ _ hp) (ExF.upd _ _ _)
  exact k v _ ((ExF.ex e).trans (ExF.upd _ _ _)) ((TKp.ex e).trans tk) upd_same (((ha.mono e).append (.one a)).tk tk) ((S.mono e).tk tk)
theorem z_app {i : Nat} {p : Addr} {vs : List V} (S : Sg K H σ l) (hi : l[i]? = some (.v (.ref p))) (hp : H p = some (.lst vs)) (ha : AtL K H vs ds) (hz : vs.length ≤ 90000) (h : EvD K te σ H d)
    (k : ∀ v H1, ExF p H H1 → TKp K H H1 → H1 p = some (.lst (vs ++ [v])) → AtL K H1 (vs ++ [v]) (ds ++ [d]) → Sg K H1 σ l → tz D σ H1) : tSeq (tDrop (tBM K "list" rAppend (tVar i) (tCons te tNil))) tz D σ H :=
  y_app (D := { D with nx := tz D }) S hi hp ha hz h k
/-- p.extend(a new list) -/
theorem y_ext {i : Nat} {p : Addr} {vs : List V} {es : List Dt} (S : Sg K H σ l) (hi : l[i]? = some (.v (.ref p))) (hp : H p = some (.lst vs)) (ha : AtL K H vs ds) (hz : ds.length + es.length ≤ 90000) (h : EvM K te σ H es)
    (k : ∀ ws H1, ExF p H H1 → TKp K H H1 → H1 p = some (.lst ws) → AtL K H1 ws (ds ++ es) → Sg K H1 σ l → D.nx σ H1) : tDrop (tBM K "list" rExtend (tVar i) (tCons te tNil)) D σ H := by
  refine ⟨_, S.val hi, .inl ⟨rfl, _, sq_of hp⟩, h H (Ex.refl _) _ fun q ws H1 hq e hx a => ⟨p, q, vs, ws, rfl, rfl, e _ _ hp, hx, ?_, ?_⟩⟩
  · rw [ha.len, a.len]
    exact sz_of (by omega)
  have tk : TKp K H1 (upd H1 p (.lst (vs ++ ws))) := .exF (e _ _ hp) (ExF.upd _ _ _)
  exact k _ _ ((ExF.ex e).trans (ExF.upd _ _ _)) ((TKp.ex e).trans tk) upd_same (((ha.mono e).append a).tk tk) ((S.mono e).tk tk)
/-- p.extend(a tuple) -/
theorem y_extT {i : Nat} {p : Addr} {vs : List V} {es : List Dt} (S : Sg K H σ l) (hi : l[i]? = some (.v (.ref p))) (hp : H p = some (.lst vs)) (ha : AtL K H vs ds) (hz : ds.length + es.length ≤ 90000) (h : EvD K te σ H (.tup es))
    (k : ∀ ws H1, ExF p H H1 → TKp K H H1 → H1 p = some (.lst ws) → AtL K H1 ws (ds ++ es) → Sg K H1 σ l → D.nx σ H1) :
    tDrop (tBM K "list" (fun x vs H Q => ∃ l b xs zs, x = .ref l ∧ vs = [.ref b] ∧ H l = some (.lst xs) ∧ SqT K H b zs ∧ xs.length + zs.length ≤ sizeLine ∧ Q .non (upd H l (.lst (xs ++ zs)))) (tVar i) (tCons te tNil)) D σ H := by
  refine ⟨_, S.val hi, .inl ⟨rfl, _, sq_of hp⟩, h H (Ex.refl _) _ fun v H1 e a => ?_⟩
  obtain ⟨q, ws, rfl, hx, al⟩ := a.of_tup
  refine ⟨p, q, vs, ws, rfl, rfl, e _ _ hp, hx, ?_, ?_⟩
  · rw [ha.len, al.len]
    exact sz_of (by omega)
  have tk : TKp K H1 (upd H1 p (.lst (vs ++ ws))) := .exF (e _ _ hp) (ExF.upd _ _ _)
  exact k _ _ ((ExF.ex e).trans (ExF.upd _ _ _)) ((TKp.ex e).trans tk) upd_same (((ha.mono e).append al).tk tk) ((S.mono e).tk tk)
/-! ### isinstance -/
def tyD : Dt → String
  | .non => "NoneType"
  | .bl _ => "bool"
  | .int _ => "int"
  | .str _ => "str"
  | .tup _ => "tuple"
theorem ty_at {v : V} (a : At K H v d) : TyX K H v (.type (tyD d)) := by
  cases a with
  | non => exact .base .non
  | bl b => exact .base (.bl b)
  | int i => exact .base (.int i)
  | str s => exact .base (.str s)
  | tup h l =>
    rcases h with (h | ⟨o, h⟩) | ⟨o, _, _, h, hc, _⟩
    · exact .base (.tup h)
    · exact .fTuple h
    · exact .kTuple h hc
theorem ed_isi {n : String} {b : Bool} (h : EvD K ta σ H d) (hk : kitB (tyD d) n = some b) : EvD K (tCB (rIsi K) (tCons ta (tCons (tC (.ty n)) tNil))) σ H (.bl b) := fun H1 e Q q =>
  h H1 e _ fun v H2 e2 a => ⟨v, .ty n, _, _, b, rfl, .ty n, ty_at a, kit_ty hk, q _ H2 e2 (.bl b)⟩
/-! ### d.get(k, None) -/
theorem ed_kget {w : World} {aT : Addr} {es : Array DictEntry} {n : Nat} {z : Str} {u : Value} {v : V} (KD : KDict K w aT es n) (hk : EvD K tb σ H (.str z)) (hn : PySem.W.nsIn K aT z = some (some u)) (rv : RelV v u) (av : ∀ H1, At K H1 v d) :
    EvD K (tKGet K w (tC (.ref aT)) tb (tC .non)) σ H d := fun H1 e Q q =>
  ⟨aT, es, n, rfl, KD, hk H1 e _ fun x H2 e2 ax => ⟨z, u, v, ax.of_str, hn, rv, q v H2 e2 (av H2)⟩⟩
/-! ### slices, sums of tuples -/
theorem ed_slice {to th : TO} {lo hi : Option Int} (h : EvD K te σ H (.tup ds)) (h1 : EvO to σ H lo) (h2 : EvO th σ H hi) : EvD K (tSl (rSlA K) te to th) σ H (.tup ((ds.drop (HT.sIx ds.length 0 lo)).take (HT.sIx ds.length ds.length hi - HT.sIx ds.length 0 lo))) := fun H1 e Q q =>
  h H1 e _ fun v H2 e2 a => h1 H2 (e.trans e2) _ fun H3 e3 => h2 H3 ((e.trans e2).trans e3) _ fun H4 e4 => by
    obtain ⟨p, xs, rfl, hs, al⟩ := (a.mono (e3.trans e4)).of_tup
    refine ⟨p, xs, rfl, hs, fun hw => ?_, fun hw p' hp' => ?_⟩
    · refine q _ H4 (e2.trans (e3.trans e4)) ?_
      rw [al.len] at hw
      rw [hw.1, hw.2, List.drop_zero, Nat.sub_zero, List.take_length]
      exact .tup hs al
    · refine q _ _ ((e2.trans (e3.trans e4)).trans (Ex.new hp')) (.tup (st_of upd_same) ?_)
      unfold cutV
      rw [al.len]
      exact ((al.drop _).take _).mono (Ex.new hp')
theorem ed_from1 (h : EvD K te σ H (.tup ds)) (hd : 1 ≤ ds.length) : EvD K (tSl (rSlA K) te (tPart (tC (.int 1))) tNoPart) σ H (.tup (ds.drop 1)) :=
  (ed_slice (lo := some 1) (hi := none) h (eo_some ev_c) eo_none).is (by
    have e1 : HT.sIx ds.length 0 (some ((1 : Nat) : Int)) = min 1 ds.length := HT.sIx_nat _ _ _
    show Dt.tup ((ds.drop (HT.sIx ds.length 0 (some ((1 : Nat) : Int)))).take (ds.length - HT.sIx ds.length 0 (some ((1 : Nat) : Int)))) = _
    rw [e1, Nat.min_eq_left hd, List.take_of_length_le (by rw [List.length_drop]; omega)])
theorem ed_catT {es : List Dt} (ha : EvD K ta σ H (.tup ds)) (hb : EvD K tb σ H (.tup es)) (hz : ds.length + es.length ≤ 90000) : EvD K (tOp (rCatA K) ta tb) σ H (.tup (ds ++ es)) := fun H1 e Q q =>
  ha H1 e _ fun v H2 e2 a => hb H2 (e.trans e2) _ fun w H3 e3 b => by
    obtain ⟨p, xs, rfl, hs, al⟩ := (a.mono e3).of_tup
    obtain ⟨p', ys, rfl, hs', al'⟩ := b.of_tup
    refine ⟨p, p', xs, ys, rfl, rfl, hs, hs', ?_, fun hx => ?_, fun hx hy => ?_, fun hx hy r hr => ?_⟩
    · rw [al.len, al'.len]
      exact sz_of (by omega)
    · subst hx
      cases al
      exact q _ H3 (e2.trans e3) (.tup hs' al')
    · subst hy
      cases al'
      exact q _ H3 (e2.trans e3) (by rw [List.append_nil]; exact .tup hs al)
    · exact q _ _ ((e2.trans e3).trans (Ex.new hr)) (.tup (st_of upd_same) ((al.append al').mono (Ex.new hr)))
/-! ### a chain a <= b <= c of ints -/
theorem ed_chain {g1 g2 : Int → Int → Bool} {i j k : Int} {tc : TE} (ha : EvD K ta σ H (.int i)) (hb : EvD K tb σ H (.int j)) (hc : EvD K tc σ H (.int k)) :
    EvD K (tChain (rI0 fun i j => .bl (g1 i j)) (rI0 fun i j => .bl (g2 i j)) ta tb tc) σ H (.bl (g1 i j && g2 j k)) := fun H1 e Q q =>
  ha H1 e _ fun v H2 e2 a => hb H2 (e.trans e2) _ fun w H3 e3 b => by
    rw [a.of_int, b.of_int]
    refine ⟨i, j, rfl, rfl, g1 i j, rfl, ?_⟩
    cases h1 : g1 i j with
    | true =>
      rw [if_pos rfl]
      refine hc H3 ((e.trans e2).trans e3) _ fun x H4 e4 c => ?_
      rw [c.of_int]
      refine ⟨j, k, rfl, rfl, q _ H4 ((e2.trans e3).trans e4) ?_⟩
      rw [h1, Bool.true_and]
      exact .bl _
    | false =>
      rw [if_neg (by decide)]
      exact q _ H3 (e2.trans e3) (by rw [h1, Bool.false_and]; exact .bl _)
/-- tests by cases -/
theorem et_orF {t u : TT} (h1 : EvT t σ H false) (h2 : EvT u σ H false) : EvT (tOr t u) σ H false := et_is (et_or h1 fun _ => h2) rfl
theorem q_for1 {wi : TI} (h : tFor wi g tw { D with nx := tz D } σ H) : tSeq (tFor wi g tw) tz D σ H := h
end
end K9
end
section
set_option maxHeartbeats 600000
/-! K9T: webs and terms: seen_by, fits. -/
namespace K9
open PySem PySem.Spec PyProof.Rows L2 Evl K9M RZ
/-! ### a term's parts -/
def fm (b : Bool) : Str := if b = true then "term" else "claim"
abbrev Any := (b : Bool) × E b
abbrev Kid := Str × Dt × Option Any
def kt (a : E true) : Kid := ("term", encE a, some ⟨true, a⟩)
def kc (a : E false) : Kid := ("claim", encE a, some ⟨false, a⟩)
def kn (s : Str) (n : Nat) : Kid := (s, nD n, none)
def kids : {b : Bool} → E b → List Kid
  | _, .num k => [kn "number" k]
  | _, .own => [kn "box" 0]
  | _, .eye e => [kn "eye" e, kn "box" 0]
  | _, .me => []
  | _, .plus a b => [kt a, kt b]
  | _, .less a b => [kt a, kt b]
  | _, .rest a k => [kt a, kn "part" k]
  | _, .least a => [kt a]
  | _, .most a => [kt a]
  | _, .many c => [kc c]
  | _, .ite c a b => [kc c, kt a, kt b]
  | _, .its => [kn "box" 0]
  | _, .it => []
  | _, .yes => []
  | _, .like a b => [kt a, kt b]
  | _, .blw a b => [kt a, kt b]
  | _, .not c => [kc c]
  | _, .and c d => [kc c, kc d]
  | _, .or c d => [kc c, kc d]
def wrd : {b : Bool} → E b → Str
  | _, .num _ => "num"
  | _, .own => "own"
  | _, .eye _ => "eye"
  | _, .me => "me"
  | _, .plus _ _ => "plus"
  | _, .less _ _ => "less"
  | _, .rest _ _ => "rest"
  | _, .least _ => "least"
  | _, .most _ => "most"
  | _, .many _ => "many"
  | _, .ite _ _ _ => "if"
  | _, .its => "its"
  | _, .it => "it"
  | _, .yes => "yes"
  | _, .like _ _ => "like"
  | _, .blw _ _ => "below"
  | _, .not _ => "not"
  | _, .and _ _ => "and"
  | _, .or _ _ => "or"
theorem enc_kids {b : Bool} (e : E b) : encE e = .tup (.str (wrd e) :: (kids e).map fun k => k.2.1) := by cases e <;> rfl
def formsD {b : Bool} (e : E b) : Dt := .tup ((kids e).map fun k => .str k.1)
def bnd : List (Str × Nat × Nat) := [("number", 0, 99), ("box", 0, 0), ("eye", 0, 5), ("part", 1, 12)]
/-- a part: a term, a claim, or a number within bounds -/
def KidOk (k : Kid) : Prop := (∃ (b : Bool) (e : E b), k = (fm b, encE e, some ⟨b, e⟩) ∧ rng e = true) ∨ ∃ s lo hi n, k = kn s n ∧ (s, lo, hi) ∈ bnd ∧ lo ≤ n ∧ n ≤ hi
theorem kt_ok {a : E true} (h : rng a = true) : KidOk (kt a) := .inl ⟨true, a, rfl, h⟩
theorem kc_ok {a : E false} (h : rng a = true) : KidOk (kc a) := .inl ⟨false, a, rfl, h⟩
theorem kids_ok {b : Bool} (e : E b) (h : rng e = true) : ∀ k ∈ kids e, KidOk k := by
  have two : ∀ {x y : Kid}, KidOk x → KidOk y → ∀ k ∈ [x, y], KidOk k := fun {x y} hx hy k hk => by
    rcases List.mem_cons.mp hk with rfl | hk
    · exact hx
    · rcases List.mem_cons.mp hk with rfl | hk
      · exact hy
      · cases hk
  have one : ∀ {x : Kid}, KidOk x → ∀ k ∈ [x], KidOk k := fun {x} hx k hk => by
    rcases List.mem_cons.mp hk with rfl | hk
    · exact hx
    · cases hk
  have nil : ∀ k ∈ ([] : List Kid), KidOk k := fun k hk => nomatch hk
  have box : KidOk (kn "box" 0) := .inr ⟨_, 0, 0, 0, rfl, by simp [bnd], Nat.le_refl _, Nat.le_refl _⟩
  cases e with
  | num k => exact one (.inr ⟨_, 0, 99, k, rfl, by simp [bnd], Nat.zero_le _, of_decide_eq_true h⟩)
  | own => exact one box
  | eye k => exact two (.inr ⟨_, 0, 5, k, rfl, by simp [bnd], Nat.zero_le _, of_decide_eq_true h⟩) box
  | me => exact nil
  | plus a b => simp only [rng, Bool.and_eq_true] at h; exact two (kt_ok h.1) (kt_ok h.2)
  | less a b => simp only [rng, Bool.and_eq_true] at h; exact two (kt_ok h.1) (kt_ok h.2)
  | rest a k => simp only [rng, Bool.and_eq_true] at h; exact two (kt_ok h.1.1) (.inr ⟨_, 1, 12, k, rfl, by simp [bnd], of_decide_eq_true h.1.2, of_decide_eq_true h.2⟩)
  | least a => exact one (kt_ok h)
  | most a => exact one (kt_ok h)
  | many c => exact one (kc_ok h)
  | ite c a b =>
    simp only [rng, Bool.and_eq_true] at h
    intro k hk
    rcases List.mem_cons.mp hk with rfl | hk
    · exact kc_ok h.1.1
    · exact two (kt_ok h.1.2) (kt_ok h.2) k hk
  | its => exact one box
  | it => exact nil
  | yes => exact nil
  | like a b => simp only [rng, Bool.and_eq_true] at h; exact two (kt_ok h.1) (kt_ok h.2)
  | blw a b => simp only [rng, Bool.and_eq_true] at h; exact two (kt_ok h.1) (kt_ok h.2)
  | not c => exact one (kc_ok h)
  | and c d => simp only [rng, Bool.and_eq_true] at h; exact two (kc_ok h.1) (kc_ok h.2)
  | or c d => simp only [rng, Bool.and_eq_true] at h; exact two (kc_ok h.1) (kc_ok h.2)
def subs {b : Bool} (e : E b) : List Any := (kids e).filterMap fun k => k.2.2
def isLook : {b : Bool} → E b → Bool
  | _, .least _ => true
  | _, .most _ => true
  | _, .many _ => true
  | _, _ => false
def mayM (l : Bool) : {b : Bool} → E b → Bool
  | _, .least _ => !l
  | _, .most _ => !l
  | _, .many _ => !l
  | _, .its => l
  | _, .it => l
  | _, _ => true
theorem size_subs {b : Bool} (e : E b) : size e = 1 + ((subs e).map fun s => size s.2).sum := by
  cases e <;> simp [subs, kids, size, kt, kc, kn, List.filterMap_cons] <;> omega
theorem deep_subs {b : Bool} (e : E b) (n : Nat) : deep e ≤ n + 1 ↔ ∀ s ∈ subs e, deep s.2 ≤ n := by
  cases e <;> simp [subs, kids, deep, kt, kc, kn, List.filterMap_cons] <;> omega
theorem okL_subs {b : Bool} (e : E b) (l : Bool) : okL l e = (mayM l e && (subs e).all fun s => okL (l || isLook e) s.2) := by
  cases e <;> simp [subs, kids, okL, mayM, isLook, kt, kc, kn, List.filterMap_cons, Bool.and_assoc]
/-! ### the stack of fits -/
structure Item where
  e : Any
  dp : Nat
  lk : Bool
def encI (t : Item) : Dt := .tup [.str (fm t.e.1), encE t.e.2, nD t.dp, .bl t.lk]
def goodI (t : Item) : Bool := okL t.lk t.e.2 && decide (t.dp + deep t.e.2 ≤ 13)
def sz (l : List Item) : Nat := (l.map fun t => size t.e.2).sum
def Gk (many : Nat) (l : List Item) : Bool := decide (many + sz l ≤ 60) && l.all goodI
def under {b : Bool} (e : E b) (dp : Nat) (lk : Bool) : List Item := (subs e).map fun s => ⟨s, dp + 1, lk || isLook e⟩
theorem sz_append (a b : List Item) : sz (a ++ b) = sz a + sz b := by simp [sz]
theorem sz_one {t : Item} : sz [t] = size t.e.2 := by simp [sz]
theorem sz_under {b : Bool} (e : E b) (dp : Nat) (lk : Bool) : size e = 1 + sz (under e dp lk) := by
  rw [size_subs e]
  unfold sz under
  rw [List.map_map]
  rfl
theorem good_under {b : Bool} (e : E b) {dp : Nat} {lk : Bool} (h : dp ≤ 12) (m : mayM lk e = true) : goodI ⟨⟨b, e⟩, dp, lk⟩ = (under e dp lk).all goodI := by
  rw [Bool.eq_iff_iff]
  unfold goodI under
  simp only [Bool.and_eq_true, List.all_map, decide_eq_true_eq, List.all_eq_true, Function.comp]
  rw [okL_subs e lk, m, Bool.true_and, List.all_eq_true]
  have d1 := deep_subs e (12 - dp)
  have e1 : dp + deep e ≤ 13 ↔ deep e ≤ 12 - dp + 1 := by omega
  rw [e1, d1]
  constructor
  · rintro ⟨a, b⟩ s hs
    have := b s hs
    exact ⟨a s hs, by omega⟩
  · intro a
    exact ⟨fun s hs => (a s hs).1, fun s hs => by have := (a s hs).2; omega⟩
theorem pop_ok {many : Nat} {base : List Item} {b : Bool} (e : E b) {dp : Nat} {lk : Bool} (h : dp ≤ 12) (m : mayM lk e = true) : Gk many (base ++ [⟨⟨b, e⟩, dp, lk⟩]) = Gk (many + 1) (base ++ under e dp lk) := by
  unfold Gk
  rw [sz_append, sz_append, sz_one, List.all_append, List.all_append, List.all_cons, List.all_nil, Bool.and_true, good_under e h m]
  have := sz_under e dp lk
  congr 1
  exact decide_eq_decide.mpr ⟨fun _ => by simp only at *; omega, fun _ => by simp only at *; omega⟩
theorem size_pos {b : Bool} (e : E b) : 1 ≤ size e := by rw [size_subs e]; omega
theorem pop_no {many : Nat} {base : List Item} {b : Bool} (e : E b) {dp : Nat} {lk : Bool} (h : 60 < many + 1 ∨ 12 < dp ∨ mayM lk e = false) : Gk many (base ++ [⟨⟨b, e⟩, dp, lk⟩]) = false := by
  unfold Gk
  rw [sz_append, sz_one, List.all_append, List.all_cons]
  have h1 := size_pos e
  have h2 := deep_pos e
  rcases h with h | h | h
  · have : decide (many + (sz base + size e) ≤ 60) = false := decide_eq_false (by omega)
    rw [this, Bool.false_and]
  · have : goodI ⟨⟨b, e⟩, dp, lk⟩ = false := by
      unfold goodI
      rw [decide_eq_false (by simp only; omega), Bool.and_false]
    rw [this, Bool.false_and, Bool.and_false, Bool.and_false]
  · have : goodI ⟨⟨b, e⟩, dp, lk⟩ = false := by
      unfold goodI
      rw [okL_subs, h, Bool.false_and, Bool.false_and]
    rw [this, Bool.false_and, Bool.and_false, Bool.and_false]
theorem gk_first {b : Bool} (e : E b) (lk : Bool) : Gk 0 [⟨⟨b, e⟩, 1, lk⟩] = (okL lk e && decide (size e ≤ 60) && decide (deep e ≤ 12)) := by
  unfold Gk
  rw [sz_one, List.all_cons, List.all_nil, Bool.and_true]
  unfold goodI
  have e1 : decide (0 + size (⟨⟨b, e⟩, 1, lk⟩ : Item).e.2 ≤ 60) = decide (size e ≤ 60) := decide_eq_decide.mpr ⟨fun h => by simp only at h; omega, fun h => by simp only; omega⟩
  have e2 : decide ((⟨⟨b, e⟩, 1, lk⟩ : Item).dp + deep (⟨⟨b, e⟩, 1, lk⟩ : Item).e.2 ≤ 13) = decide (deep e ≤ 12) := decide_eq_decide.mpr ⟨fun h => by simp only at h; omega, fun h => by simp only; omega⟩
  rw [e1, e2]
  cases okL lk e <;> cases decide (size e ≤ 60) <;> cases decide (deep e ≤ 12) <;> rfl
/-! ### the module's own data -/
structure Gd (K : PySem.W.Frag) (mg : Str → Option Value) (x : Str) (d : Dt) : Prop where
  ex : ∃ u v, mg x = some u ∧ RelV v u ∧ ∀ H, At K H v d
def TabD (K : PySem.W.Frag) (w : World) (mg : Str → Option Value) (x : Str) (b : Bool) : Prop := ∃ a es n, mg x = some (.ref a) ∧ KDict K w a es n ∧ ∀ e : E b, ∃ u v, PySem.W.nsIn K a (wrd e) = some (some u) ∧ RelV v u ∧ ∀ H, At K H v (formsD e)
structure TmT (K : PySem.W.Frag) (w : World) (mg : Str → Option Value) : Prop where
  g_MOST_IN_ONE : Gd K mg "MOST_IN_ONE" (.int 60)
  g_MOST_DEEP : Gd K mg "MOST_DEEP" (.int 12)
  g_MOST_NUMBER : Gd K mg "MOST_NUMBER" (.int 99)
  g_MOST_EYE : Gd K mg "MOST_EYE" (.int 5)
  g_MOST_REST : Gd K mg "MOST_REST" (.int 12)
  g_LOOKS : Gd K mg "LOOKS" (.tup [.str "least", .str "most", .str "many"])
  term : TabD K w mg "TERM" true
  claim : TabD K w mg "CLAIM" false
abbrev s_is_whole : Stmt := top 11
theorem sc_is_whole : FnScope ["thing"] ["thing"] (defScope s_is_whole) := ⟨rfl, rfl, rfl, by decide +kernel, rfl, by decide +kernel, by decide +kernel⟩
abbrev s_seen_by : Stmt := top 12
theorem sc_seen_by : FnScope ["eyes", "hand", "one", "seen"] ["eyes", "hand"] (defScope s_seen_by) := ⟨rfl, rfl, rfl, by decide +kernel, rfl, by decide +kernel, by decide +kernel⟩
abbrev s_bounds_of : Stmt := top 22
theorem sc_bounds_of : FnScope ["form", "boxes", "found"] ["form", "boxes"] (defScope s_bounds_of) := ⟨rfl, rfl, rfl, by decide +kernel, rfl, by decide +kernel, by decide +kernel⟩
abbrev s_forms_behind : Stmt := top 23
theorem sc_forms_behind : FnScope ["form", "word"] ["form", "word"] (defScope s_forms_behind) := ⟨rfl, rfl, rfl, by decide +kernel, rfl, by decide +kernel, by decide +kernel⟩
abbrev s_parts_by : Stmt := top 24
theorem sc_parts_by : FnScope ["form", "thing", "forms"] ["form", "thing"] (defScope s_parts_by) := ⟨rfl, rfl, rfl, by decide +kernel, rfl, by decide +kernel, by decide +kernel⟩
abbrev s_may_stand : Stmt := top 25
theorem sc_may_stand : FnScope ["word", "looked"] ["word", "looked"] (defScope s_may_stand) := ⟨rfl, rfl, rfl, by decide +kernel, rfl, by decide +kernel, by decide +kernel⟩
abbrev s_fits : Stmt := top 26
theorem sc_fits : FnScope ["boxes", "form", "thing", "looked", "waiting", "many", "forms", "deep", "inner", "part", "least", "most"] ["boxes", "form", "thing", "looked"] (defScope s_fits) := ⟨rfl, rfl, rfl, by decide +kernel, rfl, by decide +kernel, by decide +kernel⟩
abbrev s_is_term : Stmt := top 27
theorem sc_is_term : FnScope ["sizes", "thing"] ["sizes", "thing"] (defScope s_is_term) := ⟨rfl, rfl, rfl, by decide +kernel, rfl, by decide +kernel, by decide +kernel⟩
abbrev s_is_claim : Stmt := top 28
theorem sc_is_claim : FnScope ["sizes", "thing"] ["sizes", "thing"] (defScope s_is_claim) := ⟨rfl, rfl, rfl, by decide +kernel, rfl, by decide +kernel, by decide +kernel⟩
abbrev s_is_inner : Stmt := top 29
theorem sc_is_inner : FnScope ["sizes", "thing"] ["sizes", "thing"] (defScope s_is_inner) := ⟨rfl, rfl, rfl, by decide +kernel, rfl, by decide +kernel, by decide +kernel⟩
def RWh : List Dt → Dt → Prop := fun ds d => ∃ i : Int, ds = [.int i] ∧ d = .bl true
def RSb : List Dt → Dt → Prop := fun ds d => ∃ (ey : List (List Nat)) (h : Nat), ey.length ≤ 100 ∧ ds = [eyD ey, nD h] ∧ d = rowD (seenBy ey h)
def RBo : List Dt → Dt → Prop := fun ds d => ∃ s lo hi, (s, lo, hi) ∈ bnd ∧ ds = [.str s, .int 1] ∧ d = .tup [nD lo, nD hi]
def RFb : List Dt → Dt → Prop := fun ds d => ∃ (b : Bool) (e : E b), ds = [.str (fm b), .str (wrd e)] ∧ d = formsD e
def RPb : List Dt → Dt → Prop := fun ds d => ∃ (b : Bool) (e : E b), ds = [.str (fm b), encE e] ∧ d = formsD e
def mayW (w : Str) (l : Bool) : Bool := if (["least", "most", "many"] : List Str).any (fun z => z == w) = true then !l else l || !((["its", "it"] : List Str).any fun z => z == w)
def RMs : List Dt → Dt → Prop := fun ds d => ∃ (s : Str) (l : Bool), ds = [.str s, .bl l] ∧ d = .bl (mayW s l)
def RFi : List Dt → Dt → Prop := fun ds d => ∃ (b : Bool) (e : E b) (l : Bool), rng e = true ∧ ds = [.int 1, .str (fm b), encE e, .bl l] ∧ d = .bl (okL l e && decide (size e ≤ 60) && decide (deep e ≤ 12))
def RTm (b : Bool) : List Dt → Dt → Prop := fun ds d => ∃ (e : E b) (m : Nat), rng e = true ∧ ds = [boxD m, encE e] ∧ d = .bl (okL false e && decide (size e ≤ 60) && decide (deep e ≤ 12))
def RIn : List Dt → Dt → Prop := fun ds d => ∃ (e : E true) (m : Nat), rng e = true ∧ ds = [boxD m, encE e] ∧ d = .bl (okL true e && decide (size e + 1 ≤ 60) && decide (deep e + 1 ≤ 12))
theorem mayW_m {b : Bool} (e : E b) (l : Bool) : mayW (wrd e) l = mayM l e := by
  cases e <;> cases l <;> simp only [wrd, mayM] <;> decide +kernel
theorem rowD_ints (s : List Nat) : rowD s = .tup ((s.map fun n : Nat => (n : Int)).map .int) := by
  unfold rowD
  rw [List.map_map]
  rfl
theorem any_mem (s : List Nat) (h : Nat) : ((s.map fun n : Nat => (n : Int)).any fun z => z == (h : Int)) = decide (h ∈ s) := by
  rw [Bool.eq_iff_iff]
  simp only [List.any_map, List.any_eq_true, Function.comp, beq_iff_eq, decide_eq_true_eq]
  constructor
  · rintro ⟨x, hx, e⟩
    have : x = h := by omega
    subst this
    exact hx
  · intro hx
    exact ⟨h, hx, rfl⟩
section
variable {P : Program} {w : World} {K : PySem.W.Frag} {mg : Str → Option Value} {base : Heap}
theorem ok_is_whole (D : Df K mg "is_whole" s_is_whole ["thing"]) (B : Bi mg) : Ok P w K mg base CX0 1 "is_whole" ["thing"] (spF K RWh) := by
  refine D.okF sc_is_whole (fun ds d h => ?_) fun cdv A outer s H f ds d Q E hr h q => ?_
  · obtain ⟨i, rfl, _⟩ := h
    rfl
  · obtain ⟨i, rfl, rfl⟩ := h
    refine ⟨_, (pss_one (ps_ret (pe_and (pe_callB call_isi rfl B.isinstance (by decide +kernel) (pa_cons (pv 0) (pa_cons (pe_bltn (v := .ty "int") (u := .type "int") rfl B.int (by decide +kernel) rfl) pa_nil))) (pe_one (pe_not (pe_callB call_isi rfl B.isinstance (by decide +kernel) (pa_cons (pv 0) (pa_cons (pe_bltn (v := .ty "bool") (u := .type "bool") rfl B.bool (by decide +kernel) rfl) pa_nil)))))))), fun σ S => ?_⟩
    exact y_ret (ed_and (a := true) (b := true) (ed_isi (ed_var S rfl) (show kitB "int" "int" = some true by decide +kernel)) fun _ => ed_not (b := false) (ed_isi (ed_var S rfl) (show kitB "int" "bool" = some false by decide +kernel))) q
theorem ok_seen_by (D : Df K mg "seen_by" s_seen_by ["eyes", "hand"]) (B : Bi mg) : Ok P w K mg base CX0 1 "seen_by" ["eyes", "hand"] (spF K RSb) := by
  refine D.okF sc_seen_by (fun ds d h => ?_) fun cdv A outer s H f ds d Q E hr h q => ?_
  · obtain ⟨_, _, _, rfl, _⟩ := h
    rfl
  · obtain ⟨ey, h, hn, rfl, rfl⟩ := h
    refine ⟨_, (pss_one (ps_ret (pe_callTy call_tuple_of rfl B.tuple (by decide +kernel) (pa_cons (pe_lc (own := [("one", 2), ("seen", 3)]) (g := gTup K 2 (gCons (gName 2) (gCons (gName 3) gNil))) rfl sc_seen_by.nd (pi_enumT rfl B.enumerate (pa_cons (pv 0) pa_nil)) (blkOk_by (N := ["eyes", "hand", "one", "seen"]) (sc := defScope s_seen_by) (by decide +kernel)) (fun _ _ _ _ _ => (pg_tup rfl (pgs_cons (pg_name (i := 2) sc_seen_by.nd rfl (Or.inl rfl)) (pgs_cons (pg_name (i := 3) sc_seen_by.nd rfl (Or.inl rfl)) pgs_nil)))) (fun _ _ _ _ _ => (pts_one (pt_cmpR (show OpR _ _ (rIn K false) from op_in_seq) (pv 1) (pv 3) (by rfl)))) (fun _ _ _ _ _ => (pv 2))) pa_nil)))), fun σ S => ?_⟩
    refine y_ret ((ed_tupM ((em_lcE (enc := rowD) ey (fun o => decide (h ∈ seen ey o)) nD (es_one (ed_var S rfl)) (by omega) fun i a v H1 hi e a1 => ⟨?_, fun _ => ?_⟩)))) q
    · have S1 := ((((S.mono e).wipe [2, 3]).setD (.int (i : Int)) 2).setD a1 3)
      have ea : a = seen ey i := by
        show a = ey.getD i []
        rw [List.getD_eq_getElem?_getD, hi]
        rfl
      subst ea
      refine et_is (et_d (ed_inI (neg := false) (ss := (seen ey i).map fun n : Nat => (n : Int)) (ed_var S1 rfl) ((ed_var S1 rfl).is (rowD_ints _)))) ?_
      exact any_mem _ _
    · have S1 := ((((S.mono e).wipe [2, 3]).setD (.int (i : Int)) 2).setD a1 3)
      exact ed_var S1 rfl
theorem merge4 {k1 k2 k3 k4 : Key} {v1 v2 v3 v4 : V} (h12 : k1 ≠ k2) (h13 : k1 ≠ k3) (h14 : k1 ≠ k4) (h23 : k2 ≠ k3) (h24 : k2 ≠ k4) (h34 : k3 ≠ k4) : mergeK [] [(k1, v1), (k2, v2), (k3, v3), (k4, v4)] = [(k1, v1), (k2, v2), (k3, v3), (k4, v4)] := by
  simp [mergeK, putK, h12, h13, h14, h23, h24, h34]
theorem ed_disp4 {K : PySem.W.Frag} {σ : L2.St} {H : Hp} {s1 s2 s3 s4 : Str} {t1 t2 t3 t4 : TE} {d1 d2 d3 d4 : Dt} {Q : VK} (h1 : ∀ H1, Ex H H1 → EvD K t1 σ H1 d1) (h2 : ∀ H1, Ex H H1 → EvD K t2 σ H1 d2) (h3 : ∀ H1, Ex H H1 → EvD K t3 σ H1 d3) (h4 : ∀ H1, Ex H H1 → EvD K t4 σ H1 d4)
    (k : ∀ p v1 v2 v3 v4 H1, Ex H H1 → H1 p = some (.dK (mergeK [] [(.inr s1, v1), (.inr s2, v2), (.inr s3, v3), (.inr s4, v4)])) → At K H1 v1 d1 → At K H1 v2 d2 → At K H1 v3 d3 → At K H1 v4 d4 → Q (.ref p) H1) :
    tDisp [(tC (.str s1), t1), (tC (.str s2), t2), (tC (.str s3), t3), (tC (.str s4), t4)] σ H Q := fun p hp => by
  have e0 : Ex H (upd H p (.dK [])) := Ex.new hp
  refine h1 _ e0 (upd H p (.dK [])) (Ex.refl _) _ fun v1 H1 e1 a1 => ?_
  refine h2 _ (e0.trans e1) H1 (Ex.refl _) _ fun v2 H2 e2 a2 => ?_
  refine h3 _ (e0.trans (e1.trans e2)) H2 (Ex.refl _) _ fun v3 H3 e3 a3 => ?_
  refine h4 _ (e0.trans (e1.trans (e2.trans e3))) H3 (Ex.refl _) _ fun v4 H4 e4 a4 => ?_
  have e14 := e1.trans (e2.trans (e3.trans e4))
  have hD : H4 p = some (.dK []) := e14 _ _ upd_same
  refine ⟨hD, [(.inr s1, v1), (.inr s2, v2), (.inr s3, v3), (.inr s4, v4)], rfl, by show 4 ≤ 15; decide, ?_⟩
  have tk : TKp K H4 (upd H4 p (.dK (mergeK [] [(.inr s1, v1), (.inr s2, v2), (.inr s3, v3), (.inr s4, v4)]))) := fun a ys h => by
    rcases h with (h | ⟨o, h⟩) | h
    · exact .inl (.inl (by rw [upd_ne (ne_of h hD (by intro z; cases z))]; exact h))
    · exact .inl (.inr ⟨o, by rw [upd_ne (ne_of h hD (by intro z; cases z))]; exact h⟩)
    · exact .inr h
  exact k p v1 v2 v3 v4 _ ((e0.trans e14).mut hp) upd_same ((a1.mono (e2.trans (e3.trans e4))).tk tk) ((a2.mono (e3.trans e4)).tk tk) ((a3.mono e4).tk tk) (a4.tk tk)
theorem z_disp4 {K : PySem.W.Frag} {σ : L2.St} {H : Hp} {i : Nat} {D : Ends} {tz : TS} {s1 s2 s3 s4 : Str} {t1 t2 t3 t4 : TE} {d1 d2 d3 d4 : Dt} (h1 : ∀ H1, Ex H H1 → EvD K t1 σ H1 d1) (h2 : ∀ H1, Ex H H1 → EvD K t2 σ H1 d2) (h3 : ∀ H1, Ex H H1 → EvD K t3 σ H1 d3) (h4 : ∀ H1, Ex H H1 → EvD K t4 σ H1 d4)
    (k : ∀ p v1 v2 v3 v4 H1, Ex H H1 → H1 p = some (.dK (mergeK [] [(.inr s1, v1), (.inr s2, v2), (.inr s3, v3), (.inr s4, v4)])) → At K H1 v1 d1 → At K H1 v2 d2 → At K H1 v3 d3 → At K H1 v4 d4 → tz D (σ.set i (some (.ref p))) H1) :
    tSeq (tAsg (tDisp [(tC (.str s1), t1), (tC (.str s2), t2), (tC (.str s3), t3), (tC (.str s4), t4)]) (gName i)) tz D σ H :=
  ed_disp4 (Q := fun v H => tz D (σ.set i (some v)) H) h1 h2 h3 h4 k
theorem ok_bounds_of (D : Df K mg "bounds_of" s_bounds_of ["form", "boxes"]) (G : TmT K w mg) : Ok P w K mg base CX0 1 "bounds_of" ["form", "boxes"] (spF K RBo) := by
  obtain ⟨u_MOST_NUMBER, v_MOST_NUMBER, m_MOST_NUMBER, r_MOST_NUMBER, a_MOST_NUMBER⟩ := G.g_MOST_NUMBER.ex
  obtain ⟨u_MOST_EYE, v_MOST_EYE, m_MOST_EYE, r_MOST_EYE, a_MOST_EYE⟩ := G.g_MOST_EYE.ex
  obtain ⟨u_MOST_REST, v_MOST_REST, m_MOST_REST, r_MOST_REST, a_MOST_REST⟩ := G.g_MOST_REST.ex
  refine D.okF sc_bounds_of (fun ds d h => ?_) fun cdv A outer s H f ds d Q E hr h q => ?_
  · obtain ⟨_, _, _, _, rfl, _⟩ := h
    rfl
  · obtain ⟨s, lo, hi, hb, rfl, rfl⟩ := h
    refine ⟨_, (pss_cons (ps_set (i := 2) sc_bounds_of.nd rfl (Or.inl rfl) (pe_disp (pps_cons pe_str (pe_tup (pa_cons pe_int (pa_cons (pe_glob rfl m_MOST_NUMBER r_MOST_NUMBER) pa_nil))) (pps_cons pe_str (pe_tup (pa_cons pe_int (pa_cons (pe_op op_sub (pv 1) pe_int) pa_nil))) (pps_cons pe_str (pe_tup (pa_cons pe_int (pa_cons (pe_glob rfl m_MOST_EYE r_MOST_EYE) pa_nil))) (pps_cons pe_str (pe_tup (pa_cons pe_int (pa_cons (pe_glob rfl m_MOST_REST r_MOST_REST) pa_nil))) pps_nil)))) rfl rfl (by intro z; cases z) (by decide)))
    (pss_one (ps_ret (pe_dget (Nat.lt_of_le_of_lt (Nat.add_le_add_left (by decide : 1 ≤ 64) _) hr.units) (pv 2) (pv 0) (fun _ _ => rfl))))), fun σ S => ?_⟩
    have n12 : (Sum.inr "number" : Key) ≠ .inr "box" := by decide +kernel
    have n13 : (Sum.inr "number" : Key) ≠ .inr "eye" := by decide +kernel
    have n14 : (Sum.inr "number" : Key) ≠ .inr "part" := by decide +kernel
    have n23 : (Sum.inr "box" : Key) ≠ .inr "eye" := by decide +kernel
    have n24 : (Sum.inr "box" : Key) ≠ .inr "part" := by decide +kernel
    have n34 : (Sum.inr "eye" : Key) ≠ .inr "part" := by decide +kernel
    refine z_disp4 (d1 := .tup [.int 0, .int 99]) (d2 := .tup [.int 0, .int (1 - 1)]) (d3 := .tup [.int 0, .int 5]) (d4 := .tup [.int 1, .int 12]) (fun H1 e => ed_tup (es_cons ed_cI (es_one (ed_cR a_MOST_NUMBER)))) (fun H1 e => ed_tup (es_cons ed_cI (es_one (ed_II (ed_var (S.mono e) rfl) ed_cI)))) (fun H1 e => ed_tup (es_cons ed_cI (es_one (ed_cR a_MOST_EYE)))) (fun H1 e => ed_tup (es_cons ed_cI (es_one (ed_cR a_MOST_REST)))) fun p v1 v2 v3 v4 H1 e1 hp a1 a2 a3 a4 => ?_
    rw [merge4 n12 n13 n14 n23 n24 n34] at hp
    have S1 := (S.mono e1).setV (.ref p) 2
    obtain ⟨vs, hvs, avs⟩ := S1.get (i := 0) rfl
    obtain rfl := avs.of_str
    simp only [bnd, List.mem_cons, List.not_mem_nil, or_false, Prod.mk.injEq] at hb
    rcases hb with ⟨rfl, rfl, rfl⟩ | ⟨rfl, rfl, rfl⟩ | ⟨rfl, rfl, rfl⟩ | ⟨rfl, rfl, rfl⟩
    · exact ⟨_, S1.val rfl, _, hvs, p, v1, rfl, .inl ⟨_, .inr "number", .inl hp, rfl, by rw [valV_pos rfl]⟩, q v1 H1 e1 a1⟩
    · exact ⟨_, S1.val rfl, _, hvs, p, v2, rfl, .inl ⟨_, .inr "box", .inl hp, rfl, by rw [valV_neg n12, valV_pos rfl]⟩, q v2 H1 e1 a2⟩
    · exact ⟨_, S1.val rfl, _, hvs, p, v3, rfl, .inl ⟨_, .inr "eye", .inl hp, rfl, by rw [valV_neg n13, valV_neg n23, valV_pos rfl]⟩, q v3 H1 e1 a3⟩
    · exact ⟨_, S1.val rfl, _, hvs, p, v4, rfl, .inl ⟨_, .inr "part", .inl hp, rfl, by rw [valV_neg n14, valV_neg n24, valV_neg n34, valV_pos rfl]⟩, q v4 H1 e1 a4⟩
theorem ok_forms_behind (D : Df K mg "forms_behind" s_forms_behind ["form", "word"]) (G : TmT K w mg) : Ok P w K mg base CX0 1 "forms_behind" ["form", "word"] (spF K RFb) := by
  obtain ⟨aT, esT, nT, m_TERM, kdT, tT⟩ := G.term
  obtain ⟨aC, esC, nC, m_CLAIM, kdC, tC'⟩ := G.claim
  refine D.okF sc_forms_behind (fun ds d h => ?_) fun cdv A outer s H f ds d Q E hr h q => ?_
  · obtain ⟨_, _, rfl, _⟩ := h
    rfl
  · obtain ⟨b, e, rfl, rfl⟩ := h
    refine ⟨_, (pss_cons (ps_if (pt_cmpR op_eq (pv 0) pe_str (nomark _)) (pss_one (ps_ret (pe_kget2 (pe_glob (v := .ref aT) rfl m_TERM rfl) (pv 1) pe_non ⟨rfl, rfl, rfl, rfl⟩))) pss_nil)
    (pss_one (ps_ret (pe_kget2 (pe_glob (v := .ref aC) rfl m_CLAIM rfl) (pv 1) pe_non ⟨rfl, rfl, rfl, rfl⟩)))), fun σ S => ?_⟩
    cases b with
    | true =>
      refine z_hitS S rfl (by decide +kernel) ?_
      obtain ⟨u, v, h1, h2, h3⟩ := tT e
      exact y_ret (ed_kget kdT (ed_var S rfl) h1 h2 h3) q
    | false =>
      refine z_skS S rfl (by decide +kernel) ?_
      obtain ⟨u, v, h1, h2, h3⟩ := tC' e
      exact y_ret (ed_kget kdC (ed_var S rfl) h1 h2 h3) q
theorem ok_parts_by (D : Df K mg "parts_by" s_parts_by ["form", "thing"]) (B : Bi mg) (O_forms_behind : Ok P w K mg base CX0 1 "forms_behind" ["form", "word"] (spF K RFb)) : Ok P w K mg base CX0 2 "parts_by" ["form", "thing"] (spF K RPb) := by
  refine D.okF sc_parts_by (fun ds d h => ?_) fun cdv A outer s H f ds d Q E hr h q => ?_
  · obtain ⟨_, _, rfl, _⟩ := h
    rfl
  · obtain ⟨b, e, rfl, rfl⟩ := h
    rw [enc_kids]
    refine ⟨_, (pss_cons (ps_if (PW.pt (pw_or (pt_not (pt_val (pe_callB call_isi rfl B.isinstance (by decide +kernel) (pa_cons (pv 1) (pa_cons (pe_bltn (v := .ty "tuple") (u := .type "tuple") rfl B.tuple (by decide +kernel) rfl) pa_nil))))) (pw_or (pt_cmpR op_eq (pe_callB call_len_seq rfl B.len (by decide +kernel) (pa_cons (pv 1) pa_nil)) pe_int (nomark _)) (pw_or1 (pt_not (pt_val (pe_callB call_isi rfl B.isinstance (by decide +kernel) (pa_cons (pe_ix ix_tup (pv 1) pe_int (fun _ _ => rfl)) (pa_cons (pe_bltn (v := .ty "str") (u := .type "str") rfl B.str (by decide +kernel) rfl) pa_nil))))))))) (pss_one (ps_ret pe_non)) pss_nil)
    (pss_cons (ps_set (i := 2) sc_parts_by.nd rfl (Or.inl rfl) (pe_ok O_forms_behind hr rfl (pa_cons (pv 0) (pa_cons (pe_ix ix_tup (pv 1) pe_int (fun _ _ => rfl)) pa_nil))))
    (pss_cons (ps_if (PW.pt (pw_or (pt_cmpR op_isN (pv 2) pe_non (nomark _)) (pw_or1 (pt_cmpR op_ne (pe_callB call_len_seq rfl B.len (by decide +kernel) (pa_cons (pv 2) pa_nil)) (pe_op op_sub (pe_callB call_len_seq rfl B.len (by decide +kernel) (pa_cons (pv 1) pa_nil)) pe_int) (nomark _))))) (pss_one (ps_ret pe_non)) pss_nil)
    (pss_one (ps_ret (pv 2)))))), fun σ S => ?_⟩
    refine z_no (et_orF (et_not (a := true) (et_b (ed_isi (ed_var S rfl) (show kitB "tuple" "tuple" = some true by decide +kernel)))) (et_orF (et_is (et_d (ed_eqI (ed_len (ed_var S rfl)) ed_cI)) ?_) (et_not (a := true) (et_b (ed_isi (d := .str (wrd e)) (ed_ixc (j := 0) (ed_var S rfl) rfl) (show kitB "str" "str" = some true by decide +kernel)))))) fun H1 e1 => ?_
    · exact decide_eq_false (by rw [List.length_cons]; omega)
    have S1 := S.mono e1
    refine z_asg S1 (ed_call (es_cons (ed_var S1 rfl) (es_one (ed_ixc (j := 0) (ed_var S1 rfl) rfl))) ⟨b, e, rfl, rfl⟩) fun σ2 H2 e2 S2 => ?_
    refine z_no (et_orF (et_is (et_d (ed_isN (ed_var S2 rfl))) rfl) (et_is (et_d (ed_neI (ed_len (ed_var S2 rfl)) (ed_II (ed_len (ed_var S2 rfl)) ed_cI))) ?_)) fun H3 e3 => ?_
    · rw [List.length_cons, List.length_map, List.length_map]
      have : decide (((kids e).length : Int) = (((kids e).length + 1 : Nat) : Int) - 1) = true := decide_eq_true (by omega)
      rw [this]
      rfl
    exact y_ret (ed_var (S2.mono e3) rfl) fun v H4 e4 a => q v H4 ((e1.trans e2).trans (e3.trans e4)) a
theorem ok_may_stand (D : Df K mg "may_stand" s_may_stand ["word", "looked"]) (G : TmT K w mg) : Ok P w K mg base CX0 1 "may_stand" ["word", "looked"] (spF K RMs) := by
  obtain ⟨u_LOOKS, v_LOOKS, m_LOOKS, r_LOOKS, a_LOOKS⟩ := G.g_LOOKS.ex
  refine D.okF sc_may_stand (fun ds d h => ?_) fun cdv A outer s H f ds d Q E hr h q => ?_
  · obtain ⟨_, _, rfl, _⟩ := h
    rfl
  · obtain ⟨wd, l, rfl, rfl⟩ := h
    refine ⟨_, (pss_cons (ps_if (pt_cmpR op_in_seq (pv 0) (pe_glob rfl m_LOOKS r_LOOKS) (by rfl)) (pss_one (ps_ret (pe_not (pv 1)))) pss_nil)
    (pss_one (ps_ret (pe_or (pv 1) (pe_one (pe_cmpR op_notIn_seq (pv 0) (pe_tup (pa_cons pe_str (pa_cons pe_str pa_nil))) (by rfl))))))), fun σ S => ?_⟩
    refine z_when (et_d (ed_inS (neg := false) (ss := ["least", "most", "many"]) (ed_var S rfl) (ed_cR a_LOOKS))) (fun hb H1 e1 => ?_) fun hb H1 e1 => ?_
    · refine y_ret (ed_not (ed_var (S.mono e1) rfl)) fun v H2 e2 a => q v H2 (e1.trans e2) ?_
      have hb' : ((["least", "most", "many"] : List Str).any fun z => z == wd) = true := hb
      unfold mayW
      rw [if_pos hb']
      exact a
    · refine y_ret (ed_or (ed_var (S.mono e1) rfl) fun _ => ed_inS (neg := true) (ss := ["its", "it"]) (ed_var (S.mono e1) rfl) (ed_tup (es_cons ed_cS (es_one ed_cS)))) fun v H2 e2 a => q v H2 (e1.trans e2) ?_
      unfold mayW
      rw [if_neg (by
        have hb' : ((["least", "most", "many"] : List Str).any fun z => z == wd) = false := hb
        rw [hb']
        decide)]
      exact a
end
end K9
end
section
set_option maxHeartbeats 600000
/-! K9F: fits. -/
namespace K9
open PySem PySem.Spec PyProof.Rows L2 Evl K9M RZ
section
variable {P : Program} {w : World} {K : PySem.W.Frag} {mg : Str → Option Value} {base : Heap}
theorem look_w {b : Bool} (e : E b) : ((["least", "most", "many"] : List Str).any fun z => z == wrd e) = isLook e := by
  cases e <;> simp only [wrd, isLook] <;> decide +kernel
theorem gk_few {many : Nat} {l : List Item} (h : Gk many l = true) : many ≤ 60 := by
  unfold Gk at h
  rw [Bool.and_eq_true, decide_eq_true_eq] at h
  omega
theorem ok_fits (D : Df K mg "fits" s_fits ["boxes", "form", "thing", "looked"]) (B : Bi mg) (G : TmT K w mg) (O_parts_by : Ok P w K mg base CX0 2 "parts_by" ["form", "thing"] (spF K RPb))
    (O_may_stand : Ok P w K mg base CX0 2 "may_stand" ["word", "looked"] (spF K RMs)) (O_bounds_of : Ok P w K mg base CX0 2 "bounds_of" ["form", "boxes"] (spF K RBo)) (O_is_whole : Ok P w K mg base CX0 2 "is_whole" ["thing"] (spF K RWh)) :
    Ok P w K mg base CX0 3 "fits" ["boxes", "form", "thing", "looked"] (spF K RFi) := by
  obtain ⟨u_MOST_IN_ONE, v_MOST_IN_ONE, m_MOST_IN_ONE, r_MOST_IN_ONE, a_MOST_IN_ONE⟩ := G.g_MOST_IN_ONE.ex
  obtain ⟨u_MOST_DEEP, v_MOST_DEEP, m_MOST_DEEP, r_MOST_DEEP, a_MOST_DEEP⟩ := G.g_MOST_DEEP.ex
  obtain ⟨u_LOOKS, v_LOOKS, m_LOOKS, r_LOOKS, a_LOOKS⟩ := G.g_LOOKS.ex
  refine D.okF sc_fits (fun ds d h => ?_) fun cdv A outer s H f ds d Q E hr h q => ?_
  · obtain ⟨_, _, _, _, rfl, _⟩ := h
    rfl
  · obtain ⟨b, e, lk, hg, rfl, rfl⟩ := h
    refine ⟨_, (pss_cons (ps_set (i := 4) sc_fits.nd rfl (Or.inl rfl) (pe_lst (pa_cons (pe_tup (pa_cons (pv 1) (pa_cons (pv 2) (pa_cons pe_int (pa_cons (pv 3) pa_nil))))) pa_nil)))
    (pss_cons (ps_set (i := 5) sc_fits.nd rfl (Or.inl rfl) pe_int)
    (pss_cons (ps_while PassesOwn.never (pt_cmpR op_gt (pe_callB call_len_seq rfl B.len (by decide +kernel) (pa_cons (pv 4) pa_nil)) pe_int (nomark _)) (pss_cons (ps_asg (pe_bm0 PySem.F.plainAttrs_list PySem.F.slot_list_pop PySem.F.type_list_pop mt_pop (pv 4)) (pg_tup rfl (pgs_cons (pg_name (i := 1) sc_fits.nd rfl (Or.inl rfl)) (pgs_cons (pg_name (i := 2) sc_fits.nd rfl (Or.inl rfl)) (pgs_cons (pg_name (i := 7) sc_fits.nd rfl (Or.inl rfl)) (pgs_cons (pg_name (i := 3) sc_fits.nd rfl (Or.inl rfl)) pgs_nil))))))
      (pss_cons (ps_set (i := 6) sc_fits.nd rfl (Or.inl rfl) (pe_ok O_parts_by hr rfl (pa_cons (pv 1) (pa_cons (pv 2) pa_nil))))
      (pss_cons (ps_set (i := 5) sc_fits.nd rfl (Or.inl rfl) (pe_op op_add (pv 5) pe_int))
      (pss_cons (ps_if (PW.pt (pw_or (pt_cmpR op_isN (pv 6) pe_non (nomark _)) (pw_or (pt_cmpR op_gt (pv 5) (pe_glob rfl m_MOST_IN_ONE r_MOST_IN_ONE) (nomark _)) (pw_or (pt_cmpR op_gt (pv 7) (pe_glob rfl m_MOST_DEEP r_MOST_DEEP) (nomark _)) (pw_or1 (pt_not (pt_val (pe_ok O_may_stand hr rfl (pa_cons (pe_ix ix_tup (pv 2) pe_int (fun _ _ => rfl)) (pa_cons (pv 3) pa_nil)))))))))) (pss_one (ps_ret pe_bl)) pss_nil)
      (pss_one (ps_for PassesOwn.never rfl (pi_zipA rfl B.zip (pa_cons (pv 6) (pa_cons (pe_slice sl_tupA (pv 2) (po_some pe_int) po_none) pa_nil))) (pg_tup rfl (pgs_cons (pg_name (i := 8) sc_fits.nd rfl (Or.inl rfl)) (pgs_cons (pg_name (i := 9) sc_fits.nd rfl (Or.inl rfl)) pgs_nil))) (pss_one (ps_if (PW.pt (pw_or (pt_cmpR op_eq (pv 8) pe_str (nomark _)) (pw_or1 (pt_cmpR op_eq (pv 8) pe_str (nomark _))))) (pss_one (ps_expr (pe_bm PySem.F.plainAttrs_list PySem.F.slot_list_append PySem.F.type_list_append mt_append (pv 4) (pa_cons (pe_tup (pa_cons (pv 8) (pa_cons (pv 9) (pa_cons (pe_op op_add (pv 7) pe_int) (pa_cons (pe_or (pv 3) (pe_one (pe_cmpR op_in_seq (pe_ix ix_tup (pv 2) pe_int (fun _ _ => rfl)) (pe_glob rfl m_LOOKS r_LOOKS) (by rfl)))) pa_nil))))) pa_nil)))) (pss_cons (ps_asg (pe_ok O_bounds_of hr rfl (pa_cons (pv 8) (pa_cons (pv 0) pa_nil))) (pg_tup rfl (pgs_cons (pg_name (i := 10) sc_fits.nd rfl (Or.inl rfl)) (pgs_cons (pg_name (i := 11) sc_fits.nd rfl (Or.inl rfl)) pgs_nil))))
          (pss_one (ps_if (PW.pt (pw_or (pt_not (pt_val (pe_ok O_is_whole hr rfl (pa_cons (pv 9) pa_nil)))) (pw_or1 (pt_not (pt_chain op_le op_le (pv 10) (pv 9) (pv 11)))))) (pss_one (ps_ret pe_bl)) pss_nil))))))))))))
    (pss_one (ps_ret pe_bl))))), fun σ S => ?_⟩
    rw [← gk_first] at q
    refine z_asgM S (em_lst (ds := [encI ⟨⟨b, e⟩, 1, lk⟩]) (es_one (ed_tup (es_cons (ed_var S rfl) (es_cons (ed_var S rfl) (es_cons ed_cI (es_one (ed_var S rfl))))) (Nat.le_of_ble_eq_true rfl))) (Nat.le_of_ble_eq_true rfl)) fun wa ws0 σ1 H1 hwa e1 hw1 aw1 S1 => ?_
    refine z_asg S1 ed_cI fun σ2 H2 e2 S2 => ?_
    refine q_while (fun m σ' H' => ∃ (many : Nat) (stk : List Item) (vs : List V), m = sz stk ∧ Sg K H' σ' [.d (.int 1), .no, .no, .no, .v (.ref wa), .d (nD many), .no, .no, .no, .no, .no, .no] ∧ Ex H H' ∧ H' wa = some (.lst vs) ∧ AtL K H' vs (stk.map encI) ∧
        Gk many stk = Gk 0 [⟨⟨b, e⟩, 1, lk⟩] ∧ (∀ t ∈ stk, rng t.e.2 = true) ∧ many ≤ 60 ∧ stk.length ≤ 3 * many + 1) (sz [⟨⟨b, e⟩, 1, lk⟩])
      ⟨0, [⟨⟨b, e⟩, 1, lk⟩], ws0, rfl, S2.less rfl (fun i => ?_), e1.trans e2, e2 _ _ hw1, aw1.mono e2, rfl, fun t ht => ?_, by decide, Nat.le_refl 1⟩ ?_
    · match i with
      | 0 => rfl
      | 1 => trivial
      | 2 => trivial
      | 3 => trivial
      | 4 => rfl
      | 5 => rfl
      | 6 => trivial
      | 7 => trivial
      | 8 => trivial
      | 9 => trivial
      | 10 => trivial
      | 11 => trivial
      | n + 12 => trivial
    · rcases List.mem_cons.mp ht with rfl | ht
      · exact hg
      · cases ht
    rintro m σ3 H3 ⟨many, stk, vs, rfl, S3, ex3, hw3, aw3, gk, rg, mm, sl⟩
    refine ⟨decide (0 < (stk.length : Int)), ?_, fun hb H4 e4 => ?_, fun hb H4 e4 => ?_⟩
    · refine et_d (K := K) ((ed_IB (i := (stk.length : Int)) (j := 0) (g := fun i j => decide (j < i)) (ed_ev (v := .int (stk.length : Int)) ?_ fun _ => .int _) ed_cI))
      intro H5 e5 Q5 q5
      refine ⟨_, S3.val rfl, wa, vs, rfl, .inl (sq_of (e5 _ _ hw3)), ?_⟩
      rw [aw3.len, List.length_map]
      exact q5 H5 (Ex.refl _)
    · have hlen : 0 < stk.length := by
        have h0 : (0 : Int) < (stk.length : Int) := of_decide_eq_true hb
        omega
      obtain ⟨bs, t, rfl⟩ : ∃ bs t, stk = bs ++ [t] := ⟨stk.dropLast, stk.getLast (fun z => by rw [z] at hlen; cases hlen), (List.dropLast_concat_getLast _).symm⟩
      obtain ⟨⟨b1, e1'⟩, dp, lk1⟩ := t
      have rg1 : rng e1' = true := rg ⟨⟨b1, e1'⟩, dp, lk1⟩ (by simp)
      have vl : vs.length = bs.length + 1 := by rw [aw3.len, List.length_map, List.length_append]; rfl
      have S4 := S3.mono e4
      have aw4 := aw3.mono e4
      have hw4 := e4 _ _ hw3
      have atd : ((bs ++ [(⟨⟨b1, e1'⟩, dp, lk1⟩ : Item)]).map encI)[vs.length - 1]? = some (encI ⟨⟨b1, e1'⟩, dp, lk1⟩) := by
        rw [vl, List.getElem?_map, Nat.add_sub_cancel, List.getElem?_append_right (Nat.le_refl _), Nat.sub_self] <;> rfl
      obtain ⟨tv, htv, atv⟩ := aw4.get atd
      have adl : AtL K H4 vs.dropLast (bs.map encI) := by
        have e5 := aw4.take bs.length
        have e6 : vs.take bs.length = vs.dropLast := by rw [List.dropLast_eq_take, vl, Nat.add_sub_cancel]
        have e7 : ((bs ++ [(⟨⟨b1, e1'⟩, dp, lk1⟩ : Item)]).map encI).take bs.length = bs.map encI := by
          rw [List.map_append, List.take_append_of_le_length (by rw [List.length_map]; exact Nat.le_refl _), List.take_of_length_le (by rw [List.length_map]; exact Nat.le_refl _)]
        rw [e6, e7] at e5
        exact e5
      refine ⟨fun σ2 H2 => ∃ m', m' < sz (bs ++ [⟨⟨b1, e1'⟩, dp, lk1⟩]) ∧ ∃ (many : Nat) (stk : List Item) (vs : List V), m' = sz stk ∧ Sg K H2 σ2 [.d (.int 1), .no, .no, .no, .v (.ref wa), .d (nD many), .no, .no, .no, .no, .no, .no] ∧ Ex H H2 ∧ H2 wa = some (.lst vs) ∧ AtL K H2 vs (stk.map encI) ∧
        Gk many stk = Gk 0 [⟨⟨b, e⟩, 1, lk⟩] ∧ (∀ t ∈ stk, rng t.e.2 = true) ∧ many ≤ 60 ∧ stk.length ≤ 3 * many + 1, fun _ _ h => h, ?_⟩
      -- the item is taken from the list
      refine ⟨_, S4.val (i := 4) rfl, .inl ⟨rfl, _, sq_of hw4⟩, wa, vs, tv, rfl, rfl, hw4, htv, ?_⟩
      have eF : ExF wa H4 (upd H4 wa (.lst vs.dropLast)) := ExF.upd _ _ _
      have tk : TKp K H4 (upd H4 wa (.lst vs.dropLast)) := .exF hw4 eF
      have ex5 : Ex H (upd H4 wa (.lst vs.dropLast)) := Ex.exF (ex3.trans e4) hwa eF
      refine g_tup4 (atv.tk tk) fun x1 x2 x3 x4 y1 y2 y3 y4 => ?_
      have S5 := (((((S4.tk tk).setD y1 1).setD y2 2).setD y3 7).setD y4 3)
      refine z_asg S5 (ed_call (es_cons (ed_var S5 rfl) (es_one (ed_var S5 rfl))) ⟨b1, e1', rfl, rfl⟩) fun σ6 H6 e6 S6 => ?_
      refine z_asg S6 (ed_II (ed_var S6 rfl) ed_cI) fun σ7 H7 e7 S7 => ?_
      have vI := (a_MOST_IN_ONE H7).of_int
      have vD := (a_MOST_DEEP H7).of_int
      subst vI vD
      have hw7 : H7 wa = some (.lst vs.dropLast) := e7 _ _ (e6 _ _ upd_same)
      have ex7 : Ex H H7 := ex5.trans (e6.trans e7)
      have ad7 := (adl.tk tk).mono (e6.trans e7)
      refine z_when (et_or (a := false) (et_is (et_d (ed_isN (ed_var S7 rfl))) rfl) fun _ => et_or (et_d (ed_IB (ed_var S7 rfl) (ed_cR fun H => .int 60))) fun _ => et_or (et_d (ed_IB (ed_var S7 rfl) (ed_cR fun H => .int 12))) fun _ => et_not (et_b (ed_call (es_cons (ed_ixc (j := 0) ((ed_var S7 rfl).is (enc_kids e1')) rfl) (es_one (ed_var S7 rfl))) ⟨wrd e1', lk1, rfl, rfl⟩))) (fun hb H8 e8 => ?_) fun hb H8 e8 => ?_
      · refine y_ret (K := K) ed_cB fun v H9 e9 a => q v H9 ((ex7.trans e8).trans e9) ?_
        rw [← gk, pop_no e1' ?_]
        · exact a
        · rw [Bool.false_or, Bool.or_eq_true, Bool.or_eq_true, decide_eq_true_eq, decide_eq_true_eq, mayW_m, Bool.not_eq_true'] at hb
          rcases hb with h | h | h
          · left; omega
          · right; left
            have h' : (12 : Int) < (dp : Int) := h
            omega
          · right; right; exact h
      · rw [Bool.false_or, Bool.or_eq_false_iff, Bool.or_eq_false_iff, decide_eq_false_iff_not, decide_eq_false_iff_not, mayW_m, Bool.not_eq_false'] at hb
        obtain ⟨hb1, hb2, hb3⟩ := hb
        have S8 := S7.mono e8
        have hm8 : many + 1 ≤ 60 := by omega
        have hb2' : ¬ (12 : Int) < (dp : Int) := hb2
        have hd8 : dp ≤ 12 := by omega
        have hn : ((kids e1').map fun k => Dt.str k.1).length = ((kids e1').map fun k => k.2.1).length := by rw [List.length_map, List.length_map]
        have kk := kids_ok e1' rg1
        have hk3 : (kids e1').length ≤ 3 := by cases e1' <;> simp [kids]
        refine tf_zip (ds := (kids e1').map fun k => Dt.str k.1) (es := (kids e1').map fun k => k.2.1) (es_cons (ed_var S8 rfl) (es_one (ed_from1 ((ed_var S8 rfl).is (enc_kids e1')) (by simp)))) hn
          (fun i σ' H' => Sg K H' σ' [.d (.int 1), .no, .d (encE e1'), .d (.bl lk1), .v (.ref wa), .d (nD (many + 1)), .no, .d (nD dp), .no, .no, .no, .no] ∧ Ex H H' ∧ ∃ vs', H' wa = some (.lst vs') ∧
            AtL K H' vs' ((bs ++ (((kids e1').take i).filterMap fun k => k.2.2).map fun s => (⟨s, dp + 1, lk1 || isLook e1'⟩ : Item)).map encI))
          (fun H9 e9 => ?_) (fun i σ' H' T o hT k => ?_) (fun i d1 d2 x y σ' H' hd1 hd2 k ax ay N hN => ?_) fun σ' H' k => ?_
        · refine ⟨(S8.mono e9).less rfl fun i => ?_, (ex7.trans e8).trans e9, _, e9 _ _ (e8 _ _ hw7), by rw [List.take_zero, List.filterMap_nil, List.map_nil, List.append_nil]; exact ad7.mono (e8.trans e9)⟩
          match i with
          | 0 => rfl
          | 1 => trivial
          | 2 => rfl
          | 3 => rfl
          | 4 => rfl
          | 5 => rfl
          | 6 => trivial
          | 7 => rfl
          | 8 => trivial
          | 9 => trivial
          | 10 => trivial
          | 11 => trivial
          | n + 12 => trivial
        · obtain ⟨k1, k2, vs', k3, k4⟩ := k
          exact ⟨k1.mono (Ex.new hT), k2.trans (Ex.new hT), vs', Ex.new hT _ _ k3, k4.mono (Ex.new hT)⟩
        · obtain ⟨k1, k2, vs', k3, k4⟩ := k
          rw [List.getElem?_map] at hd1 hd2
          cases ek : (kids e1')[i]? with
          | none => rw [ek] at hd1; cases hd1
          | some kd =>
            rw [ek] at hd1 hd2
            obtain rfl : Dt.str kd.1 = d1 := Option.some.inj hd1
            obtain rfl : kd.2.1 = d2 := Option.some.inj hd2
            have S9 := (k1.setD ax 8).setD ay 9
            have hm9 : kd ∈ kids e1' := List.mem_of_getElem? ek
            rcases kk kd hm9 with ⟨b', e', rfl, hr'⟩ | ⟨sn, lo, hi, n, rfl, hbn, h1, h2⟩
            · refine s_if (b := true) (et_is (et_or (et_d (ed_eqS (ed_var S9 rfl) ed_cS)) fun _ => et_d (ed_eqS (ed_var S9 rfl) ed_cS)) (by show (decide (fm b' = "term") || decide (fm b' = "claim")) = true; cases b' <;> decide +kernel)) (fun _ H10 e10 => ?_) fun z => nomatch z
              have S10 := S9.mono e10
              refine y_app (d := encI ⟨⟨b', e'⟩, dp + 1, lk1 || isLook e1'⟩) S10 rfl (e10 _ _ k3) (k4.mono e10) ?_ (ed_tup (es_cons (ed_var S10 rfl) (es_cons (ed_var S10 rfl) (es_cons ((ed_II (ed_var S10 rfl) ed_cI).is (congrArg Dt.int (show (dp : Int) + 1 = ((dp + 1 : Nat) : Int) by omega))) (es_one ((ed_or (ed_var S10 rfl) fun _ => ed_inS (neg := false) (ss := ["least", "most", "many"]) (ed_ixc (j := 0) ((ed_var S10 rfl).is (enc_kids e1')) rfl) (ed_cR a_LOOKS)).is (by rw [look_w] <;> rfl)))))) (Nat.le_of_ble_eq_true rfl)) fun v H11 eF11 tk11 hw11 aw11 S11 => ?_
              · rw [k4.len, List.length_map, List.length_append, List.length_map]
                have l1 := List.length_filterMap_le (fun k : Kid => k.2.2) ((kids e1').take i)
                rw [List.length_take] at l1
                rw [List.length_append] at sl
                omega
              · refine hN _ _ ((TKp.ex e10).trans tk11) ⟨S11.less rfl fun i => ?_, Ex.exF (k2.trans e10) hwa eF11, _, hw11, ?_⟩
                · match i with
                  | 0 => rfl
                  | 1 => trivial
                  | 2 => rfl
                  | 3 => rfl
                  | 4 => rfl
                  | 5 => rfl
                  | 6 => trivial
                  | 7 => rfl
                  | 8 => trivial
                  | 9 => trivial
                  | 10 => trivial
                  | 11 => trivial
                  | n + 12 => trivial
                · rw [filter_take_more ek, List.filterMap_append]
                  simp only [List.map_append] at aw11 ⊢
                  rw [← List.append_assoc]
                  exact aw11
            · have hne : decide (sn = ("term" : Str)) = false ∧ decide (sn = ("claim" : Str)) = false := by
                simp only [bnd, List.mem_cons, List.not_mem_nil, or_false, Prod.mk.injEq] at hbn
                rcases hbn with ⟨rfl, _, _⟩ | ⟨rfl, _, _⟩ | ⟨rfl, _, _⟩ | ⟨rfl, _, _⟩ <;> exact ⟨by decide +kernel, by decide +kernel⟩
              refine s_if (b := false) (et_is (et_or (et_d (ed_eqS (ed_var S9 rfl) ed_cS)) fun _ => et_d (ed_eqS (ed_var S9 rfl) ed_cS)) (by
                show (decide (sn = _) || decide (sn = _)) = false
                rw [hne.1, hne.2] <;> rfl)) (fun z => nomatch z) fun _ H10 e10 => ?_
              have S10 := S9.mono e10
              refine z_tup2 S10 (ed_call (es_cons (ed_var S10 rfl) (es_one (ed_var S10 rfl))) ⟨sn, lo, hi, hbn, rfl, rfl⟩) fun σ11 H11 e11 S11 => ?_
              refine s_when (b := false) (et_orF (et_not (a := true) (et_b (ed_call (es_one (ed_var S11 rfl)) ⟨(n : Int), rfl, rfl⟩))) (et_not (a := true) (et_is (et_d (ed_chain (ed_var S11 rfl) (ed_var S11 rfl) (ed_var S11 rfl))) ?_))) (fun z => nomatch z) fun _ H12 e12 => ?_
              · rw [Bool.and_eq_true, decide_eq_true_eq, decide_eq_true_eq]
                omega
              · have e912 := e10.trans (e11.trans e12)
                refine hN _ _ (TKp.ex e912) ⟨(S11.mono e12).less rfl fun i => ?_, k2.trans e912, _, e912 _ _ k3, ?_⟩
                · match i with
                  | 0 => rfl
                  | 1 => trivial
                  | 2 => rfl
                  | 3 => rfl
                  | 4 => rfl
                  | 5 => rfl
                  | 6 => trivial
                  | 7 => rfl
                  | 8 => trivial
                  | 9 => trivial
                  | 10 => trivial
                  | 11 => trivial
                  | n + 12 => trivial
                · rw [filter_take_more ek, List.filterMap_append, List.filterMap_cons, List.filterMap_nil]
                  show AtL K H12 vs' ((bs ++ (_ ++ []).map _).map encI)
                  rw [List.append_nil]
                  exact k4.mono e912
        · obtain ⟨k1, k2, vs', k3, k4⟩ := k
          rw [List.length_map, List.take_length] at k4
          refine ⟨sz (bs ++ under e1' dp lk1), ?_, many + 1, bs ++ under e1' dp lk1, vs', rfl, k1.less rfl fun i => ?_, k2, k3, k4, ?_, ?_, hm8, ?_⟩
          · rw [sz_append, sz_append, sz_one]
            have := sz_under e1' dp lk1
            show sz bs + sz (under e1' dp lk1) < sz bs + size e1'
            omega
          · match i with
            | 0 => rfl
            | 1 => trivial
            | 2 => trivial
            | 3 => trivial
            | 4 => rfl
            | 5 => rfl
            | 6 => trivial
            | 7 => trivial
            | 8 => trivial
            | 9 => trivial
            | 10 => trivial
            | 11 => trivial
            | n + 12 => trivial
          · rw [← gk, pop_ok e1' hd8 hb3]
          · intro t ht
            rcases List.mem_append.mp ht with ht | ht
            · exact rg t (List.mem_append_left _ ht)
            · obtain ⟨s, hs, rfl⟩ := List.mem_map.mp ht
              obtain ⟨k, hk, ek⟩ := List.mem_filterMap.mp hs
              rcases kk k hk with ⟨b', e', rfl, hr'⟩ | ⟨_, _, _, _, rfl, _⟩
              · cases ek
                exact hr'
              · cases ek
          · have l1 : (under e1' dp lk1).length ≤ 3 := by
              unfold under subs
              rw [List.length_map]
              exact Nat.le_trans (List.length_filterMap_le _ _) hk3
            rw [List.length_append] at sl ⊢
            simp only [List.length_cons, List.length_nil] at sl
            omega
    · have hz : stk = [] := by
        have h0 : ¬ (0 : Int) < (stk.length : Int) := of_decide_eq_false hb
        exact List.length_eq_zero_iff.mp (by omega)
      subst hz
      refine y_ret (K := K) ed_cB fun v H5 e5 a => q v H5 ((ex3.trans e4).trans e5) ?_
      rw [← gk]
      have : Gk many [] = true := by
        unfold Gk
        rw [decide_eq_true (by show many + 0 ≤ 60; omega)]
        rfl
      rw [this]
      exact a
theorem ok_is_form {b : Bool} {x : Str} {stm : Stmt} {ps : List Str} (O : Ok P w K mg base CX0 4 x ps (spF K (RTm b))) : Ok P w K mg base CX0 4 x ps (spF K (RTm b)) := O
theorem ok_is_term (D : Df K mg "is_term" s_is_term ["sizes", "thing"]) (B : Bi mg) (O_fits : Ok P w K mg base CX0 3 "fits" ["boxes", "form", "thing", "looked"] (spF K RFi)) : Ok P w K mg base CX0 4 "is_term" ["sizes", "thing"] (spF K (RTm true)) := by
  refine D.okF sc_is_term (fun ds d h => ?_) fun cdv A outer s H f ds d Q E hr h q => ?_
  · obtain ⟨_, _, _, rfl, _⟩ := h
    rfl
  · obtain ⟨e, m, hg, rfl, rfl⟩ := h
    refine ⟨_, (pss_one (ps_ret (pe_ok O_fits hr rfl (pa_cons (pe_callB call_len_seq rfl B.len (by decide +kernel) (pa_cons (pv 0) pa_nil)) (pa_cons pe_str (pa_cons (pv 1) (pa_cons pe_bl pa_nil))))))), fun σ S => ?_⟩
    exact y_ret (ed_call (es_cons (ed_len (ds := [nD m]) (ed_var S rfl)) (es_cons ed_cS (es_cons (ed_var S rfl) (es_one ed_cB)))) ⟨true, e, false, hg, rfl, rfl⟩) q
theorem ok_is_claim (D : Df K mg "is_claim" s_is_claim ["sizes", "thing"]) (B : Bi mg) (O_fits : Ok P w K mg base CX0 3 "fits" ["boxes", "form", "thing", "looked"] (spF K RFi)) : Ok P w K mg base CX0 4 "is_claim" ["sizes", "thing"] (spF K (RTm false)) := by
  refine D.okF sc_is_claim (fun ds d h => ?_) fun cdv A outer s H f ds d Q E hr h q => ?_
  · obtain ⟨_, _, _, rfl, _⟩ := h
    rfl
  · obtain ⟨e, m, hg, rfl, rfl⟩ := h
    refine ⟨_, (pss_one (ps_ret (pe_ok O_fits hr rfl (pa_cons (pe_callB call_len_seq rfl B.len (by decide +kernel) (pa_cons (pv 0) pa_nil)) (pa_cons pe_str (pa_cons (pv 1) (pa_cons pe_bl pa_nil))))))), fun σ S => ?_⟩
    exact y_ret (ed_call (es_cons (ed_len (ds := [nD m]) (ed_var S rfl)) (es_cons ed_cS (es_cons (ed_var S rfl) (es_one ed_cB)))) ⟨false, e, false, hg, rfl, rfl⟩) q
theorem ok_is_inner (D : Df K mg "is_inner" s_is_inner ["sizes", "thing"]) (O_is_term : Ok P w K mg base CX0 4 "is_term" ["sizes", "thing"] (spF K (RTm true))) : Ok P w K mg base CX0 5 "is_inner" ["sizes", "thing"] (spF K RIn) := by
  refine D.okF sc_is_inner (fun ds d h => ?_) fun cdv A outer s H f ds d Q E hr h q => ?_
  · obtain ⟨_, _, _, rfl, _⟩ := h
    rfl
  · obtain ⟨e, m, hg, rfl, rfl⟩ := h
    refine ⟨_, (pss_one (ps_ret (pe_ok O_is_term hr rfl (pa_cons (pv 0) (pa_cons (pe_tup (pa_cons pe_str (pa_cons (pv 1) pa_nil))) pa_nil))))), fun σ S => ?_⟩
    exact y_ret (ed_call (es_cons (ed_var S rfl) (es_one (ed_tup (ds := [.str "least", encE e]) (es_cons ed_cS (es_one (ed_var S rfl))) (Nat.le_of_ble_eq_true rfl)))) ⟨.least e, m, hg, rfl, rfl⟩) q
end
end K9
end
section
set_option maxHeartbeats 600000
/-! K9P: systems: rules, acts, shares, sums. -/
namespace K9
open PySem PySem.Spec PyProof.Rows L2 Evl K9M RZ
theorem ps_dead {X : Cx} {st : Stmt} : PS X st (fun _ _ _ => False) := ⟨fun _ _ _ _ _ _ h => h.elim⟩
section
variable {K : PySem.W.Frag} {σ : L2.St} {H H' : Hp} {ta tb te tl tx : TE} {t : TT} {d : Dt} {ds : List Dt} {D : Ends} {tw tz : TS} {g : TG} {l : List Sl}
theorem y_setL {i j : Nat} {p : Addr} {vs : List V} (S : Sg K H σ l) (hi : l[i]? = some (.v (.ref p))) (hp : H p = some (.lst vs)) (ha : AtL K H vs ds) (h : EvD K te σ H d) (hx : ∀ H1, Ex H H1 → EvD K tb σ H1 (.int (j : Int))) (hj : j < ds.length)
    (k : ∀ ws H1, ExF p H H1 → TKp K H H1 → H1 p = some (.lst ws) → AtL K H1 ws (ds.set j d) → Sg K H1 σ l → D.nx σ H1) : tAsg te (gSub (tVar i) tb L2.rSetL) D σ H := by
  refine h H (Ex.refl _) _ fun v H1 e1 a => ⟨_, S.val hi, (hx H1 e1) H1 (Ex.refl _) _ fun w H2 e2 b => ?_⟩
  rw [b.of_int]
  have hp2 : H2 p = some (.lst vs) := e2 _ _ (e1 _ _ hp)
  have e12 := e1.trans e2
  refine ⟨p, vs, (j : Int), j, rfl, rfl, hp2, ixN_nat (by rw [ha.len]; exact hj), ?_⟩
  have tk : TKp K H2 (upd H2 p (.lst (vs.set j v))) := .exF hp2 (ExF.upd _ _ _)
  exact k _ _ ((ExF.ex e12).trans (ExF.upd _ _ _)) ((TKp.ex e12).trans tk) upd_same (((ha.mono e12).set (a.mono e2) j).tk tk) ((S.mono e12).tk tk)
theorem ed_inLst {neg : Bool} {i : Nat} {p : Addr} {vs : List V} {s : Int} {ss : List Int} (S : Sg K H σ l) (hi : l[i]? = some (.v (.ref p))) (hp : H p = some (.lst vs)) (hv : AtL K H vs (ss.map .int)) (ha : EvD K ta σ H (.int s)) :
    EvD K (tOp (rIn K neg) ta (tVar i)) σ H (.bl (if neg then !(ss.any fun z => z == s) else ss.any fun z => z == s)) := fun H1 e Q q =>
  ha H1 e _ fun v H2 e2 a => ⟨_, S.val hi, by
    rw [a.of_int]
    refine ⟨p, vs, rfl, .inl (sq_of (e2 _ _ (e _ _ hp))), rfl, by rw [hv.ints]; exact flat_int ss, ?_⟩
    rw [hv.ints, inV_int]
    exact q _ H2 e2 (.bl _)⟩
theorem At.is' {v : V} {d d' : Dt} (a : At K H v d) (e : d = d') : At K H v d' := by rw [← e]; exact a
theorem z_drop (h : EvD K te σ H d) (k : ∀ H1, Ex H H1 → tz D σ H1) : tSeq (tDrop te) tz D σ H := h H (Ex.refl _) _ fun v H1 e _ => k H1 e
end
section
variable {K : PySem.W.Frag} {σ : L2.St} {H H' : Hp} {t : TT} {ds : List Dt} {D : Ends} {tu tz : TS} {l : List Sl}
theorem ed_tupL {i : Nat} {p : Addr} {vs : List V} (S : Sg K H σ l) (hi : l[i]? = some (.v (.ref p))) (hp : H p = some (.lst vs)) (ha : AtL K H vs ds) : EvD K (tCB (rTupO K) (tCons (tVar i) tNil)) σ H (.tup ds) := fun H1 e Q q =>
  ⟨_, S.val hi, p, vs, rfl, .inl ⟨sq_of (e _ _ hp), fun t ht => q _ _ (Ex.new ht) (.tup (st_of upd_same) ((ha.mono e).mono (Ex.new ht)))⟩⟩
theorem ed_lenL {i : Nat} {p : Addr} {vs : List V} (S : Sg K H σ l) (hi : l[i]? = some (.v (.ref p))) (hp : H p = some (.lst vs)) (ha : AtL K H vs ds) : EvD K (tCB (rLn K) (tCons (tVar i) tNil)) σ H (.int (ds.length : Int)) := fun H1 e Q q =>
  ⟨_, S.val hi, p, vs, rfl, .inl (sq_of (e _ _ hp)), by rw [ha.len]; exact q _ H1 (Ex.refl _) (.int _)⟩
theorem z_no' {tw : TS} (h : EvT t σ H false) (k : ∀ H1, Ex H H1 → tz D σ H1) : tSeq (tIfS t tw tNext) tz D σ H := q_when h (fun z => nomatch z) fun _ => k
end
/-! ### systems -/
def ruleD (r : E false × E true) : Dt := .tup [encE r.1, .tup [.tup [nD 0, encE r.2]]]
def sysD (S : Sy) : Dt := .tup [eyD S.ey, boxD S.m, rowD (List.replicate S.ey.length 0), .tup [.tup (S.ru.map ruleD)]]
/-- a term, a claim that may be reckoned -/
structure Fit (l : Bool) {b : Bool} (e : E b) : Prop where
  dp : deep e ≤ 12
  ok : okL l e = true
  rg : rng e = true
structure Wok (ey : List (List Nat)) : Prop where
  lt : ∀ h o, o ∈ seen ey h → o < ey.length
  few : ∀ h, (seen ey h).length ≤ 6
  sm : ey.length ≤ 6
  two : 2 ≤ ey.length
structure SyOk (S : Sy) : Prop where
  web : Wok S.ey
  m1 : 1 ≤ S.m
  m2 : S.m ≤ 6
  ru : ∀ r ∈ S.ru, Fit false r.1 ∧ Fit false r.2
  rl : S.ru.length ≤ 6
theorem Wok.sc {ey : List (List Nat)} (W : Wok ey) {st : List Nat} (hs : st.length = ey.length) {h : Nat} (hh : h < ey.length) : SC.Ok ⟨ey, st, h, none⟩ :=
  ⟨hh, hs, W.lt, fun n e => (nomatch e), fun h => Nat.le_trans (W.few h) (by decide), Nat.le_trans W.sm (by decide)⟩
theorem Wok.sco {ey : List (List Nat)} (W : Wok ey) {st : List Nat} (hs : st.length = ey.length) {h o : Nat} (hh : h < ey.length) (ho : o ∈ seen ey h) : SC.Ok ⟨ey, st, h, some o⟩ :=
  ⟨hh, hs, W.lt, fun n e => by cases e; exact W.lt _ _ ho, fun h => Nat.le_trans (W.few h) (by decide), Nat.le_trans W.sm (by decide)⟩
theorem zero_at {n h : Nat} (hh : h < n) : ((List.replicate n 0).map nD)[h]? = some (nD 0) := by
  rw [List.getElem?_map, List.getElem?_replicate, if_pos hh] <;> rfl
theorem findIdx_drop {α : Type} (p : α → Bool) {l : List α} {i : Nat} {a : α} (h : l[i]? = some a) : (l.drop i).findIdx? p = if p a = true then some 0 else ((l.drop (i + 1)).findIdx? p).map (· + 1) := by
  obtain ⟨hi, e⟩ := List.getElem?_eq_some_iff.mp h
  rw [List.drop_eq_getElem_cons hi, List.findIdx?_cons, e]
theorem idx_rul (S : Sy) (st : List Nat) (h i : Nat) (e : idx S st h = some i) : ∃ r, S.ru[i]? = some r ∧ rul S st h = some r := by
  unfold idx at e
  unfold rul
  generalize S.ru = l at e
  generalize (fun r : E false × E true => hol S.ey st h r.1 0) = p at e
  induction l generalizing i with
  | nil => cases e
  | cons x l ih =>
    rw [List.findIdx?_cons] at e
    rw [List.find?_cons]
    cases hp : p x with
    | true =>
      rw [hp, if_pos rfl] at e
      cases e
      exact ⟨x, rfl, rfl⟩
    | false =>
      rw [hp, if_neg (by decide)] at e
      cases e2 : l.findIdx? p with
      | none => rw [e2] at e; cases e
      | some j =>
        rw [e2] at e
        cases e
        obtain ⟨r, h1, h2⟩ := ih j e2
        exact ⟨r, h1, h2⟩
theorem idx_none (S : Sy) (st : List Nat) (h : Nat) (e : idx S st h = none) : rul S st h = none := by
  unfold idx at e
  unfold rul
  generalize S.ru = l at e
  generalize (fun r : E false × E true => hol S.ey st h r.1 0) = p at e
  induction l with
  | nil => rfl
  | cons x l ih =>
    rw [List.findIdx?_cons] at e
    rw [List.find?_cons]
    cases hp : p x with
    | true =>
      rw [hp, if_pos rfl] at e
      cases e
    | false =>
      rw [hp, if_neg (by decide)] at e
      cases e2 : l.findIdx? p with
      | none => exact ih e2
      | some j => rw [e2] at e; cases e
theorem idx_rdy (S : Sy) (st : List Nat) (h : Nat) : (!isNon (opD (idx S st h))) = rdy S st h := by
  unfold rdy
  cases e : idx S st h with
  | none => rw [idx_none S st h e] <;> rfl
  | some i =>
    obtain ⟨r, _, h2⟩ := idx_rul S st h i e
    rw [h2] <;> rfl
/-! ### the words that stand in a term -/
def wdI (we wl : Bool) : {b : Bool} → E b → Bool
  | _, .eye _ => we
  | _, .least _ => wl
  | _, .most _ => wl
  | _, .many _ => wl
  | _, _ => false
theorem hasW_subs (we wl : Bool) {b : Bool} (e : E b) : hasW we wl e = (wdI we wl e || (subs e).any fun s => hasW we wl s.2) := by
  cases e <;> simp [subs, kids, hasW, wdI, kt, kc, kn, List.filterMap_cons, Bool.or_assoc]
/-- the words asked for -/
def Wds (ws : List Str) (we wl : Bool) : Prop := ∀ {b : Bool} (e : E b), (ws.any fun z => z == wrd e) = wdI we wl e
theorem wds_eye : Wds ["eye"] true false := fun {b} e => by cases e <;> simp only [wrd, wdI] <;> decide +kernel
theorem wds_look : Wds ["eye", "least", "most", "many"] true true := fun {b} e => by cases e <;> simp only [wrd, wdI] <;> decide +kernel
def fit1 (l : Bool) {b : Bool} (e : E b) : Bool := okL l e && decide (size e ≤ 60) && decide (deep e ≤ 12)
def pair1 (e : E true) : Bool := okL true e && decide (size e + 1 ≤ 60) && decide (deep e + 1 ≤ 12) && !hasW true false e
theorem fit1_fit {l b : Bool} {e : E b} (r : rng e = true) (h : fit1 l e = true) : Fit l e := by
  unfold fit1 at h
  rw [Bool.and_eq_true, Bool.and_eq_true, decide_eq_true_eq, decide_eq_true_eq] at h
  exact ⟨h.2, h.1.1, r⟩
theorem pair1_fit {e : E true} (r : rng e = true) (h : pair1 e = true) : Fit true e := by
  unfold pair1 at h
  rw [Bool.and_eq_true, Bool.and_eq_true, Bool.and_eq_true, decide_eq_true_eq, decide_eq_true_eq] at h
  exact ⟨by omega, h.1.1.1, r⟩
def shD (t p : E true) : Dt := .tup [encE t, encE p]
def sumD (t p : E true) : Dt := .tup [shD t p]
def stlD (c : E false) : Dt := .tup [encE c]
/-! ### what the defs promise -/
def RRa : List Dt → Dt → Prop := fun ds d => ∃ (S : Sy) (st : List Nat) (h : Nat), SyOk S ∧ st.length = S.ey.length ∧ h < S.ey.length ∧ ds = [sysD S, stD st, nD h] ∧ d = opD (idx S st h)
def RRh : List Dt → List Dt → Prop := fun ds es => ∃ (S : Sy) (st : List Nat), SyOk S ∧ st.length = S.ey.length ∧ ds = [sysD S, stD st] ∧ es = ((List.range S.ey.length).filter fun h => rdy S st h).map nD
def RBb : List Dt → Dt → Prop := fun ds d => ∃ (S : Sy) (st : List Nat) (h : Nat), SyOk S ∧ st.length = S.ey.length ∧ h < S.ey.length ∧ rdy S st h = true ∧ ds = [sysD S, stD st, nD h] ∧ d = boxD (newv S st h)
def RAa : List Dt → Dt → Prop := fun ds d => ∃ (S : Sy) (st : List Nat) (h : Nat), SyOk S ∧ st.length = S.ey.length ∧ h < S.ey.length ∧ rdy S st h = true ∧ ds = [sysD S, stD st, .tup [nD h]] ∧ d = .non
def RAc : List Dt → Dt → Prop := fun ds d => ∃ (S : Sy) (st : List Nat) (h : Nat), SyOk S ∧ st.length = S.ey.length ∧ h < S.ey.length ∧ rdy S st h = true ∧ ds = [sysD S, stD st, .tup [nD h]] ∧ d = stD (act S st h)
def RHw (n : Nat) : List Dt → Dt → Prop := fun ds d => ∃ (b : Bool) (e : E b) (ws : List Str) (we wl : Bool), deep e ≤ n ∧ Wds ws we wl ∧ ds = [encE e, .tup (ws.map .str)] ∧ d = .bl (hasW we wl e)
def RPr : List Dt → Dt → Prop := fun ds d => ∃ (e : E true) (m : Nat), rng e = true ∧ ds = [boxD m, encE e] ∧ d = .bl (pair1 e)
def RSh : List Dt → Dt → Prop := fun ds d => ∃ (t p : E true) (m : Nat), rng t = true ∧ rng p = true ∧ ds = [boxD m, shD t p] ∧ d = .bl (fit1 false t && pair1 p)
def RSu : List Dt → Dt → Prop := fun ds d => ∃ (S : Sy) (t p : E true), rng t = true ∧ rng p = true ∧ ds = [sysD S, sumD t p] ∧ d = .bl (fit1 false t && pair1 p)
def RSt : List Dt → Dt → Prop := fun ds d => ∃ (S : Sy) (c : E false), rng c = true ∧ ds = [sysD S, stlD c] ∧ d = .bl (fit1 false c)
def RSa : List Dt → Dt → Prop := fun ds d => ∃ (S : Sy) (t p : E true) (st : List Nat) (h : Nat), SyOk S ∧ st.length = S.ey.length ∧ h < S.ey.length ∧ Fit false t ∧ Fit true p ∧ ds = [sysD S, sumD t p, stD st, nD h] ∧ d = nD (share S.ey t p st h)
def RTo : List Dt → Dt → Prop := fun ds d => ∃ (S : Sy) (t p : E true) (st : List Nat), SyOk S ∧ st.length = S.ey.length ∧ Fit false t ∧ Fit true p ∧ ds = [sysD S, sumD t p, stD st] ∧ d = nD (total S.ey t p st)
abbrev s_rule_at : Stmt := top 31
theorem sc_rule_at : FnScope ["system", "stand", "hand", "eyes", "sizes", "kinds", "rules", "number", "rule"] ["system", "stand", "hand"] (defScope s_rule_at) := ⟨rfl, rfl, rfl, by decide +kernel, rfl, by decide +kernel, by decide +kernel⟩
abbrev s_ready_hands : Stmt := top 32
theorem sc_ready_hands : FnScope ["system", "stand", "hand"] ["system", "stand"] (defScope s_ready_hands) := ⟨rfl, rfl, rfl, by decide +kernel, rfl, by decide +kernel, by decide +kernel⟩
abbrev s_boxes_behind : Stmt := top 33
theorem sc_boxes_behind : FnScope ["system", "stand", "hand", "eyes", "sizes", "kinds", "rules", "boxes", "box", "term"] ["system", "stand", "hand"] (defScope s_boxes_behind) := ⟨rfl, rfl, rfl, by decide +kernel, rfl, by decide +kernel, by decide +kernel⟩
abbrev s_ask_acting : Stmt := top 34
theorem sc_ask_acting : FnScope ["system", "stand", "hands", "able", "last", "place", "hand"] ["system", "stand", "hands"] (defScope s_ask_acting) := ⟨rfl, rfl, rfl, by decide +kernel, rfl, by decide +kernel, by decide +kernel⟩
abbrev s_acted : Stmt := top 35
theorem sc_acted : FnScope ["system", "stand", "hands", "found", "hand"] ["system", "stand", "hands"] (defScope s_acted) := ⟨rfl, rfl, rfl, by decide +kernel, rfl, by decide +kernel, by decide +kernel⟩
abbrev s_has_word : Stmt := top 38
theorem sc_has_word : FnScope ["thing", "words", "part"] ["thing", "words"] (defScope s_has_word) := ⟨rfl, rfl, rfl, by decide +kernel, rfl, by decide +kernel, by decide +kernel⟩
abbrev s_is_pair : Stmt := top 39
theorem sc_is_pair : FnScope ["sizes", "thing"] ["sizes", "thing"] (defScope s_is_pair) := ⟨rfl, rfl, rfl, by decide +kernel, rfl, by decide +kernel, by decide +kernel⟩
abbrev s_is_shares : Stmt := top 40
theorem sc_is_shares : FnScope ["sizes", "thing"] ["sizes", "thing"] (defScope s_is_shares) := ⟨rfl, rfl, rfl, by decide +kernel, rfl, by decide +kernel, by decide +kernel⟩
abbrev s_is_sum : Stmt := top 41
theorem sc_is_sum : FnScope ["system", "thing", "one"] ["system", "thing"] (defScope s_is_sum) := ⟨rfl, rfl, rfl, by decide +kernel, rfl, by decide +kernel, by decide +kernel⟩
abbrev s_is_settled : Stmt := top 42
theorem sc_is_settled : FnScope ["system", "thing", "one"] ["system", "thing"] (defScope s_is_settled) := ⟨rfl, rfl, rfl, by decide +kernel, rfl, by decide +kernel, by decide +kernel⟩
abbrev s_share_at : Stmt := top 43
theorem sc_share_at : FnScope ["system", "shares", "stand", "hand", "eyes", "term", "pair", "other"] ["system", "shares", "stand", "hand"] (defScope s_share_at) := ⟨rfl, rfl, rfl, by decide +kernel, rfl, by decide +kernel, by decide +kernel⟩
abbrev s_sum_at : Stmt := top 44
theorem sc_sum_at : FnScope ["system", "shares", "stand", "hand"] ["system", "shares", "stand"] (defScope s_sum_at) := ⟨rfl, rfl, rfl, by decide +kernel, rfl, by decide +kernel, by decide +kernel⟩
theorem filt_sub (we wl : Bool) : ∀ l : List Kid, ((l.filter fun k => k.2.2.isSome).map fun k => Dt.bl (match k.2.2 with | some s => hasW we wl s.2 | none => false)) = ((l.filterMap fun k => k.2.2).map fun s => hasW we wl s.2).map Dt.bl
  | [] => rfl
  | (a, b, none) :: l => filt_sub we wl l
  | (a, b, some s) :: l => congrArg (Dt.bl (hasW we wl s.2) :: ·) (filt_sub we wl l)
def KidS (k : Kid) : Prop := (∃ (b : Bool) (e : E b), k = (fm b, encE e, some ⟨b, e⟩)) ∨ ∃ s n, k = kn s n
theorem kids_kind {b : Bool} (e : E b) : ∀ k ∈ kids e, KidS k := by
  have two : ∀ {x y : Kid}, KidS x → KidS y → ∀ k ∈ [x, y], KidS k := fun {x y} hx hy k hk => by
    rcases List.mem_cons.mp hk with rfl | hk
    · exact hx
    · rcases List.mem_cons.mp hk with rfl | hk
      · exact hy
      · cases hk
  have one : ∀ {x : Kid}, KidS x → ∀ k ∈ [x], KidS k := fun {x} hx k hk => by
    rcases List.mem_cons.mp hk with rfl | hk
    · exact hx
    · cases hk
  have t : ∀ a : E true, KidS (kt a) := fun a => .inl ⟨true, a, rfl⟩
  have c : ∀ a : E false, KidS (kc a) := fun a => .inl ⟨false, a, rfl⟩
  have nn : ∀ (s : Str) (n : Nat), KidS (kn s n) := fun s n => .inr ⟨s, n, rfl⟩
  cases e with
  | num k => exact one (nn _ _)
  | own => exact one (nn _ _)
  | eye k => exact two (nn _ _) (nn _ _)
  | me => exact fun k hk => nomatch hk
  | plus a b => exact two (t a) (t b)
  | less a b => exact two (t a) (t b)
  | rest a k => exact two (t a) (nn _ _)
  | least a => exact one (t a)
  | most a => exact one (t a)
  | many x => exact one (c x)
  | ite x a b =>
    intro k hk
    rcases List.mem_cons.mp hk with rfl | hk
    · exact c x
    · exact two (t a) (t b) k hk
  | its => exact one (nn _ _)
  | it => exact fun k hk => nomatch hk
  | yes => exact fun k hk => nomatch hk
  | like a b => exact two (t a) (t b)
  | blw a b => exact two (t a) (t b)
  | not x => exact one (c x)
  | and x y => exact two (c x) (c y)
  | or x y => exact two (c x) (c y)
theorem sum_nat {α : Type} (f : α → Nat) : ∀ l : List α, (l.map fun a => ((f a : Nat) : Int)).sum = (((l.map f).sum : Nat) : Int)
  | [] => rfl
  | a :: l => by
    have := sum_nat f l
    rw [List.map_cons, List.sum_cons, List.map_cons, List.sum_cons, this]
    omega
section
variable {P : Program} {w : World} {K : PySem.W.Frag} {mg : Str → Option Value} {base : Heap}
theorem ok_rule_at (D : Df K mg "rule_at" s_rule_at ["system", "stand", "hand"]) (B : Bi mg) (O_holds_at : Ok P w K mg base CX0 29 "holds_at" ["eyes", "stand", "hand", "claim"] (spF K (RHol K))) : Ok P w K mg base CX0 30 "rule_at" ["system", "stand", "hand"] (spF K RRa) := by
  refine D.okF sc_rule_at (fun ds d h => ?_) fun cdv A outer s H f ds d Q E hr h q => ?_
  · obtain ⟨_, _, _, _, _, _, rfl, _⟩ := h
    rfl
  · obtain ⟨Y, st, h, ok, hs, hh, rfl, rfl⟩ := h
    refine ⟨_, (pss_cons (ps_asg (pv 0) (pg_tup rfl (pgs_cons (pg_name (i := 3) sc_rule_at.nd rfl (Or.inl rfl)) (pgs_cons (pg_name (i := 4) sc_rule_at.nd rfl (Or.inl rfl)) (pgs_cons (pg_name (i := 5) sc_rule_at.nd rfl (Or.inl rfl)) (pgs_cons (pg_name (i := 6) sc_rule_at.nd rfl (Or.inl rfl)) pgs_nil))))))
    (pss_cons (ps_for PassesOwn.never rfl (pi_enumT rfl B.enumerate (pa_cons (pe_ix ix_tup (pv 6) (pe_ix ix_tup (pv 5) (pv 2) (fun _ _ => rfl)) (fun _ _ => rfl)) pa_nil)) (pg_tup rfl (pgs_cons (pg_name (i := 7) sc_rule_at.nd rfl (Or.inl rfl)) (pgs_cons (pg_name (i := 8) sc_rule_at.nd rfl (Or.inl rfl)) pgs_nil))) (pss_one (ps_if (pt_val (pe_ok O_holds_at hr rfl (pa_cons (pv 3) (pa_cons (pv 1) (pa_cons (pv 2) (pa_cons (pe_ix ix_tup (pv 8) pe_int (fun _ _ => rfl)) pa_nil)))))) (pss_one (ps_ret (pv 7))) pss_nil)))
    (pss_one (ps_ret pe_non)))), fun σ S => ?_⟩
    refine z_tup4 S (ed_var S rfl) fun σ1 H1 e1 S1 => ?_
    refine q_for1 (tf_enum (enc := ruleD) Y.ru (es_one (ed_ixn (j := 0) (ed_var S1 rfl) (ed_ixn (j := h) (ed_var S1 rfl) (ed_var S1 rfl) (zero_at hh)) rfl))
      (fun i σ' H' => Sg K H' σ' [.d (sysD Y), .d (stD st), .d (nD h), .d (eyD Y.ey), .no, .no, .no, .no, .no] ∧ Ex H H' ∧ idx Y st h = ((Y.ru.drop i).findIdx? fun r => hol Y.ey st h r.1 0).map (· + i))
      (fun H2 e2 => ⟨(S1.mono e2).less rfl fun i => ?_, e1.trans e2, ?_⟩) (fun i σ' H' T o hT k => ?_) (fun i r x σ' H' hi k ax N hN => ?_) fun σ' H' k => ?_)
    · match i with
      | 0 => rfl
      | 1 => rfl
      | 2 => rfl
      | 3 => rfl
      | 4 => trivial
      | 5 => trivial
      | 6 => trivial
      | 7 => trivial
      | 8 => trivial
      | n + 9 => trivial
    · rw [List.drop_zero]
      unfold idx
      cases (Y.ru.findIdx? fun r => hol Y.ey st h r.1 0) <;> rfl
    · exact ⟨k.1.mono (Ex.new hT), k.2.1.trans (Ex.new hT), k.2.2⟩
    · obtain ⟨k1, k2, k3⟩ := k
      have S2 := (k1.setD (.int (i : Int)) 7).setD ax 8
      have hf := (ok.ru r (List.mem_of_getElem? hi)).1
      refine s_when (et_b (ed_call (es_cons (ed_var S2 rfl) (es_cons (ed_var S2 rfl) (es_cons (ed_var S2 rfl) (es_one (ed_ixc (j := 0) (ed_var S2 rfl) rfl))))) ⟨Y.ey, st, h, r.1, ok.web.sc hs hh, hf.dp, hf.ok, hf.rg, rfl, rfl⟩)) (fun hb H3 e3 => ?_) fun hb H3 e3 => ?_
      · refine y_ret (ed_var (S2.mono e3) rfl) fun v H4 e4 a => q v H4 ((k2.trans e3).trans e4) ?_
        rw [k3, findIdx_drop _ hi, if_pos hb]
        exact a.is' (by show Dt.int (i : Int) = nD (0 + i); rw [Nat.zero_add])
      · refine hN _ _ (.ex e3) ⟨(S2.mono e3).less rfl fun i => ?_, k2.trans e3, ?_⟩
        · match i with
          | 0 => rfl
          | 1 => rfl
          | 2 => rfl
          | 3 => rfl
          | 4 => trivial
          | 5 => trivial
          | 6 => trivial
          | 7 => trivial
          | 8 => trivial
          | n + 9 => trivial
        · rw [k3, findIdx_drop _ hi, if_neg (by
            have hb' : hol Y.ey st h r.1 0 = false := hb
            show ¬ hol Y.ey st h r.1 0 = true
            rw [hb']
            decide)]
          cases ((Y.ru.drop (i + 1)).findIdx? fun r => hol Y.ey st h r.1 0) with
          | none => rfl
          | some j => exact congrArg some (by show j + 1 + i = j + (i + 1); omega)
    · obtain ⟨k1, k2, k3⟩ := k
      rw [List.drop_length] at k3
      refine y_ret (K := K) (σ := σ') (D := { nx := fun _ H' => Q .non H', rt := Q }) ed_cN fun v H4 e4 a => q v H4 (k2.trans e4) ?_
      rw [k3]
      exact a
theorem ok_ready_hands (D : Df K mg "ready_hands" s_ready_hands ["system", "stand"]) (B : Bi mg) (O_rule_at : Ok P w K mg base CX0 30 "rule_at" ["system", "stand", "hand"] (spF K RRa)) : Ok P w K mg base CX0 31 "ready_hands" ["system", "stand"] (spM K RRh) := by
  refine D.okM sc_ready_hands (fun ds d h => ?_) fun cdv A outer s H f ds es Q E hr h q => ?_
  · obtain ⟨_, _, _, _, rfl, _⟩ := h
    rfl
  · obtain ⟨Y, st, ok, hs, rfl, rfl⟩ := h
    refine ⟨_, (pss_one (ps_ret (pe_lc (own := [("hand", 2)]) (g := gName 2) rfl sc_ready_hands.nd (pi_range1 rfl B.range (pa_cons (pe_callB call_len_seq rfl B.len (by decide +kernel) (pa_cons (pv 1) pa_nil)) pa_nil)) (blkOk_by (N := ["system", "stand", "hand"]) (sc := defScope s_ready_hands) (by decide +kernel)) (fun _ _ _ _ _ => (pg_name (i := 2) sc_ready_hands.nd rfl (Or.inl rfl))) (fun _ _ _ _ _ => (pts_one (pt_cmpR op_notN (pe_ok O_rule_at hr rfl (pa_cons (pv 0) (pa_cons (pv 1) (pa_cons (pv 2) pa_nil)))) pe_non (nomark _)))) (fun _ _ _ _ _ => (pv 2))))), fun σ S => ?_⟩
    refine y_retM (em_lcR (n := Y.ey.length) (fun h => rdy Y st h) nD (es_one ((ed_len (ds := st.map boxD) (ed_var S rfl)).is (by rw [List.length_map, hs]))) (by have := ok.web.sm; omega) fun h v H1 hh e a => ⟨?_, fun _ => ?_⟩) q
    · have S1 := ((S.mono e).wipe [2]).setD a 2
      exact et_is (et_d (ed_notN (ed_call (es_cons (ed_var S1 rfl) (es_cons (ed_var S1 rfl) (es_one (ed_var S1 rfl)))) ⟨Y, st, h, ok, hs, hh, rfl, rfl⟩))) (idx_rdy Y st h)
    · have S1 := ((S.mono e).wipe [2]).setD a 2
      exact ed_var S1 rfl
theorem ok_boxes_behind (D : Df K mg "boxes_behind" s_boxes_behind ["system", "stand", "hand"]) (B : Bi mg) (O_rule_at : Ok P w K mg base CX0 30 "rule_at" ["system", "stand", "hand"] (spF K RRa)) (O_value_at : Ok P w K mg base CX0 30 "value_at" ["eyes", "stand", "hand", "term"] (spF K (RVal K))) :
    Ok P w K mg base CX0 31 "boxes_behind" ["system", "stand", "hand"] (spF K RBb) := by
  refine D.okF sc_boxes_behind (fun ds d h => ?_) fun cdv A outer s H f ds d Q E hr h q => ?_
  · obtain ⟨_, _, _, _, _, _, _, rfl, _⟩ := h
    rfl
  · obtain ⟨Y, st, h, ok, hs, hh, hy, rfl, rfl⟩ := h
    refine ⟨_, (pss_cons (ps_asg (pv 0) (pg_tup rfl (pgs_cons (pg_name (i := 3) sc_boxes_behind.nd rfl (Or.inl rfl)) (pgs_cons (pg_name (i := 4) sc_boxes_behind.nd rfl (Or.inl rfl)) (pgs_cons (pg_name (i := 5) sc_boxes_behind.nd rfl (Or.inl rfl)) (pgs_cons (pg_name (i := 6) sc_boxes_behind.nd rfl (Or.inl rfl)) pgs_nil))))))
    (pss_cons (ps_set (i := 7) sc_boxes_behind.nd rfl (Or.inl rfl) (pe_callTy call_list_of rfl B.list (by decide +kernel) (pa_cons (pe_ix ix_tup (pv 1) (pv 2) (fun _ _ => rfl)) pa_nil)))
    (pss_cons (ps_for PassesOwn.never rfl (pi_tup (pe_ix ix_tup (pe_ix ix_tup (pe_ix ix_tup (pv 6) (pe_ix ix_tup (pv 5) (pv 2) (fun _ _ => rfl)) (fun _ _ => rfl)) (pe_ok O_rule_at hr rfl (pa_cons (pv 0) (pa_cons (pv 1) (pa_cons (pv 2) pa_nil)))) (fun _ _ => rfl)) pe_int (fun _ _ => rfl))) (pg_tup rfl (pgs_cons (pg_name (i := 8) sc_boxes_behind.nd rfl (Or.inl rfl)) (pgs_cons (pg_name (i := 9) sc_boxes_behind.nd rfl (Or.inl rfl)) pgs_nil))) (pss_one (ps_asg (pe_op op_mod (pe_ok O_value_at hr rfl (pa_cons (pv 3) (pa_cons (pv 1) (pa_cons (pv 2) (pa_cons (pv 9) pa_nil))))) (pe_ix ix_tup (pv 4) (pv 8) (fun _ _ => rfl))) (pg_sub (pv 7) (pv 8) set_list))))
    (pss_one (ps_ret (pe_callTy call_tuple_of rfl B.tuple (by decide +kernel) (pa_cons (pv 7) pa_nil))))))), fun σ S => ?_⟩
    cases hi : idx Y st h with
    | none =>
      unfold rdy at hy
      rw [idx_none Y st h hi] at hy
      cases hy
    | some i =>
      obtain ⟨r, hr1, hr2⟩ := idx_rul Y st h i hi
      have hf := (ok.ru r (List.mem_of_getElem? hr1)).2
      refine z_tup4 S (ed_var S rfl) fun σ1 H1 e1 S1 => ?_
      refine z_asgM S1 (em_list (ds := [nD (st.getD h 0)]) (ed_ixn (j := h) (ed_var S1 rfl) (ed_var S1 rfl) (stD_at (by rw [hs]; exact hh)))) fun fa vs0 σ2 H2 hfa e2 hw2 aw2 S2 => ?_
      have hrd : (Y.ru.map ruleD)[i]? = some (ruleD r) := by rw [List.getElem?_map, hr1] <;> rfl
      refine q_for1 (tf_tup (enc := fun t : K9M.E true => .tup [nD 0, encE t]) [r.2] (ed_ixc (j := 1) (ed_ixn (j := i) (ed_ixn (j := 0) (ed_var S2 rfl) (ed_ixn (j := h) (ed_var S2 rfl) (ed_var S2 rfl) (zero_at hh)) rfl) ((ed_call (es_cons (ed_var S2 rfl) (es_cons (ed_var S2 rfl) (es_one (ed_var S2 rfl)))) ⟨Y, st, h, ok, hs, hh, rfl, rfl⟩).is (by rw [hi] <;> rfl)) hrd) rfl)
        (fun i σ' H' => Sg K H' σ' [.no, .d (stD st), .d (nD h), .d (eyD Y.ey), .d (boxD Y.m), .no, .no, .v (.ref fa), .no, .no] ∧ Ex H1 H' ∧ ∃ ws, H' fa = some (.lst ws) ∧ AtL K H' ws [nD (if i = 0 then st.getD h 0 else newv Y st h)])
        (fun H3 e3 => ⟨(S2.mono e3).less rfl fun i => ?_, e2.trans e3, vs0, e3 _ _ hw2, aw2.mono e3⟩) (fun j t x σ' H' hj k ax N hN => ?_) fun σ' H' k => ?_)
      · match i with
        | 0 => trivial
        | 1 => rfl
        | 2 => rfl
        | 3 => rfl
        | 4 => rfl
        | 5 => trivial
        | 6 => trivial
        | 7 => rfl
        | 8 => trivial
        | 9 => trivial
        | n + 10 => trivial
      · obtain ⟨k1, k2, ws, k3, k4⟩ := k
        have hj0 : j = 0 := by
          have := (List.getElem?_eq_some_iff.mp hj).1
          simp only [List.length_cons, List.length_nil] at this
          omega
        subst hj0
        obtain rfl : r.2 = t := Option.some.inj hj
        refine g_tup2 ax fun x1 x2 a1 a2 => ?_
        have S3 := (k1.setD a1 8).setD a2 9
        refine y_setL (j := 0) (d := nD (val Y.ey st h r.2 0 % Y.m)) S3 rfl k3 k4 ((ed_IC (ed_call (es_cons (ed_var S3 rfl) (es_cons (ed_var S3 rfl) (es_cons (ed_var S3 rfl) (es_one (ed_var S3 rfl))))) ⟨Y.ey, st, h, r.2, ok.web.sc hs hh, hf.dp, hf.ok, hf.rg, rfl, rfl⟩) (ed_ixn (j := 0) (ed_var S3 rfl) (ed_var S3 rfl) rfl) ?_).is (congrArg Dt.int (Int.natCast_emod _ _).symm)) (fun H4 e4 => ed_var (S3.mono e4) rfl) (Nat.zero_lt_one) fun ws' H4 eF tk hw aw S4 => ?_
        · show (0 : Int) < (Y.m : Int)
          have := ok.m1
          omega
        · refine hN _ _ tk ⟨S4.less rfl fun i => ?_, Ex.exF k2 hfa eF, ws', hw, ?_⟩
          · match i with
            | 0 => trivial
            | 1 => rfl
            | 2 => rfl
            | 3 => rfl
            | 4 => rfl
            | 5 => trivial
            | 6 => trivial
            | 7 => rfl
            | 8 => trivial
            | 9 => trivial
            | n + 10 => trivial
          · have ev : newv Y st h = val Y.ey st h r.2 0 % Y.m := by
              unfold newv
              rw [hr2]
            rw [if_neg (by omega), ev]
            exact aw
      · obtain ⟨k1, k2, ws, k3, k4⟩ := k
        exact y_ret (D := { nx := fun _ H' => Q .non H', rt := Q }) (ed_tupL k1 rfl k3 k4) fun v H4 e4 a => q v H4 ((e1.trans k2).trans e4) a
theorem ok_ask_acting (D : Df K mg "ask_acting" s_ask_acting ["system", "stand", "hands"]) (B : Bi mg) (O_ready_hands : Ok P w K mg base CX0 31 "ready_hands" ["system", "stand"] (spM K RRh)) (O_is_whole : Ok P w K mg base CX0 31 "is_whole" ["thing"] (spF K RWh)) :
    Ok P w K mg base CX0 32 "ask_acting" ["system", "stand", "hands"] (spF K RAa) := by
  refine D.okF sc_ask_acting (fun ds d h => ?_) fun cdv A outer s H f ds d Q E hr h q => ?_
  · obtain ⟨_, _, _, _, _, _, _, rfl, _⟩ := h
    rfl
  · obtain ⟨Y, st, h, ok, hs, hh, hy, rfl, rfl⟩ := h
    refine ⟨_, (pss_cons (ps_if (PW.pt (pw_or (pt_not (pt_val (pe_callB call_isi rfl B.isinstance (by decide +kernel) (pa_cons (pv 2) (pa_cons (pe_bltn (v := .ty "tuple") (u := .type "tuple") rfl B.tuple (by decide +kernel) rfl) pa_nil))))) (pw_or1 (pt_cmpR op_eq (pe_callB call_len_seq rfl B.len (by decide +kernel) (pa_cons (pv 2) pa_nil)) pe_int (nomark _))))) (pss_one ps_dead) pss_nil)
    (pss_cons (ps_set (i := 3) sc_ask_acting.nd rfl (Or.inl rfl) (pe_ok O_ready_hands hr rfl (pa_cons (pv 0) (pa_cons (pv 1) pa_nil))))
    (pss_cons (ps_set (i := 4) sc_ask_acting.nd rfl (Or.inl rfl) (pe_un un_neg pe_int))
    (pss_one (ps_for PassesOwn.never rfl (pi_enumT rfl B.enumerate (pa_cons (pv 2) pa_nil)) (pg_tup rfl (pgs_cons (pg_name (i := 5) sc_ask_acting.nd rfl (Or.inl rfl)) (pgs_cons (pg_name (i := 6) sc_ask_acting.nd rfl (Or.inl rfl)) pgs_nil))) (pss_cons (ps_if (PW.pt (pw_or (pt_not (pt_val (pe_ok O_is_whole hr rfl (pa_cons (pv 6) pa_nil)))) (pw_or (pt_cmpR op_notIn_seq (pv 6) (pv 3) (by rfl)) (pw_or1 (pt_cmpR op_le (pv 6) (pv 4) (nomark _)))))) (pss_one ps_dead) pss_nil)
      (pss_one (ps_set (i := 4) sc_ask_acting.nd rfl (Or.inl rfl) (pv 6))))))))), fun σ S => ?_⟩
    refine z_no' (et_orF (et_not (a := true) (et_b (ed_isi (ed_var S rfl) (show kitB "tuple" "tuple" = some true by decide +kernel)))) (et_is (et_d (ed_eqI (ed_len (ed_var S rfl)) ed_cI)) rfl)) fun H1 e1 => ?_
    have S1 := S.mono e1
    refine z_asgM S1 (em_call (es_cons (ed_var S1 rfl) (es_one (ed_var S1 rfl))) ⟨Y, st, ok, hs, rfl, rfl⟩) fun la vs0 σ2 H2 hla e2 hw2 aw2 S2 => ?_
    refine z_asg S2 (ed_neg ed_cI) fun σ3 H3 e3 S3 => ?_
    refine tf_enum (enc := fun h : Nat => nD h) [h] (es_one (ed_var S3 rfl))
      (fun i σ' H' => Sg K H' σ' [.no, .no, .no, .v (.ref la), .d (.int (if i = 0 then -1 else (h : Int))), .no, .no] ∧ Ex H H' ∧ H' la = some (.lst vs0))
      (fun H4 e4 => ⟨(S3.mono e4).less rfl fun i => ?_, (e1.trans (e2.trans e3)).trans e4, e4 _ _ (e3 _ _ hw2)⟩) (fun i σ' H' T o hT k => ⟨k.1.mono (Ex.new hT), k.2.1.trans (Ex.new hT), Ex.new hT _ _ k.2.2⟩) (fun j t x σ' H' hj k ax N hN => ?_) fun σ' H' k => ?_
    · match i with
      | 0 => trivial
      | 1 => trivial
      | 2 => trivial
      | 3 => rfl
      | 4 => rfl
      | 5 => trivial
      | 6 => trivial
      | n + 7 => trivial
    · obtain ⟨k1, k2, k3⟩ := k
      have hj0 : j = 0 := by
        have := (List.getElem?_eq_some_iff.mp hj).1
        simp only [List.length_cons, List.length_nil] at this
        omega
      subst hj0
      obtain rfl : h = t := Option.some.inj hj
      have S4 := (k1.setD (.int ((0 : Nat) : Int)) 5).setD ax 6
      have al : AtL K H' vs0 ((((List.range Y.ey.length).filter fun h => rdy Y st h).map fun n : Nat => (n : Int)).map .int) := by
        have e9 : AtL K H2 vs0 ((((List.range Y.ey.length).filter fun h => rdy Y st h).map fun n : Nat => (n : Int)).map .int) := by
          rw [List.map_map]
          exact aw2
        rw [e9.ints]
        exact AtL.of_ints _
      refine z_no' (et_orF (et_not (a := true) (et_b (ed_call (es_one (ed_var S4 rfl)) ⟨(h : Int), rfl, rfl⟩))) (et_orF (et_is (et_d (ed_inLst (neg := true) S4 rfl k3 al (ed_var S4 rfl))) ?_) (et_is (et_d (ed_IB (ed_var S4 rfl) (ed_var S4 rfl))) ?_))) fun H5 e5 => ?_
      · show (!_) = false
        rw [any_mem, decide_eq_true (List.mem_filter.mpr ⟨List.mem_range.mpr hh, hy⟩)] <;> rfl
      · rw [if_pos rfl]
        exact decide_eq_false (by omega)
      · refine y_asg (S4.mono e5) (ed_var (S4.mono e5) rfl) fun σ6 H6 e6 S6 => hN _ _ (.ex (e5.trans e6)) ⟨S6.less rfl fun i => ?_, k2.trans (e5.trans e6), (e5.trans e6) _ _ k3⟩
        match i with
        | 0 => trivial
        | 1 => trivial
        | 2 => trivial
        | 3 => rfl
        | 4 => rfl
        | 5 => trivial
        | 6 => trivial
        | n + 7 => trivial
    · exact q .non H' k.2.1 .non
theorem ok_acted (D : Df K mg "acted" s_acted ["system", "stand", "hands"]) (B : Bi mg) (O_ask_acting : Ok P w K mg base CX0 32 "ask_acting" ["system", "stand", "hands"] (spF K RAa)) (O_boxes_behind : Ok P w K mg base CX0 32 "boxes_behind" ["system", "stand", "hand"] (spF K RBb)) :
    Ok P w K mg base CX0 33 "acted" ["system", "stand", "hands"] (spF K RAc) := by
  refine D.okF sc_acted (fun ds d h => ?_) fun cdv A outer s H f ds d Q E hr h q => ?_
  · obtain ⟨_, _, _, _, _, _, _, rfl, _⟩ := h
    rfl
  · obtain ⟨Y, st, h, ok, hs, hh, hy, rfl, rfl⟩ := h
    refine ⟨_, (pss_cons (ps_expr (pe_ok O_ask_acting hr rfl (pa_cons (pv 0) (pa_cons (pv 1) (pa_cons (pv 2) pa_nil)))))
    (pss_cons (ps_set (i := 3) sc_acted.nd rfl (Or.inl rfl) (pe_callTy call_list_of rfl B.list (by decide +kernel) (pa_cons (pv 1) pa_nil)))
    (pss_cons (ps_for PassesOwn.never rfl (pi_tup (pv 2)) (pg_name (i := 4) sc_acted.nd rfl (Or.inl rfl)) (pss_one (ps_asg (pe_ok O_boxes_behind hr rfl (pa_cons (pv 0) (pa_cons (pv 1) (pa_cons (pv 4) pa_nil)))) (pg_sub (pv 3) (pv 4) set_list))))
    (pss_one (ps_ret (pe_callTy call_tuple_of rfl B.tuple (by decide +kernel) (pa_cons (pv 3) pa_nil))))))), fun σ S => ?_⟩
    refine z_drop (ed_call (es_cons (ed_var S rfl) (es_cons (ed_var S rfl) (es_one (ed_var S rfl)))) ⟨Y, st, h, ok, hs, hh, hy, rfl, rfl⟩) fun H1 e1 => ?_
    have S1 := S.mono e1
    refine z_asgM S1 (em_list (ed_var S1 rfl)) fun fa vs0 σ2 H2 hfa e2 hw2 aw2 S2 => ?_
    refine q_for1 (tf_tup (enc := fun h : Nat => nD h) [h] (ed_var S2 rfl)
      (fun i σ' H' => Sg K H' σ' [.d (sysD Y), .d (stD st), .no, .v (.ref fa), .no] ∧ Ex H1 H' ∧ ∃ ws, H' fa = some (.lst ws) ∧ AtL K H' ws ((if i = 0 then st else act Y st h).map boxD))
      (fun H4 e4 => ⟨(S2.mono e4).less rfl fun i => ?_, e2.trans e4, vs0, e4 _ _ hw2, aw2.mono e4⟩) (fun j t x σ' H' hj k ax N hN => ?_) fun σ' H' k => ?_)
    · match i with
      | 0 => rfl
      | 1 => rfl
      | 2 => trivial
      | 3 => rfl
      | 4 => trivial
      | n + 5 => trivial
    · obtain ⟨k1, k2, ws, k3, k4⟩ := k
      have hj0 : j = 0 := by
        have := (List.getElem?_eq_some_iff.mp hj).1
        simp only [List.length_cons, List.length_nil] at this
        omega
      subst hj0
      obtain rfl : h = t := Option.some.inj hj
      have S4 := k1.setD ax 4
      rw [if_pos rfl] at k4
      refine y_setL (j := h) S4 rfl k3 k4 (ed_call (es_cons (ed_var S4 rfl) (es_cons (ed_var S4 rfl) (es_one (ed_var S4 rfl)))) ⟨Y, st, h, ok, hs, hh, hy, rfl, rfl⟩) (fun H5 e5 => ed_var (S4.mono e5) rfl) (by rw [List.length_map, hs]; exact hh) fun ws' H5 eF tk hw aw S5 => ?_
      refine hN _ _ tk ⟨S5.less rfl fun i => ?_, Ex.exF k2 hfa eF, ws', hw, ?_⟩
      · match i with
        | 0 => rfl
        | 1 => rfl
        | 2 => trivial
        | 3 => rfl
        | 4 => trivial
        | n + 5 => trivial
      · rw [if_neg (by omega)]
        unfold act
        rw [List.map_set]
        exact aw
    · obtain ⟨k1, k2, ws, k3, k4⟩ := k
      exact y_ret (D := { nx := fun _ H' => Q .non H', rt := Q }) (ed_tupL k1 rfl k3 k4) fun v H4 e4 a => q v H4 ((e1.trans k2).trans e4) a
theorem ok_has_word (D : Df K mg "has_word" s_has_word ["thing", "words"]) (B : Bi mg) : ∀ n : Nat, Ok P w K mg base CX0 (n + 1) "has_word" ["thing", "words"] (spF K (RHw n))
  | 0 => by
    have h1 : ∀ ds d, ¬ RHw 0 ds d := fun ds d h => by
      obtain ⟨b, e, _, _, _, h, _⟩ := h
      have := deep_pos e
      omega
    exact D.okF sc_has_word (fun ds d h => absurd h (h1 ds d)) fun cdv A outer s H f ds d Q E hr h q => absurd h (h1 ds d)
  | n + 1 => by
    have O_has_word := ok_has_word D B n
    refine D.okF sc_has_word (fun ds d h => ?_) fun cdv A outer s H f ds d Q E hr h q => ?_
    · obtain ⟨_, _, _, _, _, _, _, rfl, _⟩ := h
      rfl
    · obtain ⟨b, e, ws, we, wl, hd, hw, rfl, rfl⟩ := h
      have hde := (deep_subs e n).mp hd
      rw [enc_kids]
      refine ⟨_, (pss_one (ps_ret (pe_or (pe_cmpR op_in_seq (pe_ix ix_tup (pv 0) pe_int (fun _ _ => rfl)) (pv 1) (by rfl)) (pe_one (pe_callB (cr_any rfl) rfl B.any (by decide +kernel) (pa_cons (pe_lc (own := [("part", 2)]) (g := gName 2) rfl sc_has_word.nd (pi_tup (pe_slice sl_tupA (pv 0) (po_some pe_int) po_none)) (blkOk_by (N := ["thing", "words", "part"]) (sc := defScope s_has_word) (by decide +kernel)) (fun _ _ _ _ _ => (pg_name (i := 2) sc_has_word.nd rfl (Or.inl rfl))) (fun _ _ _ _ _ => (pts_one (pt_val (pe_callB (show CallR _ _ (rIsi K) from call_isi) rfl B.isinstance (by decide +kernel) (pa_cons (pv 2) (pa_cons (pe_bltn (v := .ty "tuple") (u := .type "tuple") rfl B.tuple (by decide +kernel) rfl) pa_nil)))))) (fun _ _ _ _ _ => (pe_ok O_has_word hr rfl (pa_cons (pv 2) (pa_cons (pv 1) pa_nil))))) pa_nil)))))), fun σ S => ?_⟩
      refine y_ret ((ed_or (ed_inS (neg := false) (ss := ws) (ed_ixc (j := 0) (ed_var S rfl) rfl) (ed_var S rfl)) fun _ => ed_anyM (bs := (subs e).map fun s => hasW we wl s.2) ((em_lcT (enc := fun k : Kid => k.2.1) (kids e) (fun k => k.2.2.isSome) (fun k => .bl (match k.2.2 with | some s => hasW we wl s.2 | none => false)) (ed_from1 (ds := .str (wrd e) :: (kids e).map fun k => k.2.1) (ed_var S rfl) (Nat.succ_le_succ (Nat.zero_le _))) ?_ fun k v H1 hk e1 a => ?_).is ?_)).is ?_) q
      · have hk3 : (kids e).length ≤ 3 := by cases e <;> simp [kids]
        omega
      · have S1 := ((S.mono e1).wipe [2]).setD a 2
        rcases kids_kind e k hk with ⟨b', e', rfl⟩ | ⟨sn, m, rfl⟩
        · have h2 := hde ⟨b', e'⟩ (List.mem_filterMap.mpr ⟨_, hk, rfl⟩)
          exact ⟨et_b (ed_isi (ed_var S1 rfl) (by show kitB (tyD (encE e')) "tuple" = some true; rw [enc_kids]; show kitB "tuple" "tuple" = some true; decide +kernel)), fun _ => ed_call (es_cons (ed_var S1 rfl) (es_one (ed_var S1 rfl))) ⟨b', e', ws, we, wl, h2, hw, rfl, rfl⟩⟩
        · exact ⟨et_b (ed_isi (ed_var S1 rfl) (show kitB "int" "tuple" = some false by decide +kernel)), fun z => nomatch z⟩
      · exact filt_sub we wl (kids e)
      · refine congrArg Dt.bl ?_
        rw [hasW_subs, ← hw e, List.any_map]
        rfl
theorem ok_is_pair (D : Df K mg "is_pair" s_is_pair ["sizes", "thing"]) (O_is_inner : Ok P w K mg base CX0 13 "is_inner" ["sizes", "thing"] (spF K RIn)) (O_has_word : Ok P w K mg base CX0 13 "has_word" ["thing", "words"] (spF K (RHw 12))) : Ok P w K mg base CX0 14 "is_pair" ["sizes", "thing"] (spF K RPr) := by
  refine D.okF sc_is_pair (fun ds d h => ?_) fun cdv A outer s H f ds d Q E hr h q => ?_
  · obtain ⟨_, _, _, rfl, _⟩ := h
    rfl
  · obtain ⟨e, m, hg, rfl, rfl⟩ := h
    refine ⟨_, (pss_one (ps_ret (pe_and (pe_ok O_is_inner hr rfl (pa_cons (pv 0) (pa_cons (pv 1) pa_nil))) (pe_one (pe_not (pe_ok O_has_word hr rfl (pa_cons (pv 1) (pa_cons (pe_tup (pa_cons pe_str pa_nil)) pa_nil)))))))), fun σ S => ?_⟩
    refine y_ret (ed_and (ed_call (es_cons (ed_var S rfl) (es_one (ed_var S rfl))) ⟨e, m, hg, rfl, rfl⟩) fun hb => ed_not (ed_call (es_cons (ed_var S rfl) (es_one (ed_tup (es_one ed_cS)))) ⟨true, e, ["eye"], true, false, ?_, wds_eye, rfl, rfl⟩)) q
    rw [Bool.and_eq_true, Bool.and_eq_true, decide_eq_true_eq, decide_eq_true_eq] at hb
    omega
theorem ok_is_shares (D : Df K mg "is_shares" s_is_shares ["sizes", "thing"]) (B : Bi mg) (O_is_term : Ok P w K mg base CX0 14 "is_term" ["sizes", "thing"] (spF K (RTm true))) (O_is_pair : Ok P w K mg base CX0 14 "is_pair" ["sizes", "thing"] (spF K RPr)) : Ok P w K mg base CX0 15 "is_shares" ["sizes", "thing"] (spF K RSh) := by
  refine D.okF sc_is_shares (fun ds d h => ?_) fun cdv A outer s H f ds d Q E hr h q => ?_
  · obtain ⟨_, _, _, _, _, rfl, _⟩ := h
    rfl
  · obtain ⟨t, p, m, ht, hp, rfl, rfl⟩ := h
    refine ⟨_, (pss_one (ps_ret (pe_and (pe_callB call_isi rfl B.isinstance (by decide +kernel) (pa_cons (pv 1) (pa_cons (pe_bltn (v := .ty "tuple") (u := .type "tuple") rfl B.tuple (by decide +kernel) rfl) pa_nil))) (pe_and (pe_cmpR op_eq (pe_callB call_len_seq rfl B.len (by decide +kernel) (pa_cons (pv 1) pa_nil)) pe_int (nomark _)) (pe_and (pe_ok O_is_term hr rfl (pa_cons (pv 0) (pa_cons (pe_ix ix_tup (pv 1) pe_int (fun _ _ => rfl)) pa_nil))) (pe_one (pe_ok O_is_pair hr rfl (pa_cons (pv 0) (pa_cons (pe_ix ix_tup (pv 1) pe_int (fun _ _ => rfl)) pa_nil))))))))), fun σ S => ?_⟩
    exact y_ret ((ed_and (a := true) (ed_isi (ed_var S rfl) (show kitB "tuple" "tuple" = some true by decide +kernel)) fun _ => ed_and (a := true) ((ed_eqI (ed_len (ed_var S rfl)) ed_cI).is rfl) fun _ => ed_and (ed_call (es_cons (ed_var S rfl) (es_one (ed_ixc (j := 0) (ed_var S rfl) rfl))) ⟨t, m, ht, rfl, rfl⟩) fun _ => ed_call (es_cons (ed_var S rfl) (es_one (ed_ixc (j := 1) (ed_var S rfl) rfl))) ⟨p, m, hp, rfl, rfl⟩)) q
theorem ok_is_sum (D : Df K mg "is_sum" s_is_sum ["system", "thing"]) (B : Bi mg) (O_is_shares : Ok P w K mg base CX0 15 "is_shares" ["sizes", "thing"] (spF K RSh)) : Ok P w K mg base CX0 16 "is_sum" ["system", "thing"] (spF K RSu) := by
  refine D.okF sc_is_sum (fun ds d h => ?_) fun cdv A outer s H f ds d Q E hr h q => ?_
  · obtain ⟨_, _, _, _, _, rfl, _⟩ := h
    rfl
  · obtain ⟨Y, t, p, ht, hp, rfl, rfl⟩ := h
    refine ⟨_, (pss_cons (ps_if (PW.pt (pw_or (pt_not (pt_val (pe_callB call_isi rfl B.isinstance (by decide +kernel) (pa_cons (pv 1) (pa_cons (pe_bltn (v := .ty "tuple") (u := .type "tuple") rfl B.tuple (by decide +kernel) rfl) pa_nil))))) (pw_or1 (pt_cmpR op_ne (pe_callB call_len_seq rfl B.len (by decide +kernel) (pa_cons (pv 1) pa_nil)) (pe_callB call_len_seq rfl B.len (by decide +kernel) (pa_cons (pe_ix ix_tup (pv 0) pe_int (fun _ _ => rfl)) pa_nil)) (nomark _))))) (pss_one (ps_ret pe_bl)) pss_nil)
    (pss_one (ps_ret (pe_callB (cr_all rfl) rfl B.all (by decide +kernel) (pa_cons (pe_lc (own := [("one", 2)]) (g := gName 2) (tt := tYes) rfl sc_is_sum.nd (pi_tup (pv 1)) (blkOk_by (N := ["system", "thing", "one"]) (sc := defScope s_is_sum) (by decide +kernel)) (fun _ _ _ _ _ => (pg_name (i := 2) sc_is_sum.nd rfl (Or.inl rfl))) (fun _ _ _ _ _ => pts_nil) (fun _ _ _ _ _ => (pe_ok O_is_shares hr rfl (pa_cons (pe_ix (show IxR _ (rIxT K) from ix_tup) (pv 0) pe_int (fun _ _ => rfl)) (pa_cons (pv 2) pa_nil))))) pa_nil))))), fun σ S => ?_⟩
    refine z_no' (et_orF (et_not (a := true) (et_b (ed_isi (ed_var S rfl) (show kitB "tuple" "tuple" = some true by decide +kernel)))) (et_is (et_d (ed_neI (ed_len (ed_var S rfl)) (ed_len (ds := [.tup (Y.ru.map ruleD)]) (ed_ixc (j := 3) (ed_var S rfl) rfl)))) rfl)) fun H1 e1 => ?_
    have S1 := S.mono e1
    refine y_ret ((ed_allM (bs := [fit1 false t && pair1 p]) (em_lcT (enc := fun x : K9M.E true × K9M.E true => shD x.1 x.2) [(t, p)] (fun _ => true) (fun x => .bl (fit1 false x.1 && pair1 x.2)) (ed_var S1 rfl) (by show 1 ≤ _; decide) fun x v H2 hx e2 a => ⟨et_yes, fun _ => ?_⟩)).is ?_) fun v H3 e3 a => q v H3 (e1.trans e3) a
    · have S2 := ((S1.mono e2).wipe [2]).setD a 2
      rcases List.mem_cons.mp hx with rfl | hx
      · exact ed_call (es_cons (ed_ixc (j := 1) (ed_var S2 rfl) rfl) (es_one (ed_var S2 rfl))) ⟨t, p, Y.m, ht, hp, rfl, rfl⟩
      · cases hx
    · exact congrArg Dt.bl (by show (fit1 false t && pair1 p && true) = _; rw [Bool.and_true])
theorem ok_is_settled (D : Df K mg "is_settled" s_is_settled ["system", "thing"]) (B : Bi mg) (O_is_claim : Ok P w K mg base CX0 15 "is_claim" ["sizes", "thing"] (spF K (RTm false))) : Ok P w K mg base CX0 16 "is_settled" ["system", "thing"] (spF K RSt) := by
  refine D.okF sc_is_settled (fun ds d h => ?_) fun cdv A outer s H f ds d Q E hr h q => ?_
  · obtain ⟨_, _, _, rfl, _⟩ := h
    rfl
  · obtain ⟨Y, c, hc, rfl, rfl⟩ := h
    refine ⟨_, (pss_cons (ps_if (PW.pt (pw_or (pt_not (pt_val (pe_callB call_isi rfl B.isinstance (by decide +kernel) (pa_cons (pv 1) (pa_cons (pe_bltn (v := .ty "tuple") (u := .type "tuple") rfl B.tuple (by decide +kernel) rfl) pa_nil))))) (pw_or1 (pt_cmpR op_ne (pe_callB call_len_seq rfl B.len (by decide +kernel) (pa_cons (pv 1) pa_nil)) (pe_callB call_len_seq rfl B.len (by decide +kernel) (pa_cons (pe_ix ix_tup (pv 0) pe_int (fun _ _ => rfl)) pa_nil)) (nomark _))))) (pss_one (ps_ret pe_bl)) pss_nil)
    (pss_one (ps_ret (pe_callB (cr_all rfl) rfl B.all (by decide +kernel) (pa_cons (pe_lc (own := [("one", 2)]) (g := gName 2) (tt := tYes) rfl sc_is_settled.nd (pi_tup (pv 1)) (blkOk_by (N := ["system", "thing", "one"]) (sc := defScope s_is_settled) (by decide +kernel)) (fun _ _ _ _ _ => (pg_name (i := 2) sc_is_settled.nd rfl (Or.inl rfl))) (fun _ _ _ _ _ => pts_nil) (fun _ _ _ _ _ => (pe_ok O_is_claim hr rfl (pa_cons (pe_ix (show IxR _ (rIxT K) from ix_tup) (pv 0) pe_int (fun _ _ => rfl)) (pa_cons (pv 2) pa_nil))))) pa_nil))))), fun σ S => ?_⟩
    refine z_no' (et_orF (et_not (a := true) (et_b (ed_isi (ed_var S rfl) (show kitB "tuple" "tuple" = some true by decide +kernel)))) (et_is (et_d (ed_neI (ed_len (ed_var S rfl)) (ed_len (ds := [.tup (Y.ru.map ruleD)]) (ed_ixc (j := 3) (ed_var S rfl) rfl)))) rfl)) fun H1 e1 => ?_
    have S1 := S.mono e1
    refine y_ret ((ed_allM (bs := [fit1 false c]) (em_lcT (enc := fun x : K9M.E false => encE x) [c] (fun _ => true) (fun x => .bl (fit1 false x)) (ed_var S1 rfl) (by show 1 ≤ _; decide) fun x v H2 hx e2 a => ⟨et_yes, fun _ => ?_⟩)).is ?_) fun v H3 e3 a => q v H3 (e1.trans e3) a
    · have S2 := ((S1.mono e2).wipe [2]).setD a 2
      rcases List.mem_cons.mp hx with rfl | hx
      · exact ed_call (es_cons (ed_ixc (j := 1) (ed_var S2 rfl) rfl) (es_one (ed_var S2 rfl))) ⟨x, Y.m, hc, rfl, rfl⟩
      · cases hx
    · exact congrArg Dt.bl (by show (fit1 false c && true) = _; rw [Bool.and_true])
theorem ok_share_at (D : Df K mg "share_at" s_share_at ["system", "shares", "stand", "hand"]) (B : Bi mg) (O_value_at : Ok P w K mg base CX0 29 "value_at" ["eyes", "stand", "hand", "term"] (spF K (RVal K))) (O_value_by : Ok P w K mg base CX0 29 "value_by" ["eyes", "stand", "hand", "other", "inner"] (spF K (RVby K))) :
    Ok P w K mg base CX0 30 "share_at" ["system", "shares", "stand", "hand"] (spF K RSa) := by
  refine D.okF sc_share_at (fun ds d h => ?_) fun cdv A outer s H f ds d Q E hr h q => ?_
  · obtain ⟨_, _, _, _, _, _, _, _, _, _, rfl, _⟩ := h
    rfl
  · obtain ⟨Y, t, p, st, h, ok, hs, hh, ft, fp, rfl, rfl⟩ := h
    refine ⟨_, (pss_cons (ps_set (i := 4) sc_share_at.nd rfl (Or.inr rfl) (pe_ix ix_tup (pv 0) pe_int (fun _ _ => rfl)))
    (pss_cons (ps_asg (pe_ix ix_tup (pv 1) (pe_ix ix_tup (pe_ix ix_tup (pv 0) pe_int (fun _ _ => rfl)) (pv 3) (fun _ _ => rfl)) (fun _ _ => rfl)) (pg_tup rfl (pgs_cons (pg_name (i := 5) sc_share_at.nd rfl (Or.inl rfl)) (pgs_cons (pg_name (i := 6) sc_share_at.nd rfl (Or.inr rfl)) pgs_nil))))
    (pss_one (ps_ret (pe_op op_add (pe_ok O_value_at hr rfl (pa_cons (pv 4) (pa_cons (pv 2) (pa_cons (pv 3) (pa_cons (pv 5) pa_nil))))) (pe_callB (cr_sum rfl) rfl B.sum (by decide +kernel) (pa_cons (pe_lc (own := [("other", 7)]) (g := gName 7) (tt := tYes) rfl sc_share_at.nd (pi_tup (pe_ix ix_tup (pv 4) (pv 3) (fun _ _ => rfl))) (blkOk_by (N := ["system", "shares", "stand", "hand", "eyes", "term", "pair", "other"]) (sc := defScope s_share_at) (by decide +kernel)) (fun _ _ _ _ _ => (pg_name (i := 7) sc_share_at.nd rfl (Or.inl rfl))) (fun _ _ _ _ _ => pts_nil) (fun _ _ _ _ _ => (pe_ok O_value_by hr rfl (pa_cons (pv 4) (pa_cons (pv 2) (pa_cons (pv 3) (pa_cons (pv 7) (pa_cons (pv 6) pa_nil)))))))) pa_nil))))))), fun σ S => ?_⟩
    refine z_asg S (ed_ixc (j := 0) (ed_var S rfl) rfl) fun σ1 H1 e1 S1 => ?_
    refine z_tup2 S1 (ed_ixn (j := 0) (ed_var S1 rfl) (ed_ixn (j := h) (ed_ixc (j := 2) (ed_var S1 rfl) rfl) (ed_var S1 rfl) (zero_at hh)) rfl) fun σ2 H2 e2 S2 => ?_
    refine y_ret ((ed_II (ed_call (es_cons (ed_var S2 rfl) (es_cons (ed_var S2 rfl) (es_cons (ed_var S2 rfl) (es_one (ed_var S2 rfl))))) ⟨Y.ey, st, h, t, ok.web.sc hs hh, ft.dp, ft.ok, ft.rg, rfl, rfl⟩)
      (ed_sumM (ns := (seen Y.ey h).map fun o => ((val Y.ey st h p o : Nat) : Int)) ((em_lcT (enc := nD) (seen Y.ey h) (fun _ => true) (fun o => nD (val Y.ey st h p o)) (ed_ixn (j := h) (ed_var S2 rfl) (ed_var S2 rfl) (eyD_at hh)) (Nat.le_trans (ok.web.few h) (by decide)) fun o v H3 ho e3 a => ⟨et_yes, fun _ => ?_⟩).is ?_))).is ?_) fun v H4 e4 a => q v H4 ((e1.trans e2).trans e4) a
    · have S3 := ((S2.mono e3).wipe [7]).setD a 7
      exact ed_call (es_cons (ed_var S3 rfl) (es_cons (ed_var S3 rfl) (es_cons (ed_var S3 rfl) (es_cons (ed_var S3 rfl) (es_one (ed_var S3 rfl)))))) ⟨Y.ey, st, h, o, p, ok.web.sco hs hh ho, fp.dp, fp.ok, fp.rg, rfl, rfl⟩
    · rw [filter_yes, List.map_map]
      rfl
    · rw [sum_nat]
      exact congrArg Dt.int (Int.natCast_add _ _).symm
theorem ok_sum_at (D : Df K mg "sum_at" s_sum_at ["system", "shares", "stand"]) (B : Bi mg) (O_share_at : Ok P w K mg base CX0 30 "share_at" ["system", "shares", "stand", "hand"] (spF K RSa)) : Ok P w K mg base CX0 31 "sum_at" ["system", "shares", "stand"] (spF K RTo) := by
  refine D.okF sc_sum_at (fun ds d h => ?_) fun cdv A outer s H f ds d Q E hr h q => ?_
  · obtain ⟨_, _, _, _, _, _, _, _, rfl, _⟩ := h
    rfl
  · obtain ⟨Y, t, p, st, ok, hs, ft, fp, rfl, rfl⟩ := h
    refine ⟨_, (pss_one (ps_ret (pe_callB (cr_sum rfl) rfl B.sum (by decide +kernel) (pa_cons (pe_lc (own := [("hand", 3)]) (g := gName 3) (tt := tYes) rfl sc_sum_at.nd (pi_range1 rfl B.range (pa_cons (pe_callB call_len_seq rfl B.len (by decide +kernel) (pa_cons (pv 2) pa_nil)) pa_nil)) (blkOk_by (N := ["system", "shares", "stand", "hand"]) (sc := defScope s_sum_at) (by decide +kernel)) (fun _ _ _ _ _ => (pg_name (i := 3) sc_sum_at.nd rfl (Or.inl rfl))) (fun _ _ _ _ _ => pts_nil) (fun _ _ _ _ _ => (pe_ok O_share_at hr rfl (pa_cons (pv 0) (pa_cons (pv 1) (pa_cons (pv 2) (pa_cons (pv 3) pa_nil))))))) pa_nil)))), fun σ S => ?_⟩
    refine y_ret ((ed_sumM (ns := (List.range Y.ey.length).map fun h => ((share Y.ey t p st h : Nat) : Int)) ((em_lcR (n := Y.ey.length) (fun _ => true) (fun h => nD (share Y.ey t p st h)) (es_one ((ed_len (ds := st.map boxD) (ed_var S rfl)).is (by rw [List.length_map, hs]))) (by have := ok.web.sm; omega) fun h v H1 hh e a => ⟨et_yes, fun _ => ?_⟩).is ?_)).is ?_) q
    · have S1 := ((S.mono e).wipe [3]).setD a 3
      exact ed_call (es_cons (ed_var S1 rfl) (es_cons (ed_var S1 rfl) (es_cons (ed_var S1 rfl) (es_one (ed_var S1 rfl))))) ⟨Y, t, p, st, h, ok, hs, hh, ft, fp, rfl, rfl⟩
    · rw [filter_yes, List.map_map]
      rfl
    · rw [sum_nat]
      rfl
end
end K9
end
section
set_option maxHeartbeats 600000
/-! K9N: neighbourhoods, fillings. -/
namespace K9
open PySem PySem.Spec PyProof.Rows L2 Evl K9M RZ
/-! ### t * 1 -/
theorem tuple_mul1 (l : Addr) (items : Array Value) (n : Nat) (sl : Array (Option Value)) (dd : Option Addr) (u : Tok) :
    Meets (Builtin.«tuple.__mul__» ⟨[.ref l, .int 1 u], []⟩) (fun _ R s => s.heap.get? l = some { cls := .type "tuple", dict := dd, data := .seq items n, slots := sl } ∧ R (.ok (.ret (Value.ref l))) s) :=
  .of_wp fun prog w A R s h => by
    obtain ⟨hp, g, d, tk, os⟩ := s
    obtain ⟨hl, h⟩ := h
    have f1 := AutoSeq1.idx_int
    have c1 : (items.isEmpty || (1 : Int) == 1) = true := by rw [Bool.or_eq_true]; exact .inr rfl
    wp_walk using wpAny_loadPart' hl
    repeat (first
      | (refine wpAny_ite_false (decide_eq_false (by decide)) ?_; wp_walk using wpAny_loadPart' hl)
      | (refine wpAny_ite_true (decide_eq_true (by exact c1)) ?_; wp_walk using wpAny_loadPart' hl))
    exact ⟨_, rfl, h⟩
def rRep1 (K : PySem.W.Frag) : R2 := fun x y H Q => ∃ l xs, x = .ref l ∧ y = .int 1 ∧ SqT K H l xs ∧ Q (.ref l) H
theorem op_rep1 {X : Cx} : OpR X (binaryOp .Mult) (rRep1 X.K) := by
  intro pins s σ H x y v u Q I rx ry h
  obtain ⟨l, xs, rfl, rfl, hT, q⟩ := h
  cases rx
  obtain ⟨t, rfl⟩ := ry
  obtain ⟨its, r, ⟨⟨cls, dd, data, sl⟩, ho, hc, n, hd⟩, hs⟩ := I.tuple hT
  simp only at hc hd
  subst hc hd
  refine wpAny_binaryOp_repeat_ref (T := "tuple") (U := "int") (by decide) ⟨_, ho, rfl⟩ (fun s' => typeIs_int s' 1 t) noFill_tuple_mul F.fills_int_mul F.slot_int_rmul repeat_tuple F.slot_int_index.lookup
    (call_meets F.slot_int_rmul (typeIs_int s 1 t) F.entry_int_rmul (F.args_int_rmul_2 _ _) (int_rmul_tuple 1 t l its.toArray n dd sl)
      ⟨ho, rfl, ⟨_, ho, rfl⟩, call_meets F.slot_tuple_mul ⟨_, ho, rfl⟩ F.entry_tuple_mul (F.args_tuple_mul_2 _ _) (tuple_mul1 l its.toArray n sl dd t) ⟨ho, ?_⟩⟩)
  exact ⟨.ref l, H, I, rfl, q⟩
section
variable {K : PySem.W.Frag} {σ : L2.St} {H : Hp} {ta tb : TE} {d : Dt} {ds : List Dt}
theorem ed_rep1 (ha : EvD K ta σ H (.tup ds)) (hb : EvD K tb σ H (.int ((1 : Nat) : Int))) : EvD K (tOp (rRep1 K) ta tb) σ H (.tup ds) := fun H1 e Q q =>
  ha H1 e _ fun v H2 e2 a => hb H2 (e.trans e2) _ fun w H3 e3 b => by
    obtain ⟨p, xs, rfl, hs, al⟩ := (a.mono e3).of_tup
    rw [b.of_int]
    exact ⟨p, xs, rfl, rfl, hs, q _ H3 (e2.trans e3) (.tup hs al)⟩
theorem rep_flat {α : Type} (x : α) : ∀ n : Nat, (List.replicate n [x]).flatten = List.replicate n x
  | 0 => rfl
  | n + 1 => by
    rw [List.replicate_succ, List.replicate_succ, List.flatten_cons, rep_flat x n]
    rfl
theorem atl_rep {v : V} (h : At K H v d) : ∀ n : Nat, AtL K H (List.replicate n v) (List.replicate n d)
  | 0 => .nil
  | n + 1 => .cons h (atl_rep h n)
/-- (d,) * n -/
theorem ed_rep {n : Nat} (ha : EvD K ta σ H (.tup [d])) (hb : EvD K tb σ H (.int (n : Int))) (h2 : 2 ≤ n) (hn : n ≤ 1000) : EvD K (tOp (rRepT K) ta tb) σ H (.tup (List.replicate n d)) := fun H1 e Q q =>
  ha H1 e _ fun v H2 e2 a => hb H2 (e.trans e2) _ fun w H3 e3 b => by
    obtain ⟨p, xs, rfl, hs, al⟩ := (a.mono e3).of_tup
    obtain ⟨x, r, rfl, ax, al'⟩ := al.of_cons
    obtain rfl := al'.of_nil
    rw [b.of_int]
    refine ⟨p, (n : Int), [x], rfl, rfl, hs, List.cons_ne_nil _ _, by omega, by omega, by show 1 ≤ 1000; decide, fun r hr => q _ _ ((e2.trans e3).trans (Ex.new hr)) (.tup (st_of upd_same) ?_)⟩
    rw [Int.toNat_natCast, rep_flat]
    exact atl_rep (ax.mono (Ex.new hr)) n
end
/-! ### arguments with a list at the end -/
def EvSL (K : PySem.W.Frag) (ta : TA) (σ : L2.St) (H : Hp) (ds : List Dt) (p : Addr) : Prop := ∀ H1, Ex H H1 → ∀ Q : List V → Hp → Prop, (∀ us H2, Ex H1 H2 → AtL K H2 us ds → Q (us ++ [.ref p]) H2) → ta σ H1 Q
/-- data, and a list of data that stands -/
def spFL (K : PySem.W.Frag) (R : List Dt → List Dt → Dt → Prop) : Sp := fun vs H Q _ => ∃ us p xs ds es d, vs = us ++ [.ref p] ∧ AtL K H us ds ∧ H p = some (.lst xs) ∧ AtL K H xs es ∧ R ds es d ∧ ∀ v H', Ex H H' → At K H' v d → Q v H'
def spML (K : PySem.W.Frag) (R : List Dt → List Dt → List Dt → Prop) : Sp := fun vs H Q _ => ∃ us p xs ds es fs, vs = us ++ [.ref p] ∧ AtL K H us ds ∧ H p = some (.lst xs) ∧ AtL K H xs es ∧ R ds es fs ∧ ∀ r ys H', H r = none → Ex H H' → H' r = some (.lst ys) → AtL K H' ys fs → Q (.ref r) H'
section
variable {K : PySem.W.Frag} {σ : L2.St} {H H' : Hp} {ta tb te tl tx : TE} {t : TT} {d : Dt} {ds es fs : List Dt} {D : Ends} {tw tz : TS} {g : TG} {l : List Sl} {p : Addr} {xs : List V} {E : XK}
theorem esl_end {i : Nat} (S : Sg K H σ l) (hi : l[i]? = some (.v (.ref p))) : EvSL K (tCons (tVar i) tNil) σ H [] p := fun H1 e Q q => ⟨_, S.val hi, q [] H1 (Ex.refl _) .nil⟩
theorem esl_cons {tr : TA} (h : EvD K ta σ H d) (hr : EvSL K tr σ H ds p) : EvSL K (tCons ta tr) σ H (d :: ds) p := fun H1 e _ q =>
  h H1 e _ fun v H2 e2 a => hr H2 (e.trans e2) _ fun vs H3 e3 l => q (v :: vs) H3 (e2.trans e3) (.cons (a.mono e3) l)
theorem ed_callL {R : List Dt → List Dt → Dt → Prop} {tr : TA} (h : EvSL K tr σ H ds p) (hp : H p = some (.lst xs)) (a : AtL K H xs es) (hR : R ds es d) : EvD K (tCall (spFL K R) [] E tr) σ H d := fun H1 e Q q =>
  h H1 e _ fun us H2 e2 l => by
    rw [List.append_nil]
    exact ⟨us, p, xs, ds, es, d, rfl, l, e2 _ _ (e _ _ hp), a.mono (e.trans e2), hR, fun v H3 e3 b => q v H3 (e2.trans e3) b⟩
theorem em_callL {R : List Dt → List Dt → List Dt → Prop} {tr : TA} (h : EvSL K tr σ H ds p) (hp : H p = some (.lst xs)) (a : AtL K H xs es) (hR : R ds es fs) : EvM K (tCall (spML K R) [] E tr) σ H fs := fun H1 e Q q =>
  h H1 e _ fun us H2 e2 l => by
    rw [List.append_nil]
    exact ⟨us, p, xs, ds, es, fs, rfl, l, e2 _ _ (e _ _ hp), a.mono (e.trans e2), hR, fun r ys H3 hr e3 hy b => q r ys H3 (fresh_back e2 hr) (e2.trans e3) hy b⟩
theorem sg_start {N : List Str} {us : List V} (h : AtL K H us ds) : Sg K H (L2.start N (us ++ [V.ref p])) (ds.map .d ++ .v (.ref p) :: List.replicate (N.length - (ds.length + 1)) .no) := by
  unfold L2.start
  rw [List.length_append, h.len, List.map_append, List.append_assoc]
  show Sg K H (us.map some ++ some (V.ref p) :: List.replicate (N.length - (ds.length + 1)) none) _
  generalize N.length - (ds.length + 1) = n
  have go : ∀ {vs : List V} {ds : List Dt}, AtL K H vs ds → Sg K H (vs.map some ++ some (V.ref p) :: List.replicate n none) (ds.map .d ++ .v (.ref p) :: List.replicate n .no) := by
    intro vs
    induction vs with
    | nil => intro ds h; cases h; exact .v _ (Sg.nones n)
    | cons v vs ih => intro ds h; cases h with | cons h t => exact .d h (ih t)
  exact go h
/-- list + list, both just made -/
theorem em_cat (ha : EvM K ta σ H ds) (hb : ∀ H1, Ex H H1 → EvM K tb σ H1 es) (hz : ds.length + es.length ≤ 90000) : EvM K (tOp rCat ta tb) σ H (ds ++ es) := fun H1 e Q q =>
  ha H1 e _ fun p xs H2 hp e2 hx a => hb H2 (e.trans e2) H2 (Ex.refl _) _ fun p' ys H3 hp' e3 hy b => by
    refine ⟨p, p', xs, ys, rfl, rfl, e3 _ _ hx, hy, ?_, fun r hr => q r _ _ (fresh_back (e2.trans e3) hr) ((e2.trans e3).trans (Ex.new hr)) upd_same (((a.mono e3).append b).mono (Ex.new hr))⟩
    rw [a.len, b.len]
    exact sz_of (by omega)
/-- over a list that was just made; the body keeps all that stands -/
theorem tf_listM {α : Type} {enc : α → Dt} (xs : List α) (h : EvM K tl σ H (xs.map enc)) (Pv : Nat → L2.St → Hp → Prop) (h0 : ∀ H1, Ex H H1 → Pv 0 σ H1)
    (hs : ∀ i a x σ' H', xs[i]? = some a → Pv i σ' H' → At K H' x (enc a) → ∀ N : L2.St → Hp → Prop, (∀ σ3 H3, Ex H' H3 → Pv (i + 1) σ3 H3 → N σ3 H3) → g x σ' H' fun σ2 H2 => tw { D with nx := N, ct := N, bk := D.nx } σ2 H2)
    (hd : ∀ σ' H', Pv xs.length σ' H' → D.nx σ' H') : tFor (iList K tl) g tw D σ H := h H (Ex.refl H) _ fun p vs H1 hp e1 hx l => by
  refine ⟨p, rfl, ⟨vs, sq_of hx⟩, for_list (xs := vs) (fun i σ' H' => Ex H1 H' ∧ Pv i σ' H') ⟨Ex.refl _, h0 H1 e1⟩ (fun i σ' H' _ k => ex_l k.1 (sq_of hx)) (fun i x σ' H' hi k => ?_) fun σ' H' k => ?_⟩
  · obtain ⟨d, hd, ad⟩ := l.at hi
    rw [List.getElem?_map] at hd
    cases ea : xs[i]? with
    | none => rw [ea] at hd; cases hd
    | some a =>
      rw [ea] at hd
      have ed : enc a = d := Option.some.inj hd
      rw [← ed] at ad
      exact hs i a x σ' H' ea k.2 (ad.mono k.1) _ fun σ3 H3 t p => ⟨k.1.trans t, p⟩
  · rw [l.len, List.length_map] at k
    exact hd σ' H' k.2
end
section
variable {P : Program} {w : World} {K : PySem.W.Frag} {mg : Str → Option Value} {base : Heap} {k : Nat} {x : Str} {st : Stmt} {N ps : List Str}
theorem Df.okFL {R : List Dt → List Dt → Dt → Prop} (D : Df K mg x st ps) (S : FnScope N ps (defScope st)) (len : ∀ ds es d, R ds es d → ds.length + 1 = ps.length)
    (hb : ∀ (cdv : Value) (A : Around) (outer : List PySem.Env) (s : Shared) (H : Hp) (f : Addr) (p : Addr) (xs : List V) (ds es : List Dt) (d : Dt) (Q : VK) (E : XK), Room k (A.deeper (envOfC x (defScope st) s.heap.objs.size f cdv)) → H p = some (.lst xs) → AtL K H xs es → R ds es d → (∀ v H', Ex H H' → At K H' v d → Q v H') →
      ∃ t, PSs (cxOf CX0 P w K mg base N x (defScope st) f cdv A outer s H E).nox (defBody st) t ∧ ∀ σ, Sg K H σ (ds.map .d ++ .v (.ref p) :: List.replicate (N.length - (ds.length + 1)) .no) → t { nx := fun _ H' => Q .non H', rt := Q } σ H) :
    Ok P w K mg base CX0 (k + 1) x ps (spFL K R) := by
  obtain ⟨f, fd, hm, b, F⟩ := D.ex
  refine ⟨f, fd, hm, F.kp, b, F.ok S (fun vs H Q E h => ?_) (fun cdv A outer s H vs Q E hr h => ?_)⟩
  · obtain ⟨us, p, xs, ds, es, d, rfl, l, _, _, hR, _⟩ := h
    rw [List.length_append, l.len]
    exact len ds es d hR
  · obtain ⟨us, p, xs, ds, es, d, rfl, l, hp, a, hR, q⟩ := h
    obtain ⟨t, h1, h2⟩ := hb cdv A outer s H f p xs ds es d Q E hr hp a hR q
    exact ⟨t, h1, h2 _ (sg_start l)⟩
theorem Df.okML {R : List Dt → List Dt → List Dt → Prop} (D : Df K mg x st ps) (S : FnScope N ps (defScope st)) (len : ∀ ds es d, R ds es d → ds.length + 1 = ps.length)
    (hb : ∀ (cdv : Value) (A : Around) (outer : List PySem.Env) (s : Shared) (H : Hp) (f : Addr) (p : Addr) (xs : List V) (ds es fs : List Dt) (Q : VK) (E : XK), Room k (A.deeper (envOfC x (defScope st) s.heap.objs.size f cdv)) → H p = some (.lst xs) → AtL K H xs es → R ds es fs → (∀ r ys H', H r = none → Ex H H' → H' r = some (.lst ys) → AtL K H' ys fs → Q (.ref r) H') →
      ∃ t, PSs (cxOf CX0 P w K mg base N x (defScope st) f cdv A outer s H E).nox (defBody st) t ∧ ∀ σ, Sg K H σ (ds.map .d ++ .v (.ref p) :: List.replicate (N.length - (ds.length + 1)) .no) → t { nx := fun _ H' => Q .non H', rt := Q } σ H) :
    Ok P w K mg base CX0 (k + 1) x ps (spML K R) := by
  obtain ⟨f, fd, hm, b, F⟩ := D.ex
  refine ⟨f, fd, hm, F.kp, b, F.ok S (fun vs H Q E h => ?_) (fun cdv A outer s H vs Q E hr h => ?_)⟩
  · obtain ⟨us, p, xs, ds, es, d, rfl, l, _, _, hR, _⟩ := h
    rw [List.length_append, l.len]
    exact len ds es d hR
  · obtain ⟨us, p, xs, ds, es, d, rfl, l, hp, a, hR, q⟩ := h
    obtain ⟨t, h1, h2⟩ := hb cdv A outer s H f p xs ds es d Q E hr hp a hR q
    exact ⟨t, h1, h2 _ (sg_start l)⟩
end
/-! ### the hands around a hand -/
def arB (ey : List (List Nat)) (t : E true) (h g : Nat) : Bool := g == h || decide (g ∈ seen ey h) || (seenBy ey h).any fun o => g == o || (hasW true true t && decide (g ∈ seen ey o))
def arL (ey : List (List Nat)) (t : E true) (h : Nat) : List Nat := (List.range ey.length).filter (arB ey t h)
theorem arB_is {ey : List (List Nat)} {t : E true} {h g : Nat} : arB ey t h g = true ↔ isAround ey t h g := by
  unfold arB isAround
  simp only [Bool.or_eq_true, beq_iff_eq, decide_eq_true_eq, List.any_eq_true, Bool.and_eq_true, or_assoc]
theorem mem_arL {ey : List (List Nat)} {t : E true} {h g : Nat} (W : Wok ey) (hh : h < ey.length) : g ∈ arL ey t h ↔ isAround ey t h g := by
  unfold arL
  rw [List.mem_filter, arB_is, List.mem_range]
  refine ⟨fun k => k.2, fun k => ⟨?_, k⟩⟩
  rcases k with rfl | k | ⟨o, ho, rfl | ⟨_, k⟩⟩
  · exact hh
  · exact W.lt _ _ k
  · exact List.mem_range.mp (List.mem_filter.mp ho).1
  · exact W.lt _ _ k
theorem arL_nodup {ey : List (List Nat)} {t : E true} {h : Nat} : (arL ey t h).Nodup := List.nodup_range.filter _
theorem arL_len {ey : List (List Nat)} {t : E true} {h : Nat} (W : Wok ey) : (arL ey t h).length ≤ 6 := Nat.le_trans (List.length_filter_le _ _) (by rw [List.length_range]; exact W.sm)
/-- what around_hand gathers -/
def gat (ey : List (List Nat)) (t : E true) (h i : Nat) : List Nat := h :: seen ey h ++ ((seenBy ey h).take i).flatMap fun o => o :: if hasW true true t = true then seen ey o else []
theorem gat_more {ey : List (List Nat)} {t : E true} {h i o : Nat} (e : (seenBy ey h)[i]? = some o) : gat ey t h (i + 1) = (gat ey t h i ++ [o]) ++ if hasW true true t = true then seen ey o else [] := by
  unfold gat
  rw [filter_take_more e, List.flatMap_append, List.flatMap_cons, List.flatMap_nil, List.append_nil, List.append_assoc, List.append_assoc]
  rfl
theorem flat_len {α β : Type} (f : α → List β) (n : Nat) : ∀ l : List α, (∀ a ∈ l, (f a).length ≤ n) → (l.flatMap f).length ≤ n * l.length
  | [], _ => Nat.zero_le _
  | a :: l, h => by
    have h1 := h a List.mem_cons_self
    have h2 := flat_len f n l fun b hb => h b (List.mem_cons_of_mem _ hb)
    rw [List.flatMap_cons, List.length_append, List.length_cons, Nat.mul_add, Nat.mul_one]
    omega
theorem seenBy_len {ey : List (List Nat)} {h : Nat} (W : Wok ey) : (seenBy ey h).length ≤ 6 := Nat.le_trans (List.length_filter_le _ _) (by rw [List.length_range]; exact W.sm)
theorem gat_len {ey : List (List Nat)} {t : E true} {h i : Nat} (W : Wok ey) : (gat ey t h i).length ≤ 49 := by
  unfold gat
  have h1 := W.few h
  have h2 := seenBy_len (h := h) W
  have h3 := flat_len (fun o => o :: if hasW true true t = true then seen ey o else []) 7 ((seenBy ey h).take i) fun o _ => by
    have := W.few o
    rw [List.length_cons]
    split
    · omega
    · simp
  rw [List.length_take] at h3
  rw [List.length_append, List.length_cons]
  have h4 : min i (seenBy ey h).length ≤ 6 := by omega
  have h5 : 7 * min i (seenBy ey h).length ≤ 42 := by omega
  omega
theorem gat_mem {ey : List (List Nat)} {t : E true} {h g : Nat} : g ∈ gat ey t h (seenBy ey h).length ↔ isAround ey t h g := by
  unfold gat isAround
  rw [List.take_length]
  simp only [List.mem_append, List.mem_cons, List.mem_flatMap]
  constructor
  · rintro ((rfl | k) | ⟨o, ho, rfl | k⟩)
    · exact .inl rfl
    · exact .inr (.inl k)
    · exact .inr (.inr ⟨_, ho, .inl rfl⟩)
    · by_cases hw : hasW true true t = true
      · rw [if_pos hw] at k
        exact .inr (.inr ⟨o, ho, .inr ⟨hw, k⟩⟩)
      · rw [if_neg hw] at k
        cases k
  · rintro (rfl | k | ⟨o, ho, rfl | ⟨hw, k⟩⟩)
    · exact .inl (.inl rfl)
    · exact .inl (.inr k)
    · exact .inr ⟨g, ho, .inl rfl⟩
    · exact .inr ⟨o, ho, .inr (by rw [if_pos hw]; exact k)⟩
theorem sorted_eq : ∀ {l m : List Int}, l.Pairwise (· < ·) → m.Pairwise (· < ·) → (∀ x, x ∈ l ↔ x ∈ m) → l = m
  | [], [], _, _, _ => rfl
  | [], b :: m, _, _, h => nomatch (h b).mpr List.mem_cons_self
  | a :: l, [], _, _, h => nomatch (h a).mp List.mem_cons_self
  | a :: l, b :: m, h1, h2, h => by
    obtain ⟨a1, a2⟩ := List.pairwise_cons.mp h1
    obtain ⟨b1, b2⟩ := List.pairwise_cons.mp h2
    have e : a = b := by
      have x1 := (h a).mp List.mem_cons_self
      have x2 := (h b).mpr List.mem_cons_self
      rcases List.mem_cons.mp x1 with e | x1
      · exact e
      · rcases List.mem_cons.mp x2 with e | x2
        · exact e.symm
        · have := a1 b x2
          have := b1 a x1
          omega
    subst e
    rw [sorted_eq a2 b2 fun x => ?_]
    have hx := h x
    simp only [List.mem_cons] at hx
    constructor
    · intro k
      rcases hx.mp (.inr k) with e | k'
      · have := a1 x k
        omega
      · exact k'
    · intro k
      rcases hx.mpr (.inr k) with e | k'
      · have := b1 x k
        omega
      · exact k'
theorem pw_cast : ∀ {l : List Nat}, l.Pairwise (· < ·) → (l.map fun n : Nat => (n : Int)).Pairwise (· < ·) := fun {l} h => by
  rw [List.pairwise_map]
  exact h.imp fun k => by omega
theorem arL_sorted {ey : List (List Nat)} {t : E true} {h : Nat} : (arL ey t h).Pairwise (· < ·) := List.Pairwise.filter _ List.pairwise_lt_range
/-! ### fillings -/
theorem filled_snoc {m a : Nat} : ∀ (A : List Nat) (F : List (List Nat)), filled m (A ++ [a]) F = (filled m A F).flatMap fun one => (List.range m).map fun b => one.set a b
  | [], F => rfl
  | h :: A, F => filled_snoc A _
theorem filled_len {m : Nat} : ∀ (A : List Nat) (F : List (List Nat)), (filled m A F).length = F.length * m ^ A.length
  | [], F => by
    rw [List.length_nil, Nat.pow_zero, Nat.mul_one]
    rfl
  | h :: A, F => by
    show (filled m A (F.flatMap fun one => (List.range m).map fun b => one.set h b)).length = _
    have e : (F.flatMap fun one => (List.range m).map fun b => one.set h b).length = F.length * m := by
      induction F with
      | nil => simp
      | cons x F ih => rw [List.flatMap_cons, List.length_append, ih, List.length_map, List.length_range, List.length_cons, Nat.add_mul, Nat.one_mul, Nat.add_comm]
    rw [filled_len A, e, List.length_cons, Nat.pow_succ, Nat.mul_assoc, Nat.mul_comm m]
theorem set_cut (st : List Nat) {g b : Nat} (h : g < st.length) : Dt.tup ((((st.map boxD).drop (HT.sIx (st.map boxD).length 0 none)).take (HT.sIx (st.map boxD).length (st.map boxD).length (some (g : Int)) - HT.sIx (st.map boxD).length 0 none) ++ [boxD b]) ++
    ((st.map boxD).drop (HT.sIx (st.map boxD).length 0 (some ((g : Int) + 1)))).take (HT.sIx (st.map boxD).length (st.map boxD).length none - HT.sIx (st.map boxD).length 0 (some ((g : Int) + 1)))) = stD (st.set g b) := by
  have e1 : ((g : Int) + 1) = ((g + 1 : Nat) : Int) := rfl
  rw [e1, HT.sIx_nat, HT.sIx_nat, HT.sIx_none, HT.sIx_none, List.length_map, Nat.min_eq_left (by omega), Nat.min_eq_left (by omega), List.drop_zero, Nat.sub_zero]
  unfold stD
  rw [List.set_eq_take_append_cons_drop, if_pos h, List.map_append, List.map_cons, List.map_take, List.map_drop, List.append_assoc]
  congr 2
  show _ = boxD b :: _
  rw [List.take_of_length_le (by rw [List.length_drop, List.length_map]; exact Nat.le_refl _)]
  rfl
def part (ey : List (List Nat)) (t p : E true) (st : List Nat) (hl : List Nat) : Nat := (hl.map fun h => share ey t p st h).sum
theorem filled_lens {m n : Nat} : ∀ (A : List Nat) (F : List (List Nat)), (∀ one ∈ F, one.length = n) → ∀ st ∈ filled m A F, st.length = n
  | [], F, h, st, hs => h st hs
  | h :: A, F, hF, st, hs => by
    refine filled_lens A _ (fun one ho => ?_) st hs
    obtain ⟨x, hx, hb⟩ := List.mem_flatMap.mp ho
    obtain ⟨b, hb1, rfl⟩ := List.mem_map.mp hb
    rw [List.length_set]
    exact hF x hx
theorem cut_len1 {one : List Nat} {ey : List (List Nat)} {a b : Nat} {x : Dt} (h : one.length = ey.length) (h6 : ey.length ≤ 6) : (((one.map boxD).drop a).take b).length + [x].length ≤ 90000 := by
  rw [List.length_take, List.length_drop, List.length_map, List.length_cons, List.length_nil]
  omega
theorem cut_len2 {one : List Nat} {ey : List (List Nat)} {a b c e : Nat} {x : Dt} (h : one.length = ey.length) (h6 : ey.length ≤ 6) : (((one.map boxD).drop a).take b ++ [x]).length + (((one.map boxD).drop c).take e).length ≤ 90000 := by
  rw [List.length_append, List.length_take, List.length_drop, List.length_map, List.length_cons, List.length_nil, List.length_take, List.length_drop, List.length_map]
  omega
section
variable {K : PySem.W.Frag} {σ : L2.St} {H : Hp} {D : Ends} {l : List Sl} {v : V}
theorem y_asgV {i j : Nat} (S : Sg K H σ l) (hj : l[j]? = some (.v v)) (k : ∀ σ', Sg K H σ' (l.set i (.v v)) → D.nx σ' H) : tAsg (tVar j) (gName i) D σ H := ⟨v, S.val hj, k _ (S.setV v i)⟩
theorem y_retV {j : Nat} (S : Sg K H σ l) (hj : l[j]? = some (.v v)) (k : D.rt v H) : tRet (tVar j) D σ H := ⟨v, S.val hj, k⟩
end
/-! ### what the defs promise -/
def RAh : List Dt → List Dt → Prop := fun ds es => ∃ (S : Sy) (t p : E true) (h : Nat), SyOk S ∧ h < S.ey.length ∧ deep t ≤ 12 ∧ ds = [sysD S, sumD t p, nD h] ∧ es = (arL S.ey t h).map nD
def RFo : List Dt → List Dt → Dt → Prop := fun ds es d => ∃ (S : Sy) (A : List Nat), SyOk S ∧ A.length ≤ 10 ∧ ds = [sysD S] ∧ es = A.map nD ∧ d = nD (S.m ^ A.length)
def RAb : List Dt → List Dt → Prop := fun ds es => ∃ m : Nat, m ≤ 6 ∧ ds = [boxD m] ∧ es = (List.range m).map boxD
def RFs : List Dt → List Dt → List Dt → Prop := fun ds es fs => ∃ (S : Sy) (st : List Nat) (A : List Nat), SyOk S ∧ st.length = S.ey.length ∧ (∀ g ∈ A, g < S.ey.length) ∧ S.m ^ A.length ≤ 4096 ∧ ds = [sysD S, stD st] ∧ es = A.map nD ∧ fs = (filled S.m A [st]).map stD
def RNs : List Dt → Dt → Prop := fun ds d => ∃ S : Sy, SyOk S ∧ ds = [sysD S] ∧ d = stD (List.replicate S.ey.length 0)
def RPs : List Dt → List Dt → Dt → Prop := fun ds es d => ∃ (S : Sy) (t p : E true) (st : List Nat) (hl : List Nat), SyOk S ∧ st.length = S.ey.length ∧ Fit false t ∧ Fit true p ∧ (∀ g ∈ hl, g < S.ey.length) ∧ hl.length ≤ 100 ∧ ds = [sysD S, sumD t p, stD st] ∧ es = hl.map nD ∧ d = nD (part S.ey t p st hl)
def RFt : List Dt → List Dt → Dt → Prop := fun ds es d => ∃ (S : Sy) (t p : E true) (st : List Nat) (h : Nat) (hl : List Nat), SyOk S ∧ st.length = S.ey.length ∧ h < S.ey.length ∧ rdy S st h = true ∧ Fit false t ∧ Fit true p ∧ (∀ g ∈ hl, g < S.ey.length) ∧ hl.length ≤ 100 ∧ ds = [sysD S, sumD t p, stD st, nD h] ∧ es = hl.map nD ∧
  d = .bl (decide (part S.ey t p (act S st h) hl < part S.ey t p st hl))
structure LkT (K : PySem.W.Frag) (mg : Str → Option Value) : Prop where
  g_LOOKING : Gd K mg "LOOKING" (.tup [.str "eye", .str "least", .str "most", .str "many"])
abbrev s_around_hand : Stmt := top 47
theorem sc_around_hand : FnScope ["system", "shares", "hand", "eyes", "found", "other"] ["system", "shares", "hand"] (defScope s_around_hand) := ⟨rfl, rfl, rfl, by decide +kernel, rfl, by decide +kernel, by decide +kernel⟩
abbrev s_fillings_of : Stmt := top 48
theorem sc_fillings_of : FnScope ["system", "hands", "found", "hand", "size"] ["system", "hands"] (defScope s_fillings_of) := ⟨rfl, rfl, rfl, by decide +kernel, rfl, by decide +kernel, by decide +kernel⟩
abbrev s_all_boxes : Stmt := top 49
theorem sc_all_boxes : FnScope ["sizes", "found", "size", "longer", "boxes", "number"] ["sizes"] (defScope s_all_boxes) := ⟨rfl, rfl, rfl, by decide +kernel, rfl, by decide +kernel, by decide +kernel⟩
abbrev s_filled_stands : Stmt := top 50
theorem sc_filled_stands : FnScope ["system", "stand", "hands", "found", "hand", "longer", "one", "boxes"] ["system", "stand", "hands"] (defScope s_filled_stands) := ⟨rfl, rfl, rfl, by decide +kernel, rfl, by decide +kernel, by decide +kernel⟩
abbrev s_nought_stand : Stmt := top 52
theorem sc_nought_stand : FnScope ["system"] ["system"] (defScope s_nought_stand) := ⟨rfl, rfl, rfl, by decide +kernel, rfl, by decide +kernel, by decide +kernel⟩
abbrev s_part_sum : Stmt := top 53
theorem sc_part_sum : FnScope ["system", "shares", "stand", "hands", "hand"] ["system", "shares", "stand", "hands"] (defScope s_part_sum) := ⟨rfl, rfl, rfl, by decide +kernel, rfl, by decide +kernel, by decide +kernel⟩
abbrev s_falls_there : Stmt := top 54
theorem sc_falls_there : FnScope ["system", "shares", "stand", "hand", "hands", "behind"] ["system", "shares", "stand", "hand", "hands"] (defScope s_falls_there) := ⟨rfl, rfl, rfl, by decide +kernel, rfl, by decide +kernel, by decide +kernel⟩
section
variable {P : Program} {w : World} {K : PySem.W.Frag} {mg : Str → Option Value} {base : Heap}
theorem nD_ints (A : List Nat) : A.map nD = (A.map fun n : Nat => (n : Int)).map .int := by
  rw [List.map_map]
  rfl
theorem ok_part_sum (D : Df K mg "part_sum" s_part_sum ["system", "shares", "stand", "hands"]) (B : Bi mg) (O_share_at : Ok P w K mg base CX0 30 "share_at" ["system", "shares", "stand", "hand"] (spF K RSa)) : Ok P w K mg base CX0 31 "part_sum" ["system", "shares", "stand", "hands"] (spFL K RPs) := by
  refine D.okFL sc_part_sum (fun ds es d h => ?_) fun cdv A outer s H f p xs ds es d Q E hr hp al h q => ?_
  · obtain ⟨_, _, _, _, _, _, _, _, _, _, _, rfl, _⟩ := h
    rfl
  · obtain ⟨Y, t, pr, st, hl, ok, hs, ft, fp, hg, hn, rfl, rfl, rfl⟩ := h
    refine ⟨_, (pss_one (ps_ret (pe_callB (cr_sum rfl) rfl B.sum (by decide +kernel) (pa_cons (pe_lc (own := [("hand", 4)]) (g := gName 4) (tt := tYes) rfl sc_part_sum.nd (pi_list (pv 3)) (blkOk_by (N := ["system", "shares", "stand", "hands", "hand"]) (sc := defScope s_part_sum) (by decide +kernel)) (fun _ _ _ _ _ => (pg_name (i := 4) sc_part_sum.nd rfl (Or.inl rfl))) (fun _ _ _ _ _ => pts_nil) (fun _ _ _ _ _ => (pe_ok O_share_at hr rfl (pa_cons (pv 0) (pa_cons (pv 1) (pa_cons (pv 2) (pa_cons (pv 4) pa_nil))))))) pa_nil)))), fun σ S => ?_⟩
    refine y_ret ((ed_sumM (ns := hl.map fun h => ((share Y.ey t pr st h : Nat) : Int)) ((em_lcL (enc := nD) hl (fun _ => true) (fun h => nD (share Y.ey t pr st h)) (ev_varV S rfl) (sq_of hp) al (by omega) fun h v H1 hh e a => ⟨et_yes, fun _ => ?_⟩).is ?_)).is ?_) q
    · have S1 := ((S.mono e).wipe [4]).setD a 4
      exact ed_call (es_cons (ed_var S1 rfl) (es_cons (ed_var S1 rfl) (es_cons (ed_var S1 rfl) (es_one (ed_var S1 rfl))))) ⟨Y, t, pr, st, h, ok, hs, hg h hh, ft, fp, rfl, rfl⟩
    · rw [filter_yes, List.map_map]
      rfl
    · rw [sum_nat]
      rfl
theorem ok_falls_there (D : Df K mg "falls_there" s_falls_there ["system", "shares", "stand", "hand", "hands"]) (B : Bi mg) (O_acted : Ok P w K mg base CX0 33 "acted" ["system", "stand", "hands"] (spF K RAc)) (O_part_sum : Ok P w K mg base CX0 33 "part_sum" ["system", "shares", "stand", "hands"] (spFL K RPs)) :
    Ok P w K mg base CX0 34 "falls_there" ["system", "shares", "stand", "hand", "hands"] (spFL K RFt) := by
  refine D.okFL sc_falls_there (fun ds es d h => ?_) fun cdv A outer s H f p xs ds es d Q E hr hp al h q => ?_
  · obtain ⟨_, _, _, _, _, _, _, _, _, _, _, _, _, _, rfl, _⟩ := h
    rfl
  · obtain ⟨Y, t, pr, st, h, hl, ok, hs, hh, hy, ft, fp, hg, hn, rfl, rfl, rfl⟩ := h
    refine ⟨_, (pss_cons (ps_set (i := 5) sc_falls_there.nd rfl (Or.inl rfl) (pe_ok O_acted hr rfl (pa_cons (pv 0) (pa_cons (pv 2) (pa_cons (pe_tup (pa_cons (pv 3) pa_nil)) pa_nil)))))
    (pss_one (ps_ret (pe_cmpR op_lt (pe_ok O_part_sum hr rfl (pa_cons (pv 0) (pa_cons (pv 1) (pa_cons (pv 5) (pa_cons (pv 4) pa_nil))))) (pe_ok O_part_sum hr rfl (pa_cons (pv 0) (pa_cons (pv 1) (pa_cons (pv 2) (pa_cons (pv 4) pa_nil))))) (nomark _))))), fun σ S => ?_⟩
    refine z_asg S (ed_call (es_cons (ed_var S rfl) (es_cons (ed_var S rfl) (es_one (ed_tup (ds := [nD h]) (es_one (ed_var S rfl)) (Nat.le_of_ble_eq_true rfl))))) ⟨Y, st, h, ok, hs, hh, hy, rfl, rfl⟩) fun σ1 H1 e1 S1 => ?_
    have hs' : (act Y st h).length = Y.ey.length := by
      unfold act
      rw [List.length_set, hs]
    refine y_ret ((ed_IB (ed_callL (esl_cons (ed_var S1 rfl) (esl_cons (ed_var S1 rfl) (esl_cons (ed_var S1 rfl) (esl_end S1 rfl)))) (e1 _ _ hp) (al.mono e1) ⟨Y, t, pr, _, hl, ok, hs', ft, fp, hg, hn, rfl, rfl, rfl⟩) (ed_callL (esl_cons (ed_var S1 rfl) (esl_cons (ed_var S1 rfl) (esl_cons (ed_var S1 rfl) (esl_end S1 rfl)))) (e1 _ _ hp) (al.mono e1) ⟨Y, t, pr, _, hl, ok, hs, ft, fp, hg, hn, rfl, rfl, rfl⟩)).is ?_) fun v H2 e2 a => q v H2 (e1.trans e2) a
    exact congrArg Dt.bl (decide_eq_decide.mpr ⟨fun z => by omega, fun z => by omega⟩)
theorem ok_nought_stand (D : Df K mg "nought_stand" s_nought_stand ["system"]) (B : Bi mg) : Ok P w K mg base CX0 1 "nought_stand" ["system"] (spF K RNs) := by
  refine D.okF sc_nought_stand (fun ds d h => ?_) fun cdv A outer s H f ds d Q E hr h q => ?_
  · obtain ⟨_, _, rfl, _⟩ := h
    rfl
  · obtain ⟨Y, ok, rfl, rfl⟩ := h
    refine ⟨_, (pss_one (ps_ret (pe_op op_repT (pe_tup (pa_cons (pe_op op_rep1 (pe_tup (pa_cons pe_int pa_nil)) (pe_callB call_len_seq rfl B.len (by decide +kernel) (pa_cons (pe_ix ix_tup (pv 0) pe_int (fun _ _ => rfl)) pa_nil))) pa_nil)) (pe_callB call_len_seq rfl B.len (by decide +kernel) (pa_cons (pe_ix ix_tup (pv 0) pe_int (fun _ _ => rfl)) pa_nil))))), fun σ S => ?_⟩
    refine y_ret ((ed_rep (d := .tup [nD 0]) (n := Y.ey.length) (ed_tup (ds := [.tup [nD 0]]) (es_one (ed_rep1 (ed_tup (ds := [nD 0]) (es_one ed_cI)) ((ed_len (ds := [nD Y.m]) (ed_ixc (j := 1) (ed_var S rfl) rfl)))))) ((ed_len (ds := Y.ey.map rowD) (ed_ixc (j := 0) (ed_var S rfl) rfl)).is (by rw [List.length_map])) ok.web.two (by have := ok.web.sm; omega)).is ?_) q
    unfold stD
    rw [List.map_replicate]
    rfl
theorem ok_fillings_of (D : Df K mg "fillings_of" s_fillings_of ["system", "hands"]) (B : Bi mg) : Ok P w K mg base CX0 1 "fillings_of" ["system", "hands"] (spFL K RFo) := by
  refine D.okFL sc_fillings_of (fun ds es d h => ?_) fun cdv A outer s H f p xs ds es d Q E hr hp al h q => ?_
  · obtain ⟨_, _, _, _, rfl, _⟩ := h
    rfl
  · obtain ⟨Y, hl, ok, hn, rfl, rfl, rfl⟩ := h
    refine ⟨_, (pss_cons (ps_set (i := 2) sc_fillings_of.nd rfl (Or.inl rfl) pe_int)
    (pss_cons (ps_for PassesOwn.never rfl (pi_list (pv 1)) (pg_name (i := 3) sc_fillings_of.nd rfl (Or.inl rfl)) (pss_one (ps_for PassesOwn.never rfl (pi_tup (pe_ix ix_tup (pv 0) pe_int (fun _ _ => rfl))) (pg_name (i := 4) sc_fillings_of.nd rfl (Or.inl rfl)) (pss_one (ps_set (i := 2) sc_fillings_of.nd rfl (Or.inl rfl) (pe_op op_mul (pv 2) (pv 4)))))))
    (pss_one (ps_ret (pv 2))))), fun σ S => ?_⟩
    refine z_asg S ed_cI fun σ1 H1 e1 S1 => ?_
    have xl : xs.length = hl.length := by rw [al.len, List.length_map]
    refine q_for1 (tf_list (vs := xs) (ev_varV S1 rfl) (fun i σ' H' => Sg K H' σ' [.d (sysD Y), .v (.ref p), .d (nD (Y.m ^ i)), .no, .no] ∧ Ex H H')
      (fun H2 e2 => ⟨(S1.mono e2).less rfl fun i => ?_, e1.trans e2⟩) (fun i σ' H' _ k => sq_of (k.2 _ _ hp)) (fun i x σ' H' hi k => ?_) fun σ' H' k => ?_)
    · match i with
      | 0 => rfl
      | 1 => rfl
      | 2 => rfl
      | 3 => trivial
      | 4 => trivial
      | n + 5 => trivial
    · obtain ⟨k1, k2⟩ := k
      have hil := (List.getElem?_eq_some_iff.mp hi).1
      have S2 := k1.setN (some x) 3
      refine tf_tup (enc := fun n : Nat => nD n) [Y.m] (ed_ixc (j := 1) (ed_var S2 rfl) rfl) (fun j σ'' H'' => Sg K H'' σ'' [.d (sysD Y), .v (.ref p), .d (nD (Y.m ^ i * Y.m ^ j)), .no, .no] ∧ Ex H H'')
        (fun H3 e3 => ⟨(S2.mono e3).less rfl fun i => ?_, k2.trans e3⟩) (fun j a y σ'' H'' hj kk ay N hN => ?_) fun σ'' H'' kk => ?_
      · match i with
        | 0 => rfl
        | 1 => rfl
        | 2 => show Dt.int _ = Dt.int _; rw [Nat.pow_zero, Nat.mul_one]
        | 3 => trivial
        | 4 => trivial
        | n + 5 => trivial
      · obtain ⟨kk1, kk2⟩ := kk
        have hj0 : j = 0 := by
          have := (List.getElem?_eq_some_iff.mp hj).1
          simp only [List.length_cons, List.length_nil] at this
          omega
        subst hj0
        obtain rfl : Y.m = a := Option.some.inj hj
        have S3 := kk1.setD ay 4
        refine y_asg S3 (ed_IC (ed_var S3 rfl) (ed_var S3 rfl) (.inr ⟨by have := ok.m1; omega, by have := ok.m2; omega⟩)) fun σ4 H4 e4 S4 => hN _ _ (.ex e4) ⟨S4.less rfl fun i => ?_, kk2.trans e4⟩
        match i with
        | 0 => rfl
        | 1 => rfl
        | 2 =>
          show Dt.int (((_ : Nat) : Int) * ((Y.m : Nat) : Int)) = Dt.int _
          rw [Nat.pow_zero, Nat.mul_one, Nat.zero_add, Nat.pow_one]
          exact congrArg Dt.int (Int.natCast_mul _ _).symm
        | 3 => trivial
        | 4 => trivial
        | n + 5 => trivial
      · obtain ⟨kk1, kk2⟩ := kk
        refine ⟨kk1.less rfl fun i => ?_, kk2⟩
        match i with
        | 0 => rfl
        | 1 => rfl
        | 2 => show Dt.int _ = Dt.int _; rw [Nat.pow_succ, List.length_cons, List.length_nil, Nat.zero_add, Nat.pow_one]
        | 3 => trivial
        | 4 => trivial
        | n + 5 => trivial
    · obtain ⟨k1, k2⟩ := k
      rw [xl] at k1
      exact y_ret (D := { nx := fun _ H' => Q .non H', rt := Q }) (ed_var k1 rfl) fun v H4 e4 a => q v H4 (k2.trans e4) a
theorem ok_all_boxes (D : Df K mg "all_boxes" s_all_boxes ["sizes"]) (B : Bi mg) : Ok P w K mg base CX0 1 "all_boxes" ["sizes"] (spM K RAb) := by
  refine D.okM sc_all_boxes (fun ds d h => ?_) fun cdv A outer s H f ds es Q E hr h q => ?_
  · obtain ⟨_, _, rfl, _⟩ := h
    rfl
  · obtain ⟨m, hm, rfl, rfl⟩ := h
    refine ⟨_, (pss_cons (ps_set (i := 1) sc_all_boxes.nd rfl (Or.inl rfl) (pe_lst (pa_cons (pe_tup pa_nil) pa_nil)))
    (pss_cons (ps_for PassesOwn.never rfl (pi_tup (pv 0)) (pg_name (i := 2) sc_all_boxes.nd rfl (Or.inl rfl)) (pss_cons (ps_set (i := 3) sc_all_boxes.nd rfl (Or.inl rfl) (pe_lst pa_nil))
      (pss_cons (ps_for PassesOwn.never rfl (pi_list (pv 1)) (pg_name (i := 4) sc_all_boxes.nd rfl (Or.inr rfl)) (pss_one (ps_expr (pe_bm PySem.F.plainAttrs_list PySem.F.slot_list_extend PySem.F.type_list_extend mt_extend (pv 3) (pa_cons (pe_lc (own := [("number", 5)]) (g := gName 5) (tt := tYes) rfl sc_all_boxes.nd (pi_range1 rfl B.range (pa_cons (pv 2) pa_nil)) (blkOk_by (N := ["sizes", "found", "size", "longer", "boxes", "number"]) (sc := defScope s_all_boxes) (by decide +kernel)) (fun _ _ _ _ _ => (pg_name (i := 5) sc_all_boxes.nd rfl (Or.inl rfl))) (fun _ _ _ _ _ => pts_nil) (fun _ _ _ _ _ => (pe_op (show OpR _ _ (rCatA K) from op_catA) (pv 4) (pe_tup (pa_cons (pv 5) pa_nil))))) pa_nil)))))
      (pss_one (ps_set (i := 1) sc_all_boxes.nd rfl (Or.inl rfl) (pv 3))))))
    (pss_one (ps_ret (pv 1))))), fun σ S => ?_⟩
    refine z_asgM S (em_lst (ds := [.tup []]) (es_one (ed_tup es_nil))) fun fp fs σ1 H1 hfp e1 hf1 af1 S1 => ?_
    refine q_for1 (tf_tup (enc := fun n : Nat => nD n) [m] (ed_var S1 rfl) (fun i σ' H' => Ex H H' ∧ ∃ p xs, Sg K H' σ' [.no, .v (.ref p), .no, .no, .no, .no] ∧ H p = none ∧ H' p = some (.lst xs) ∧ AtL K H' xs (if i = 0 then [.tup []] else (List.range m).map boxD))
      (fun H2 e2 => ⟨e1.trans e2, fp, fs, (S1.mono e2).less rfl fun i => ?_, hfp, e2 _ _ hf1, af1.mono e2⟩) (fun j a y σ' H' hj k ay N hN => ?_) fun σ' H' k => ?_)
    · match i with
      | 0 => trivial
      | 1 => rfl
      | 2 => trivial
      | 3 => trivial
      | 4 => trivial
      | 5 => trivial
      | n + 6 => trivial
    · obtain ⟨k2, p, xs, k1, k3, k4, k5⟩ := k
      have hj0 : j = 0 := by
        have := (List.getElem?_eq_some_iff.mp hj).1
        simp only [List.length_cons, List.length_nil] at this
        omega
      subst hj0
      obtain rfl : m = a := Option.some.inj hj
      rw [if_pos rfl] at k5
      have S2 := k1.setD ay 2
      refine z_asgM S2 (em_lst es_nil) fun lp ls σ3 H3 hlp e3 hl3 al3 S3 => ?_
      obtain rfl := al3.of_nil
      have xl : xs.length = 1 := k5.len
      refine q_for1 (tf_list (vs := xs) (ev_varV S3 rfl) (fun i σ'' H'' => Sg K H'' σ'' [.no, .v (.ref p), .d (nD m), .v (.ref lp), .no, .no] ∧ Ex H' H'' ∧ TKp K H3 H'' ∧ ∃ ws, H'' lp = some (.lst ws) ∧ AtL K H'' ws (if i = 0 then [] else (List.range m).map boxD))
        (fun H4 e4 => ⟨(S3.mono e4).less rfl fun i => ?_, e3.trans e4, .ex e4, [], e4 _ _ hl3, .nil⟩) (fun i σ' H' _ k => sq_of (k.2.1 _ _ k4)) (fun i x σ'' H'' hi kk => ?_) fun σ'' H'' kk => ?_)
      · match i with
        | 0 => trivial
        | 1 => rfl
        | 2 => rfl
        | 3 => rfl
        | 4 => trivial
        | 5 => trivial
        | n + 6 => trivial
      · obtain ⟨kk1, kk2, kkt, ws, kk3, kk4⟩ := kk
        have hi0 : i = 0 := by
          have := (List.getElem?_eq_some_iff.mp hi).1
          omega
        subst hi0
        rw [if_pos rfl] at kk4
        obtain ⟨d0, hd0, ad0⟩ := k5.at hi
        obtain rfl : Dt.tup [] = d0 := Option.some.inj hd0
        have S4 := kk1.setD (ad0.mono kk2) 4
        refine y_ext (es := (List.range m).map boxD) S4 rfl kk3 kk4 (by rw [List.length_nil, List.length_map, List.length_range]; omega) ((em_lcR (n := m) (fun _ => true) boxD (es_one (ed_var S4 rfl)) (by omega) fun b v H5 hb e5 a => ⟨et_yes, fun _ => ?_⟩).is (by rw [filter_yes])) fun ws' H5 eF tk hw aw S5 => ?_
        · have S5 := ((S4.mono e5).wipe [5]).setD a 5
          exact (ed_catT (ds := []) (es := [nD b]) (ed_var S5 rfl) (ed_tup (es_one (ed_var S5 rfl)) (Nat.le_of_ble_eq_true rfl)) (by show 1 ≤ _; decide)).is rfl
        · refine ⟨S5.less rfl fun i => ?_, Ex.exF kk2 hlp eF, kkt.trans tk, ws', hw, by rw [if_neg (by omega)]; exact aw⟩
          match i with
          | 0 => trivial
          | 1 => rfl
          | 2 => rfl
          | 3 => rfl
          | 4 => trivial
          | 5 => trivial
          | n + 6 => trivial
      · obtain ⟨kk1, kk2, kkt, ws, kk3, kk4⟩ := kk
        rw [xl, if_neg (by omega)] at kk4
        refine y_asgV kk1 rfl fun σ5 S5 => hN _ _ ((TKp.ex e3).trans kkt) ⟨k2.trans kk2, lp, ws, S5.less rfl fun i => ?_, fresh_back k2 hlp, kk3, by rw [if_neg (by omega)]; exact kk4⟩
        match i with
        | 0 => trivial
        | 1 => rfl
        | 2 => trivial
        | 3 => trivial
        | 4 => trivial
        | 5 => trivial
        | n + 6 => trivial
    · obtain ⟨k2, p, xs, k1, k3, k4, k5⟩ := k
      exact y_retV k1 rfl (q p xs H' k3 k2 k4 k5)
theorem ok_filled_stands (D : Df K mg "filled_stands" s_filled_stands ["system", "stand", "hands"]) (B : Bi mg) (O_all_boxes : Ok P w K mg base CX0 1 "all_boxes" ["sizes"] (spM K RAb)) : Ok P w K mg base CX0 2 "filled_stands" ["system", "stand", "hands"] (spML K RFs) := by
  refine D.okML sc_filled_stands (fun ds es d h => ?_) fun cdv A outer s H f p xs ds es fs Q E hr hp al h q => ?_
  · obtain ⟨_, _, _, _, _, _, _, rfl, _⟩ := h
    rfl
  · obtain ⟨Y, st, A, ok, hs, hA, hm, rfl, rfl, rfl⟩ := h
    refine ⟨_, (pss_cons (ps_set (i := 3) sc_filled_stands.nd rfl (Or.inl rfl) (pe_lst (pa_cons (pv 1) pa_nil)))
    (pss_cons (ps_for PassesOwn.never rfl (pi_list (pv 2)) (pg_name (i := 4) sc_filled_stands.nd rfl (Or.inr rfl)) (pss_cons (ps_set (i := 5) sc_filled_stands.nd rfl (Or.inl rfl) (pe_lst pa_nil))
      (pss_cons (ps_for PassesOwn.never rfl (pi_list (pv 3)) (pg_name (i := 6) sc_filled_stands.nd rfl (Or.inr rfl)) (pss_one (ps_expr (pe_bm PySem.F.plainAttrs_list PySem.F.slot_list_extend PySem.F.type_list_extend mt_extend (pv 5) (pa_cons (pe_lc (own := [("boxes", 7)]) (g := gName 7) (tt := tYes) rfl sc_filled_stands.nd (pi_list (pe_ok O_all_boxes hr rfl (pa_cons (pe_ix ix_tup (pv 0) pe_int (fun _ _ => rfl)) pa_nil))) (blkOk_by (N := ["system", "stand", "hands", "found", "hand", "longer", "one", "boxes"]) (sc := defScope s_filled_stands) (by decide +kernel)) (fun _ _ _ _ _ => (pg_name (i := 7) sc_filled_stands.nd rfl (Or.inl rfl))) (fun _ _ _ _ _ => pts_nil) (fun _ _ _ _ _ => (pe_op (show OpR _ _ (rCatA K) from op_catA) (pe_op (show OpR _ _ (rCatA K) from op_catA) (pe_slice (show SlR _ (rSlA K) from sl_tupA) (pv 6) po_none (po_some (pv 4))) (pe_tup (pa_cons (pv 7) pa_nil))) (pe_slice (show SlR _ (rSlA K) from sl_tupA) (pv 6) (po_some (pe_op op_add (pv 4) pe_int)) po_none)))) pa_nil)))))
      (pss_one (ps_set (i := 3) sc_filled_stands.nd rfl (Or.inl rfl) (pv 5))))))
    (pss_one (ps_ret (pv 3))))), fun σ S => ?_⟩
    have xl : xs.length = A.length := by rw [al.len, List.length_map]
    have m1 := ok.m1
    have m2 := ok.m2
    have bnd1 : ∀ i, i ≤ A.length → (filled Y.m (A.take i) [st]).length ≤ 4096 := fun i hi => by
      rw [filled_len, List.length_take, Nat.min_eq_left hi, List.length_cons, List.length_nil, Nat.zero_add, Nat.one_mul]
      exact Nat.le_trans (Nat.pow_le_pow_right m1 hi) hm
    refine z_asgM S (em_lst (ds := [stD st]) (es_one (ed_var S rfl)) (Nat.le_of_ble_eq_true rfl)) fun fp fs σ1 H1 hfp e1 hf1 af1 S1 => ?_
    refine q_for1 (tf_list (vs := xs) (ev_varV S1 rfl) (fun i σ' H' => Ex H H' ∧ ∃ q xs, Sg K H' σ' [.d (sysD Y), .no, .v (.ref p), .v (.ref q), .no, .no, .no, .no] ∧ H q = none ∧ H' q = some (.lst xs) ∧ AtL K H' xs ((filled Y.m (A.take i) [st]).map stD))
      (fun H2 e2 => ⟨e1.trans e2, fp, fs, (S1.mono e2).less rfl fun i => ?_, hfp, e2 _ _ hf1, af1.mono e2⟩) (fun i σ' H' _ k => sq_of (k.1 _ _ hp)) (fun i x σ' H' hi k => ?_) fun σ' H' k => ?_)
    · match i with
      | 0 => rfl
      | 1 => trivial
      | 2 => rfl
      | 3 => rfl
      | 4 => trivial
      | 5 => trivial
      | 6 => trivial
      | 7 => trivial
      | n + 8 => trivial
    · obtain ⟨k2, r, ys, k1, k3, k4, k5⟩ := k
      obtain ⟨d0, hd0, ad0⟩ := al.at hi
      rw [List.getElem?_map] at hd0
      cases eg : A[i]? with
      | none => rw [eg] at hd0; cases hd0
      | some g =>
        rw [eg] at hd0
        obtain rfl : nD g = d0 := Option.some.inj hd0
        have hil := (List.getElem?_eq_some_iff.mp eg).1
        have hgl := hA g (List.mem_of_getElem? eg)
        have S2 := k1.setD (ad0.mono k2) 4
        refine z_asgM S2 (em_lst es_nil) fun lp ls σ3 H3 hlp e3 hl3 al3 S3 => ?_
        obtain rfl := al3.of_nil
        have yl : ys.length = (filled Y.m (A.take i) [st]).length := by rw [k5.len, List.length_map]
        have sub : ∀ j, j ≤ (filled Y.m (A.take i) [st]).length → (((filled Y.m (A.take i) [st]).take j).flatMap fun one => (List.range Y.m).map fun b => one.set g b).length ≤ 6 * 4096 := fun j hj => by
          have f1 := flat_len (fun one : List Nat => (List.range Y.m).map fun b => one.set g b) 6 ((filled Y.m (A.take i) [st]).take j) fun one _ => by rw [List.length_map, List.length_range]; omega
          rw [List.length_take] at f1
          have b1 := bnd1 i (by omega)
          omega
        refine q_for1 (tf_list (vs := ys) (ev_varV S3 rfl) (fun j σ'' H'' => Sg K H'' σ'' [.d (sysD Y), .no, .v (.ref p), .v (.ref r), .d (nD g), .v (.ref lp), .no, .no] ∧ Ex H' H'' ∧ ∃ ws, H'' lp = some (.lst ws) ∧
            AtL K H'' ws ((((filled Y.m (A.take i) [st]).take j).flatMap fun one => (List.range Y.m).map fun b => one.set g b).map stD))
          (fun H4 e4 => ⟨(S3.mono e4).less rfl fun i => ?_, e3.trans e4, [], e4 _ _ hl3, .nil⟩) (fun i σ' H' _ k => sq_of (k.2.1 _ _ k4)) (fun j y σ'' H'' hj kk => ?_) fun σ'' H'' kk => ?_)
        · match i with
          | 0 => rfl
          | 1 => trivial
          | 2 => rfl
          | 3 => rfl
          | 4 => rfl
          | 5 => rfl
          | 6 => trivial
          | 7 => trivial
          | n + 8 => trivial
        · obtain ⟨kk1, kk2, ws, kk3, kk4⟩ := kk
          obtain ⟨d1, hd1, ad1⟩ := k5.at hj
          rw [List.getElem?_map] at hd1
          cases eo : (filled Y.m (A.take i) [st])[j]? with
          | none => rw [eo] at hd1; cases hd1
          | some one =>
            rw [eo] at hd1
            obtain rfl : stD one = d1 := Option.some.inj hd1
            have hjl := (List.getElem?_eq_some_iff.mp eo).1
            have ol : one.length = Y.ey.length := by
              have e0 : ∀ one ∈ [st], one.length = Y.ey.length := fun o ho => by
                rcases List.mem_cons.mp ho with rfl | ho
                · exact hs
                · cases ho
              exact filled_lens (A.take i) [st] e0 one (List.mem_of_getElem? eo)
            have S4 := kk1.setD (ad1.mono kk2) 6
            have esub := sub j (by omega)
            refine y_ext (es := (List.range Y.m).map fun b => stD (one.set g b)) S4 rfl kk3 kk4 (by rw [List.length_map, List.length_map, List.length_range]; omega) ((em_lcM (enc := boxD) (List.range Y.m) (fun _ => true) (fun b => stD (one.set g b)) (em_call (es_one (ed_ixc (j := 1) (ed_var S4 rfl) rfl)) ⟨Y.m, m2, rfl, rfl⟩) (by rw [List.length_range]; omega) fun b v H5 hb e5 a => ⟨et_yes, fun _ => ?_⟩).is (by rw [filter_yes])) fun ws' H5 eF tk hw aw S5 => ?_
            · have S5 := ((S4.mono e5).wipe [7]).setD a 7
              exact (ed_catT (ed_catT (ed_slice (ed_var S5 rfl) eo_none (eo_some (ed_var S5 rfl).i)) (ed_tup (ds := [boxD b]) (es_one (ed_var S5 rfl)) (Nat.le_of_ble_eq_true rfl)) (cut_len1 ol ok.web.sm)) (ed_slice (ed_var S5 rfl) (eo_some (ed_II (ed_var S5 rfl) ed_cI).i) eo_none) (cut_len2 ol ok.web.sm)).is (set_cut one (by rw [ol]; exact hgl))
            · refine ⟨S5.less rfl fun i => ?_, Ex.exF kk2 hlp eF, ws', hw, ?_⟩
              · match i with
                | 0 => rfl
                | 1 => trivial
                | 2 => rfl
                | 3 => rfl
                | 4 => rfl
                | 5 => rfl
                | 6 => trivial
                | 7 => trivial
                | n + 8 => trivial
              · rw [filter_take_more eo, List.flatMap_append, List.map_append, List.flatMap_cons, List.flatMap_nil, List.append_nil, List.map_map]
                exact aw
        · obtain ⟨kk1, kk2, ws, kk3, kk4⟩ := kk
          rw [yl, List.take_length] at kk4
          refine y_asgV kk1 rfl fun σ5 S5 => ⟨k2.trans kk2, lp, ws, S5.less rfl fun i => ?_, fresh_back k2 hlp, kk3, ?_⟩
          · match i with
            | 0 => rfl
            | 1 => trivial
            | 2 => rfl
            | 3 => rfl
            | 4 => trivial
            | 5 => trivial
            | 6 => trivial
            | 7 => trivial
            | n + 8 => trivial
          · rw [filter_take_more eg, filled_snoc]
            exact kk4
    · obtain ⟨k2, r, ys, k1, k3, k4, k5⟩ := k
      rw [xl, List.take_length] at k5
      exact y_retV k1 rfl (q r ys H' k3 k2 k4 k5)
theorem em_srt {σ : L2.St} {H : Hp} {l : List Sl} {i : Nat} {p : Addr} {vs : List V} {ns ar : List Nat} (S : Sg K H σ l) (hi : l[i]? = some (.v (.ref p))) (hp : H p = some (.lst vs)) (ha : AtL K H vs (ns.map nD)) (hn : ns.length ≤ 60) (h1 : ar.Pairwise (· < ·)) (h2 : ∀ g, g ∈ ns ↔ g ∈ ar) :
    EvM K (tCB (rSortedSet w) (tCons (tCB (K9.rSetL K w) (tCons (tVar i) tNil)) tNil)) σ H (ar.map nD) := fun H1 e Q q => by
  rw [nD_ints] at ha
  refine ⟨_, S.val hi, p, ns.map fun n : Nat => (n : Int), rfl, sq_of (by rw [e _ _ hp, ha.ints]), by rw [List.length_map]; omega, fun a c hfa hc => ?_⟩
  rw [List.length_map] at hc
  refine ⟨a, _, c, rfl, upd_same, by omega, fun ms r m1 m2 m3 hr => ?_⟩
  have em : ms = ar.map fun n : Nat => (n : Int) := sorted_eq m1 (pw_cast h1) fun x => by
    rw [m2 x, decide_eq_true_iff, List.mem_map, List.mem_map]
    constructor
    · rintro ⟨n, hn, rfl⟩
      exact ⟨n, (h2 n).mp hn, rfl⟩
    · rintro ⟨n, hn, rfl⟩
      exact ⟨n, (h2 n).mpr hn, rfl⟩
  subst em
  have ex : Ex H1 (upd H1 a (SetO w a (fun j => decide (j ∈ ns.map fun n : Nat => (n : Int))) c)) := Ex.new hfa
  refine q r _ _ (fresh_back ex hr) (ex.trans (Ex.new hr)) upd_same ?_
  rw [nD_ints]
  exact AtL.of_ints _
theorem ok_around_hand (D : Df K mg "around_hand" s_around_hand ["system", "shares", "hand"]) (B : Bi mg) (G : LkT K mg) (O_seen_by : Ok P w K mg base CX0 13 "seen_by" ["eyes", "hand"] (spF K RSb)) (O_has_word : Ok P w K mg base CX0 13 "has_word" ["thing", "words"] (spF K (RHw 12))) :
    Ok P w K mg base CX0 14 "around_hand" ["system", "shares", "hand"] (spM K RAh) := by
  obtain ⟨u_LOOKING, v_LOOKING, m_LOOKING, r_LOOKING, a_LOOKING⟩ := G.g_LOOKING.ex
  refine D.okM sc_around_hand (fun ds d h => ?_) fun cdv A outer s H f ds es Q E hr h q => ?_
  · obtain ⟨_, _, _, _, _, _, _, rfl, _⟩ := h
    rfl
  · obtain ⟨Y, t, pr, h, ok, hh, hd, rfl, rfl⟩ := h
    refine ⟨_, (pss_cons (ps_set (i := 3) sc_around_hand.nd rfl (Or.inl rfl) (pe_ix ix_tup (pv 0) pe_int (fun _ _ => rfl)))
    (pss_cons (ps_set (i := 4) sc_around_hand.nd rfl (Or.inl rfl) (pe_op op_cat (pe_lst (pa_cons (pv 2) pa_nil)) (pe_callTy call_list_of rfl B.list (by decide +kernel) (pa_cons (pe_ix ix_tup (pv 3) (pv 2) (fun _ _ => rfl)) pa_nil))))
    (pss_cons (ps_for PassesOwn.never rfl (pi_tup (pe_ok O_seen_by hr rfl (pa_cons (pv 3) (pa_cons (pv 2) pa_nil)))) (pg_name (i := 5) sc_around_hand.nd rfl (Or.inl rfl)) (pss_cons (ps_expr (pe_bm PySem.F.plainAttrs_list PySem.F.slot_list_append PySem.F.type_list_append mt_append (pv 4) (pa_cons (pv 5) pa_nil)))
      (pss_one (ps_if (pt_val (pe_ok O_has_word hr rfl (pa_cons (pe_ix ix_tup (pe_ix ix_tup (pv 1) (pe_ix ix_tup (pe_ix ix_tup (pv 0) pe_int (fun _ _ => rfl)) (pv 5) (fun _ _ => rfl)) (fun _ _ => rfl)) pe_int (fun _ _ => rfl)) (pa_cons (pe_glob rfl m_LOOKING r_LOOKING) pa_nil)))) (pss_one (ps_expr (pe_bm PySem.F.plainAttrs_list PySem.F.slot_list_extend PySem.F.type_list_extend mt_extT (pv 4) (pa_cons (pe_ix ix_tup (pv 3) (pv 5) (fun _ _ => rfl)) pa_nil)))) pss_nil))))
    (pss_one (ps_ret (pe_callB (cr_sortedSet rfl) rfl B.sorted (by decide +kernel) (pa_cons (pe_callTy (cr_setL rfl) rfl B.set (by decide +kernel) (pa_cons (pv 4) pa_nil)) pa_nil))))))), fun σ S => ?_⟩
    refine z_asg S (ed_ixc (j := 0) (ed_var S rfl) rfl) fun σ1 H1 e1 S1 => ?_
    have hfw := ok.web.few h
    refine z_asgM S1 ((em_cat (ds := [nD h]) (es := (seen Y.ey h).map nD) (em_lst (es_one (ed_var S1 rfl)) (Nat.le_of_ble_eq_true rfl)) (fun H2 e2 => em_list (ed_ixn (j := h) (ed_var (S1.mono e2) rfl) (ed_var (S1.mono e2) rfl) (eyD_at hh))) (by rw [List.length_cons, List.length_nil, List.length_map]; omega))) fun fp fs σ2 H2 hfp e2 hf2 af2 S2 => ?_
    refine q_for1 (tf_tup (enc := nD) (seenBy Y.ey h) (ed_call (es_cons (ed_var S2 rfl) (es_one (ed_var S2 rfl))) ⟨Y.ey, h, by have := ok.web.sm; omega, rfl, rfl⟩)
      (fun i σ' H' => Sg K H' σ' [.d (sysD Y), .d (sumD t pr), .d (nD h), .d (eyD Y.ey), .v (.ref fp), .no] ∧ Ex H1 H' ∧ ∃ ws, H' fp = some (.lst ws) ∧ AtL K H' ws ((gat Y.ey t h i).map nD))
      (fun H3 e3 => ⟨(S2.mono e3).less rfl fun i => ?_, e2.trans e3, fs, e3 _ _ hf2, ?_⟩) (fun i o x σ' H' hi k ax N hN => ?_) fun σ' H' k => ?_)
    · match i with
      | 0 => rfl
      | 1 => rfl
      | 2 => rfl
      | 3 => rfl
      | 4 => rfl
      | 5 => trivial
      | n + 6 => trivial
    · unfold gat
      rw [List.take_zero, List.flatMap_nil, List.append_nil]
      exact af2.mono e3
    · obtain ⟨k1, k2, ws, k3, k4⟩ := k
      have ho := List.mem_range.mp (List.mem_filter.mp (List.mem_of_getElem? hi)).1
      have S3 := k1.setD ax 5
      have gl := gat_len (t := t) (h := h) (i := i) ok.web
      refine z_app S3 rfl k3 k4 (by rw [k4.len, List.length_map]; omega) (ed_var S3 rfl) fun v H4 eF4 tk4 hw4 aw4 S4 => ?_
      refine s_when (et_b (ed_call (es_cons (ed_ixc (j := 0) (ed_ixn (j := 0) (ed_var S4 rfl) (ed_ixn (j := o) (ed_ixc (j := 2) (ed_var S4 rfl) rfl) (ed_var S4 rfl) (zero_at ho)) rfl) rfl) (es_one (ed_cR a_LOOKING))) ⟨true, t, ["eye", "least", "most", "many"], true, true, hd, wds_look, rfl, rfl⟩)) (fun hb H5 e5 => ?_) fun hb H5 e5 => ?_
      · refine y_extT (es := (seen Y.ey o).map nD) (S4.mono e5) rfl (e5 _ _ hw4) (aw4.mono e5) (by have := ok.web.few o; rw [List.length_append, List.length_map, List.length_map, List.length_cons, List.length_nil]; omega) (ed_ixn (j := o) (ed_var (S4.mono e5) rfl) (ed_var (S4.mono e5) rfl) (eyD_at ho)) fun ws' H6 eF tk hw aw S6 => ?_
        refine hN _ _ (tk4.trans ((TKp.ex e5).trans tk)) ⟨S6.less rfl fun i => ?_, Ex.exF (Ex.exF k2 hfp eF4) hfp ((ExF.ex e5).trans eF), ws', hw, ?_⟩
        · match i with
          | 0 => rfl
          | 1 => rfl
          | 2 => rfl
          | 3 => rfl
          | 4 => rfl
          | 5 => trivial
          | n + 6 => trivial
        · rw [gat_more hi, if_pos hb, List.map_append, List.map_append]
          exact aw
      · refine hN _ _ (tk4.trans (TKp.ex e5)) ⟨(S4.mono e5).less rfl fun i => ?_, Ex.exF k2 hfp (eF4.trans (ExF.ex e5)), _, e5 _ _ hw4, ?_⟩
        · match i with
          | 0 => rfl
          | 1 => rfl
          | 2 => rfl
          | 3 => rfl
          | 4 => rfl
          | 5 => trivial
          | n + 6 => trivial
        · have hb' : hasW true true t = false := hb
          rw [gat_more hi, if_neg (by rw [hb']; decide), List.append_nil, List.map_append]
          exact aw4.mono e5
    · obtain ⟨k1, k2, ws, k3, k4⟩ := k
      refine y_retM (D := { nx := fun _ H' => Q .non H', rt := Q }) (em_srt k1 rfl k3 k4 (by have := gat_len (t := t) (h := h) (i := (seenBy Y.ey h).length) ok.web; omega) arL_sorted fun g => by rw [gat_mem, mem_arL ok.web hh]) fun r ys H5 hr e5 hy ay => q r ys H5 (fresh_back (e1.trans k2) hr) ((e1.trans k2).trans e5) hy ay
end
end K9
end
section
set_option maxHeartbeats 3000000
/-! K9C: the checkers, which raise. -/
namespace K9
open PySem PySem.Spec PyProof.Rows L2 Evl K9M RZ
section
variable {K : PySem.W.Frag} {σ : L2.St} {H : Hp} {tl : TE} {D : Ends} {tw : TS}
theorem tf_listMn {α : Type} {enc : α → Dt} {j : Nat} (xs : List α) (h : EvM K tl σ H (xs.map enc)) (Pv : Nat → L2.St → Hp → Prop) (h0 : ∀ H1, Ex H H1 → Pv 0 σ H1)
    (hs : ∀ i a x σ' H', xs[i]? = some a → Pv i σ' H' → At K H' x (enc a) → ∀ N : L2.St → Hp → Prop, (∀ σ3 H3, Ex H' H3 → Pv (i + 1) σ3 H3 → N σ3 H3) → tw { D with nx := N, ct := N, bk := D.nx } (σ'.set j (some x)) H')
    (hd : ∀ σ' H', Pv xs.length σ' H' → D.nx σ' H') : tFor (iList K tl) (gName j) tw D σ H := tf_listM (g := gName j) xs h Pv h0 hs hd
theorem tf_rangen {ta : TA} {n j : Nat} (h : EvS K ta σ H [.int (n : Int)]) (hn : n ≤ 100000) (Pv : Nat → L2.St → Hp → Prop) (h0 : ∀ H1, Ex H H1 → Pv 0 σ H1)
    (hs : ∀ i σ' H', i < n → Pv i σ' H' → tw { D with nx := Pv (i + 1), ct := Pv (i + 1), bk := D.nx } (σ'.set j (some (.int (i : Int)))) H')
    (hd : ∀ σ' H', Pv n σ' H' → D.nx σ' H') : tFor (iRng1 ta) (gName j) tw D σ H := tf_range (g := gName j) h hn Pv h0 hs hd
theorem tf_tupn {α : Type} {enc : α → Dt} {j : Nat} (xs : List α) (h : EvD K tl σ H (.tup (xs.map enc))) (Pv : Nat → L2.St → Hp → Prop) (h0 : ∀ H1, Ex H H1 → Pv 0 σ H1)
    (hs : ∀ i a x σ' H', xs[i]? = some a → Pv i σ' H' → At K H' x (enc a) → ∀ N : L2.St → Hp → Prop, (∀ σ3 H3, TKp K H' H3 → Pv (i + 1) σ3 H3 → N σ3 H3) → tw { D with nx := N, ct := N, bk := D.nx } (σ'.set j (some x)) H')
    (hd : ∀ σ' H', Pv xs.length σ' H' → D.nx σ' H') : tFor (iTup K tl) (gName j) tw D σ H := tf_tup (g := gName j) xs h Pv h0 hs hd
end
/-! ### own errors -/
structure ReT (K : PySem.W.Frag) (mg : Str → Option Value) (C0 : Addr) (mc : Value) : Prop where
  gR : mg "RightError" = some (.ref C0)
  rR : ClX.CRead K C0 mc
  vR : PySem.W.findCls K (.ref C0) mc "__init__" = some (.val (.builtin "ValueError.__init__"))
structure ErT (K : PySem.W.Frag) (mg : Str → Option Value) (x : Str) (C fI : Addr) : Prop where
  gC : mg x = some (.ref C)
  ox : OexC K C
  iC : PySem.W.findIn K (.ref C) "__init__" = some (some (.ref fI))
  tI : PySem.W.typeIn K (.ref fI) = some (.type "function")
  n1 : PySem.W.findIn K (.ref C) "word" = some none
  n2 : PySem.W.findIn K (.ref C) "number" = some none
def spEI (C : Addr) (n : Nat) : Sp := fun vs H Q _ => ∃ a ws, vs = .ref a :: ws ∧ ws.length = n ∧ H a = some (exo a C none) ∧ ∀ d fs H', H' a = some (exo a C (some d)) → H' d = some (exd d fs) → H d = none → (∀ b o, b ≠ a → H b = some o → H' b = some o) → Q .non H'
abbrev s_NoPaper_init : Stmt := inClass (top 3) 0
theorem sc_NoPaper_init : FnScope ["self", "word", "number"] ["self", "word", "number"] (defScope s_NoPaper_init) := ⟨rfl, rfl, rfl, by decide +kernel, rfl, by decide +kernel, by decide +kernel⟩
abbrev s_TooMany_init : Stmt := inClass (top 4) 0
theorem sc_TooMany_init : FnScope ["self", "word"] ["self", "word"] (defScope s_TooMany_init) := ⟨rfl, rfl, rfl, by decide +kernel, rfl, by decide +kernel, by decide +kernel⟩
section
variable {P : Program} {w : World} {K : PySem.W.Frag} {mg : Str → Option Value} {base : Heap} {C fI C0 : Addr} {mc : Value} {fd : FuncData}
theorem exo_ne {H : Hp} {a d C : Addr} {c : Option Addr} (h : H a = some (exo a C c)) (n : H d = none) : d ≠ a := fun z => by
  rw [z, h] at n
  cases n
theorem ok_npI (F : Fun K "__init__" "NoPaper.__init__" s_NoPaper_init fI fd) (RE : ReT K mg C0 mc) (T : ErT K mg "NoPaper" C fI) : FnOk P w K mg base CX0 1 fI fd ["self", "word", "number"] (spEI C 2) := by
  refine F.ok sc_NoPaper_init (fun vs H Q E h => ?_) fun cdv A outer s H vs Q E hr h => ?_
  · obtain ⟨a, ws, rfl, hn, _⟩ := h
    show ws.length + 1 = 3
    rw [hn]
  · obtain ⟨a, ws, rfl, hn, ha, q⟩ := h
    match ws, hn with
    | [v1, v2], _ =>
      refine ⟨_, (pss_cons (ps_expr (pe_reinit rfl RE.gR RE.rR RE.vR (pa_cons (pv 0) (pa_cons pe_str pa_nil))))
    (pss_cons (ps_ost (pv 0) (pv 1))
    (pss_one (ps_ost (pv 0) (pv 2))))), ?_⟩
      refine ⟨_, rfl, a, C, _, rfl, by show 1 ≤ 1000; decide, T.ox, ha, ?_⟩
      refine ⟨_, rfl, _, rfl, a, C, rfl, T.ox, T.n1, .inl ⟨ha, fun dx hdx hne => ?_⟩⟩
      have e1 : upd (upd H dx (exd dx [("word", v1)])) a (exo a C (some dx)) dx = some (exd dx [("word", v1)]) := by rw [upd_ne hne, upd_same]
      refine ⟨_, rfl, _, rfl, a, C, rfl, T.ox, T.n2, .inr ⟨dx, _, upd_same, e1, by show 1 ≤ 900; decide, ?_⟩⟩
      refine q dx _ _ (by rw [upd_ne (Ne.symm hne), upd_same]) upd_same hdx fun b o hb h => ?_
      have hbd : b ≠ dx := fun z => by rw [z, hdx] at h; cases h
      rw [upd_ne hbd, upd_ne hb, upd_ne hbd]
      exact h
theorem ok_tmI (F : Fun K "__init__" "TooMany.__init__" s_TooMany_init fI fd) (RE : ReT K mg C0 mc) (T : ErT K mg "TooMany" C fI) : FnOk P w K mg base CX0 1 fI fd ["self", "word"] (spEI C 1) := by
  refine F.ok sc_TooMany_init (fun vs H Q E h => ?_) fun cdv A outer s H vs Q E hr h => ?_
  · obtain ⟨a, ws, rfl, hn, _⟩ := h
    show ws.length + 1 = 2
    rw [hn]
  · obtain ⟨a, ws, rfl, hn, ha, q⟩ := h
    match ws, hn with
    | [v1], _ =>
      refine ⟨_, (pss_cons (ps_expr (pe_reinit rfl RE.gR RE.rR RE.vR (pa_cons (pv 0) (pa_cons pe_str pa_nil))))
    (pss_one (ps_ost (pv 0) (pv 1)))), ?_⟩
      refine ⟨_, rfl, a, C, _, rfl, by show 1 ≤ 1000; decide, T.ox, ha, ?_⟩
      refine ⟨_, rfl, _, rfl, a, C, rfl, T.ox, T.n1, .inl ⟨ha, fun dx hdx hne => ?_⟩⟩
      have e1 : upd (upd H dx (exd dx [("word", v1)])) a (exo a C (some dx)) dx = some (exd dx [("word", v1)]) := by rw [upd_ne hne, upd_same]
      refine q dx _ _ upd_same e1 hdx fun b o hb h => ?_
      have hbd : b ≠ dx := fun z => by rw [z, hdx] at h; cases h
      rw [upd_ne hb, upd_ne hbd]
      exact h
theorem go_raise {σ : L2.St} {H : Hp} {ta : TA} {n : Nat} {ds : List Dt} {W : XK} (h : EvS K ta σ H ds) (hn : ds.length = n) (hz : n ≤ 10) (k : ∀ d H', Ex H H' → W (.ref C) (some d) H') : tMkO C (spEI C n) [] ta σ H W :=
  h H (Ex.refl _) _ fun vs H1 e1 al => by
    have vl : vs.length = n := by rw [al.len, hn]
    refine ⟨by omega, fun a ha => ⟨a, vs, by rw [List.append_nil], vl, upd_same, fun d fs H2 h1 h2 h3 h4 => ⟨rfl, d, fs, h1, h2, ?_, ?_⟩⟩⟩
    · have hda : d ≠ a := fun z => by rw [z, upd_same] at h3; cases h3
      rw [upd_ne hda] at h3
      exact h3
    · refine k d _ fun b o hb => ?_
      have hb1 := e1 b o hb
      have hba : b ≠ a := fun z => by rw [z, ha] at hb1; cases hb1
      have hbd : b ≠ d := fun z => by
        have hda : d ≠ a := fun z => by rw [z, upd_same] at h3; cases h3
        rw [upd_ne hda, ← z, hb1] at h3
        cases h3
      rw [upd_ne hbd, del_ne hba]
      exact h4 b o hba (by rw [upd_ne hba]; exact hb1)
end
/-! ### a promise with two errors -/
def spE (K : PySem.W.Frag) (NP TM : Addr) (R : List Dt → Prop → Dt → Prop) : Sp := fun vs H Q E => ∃ ds A d, AtL K H vs ds ∧ R ds A d ∧ (A → ∀ v H', Ex H H' → At K H' v d → Q v H') ∧ (¬ A → ∀ dx H', Ex H H' → E (.ref NP) (some dx) H') ∧ ∀ dx H', Ex H H' → E (.ref TM) (some dx) H'
/-- at every stand around: an act of this hand lets the sum of the shares that see it fall -/
def Chk (S : Sy) (t p : E true) (h : Nat) : Prop := ∀ st ∈ filled S.m (arL S.ey t h) [List.replicate S.ey.length 0], rdy S st h = true → part S.ey t p (act S st h) (h :: seenBy S.ey h) < part S.ey t p st (h :: seenBy S.ey h)
def ChkS (S : Sy) (c : E false) (h : Nat) : Prop := ∀ st ∈ filled S.m (h :: seen S.ey h) [List.replicate S.ey.length 0], rdy S st h = false → hol S.ey st h c 0 = true
def RAs : List Dt → Prop → Dt → Prop := fun ds A d => ∃ (S : Sy) (t p : E true) (h : Nat), SyOk S ∧ Fit false t ∧ Fit true p ∧ h < S.ey.length ∧ ds = [sysD S, sumD t p, nD h] ∧ A = Chk S t p h ∧ d = .non
def RAt : List Dt → Prop → Dt → Prop := fun ds A d => ∃ (S : Sy) (c : E false) (h : Nat), SyOk S ∧ Fit false c ∧ h < S.ey.length ∧ ds = [sysD S, encE c, nD h] ∧ A = ChkS S c h ∧ d = .non
def LetS (S : Sy) (t p : E true) : Prop := fit1 false t = true ∧ pair1 p = true ∧ ∀ h, h < S.ey.length → Chk S t p h
def LetC (S : Sy) (c : E false) : Prop := fit1 false c = true ∧ ∀ h, h < S.ey.length → ChkS S c h
def RLs : List Dt → Prop → Dt → Prop := fun ds A d => ∃ (S : Sy) (t p : E true), SyOk S ∧ rng t = true ∧ rng p = true ∧ ds = [sysD S, sumD t p] ∧ A = LetS S t p ∧ d = .bl true
def RLt : List Dt → Prop → Dt → Prop := fun ds A d => ∃ (S : Sy) (c : E false), SyOk S ∧ rng c = true ∧ ds = [sysD S, stlD c] ∧ A = LetC S c ∧ d = .bl true
theorem hands_lt {ey : List (List Nat)} {h : Nat} (hh : h < ey.length) : ∀ g ∈ h :: seenBy ey h, g < ey.length := fun g hg => by
  rcases List.mem_cons.mp hg with e | hg
  · rw [e]
    exact hh
  · exact List.mem_range.mp (List.mem_filter.mp hg).1
theorem hands_len {ey : List (List Nat)} {h : Nat} (W : Wok ey) : (h :: seenBy ey h).length ≤ 100 := by
  have := seenBy_len (h := h) W
  rw [List.length_cons]
  omega
theorem filled_ln {m n : Nat} {A st : List Nat} (h : st ∈ filled m A [List.replicate n 0]) : st.length = n := filled_lens A _ (fun o ho => by
  rcases List.mem_cons.mp ho with e | ho
  · rw [e]
    exact List.length_replicate
  · cases ho) st h
structure FlT (K : PySem.W.Frag) (mg : Str → Option Value) : Prop where
  g_MOST_FILLINGS : Gd K mg "MOST_FILLINGS" (.int 4096)
abbrev s_ask_sum : Stmt := top 55
theorem sc_ask_sum : FnScope ["system", "shares", "hand", "around", "hands", "stand"] ["system", "shares", "hand"] (defScope s_ask_sum) := ⟨rfl, rfl, rfl, by decide +kernel, rfl, by decide +kernel, by decide +kernel⟩
abbrev s_lets_sum : Stmt := top 56
theorem sc_lets_sum : FnScope ["system", "thing", "hand"] ["system", "thing"] (defScope s_lets_sum) := ⟨rfl, rfl, rfl, by decide +kernel, rfl, by decide +kernel, by decide +kernel⟩
abbrev s_ask_settled : Stmt := top 57
theorem sc_ask_settled : FnScope ["system", "claim", "hand", "sight", "stand"] ["system", "claim", "hand"] (defScope s_ask_settled) := ⟨rfl, rfl, rfl, by decide +kernel, rfl, by decide +kernel, by decide +kernel⟩
abbrev s_lets_settled : Stmt := top 58
theorem sc_lets_settled : FnScope ["system", "thing", "hand"] ["system", "thing"] (defScope s_lets_settled) := ⟨rfl, rfl, rfl, by decide +kernel, rfl, by decide +kernel, by decide +kernel⟩
section
variable {P : Program} {w : World} {K : PySem.W.Frag} {mg : Str → Option Value} {base : Heap} {k : Nat} {x : Str} {st : Stmt} {N ps : List Str} {NPa TMa fN fT C0 : Addr} {mc : Value} {fdN fdT : FuncData}
theorem Df.okE {R : List Dt → Prop → Dt → Prop} (D : Df K mg x st ps) (S : FnScope N ps (defScope st)) (len : ∀ ds A d, R ds A d → ds.length = ps.length)
    (hb : ∀ (cdv : Value) (A : Around) (outer : List PySem.Env) (s : Shared) (H : Hp) (f : Addr) (ds : List Dt) (Y : Prop) (d : Dt) (Q : VK) (E : XK), Room k (A.deeper (envOfC x (defScope st) s.heap.objs.size f cdv)) → R ds Y d → (Y → ∀ v H', Ex H H' → At K H' v d → Q v H') → (¬ Y → ∀ dx H', Ex H H' → E (.ref NPa) (some dx) H') → (∀ dx H', Ex H H' → E (.ref TMa) (some dx) H') →
      ∃ t, PSs (cxOf (L2.CX P w) P w K mg base N x (defScope st) f cdv A outer s H E) (defBody st) t ∧ ∀ σ, Sg K H σ (ds.map .d ++ List.replicate (N.length - ds.length) .no) → t { nx := fun _ H' => Q .non H', rt := Q } σ H) :
    Ok P w K mg base (L2.CX P w) (k + 1) x ps (spE K NPa TMa R) := by
  obtain ⟨f, fd, hm, b, F⟩ := D.ex
  refine ⟨f, fd, hm, F.kp, b, F.okX S (fun vs H Q E h => ?_) (fun cdv A outer s H vs Q E hr h => ?_)⟩
  · obtain ⟨ds, Y, d, l, hR, _⟩ := h
    rw [l.len]
    exact len ds Y d hR
  · obtain ⟨ds, Y, d, l, hR, q1, q2, q3⟩ := h
    obtain ⟨t, h1, h2⟩ := hb cdv A outer s H f ds Y d Q E hr hR q1 q2 q3
    exact ⟨t, h1, h2 _ (Sg.start l)⟩
theorem ok_ask_sum (D : Df K mg "ask_sum" s_ask_sum ["system", "shares", "hand"]) (B : Bi mg) (G : FlT K mg) (NP : ErT K mg "NoPaper" NPa fN) (TM : ErT K mg "TooMany" TMa fT) (FNP : FnOk P w K mg base CX0 1 fN fdN ["self", "word", "number"] (spEI NPa 2)) (bNP : Binds K fdN ["self", "word", "number"] [])
    (FTM : FnOk P w K mg base CX0 1 fT fdT ["self", "word"] (spEI TMa 1)) (bTM : Binds K fdT ["self", "word"] [])
    (O_around_hand : Ok P w K mg base CX0 34 "around_hand" ["system", "shares", "hand"] (spM K RAh)) (O_fillings_of : Ok P w K mg base CX0 34 "fillings_of" ["system", "hands"] (spFL K RFo)) (O_seen_by : Ok P w K mg base CX0 34 "seen_by" ["eyes", "hand"] (spF K RSb))
    (O_filled_stands : Ok P w K mg base CX0 34 "filled_stands" ["system", "stand", "hands"] (spML K RFs)) (O_nought_stand : Ok P w K mg base CX0 34 "nought_stand" ["system"] (spF K RNs)) (O_rule_at : Ok P w K mg base CX0 34 "rule_at" ["system", "stand", "hand"] (spF K RRa))
    (O_falls_there : Ok P w K mg base CX0 34 "falls_there" ["system", "shares", "stand", "hand", "hands"] (spFL K RFt)) :
    Ok P w K mg base (L2.CX P w) 35 "ask_sum" ["system", "shares", "hand"] (spE K NPa TMa RAs) := by
  obtain ⟨u_MOST_FILLINGS, v_MOST_FILLINGS, m_MOST_FILLINGS, r_MOST_FILLINGS, a_MOST_FILLINGS⟩ := G.g_MOST_FILLINGS.ex
  have FNP := FNP.mono (k := 33) (by decide)
  have FTM := FTM.mono (k := 33) (by decide)
  refine D.okE sc_ask_sum (fun ds A d h => ?_) fun cdv A outer s H f ds Y0 d Q E hr h q1 q2 q3 => ?_
  · obtain ⟨_, _, _, _, _, _, _, _, rfl, _⟩ := h
    rfl
  · obtain ⟨Y, t, pr, h, ok, ft, fp, hh, rfl, rfl, rfl⟩ := h
    refine ⟨_, (pss_cons (ps_set (i := 3) sc_ask_sum.nd rfl (Or.inl rfl) (pe_ok O_around_hand hr rfl (pa_cons (pv 0) (pa_cons (pv 1) (pa_cons (pv 2) pa_nil)))))
    (pss_cons (ps_if (pt_cmpR op_gt (pe_ok O_fillings_of hr rfl (pa_cons (pv 0) (pa_cons (pv 3) pa_nil))) (pe_glob rfl m_MOST_FILLINGS r_MOST_FILLINGS) (nomark _)) (pss_one (ps_raise rfl (takes_of rfl rfl rfl rfl) (pmk_oex TM.ox TM.iC TM.tI FTM hr bTM .nil pass0 rfl TM.gC (pa_cons pe_str pa_nil)))) pss_nil)
    (pss_cons (ps_set (i := 4) sc_ask_sum.nd rfl (Or.inl rfl) (pe_op op_cat (pe_lst (pa_cons (pv 2) pa_nil)) (pe_callTy call_list_of rfl B.list (by decide +kernel) (pa_cons (pe_ok O_seen_by hr rfl (pa_cons (pe_ix ix_tup (pv 0) pe_int (fun _ _ => rfl)) (pa_cons (pv 2) pa_nil))) pa_nil))))
    (pss_one (ps_for (passes_of rfl) rfl (pi_list (pe_ok O_filled_stands hr rfl (pa_cons (pv 0) (pa_cons (pe_ok O_nought_stand hr rfl (pa_cons (pv 0) pa_nil)) (pa_cons (pv 3) pa_nil))))) (pg_name (i := 5) sc_ask_sum.nd rfl (Or.inl rfl)) (pss_one (ps_if (PW.pt (pw_and (pt_cmpR op_notN (pe_ok O_rule_at hr rfl (pa_cons (pv 0) (pa_cons (pv 5) (pa_cons (pv 2) pa_nil)))) pe_non (nomark _)) (pw_and1 (pt_not (pt_val (pe_ok O_falls_there hr rfl (pa_cons (pv 0) (pa_cons (pv 1) (pa_cons (pv 5) (pa_cons (pv 2) (pa_cons (pv 4) pa_nil))))))))))) (pss_one (ps_raise rfl (takes_of rfl rfl rfl rfl) (pmk_oex NP.ox NP.iC NP.tI FNP hr bNP .nil pass0 rfl NP.gC (pa_cons pe_str (pa_cons (pv 2) pa_nil))))) pss_nil))))))), fun σ S => ?_⟩
    refine z_asgM S (em_call (es_cons (ed_var S rfl) (es_cons (ed_var S rfl) (es_one (ed_var S rfl)))) ⟨Y, t, pr, h, ok, hh, ft.dp, rfl, rfl⟩) fun ap as σ1 H1 hap e1 ha1 aa1 S1 => ?_
    have vF := (a_MOST_FILLINGS H1).of_int
    subst vF
    have al := arL_len (t := t) (h := h) ok.web
    refine z_when (et_d (ed_IB (ed_callL (esl_cons (ed_var S1 rfl) (esl_end S1 rfl)) ha1 aa1 ⟨Y, arL Y.ey t h, ok, by omega, rfl, rfl, rfl⟩) (ed_cR fun _ => .int 4096))) (fun hb H2 e2 => ?_) fun hb H2 e2 => ?_
    · exact go_raise (K := K) (es_one ed_cS) rfl (by decide) fun dx H3 e3 => q3 dx H3 ((e1.trans e2).trans e3)
    · have hm : Y.m ^ (arL Y.ey t h).length ≤ 4096 := by
        have z := of_decide_eq_false hb
        omega
      have S2 := S1.mono e2
      have hsb := seenBy_len (h := h) ok.web
      refine z_asgM S2 ((em_cat (ds := [nD h]) (es := (seenBy Y.ey h).map nD) (em_lst (es_one (ed_var S2 rfl)) (Nat.le_of_ble_eq_true rfl)) (fun H3 e3 => em_list (ed_call (es_cons (ed_ixc (j := 0) (ed_var (S2.mono e3) rfl) rfl) (es_one (ed_var (S2.mono e3) rfl))) ⟨Y.ey, h, by have := ok.web.sm; omega, rfl, rfl⟩)) (by rw [List.length_cons, List.length_nil, List.length_map]; omega))) fun hp hs σ3 H3 hhp e3 hh3 ah3 S3 => ?_
      have e03 := (e1.trans e2).trans e3
      refine tf_listMn (enc := stD) (filled Y.m (arL Y.ey t h) [List.replicate Y.ey.length 0]) (em_callL (esl_cons (ed_var S3 rfl) (esl_cons (ed_call (es_one (ed_var S3 rfl)) ⟨Y, ok, rfl, rfl⟩) (esl_end S3 rfl))) (e3 _ _ (e2 _ _ ha1)) (aa1.mono (e2.trans e3)) ⟨Y, List.replicate Y.ey.length 0, arL Y.ey t h, ok, List.length_replicate, fun g hg => List.mem_range.mp (List.mem_filter.mp hg).1, hm, rfl, rfl, rfl⟩)
        (fun i σ' H' => Sg K H' σ' [.d (sysD Y), .d (sumD t pr), .d (nD h), .no, .v (.ref hp), .no] ∧ Ex H3 H' ∧ ∀ st ∈ (filled Y.m (arL Y.ey t h) [List.replicate Y.ey.length 0]).take i, rdy Y st h = true → part Y.ey t pr (act Y st h) (h :: seenBy Y.ey h) < part Y.ey t pr st (h :: seenBy Y.ey h))
        (fun H4 e4 => ⟨(S3.mono e4).less rfl fun i => ?_, e4, fun st hst => ?_⟩) (fun i st x σ' H' hi k ax N hN => ?_) fun σ' H' k => ?_
      · match i with
        | 0 => rfl
        | 1 => rfl
        | 2 => rfl
        | 3 => trivial
        | 4 => rfl
        | 5 => trivial
        | n + 6 => trivial
      · rw [List.take_zero] at hst
        cases hst
      · obtain ⟨k1, k2, k3⟩ := k
        have hmem := List.mem_of_getElem? hi
        have hsl : st.length = Y.ey.length := filled_ln hmem
        have S4 := k1.setD ax 5
        refine s_when (b := rdy Y st h && !decide (part Y.ey t pr (act Y st h) (h :: seenBy Y.ey h) < part Y.ey t pr st (h :: seenBy Y.ey h))) (et_and (et_is (et_d (ed_notN (ed_call (es_cons (ed_var S4 rfl) (es_cons (ed_var S4 rfl) (es_one (ed_var S4 rfl)))) ⟨Y, st, h, ok, hsl, hh, rfl, rfl⟩))) (idx_rdy Y st h)) fun hy => et_not (et_b (ed_callL (esl_cons (ed_var S4 rfl) (esl_cons (ed_var S4 rfl) (esl_cons (ed_var S4 rfl) (esl_cons (ed_var S4 rfl) (esl_end S4 rfl))))) (k2 _ _ hh3) (ah3.mono k2)
          ⟨Y, t, pr, st, h, h :: seenBy Y.ey h, ok, hsl, hh, hy, ft, fp, hands_lt hh, hands_len ok.web, rfl, rfl, rfl⟩))) (fun hb H5 e5 => ?_) fun hb H5 e5 => ?_
        · rw [Bool.and_eq_true, Bool.not_eq_true', decide_eq_false_iff_not] at hb
          exact go_raise (es_cons ed_cS (es_one (ed_var (S4.mono e5) rfl))) rfl (by decide) fun dx H6 e6 => q2 (fun C => hb.2 (C st hmem hb.1)) dx H6 (((e03.trans k2).trans e5).trans e6)
        · refine hN _ _ e5 ⟨(S4.mono e5).less rfl fun i => ?_, k2.trans e5, fun st' hst' hy => ?_⟩
          · match i with
            | 0 => rfl
            | 1 => rfl
            | 2 => rfl
            | 3 => trivial
            | 4 => rfl
            | 5 => trivial
            | n + 6 => trivial
          · rw [filter_take_more hi] at hst'
            rcases List.mem_append.mp hst' with hst' | hst'
            · exact k3 st' hst' hy
            · obtain rfl : st' = st := by simpa using hst'
              rw [hy, Bool.true_and, Bool.not_eq_false', decide_eq_true_iff] at hb
              exact hb
      · obtain ⟨k1, k2, k3⟩ := k
        rw [List.take_length] at k3
        exact q1 k3 .non H' (e03.trans k2) .non
theorem ok_ask_settled (D : Df K mg "ask_settled" s_ask_settled ["system", "claim", "hand"]) (B : Bi mg) (G : FlT K mg) (NP : ErT K mg "NoPaper" NPa fN) (TM : ErT K mg "TooMany" TMa fT) (FNP : FnOk P w K mg base CX0 1 fN fdN ["self", "word", "number"] (spEI NPa 2)) (bNP : Binds K fdN ["self", "word", "number"] [])
    (FTM : FnOk P w K mg base CX0 1 fT fdT ["self", "word"] (spEI TMa 1)) (bTM : Binds K fdT ["self", "word"] [])
    (O_fillings_of : Ok P w K mg base CX0 34 "fillings_of" ["system", "hands"] (spFL K RFo)) (O_filled_stands : Ok P w K mg base CX0 34 "filled_stands" ["system", "stand", "hands"] (spML K RFs)) (O_nought_stand : Ok P w K mg base CX0 34 "nought_stand" ["system"] (spF K RNs)) (O_rule_at : Ok P w K mg base CX0 34 "rule_at" ["system", "stand", "hand"] (spF K RRa))
    (O_holds_at : Ok P w K mg base CX0 34 "holds_at" ["eyes", "stand", "hand", "claim"] (spF K (RHol K))) :
    Ok P w K mg base (L2.CX P w) 35 "ask_settled" ["system", "claim", "hand"] (spE K NPa TMa RAt) := by
  obtain ⟨u_MOST_FILLINGS, v_MOST_FILLINGS, m_MOST_FILLINGS, r_MOST_FILLINGS, a_MOST_FILLINGS⟩ := G.g_MOST_FILLINGS.ex
  have FNP := FNP.mono (k := 33) (by decide)
  have FTM := FTM.mono (k := 33) (by decide)
  refine D.okE sc_ask_settled (fun ds A d h => ?_) fun cdv A outer s H f ds Y0 d Q E hr h q1 q2 q3 => ?_
  · obtain ⟨_, _, _, _, _, _, rfl, _⟩ := h
    rfl
  · obtain ⟨Y, c, h, ok, fc, hh, rfl, rfl, rfl⟩ := h
    refine ⟨_, (pss_cons (ps_set (i := 3) sc_ask_settled.nd rfl (Or.inl rfl) (pe_op op_cat (pe_lst (pa_cons (pv 2) pa_nil)) (pe_callTy call_list_of rfl B.list (by decide +kernel) (pa_cons (pe_ix ix_tup (pe_ix ix_tup (pv 0) pe_int (fun _ _ => rfl)) (pv 2) (fun _ _ => rfl)) pa_nil))))
    (pss_cons (ps_if (pt_cmpR op_gt (pe_ok O_fillings_of hr rfl (pa_cons (pv 0) (pa_cons (pv 3) pa_nil))) (pe_glob rfl m_MOST_FILLINGS r_MOST_FILLINGS) (nomark _)) (pss_one (ps_raise rfl (takes_of rfl rfl rfl rfl) (pmk_oex TM.ox TM.iC TM.tI FTM hr bTM .nil pass0 rfl TM.gC (pa_cons pe_str pa_nil)))) pss_nil)
    (pss_one (ps_for (passes_of rfl) rfl (pi_list (pe_ok O_filled_stands hr rfl (pa_cons (pv 0) (pa_cons (pe_ok O_nought_stand hr rfl (pa_cons (pv 0) pa_nil)) (pa_cons (pv 3) pa_nil))))) (pg_name (i := 4) sc_ask_settled.nd rfl (Or.inl rfl)) (pss_one (ps_if (PW.pt (pw_and (pt_cmpR op_isN (pe_ok O_rule_at hr rfl (pa_cons (pv 0) (pa_cons (pv 4) (pa_cons (pv 2) pa_nil)))) pe_non (nomark _)) (pw_and1 (pt_not (pt_val (pe_ok O_holds_at hr rfl (pa_cons (pe_ix ix_tup (pv 0) pe_int (fun _ _ => rfl)) (pa_cons (pv 4) (pa_cons (pv 2) (pa_cons (pv 1) pa_nil)))))))))) (pss_one (ps_raise rfl (takes_of rfl rfl rfl rfl) (pmk_oex NP.ox NP.iC NP.tI FNP hr bNP .nil pass0 rfl NP.gC (pa_cons pe_str (pa_cons (pv 2) pa_nil))))) pss_nil)))))), fun σ S => ?_⟩
    have hfw := ok.web.few h
    refine z_asgM S ((em_cat (ds := [nD h]) (es := (seen Y.ey h).map nD) (em_lst (es_one (ed_var S rfl)) (Nat.le_of_ble_eq_true rfl)) (fun H3 e3 => em_list (ed_ixn (j := h) (ed_ixc (j := 0) (ed_var (S.mono e3) rfl) rfl) (ed_var (S.mono e3) rfl) (eyD_at hh))) (by rw [List.length_cons, List.length_nil, List.length_map]; omega))) fun ap as σ1 H1 hap e1 ha1 aa1 S1 => ?_
    have vF := (a_MOST_FILLINGS H1).of_int
    subst vF
    have al : (h :: seen Y.ey h).length ≤ 10 := by rw [List.length_cons]; omega
    refine z_when (et_d (ed_IB (ed_callL (esl_cons (ed_var S1 rfl) (esl_end S1 rfl)) ha1 aa1 ⟨Y, h :: seen Y.ey h, ok, al, rfl, rfl, rfl⟩) (ed_cR fun _ => .int 4096))) (fun hb H2 e2 => ?_) fun hb H2 e2 => ?_
    · exact go_raise (K := K) (es_one ed_cS) rfl (by decide) fun dx H3 e3 => q3 dx H3 ((e1.trans e2).trans e3)
    · have hm : Y.m ^ (h :: seen Y.ey h).length ≤ 4096 := by
        have z := of_decide_eq_false hb
        omega
      have S2 := S1.mono e2
      have e02 := e1.trans e2
      have hlt : ∀ g ∈ h :: seen Y.ey h, g < Y.ey.length := fun g hg => by
        rcases List.mem_cons.mp hg with e | hg
        · rw [e]; exact hh
        · exact ok.web.lt _ _ hg
      refine tf_listMn (enc := stD) (filled Y.m (h :: seen Y.ey h) [List.replicate Y.ey.length 0]) (em_callL (esl_cons (ed_var S2 rfl) (esl_cons (ed_call (es_one (ed_var S2 rfl)) ⟨Y, ok, rfl, rfl⟩) (esl_end S2 rfl))) (e2 _ _ ha1) (aa1.mono e2) ⟨Y, List.replicate Y.ey.length 0, h :: seen Y.ey h, ok, List.length_replicate, hlt, hm, rfl, rfl, rfl⟩)
        (fun i σ' H' => Sg K H' σ' [.d (sysD Y), .d (encE c), .d (nD h), .no, .no] ∧ Ex H2 H' ∧ ∀ st ∈ (filled Y.m (h :: seen Y.ey h) [List.replicate Y.ey.length 0]).take i, rdy Y st h = false → hol Y.ey st h c 0 = true)
        (fun H4 e4 => ⟨(S2.mono e4).less rfl fun i => ?_, e4, fun st hst => ?_⟩) (fun i st x σ' H' hi k ax N hN => ?_) fun σ' H' k => ?_
      · match i with
        | 0 => rfl
        | 1 => rfl
        | 2 => rfl
        | 3 => trivial
        | 4 => trivial
        | n + 5 => trivial
      · rw [List.take_zero] at hst
        cases hst
      · obtain ⟨k1, k2, k3⟩ := k
        have hmem := List.mem_of_getElem? hi
        have hsl : st.length = Y.ey.length := filled_ln hmem
        have S4 := k1.setD ax 4
        have hnn : isNon (opD (idx Y st h)) = !rdy Y st h := by rw [← idx_rdy, Bool.not_not]
        refine s_when (b := !rdy Y st h && !hol Y.ey st h c 0) (et_and (et_is (et_d (ed_isN (ed_call (es_cons (ed_var S4 rfl) (es_cons (ed_var S4 rfl) (es_one (ed_var S4 rfl)))) ⟨Y, st, h, ok, hsl, hh, rfl, rfl⟩))) hnn) fun hy => et_not (et_b (ed_call (es_cons (ed_ixc (j := 0) (ed_var S4 rfl) rfl) (es_cons (ed_var S4 rfl) (es_cons (ed_var S4 rfl) (es_one (ed_var S4 rfl))))) ⟨Y.ey, st, h, c, ok.web.sc hsl hh, fc.dp, fc.ok, fc.rg, rfl, rfl⟩))) (fun hb H5 e5 => ?_) fun hb H5 e5 => ?_
        · rw [Bool.and_eq_true, Bool.not_eq_true', Bool.not_eq_true'] at hb
          exact go_raise (es_cons ed_cS (es_one (ed_var (S4.mono e5) rfl))) rfl (by decide) fun dx H6 e6 => q2 (fun C => by have := C st hmem hb.1; rw [hb.2] at this; cases this) dx H6 (((e02.trans k2).trans e5).trans e6)
        · refine hN _ _ e5 ⟨(S4.mono e5).less rfl fun i => ?_, k2.trans e5, fun st' hst' hy => ?_⟩
          · match i with
            | 0 => rfl
            | 1 => rfl
            | 2 => rfl
            | 3 => trivial
            | 4 => trivial
            | n + 5 => trivial
          · rw [filter_take_more hi] at hst'
            rcases List.mem_append.mp hst' with hst' | hst'
            · exact k3 st' hst' hy
            · obtain rfl : st' = st := by simpa using hst'
              rw [hy, Bool.not_false, Bool.true_and, Bool.not_eq_false'] at hb
              exact hb
      · obtain ⟨k1, k2, k3⟩ := k
        rw [List.take_length] at k3
        exact q1 k3 .non H' (e02.trans k2) .non
theorem go_callE {σ : L2.St} {H : Hp} {ta : TA} {ds : List Dt} {R : List Dt → Prop → Dt → Prop} {Y : Prop} {d : Dt} {E : L2.St → XK} {Q : VK} (h : EvS K ta σ H ds) (hR : R ds Y d) (k1 : Y → ∀ v H', Ex H H' → At K H' v d → Q v H') (k2 : ¬ Y → ∀ dx H', Ex H H' → E σ (.ref NPa) (some dx) H') (k3 : ∀ dx H', Ex H H' → E σ (.ref TMa) (some dx) H') :
    tCallS (spE K NPa TMa R) E ta σ H Q := h H (Ex.refl _) _ fun vs H1 e1 al => ⟨ds, Y, d, al, hR, fun y v H' e a => k1 y v H' (e1.trans e) a, fun y dx H' e => k2 y dx H' (e1.trans e), fun dx H' e => k3 dx H' (e1.trans e)⟩
theorem ok_lets_sum (D : Df K mg "lets_sum" s_lets_sum ["system", "thing"]) (B : Bi mg) (NP : ErT K mg "NoPaper" NPa fN) (FNP : FnOk P w K mg base CX0 1 fN fdN ["self", "word", "number"] (spEI NPa 2)) (bNP : Binds K fdN ["self", "word", "number"] [])
    (O_is_sum : Ok P w K mg base CX0 35 "is_sum" ["system", "thing"] (spF K RSu)) (O_ask_sum : Ok P w K mg base (L2.CX P w) 35 "ask_sum" ["system", "shares", "hand"] (spE K NPa TMa RAs)) :
    Ok P w K mg base (L2.CX P w) 36 "lets_sum" ["system", "thing"] (spE K NPa TMa RLs) := by
  obtain ⟨fA, fdA, mA, kA, bA, FA⟩ := O_ask_sum.ex
  have FNP := FNP.mono (k := 34) (by decide)
  refine D.okE sc_lets_sum (fun ds A d h => ?_) fun cdv A outer s H f ds Y0 d Q E hr h q1 q2 q3 => ?_
  · obtain ⟨_, _, _, _, _, _, rfl, _⟩ := h
    rfl
  · obtain ⟨Y, t, pr, ok, rt, rp, rfl, rfl, rfl⟩ := h
    refine ⟨_, (pss_cons (ps_if (pt_not (pt_val (pe_ok O_is_sum hr rfl (pa_cons (pv 0) (pa_cons (pv 1) pa_nil))))) (pss_one (ps_raise rfl (takes_of rfl rfl rfl rfl) (pmk_oex NP.ox NP.iC NP.tI FNP hr bNP .nil pass0 rfl NP.gC (pa_cons pe_str (pa_cons pe_int pa_nil))))) pss_nil)
    (pss_cons (ps_for (passes_of rfl) rfl (pi_range1 rfl B.range (pa_cons (pe_callB call_len_seq rfl B.len (by decide +kernel) (pa_cons (pe_ix ix_tup (pv 0) pe_int (fun _ _ => rfl)) pa_nil)) pa_nil)) (pg_name (i := 2) sc_lets_sum.nd rfl (Or.inl rfl)) (pss_one (ps_expr (pe_callS FA hr rfl mA kA bA (fun σ => passAt (takes_of rfl rfl rfl rfl) σ) (pa_cons (pv 0) (pa_cons (pv 1) (pa_cons (pv 2) pa_nil)))))))
    (pss_one (ps_ret pe_bl)))), fun σ S => ?_⟩
    refine z_when (et_not (et_b (ed_call (es_cons (ed_var S rfl) (es_one (ed_var S rfl))) ⟨Y, t, pr, rt, rp, rfl, rfl⟩))) (fun hb H1 e1 => ?_) fun hb H1 e1 => ?_
    · refine go_raise (K := K) (es_cons ed_cS (es_one ed_cI)) rfl (by decide) fun dx H2 e2 => q2 (fun L => ?_) dx H2 (e1.trans e2)
      rw [L.1, L.2.1] at hb
      cases hb
    · rw [Bool.not_eq_false', Bool.and_eq_true] at hb
      have ft := fit1_fit rt hb.1
      have fp := pair1_fit rp hb.2
      have S1 := S.mono e1
      refine q_for1 (tf_rangen (n := Y.ey.length) (es_one ((ed_len (ds := Y.ey.map rowD) (ed_ixc (j := 0) (ed_var S1 rfl) rfl)).is (by rw [List.length_map]))) (by have := ok.web.sm; omega)
        (fun i σ' H' => Sg K H' σ' [.d (sysD Y), .d (sumD t pr), .no] ∧ Ex H H' ∧ ∀ h, h < i → Chk Y t pr h)
        (fun H2 e2 => ⟨(S1.mono e2).less rfl fun i => ?_, e1.trans e2, fun h hh => by omega⟩) (fun i σ' H' hi k => ?_) fun σ' H' k => ?_)
      · match i with
        | 0 => rfl
        | 1 => rfl
        | 2 => trivial
        | n + 3 => trivial
      · obtain ⟨k1, k2, k3⟩ := k
        have S2 := k1.setD (.int (i : Int)) 2
        refine go_callE (es_cons (ed_var S2 rfl) (es_cons (ed_var S2 rfl) (es_one (ed_var S2 rfl)))) ⟨Y, t, pr, i, ok, ft, fp, hi, rfl, rfl, rfl⟩ (fun hc v H3 e3 _ => ⟨(S2.mono e3).less rfl fun i => ?_, k2.trans e3, fun h hh => ?_⟩) (fun hc dx H3 e3 => q2 (fun L => hc (L.2.2 i hi)) dx H3 (k2.trans e3)) fun dx H3 e3 => q3 dx H3 (k2.trans e3)
        · match i with
          | 0 => rfl
          | 1 => rfl
          | 2 => trivial
          | n + 3 => trivial
        · rcases Nat.lt_succ_iff_lt_or_eq.mp hh with hh | rfl
          · exact k3 h hh
          · exact hc
      · obtain ⟨k1, k2, k3⟩ := k
        exact y_ret (K := K) (σ := σ') (D := { nx := fun _ H' => Q .non H', rt := Q }) ed_cB fun v H4 e4 a => q1 ⟨hb.1, hb.2, k3⟩ v H4 (k2.trans e4) a
theorem ok_lets_settled (D : Df K mg "lets_settled" s_lets_settled ["system", "thing"]) (B : Bi mg) (NP : ErT K mg "NoPaper" NPa fN) (FNP : FnOk P w K mg base CX0 1 fN fdN ["self", "word", "number"] (spEI NPa 2)) (bNP : Binds K fdN ["self", "word", "number"] [])
    (O_is_settled : Ok P w K mg base CX0 35 "is_settled" ["system", "thing"] (spF K RSt)) (O_ask_settled : Ok P w K mg base (L2.CX P w) 35 "ask_settled" ["system", "claim", "hand"] (spE K NPa TMa RAt)) :
    Ok P w K mg base (L2.CX P w) 36 "lets_settled" ["system", "thing"] (spE K NPa TMa RLt) := by
  obtain ⟨fA, fdA, mA, kA, bA, FA⟩ := O_ask_settled.ex
  have FNP := FNP.mono (k := 34) (by decide)
  refine D.okE sc_lets_settled (fun ds A d h => ?_) fun cdv A outer s H f ds Y0 d Q E hr h q1 q2 q3 => ?_
  · obtain ⟨_, _, _, _, rfl, _⟩ := h
    rfl
  · obtain ⟨Y, c, ok, rc, rfl, rfl, rfl⟩ := h
    refine ⟨_, (pss_cons (ps_if (pt_not (pt_val (pe_ok O_is_settled hr rfl (pa_cons (pv 0) (pa_cons (pv 1) pa_nil))))) (pss_one (ps_raise rfl (takes_of rfl rfl rfl rfl) (pmk_oex NP.ox NP.iC NP.tI FNP hr bNP .nil pass0 rfl NP.gC (pa_cons pe_str (pa_cons pe_int pa_nil))))) pss_nil)
    (pss_cons (ps_for (passes_of rfl) rfl (pi_range1 rfl B.range (pa_cons (pe_callB call_len_seq rfl B.len (by decide +kernel) (pa_cons (pe_ix ix_tup (pv 0) pe_int (fun _ _ => rfl)) pa_nil)) pa_nil)) (pg_name (i := 2) sc_lets_settled.nd rfl (Or.inl rfl)) (pss_one (ps_expr (pe_callS FA hr rfl mA kA bA (fun σ => passAt (takes_of rfl rfl rfl rfl) σ) (pa_cons (pv 0) (pa_cons (pe_ix ix_tup (pv 1) (pe_ix ix_tup (pe_ix ix_tup (pv 0) pe_int (fun _ _ => rfl)) (pv 2) (fun _ _ => rfl)) (fun _ _ => rfl)) (pa_cons (pv 2) pa_nil)))))))
    (pss_one (ps_ret pe_bl)))), fun σ S => ?_⟩
    refine z_when (et_not (et_b (ed_call (es_cons (ed_var S rfl) (es_one (ed_var S rfl))) ⟨Y, c, rc, rfl, rfl⟩))) (fun hb H1 e1 => ?_) fun hb H1 e1 => ?_
    · refine go_raise (K := K) (es_cons ed_cS (es_one ed_cI)) rfl (by decide) fun dx H2 e2 => q2 (fun L => ?_) dx H2 (e1.trans e2)
      rw [L.1] at hb
      cases hb
    · rw [Bool.not_eq_false'] at hb
      have fc := fit1_fit rc hb
      have S1 := S.mono e1
      refine q_for1 (tf_rangen (n := Y.ey.length) (es_one ((ed_len (ds := Y.ey.map rowD) (ed_ixc (j := 0) (ed_var S1 rfl) rfl)).is (by rw [List.length_map]))) (by have := ok.web.sm; omega)
        (fun i σ' H' => Sg K H' σ' [.d (sysD Y), .d (stlD c), .no] ∧ Ex H H' ∧ ∀ h, h < i → ChkS Y c h)
        (fun H2 e2 => ⟨(S1.mono e2).less rfl fun i => ?_, e1.trans e2, fun h hh => by omega⟩) (fun i σ' H' hi k => ?_) fun σ' H' k => ?_)
      · match i with
        | 0 => rfl
        | 1 => rfl
        | 2 => trivial
        | n + 3 => trivial
      · obtain ⟨k1, k2, k3⟩ := k
        have S2 := k1.setD (.int (i : Int)) 2
        refine go_callE (es_cons (ed_var S2 rfl) (es_cons (ed_ixn (j := 0) (ed_var S2 rfl) (ed_ixn (j := i) (ed_ixc (j := 2) (ed_var S2 rfl) rfl) (ed_var S2 rfl) (zero_at hi)) rfl) (es_one (ed_var S2 rfl)))) ⟨Y, c, i, ok, fc, hi, rfl, rfl, rfl⟩ (fun hc v H3 e3 _ => ⟨(S2.mono e3).less rfl fun i => ?_, k2.trans e3, fun h hh => ?_⟩) (fun hc dx H3 e3 => q2 (fun L => hc (L.2 i hi)) dx H3 (k2.trans e3)) fun dx H3 e3 => q3 dx H3 (k2.trans e3)
        · match i with
          | 0 => rfl
          | 1 => rfl
          | 2 => trivial
          | n + 3 => trivial
        · rcases Nat.lt_succ_iff_lt_or_eq.mp hh with hh | rfl
          · exact k3 h hh
          · exact hc
      · obtain ⟨k1, k2, k3⟩ := k
        exact y_ret (K := K) (σ := σ') (D := { nx := fun _ H' => Q .non H', rt := Q }) ed_cB fun v H4 e4 a => q1 ⟨hb, k3⟩ v H4 (k2.trans e4) a
end
end K9
end
section
set_option maxHeartbeats 1000000
/-! K9Q: the law's own reckoning. -/
namespace K9
open PySem PySem.Spec PyProof.Rows L2 Evl K9M RZ
theorem pss_dead {X : Cx} {sts : List Stmt} : PSs X sts (fun _ _ _ => False) := ⟨fun _ _ _ _ _ _ h => h.elim⟩
section
variable {K : PySem.W.Frag} {σ : L2.St} {H H' : Hp} {ta tb te tl tx : TE} {t : TT} {d : Dt} {ds : List Dt} {D : Ends} {tw tz : TS} {g : TG} {l : List Sl} {p : Addr} {vs : List V}
theorem ed_ixLst {i : Nat} {j : Int} (S : Sg K H σ l) (hi : l[i]? = some (.v (.ref p))) (hp : H p = some (.lst vs)) (ha : AtL K H vs ds) (hb : EvD K tb σ H (.int j)) (e : atI ds j = some d) : EvD K (tOp (rIxL K) (tVar i) tb) σ H d := fun H1 e1 Q q =>
  ⟨_, S.val hi, hb H1 e1 _ fun w H2 e2 b => by
    obtain ⟨x, hx, ax⟩ := (ha.mono (e1.trans e2)).atI e
    rw [b.of_int]
    exact ⟨p, vs, j, x, rfl, rfl, sq_of (e2 _ _ (e1 _ _ hp)), hx, q x H2 e2 ax⟩⟩
theorem ed_inBLst {neg : Bool} {i : Nat} {s : Bool} {ss : List Bool} (S : Sg K H σ l) (hi : l[i]? = some (.v (.ref p))) (hp : H p = some (.lst vs)) (hv : AtL K H vs (ss.map .bl)) (ha : EvD K ta σ H (.bl s)) :
    EvD K (tOp (rIn K neg) ta (tVar i)) σ H (.bl (if neg then !(ss.any fun z => z == s) else ss.any fun z => z == s)) := fun H1 e Q q =>
  ha H1 e _ fun v H2 e2 a => ⟨_, S.val hi, by
    rw [a.of_bl]
    refine ⟨p, vs, rfl, .inl (sq_of (e2 _ _ (e _ _ hp))), rfl, by rw [hv.bls]; exact flat_bl ss, ?_⟩
    rw [hv.bls, inV_bl]
    exact q _ H2 e2 (.bl _)⟩
/-- a, b = [x, y] -/
theorem z_unl2 {i j : Nat} {d1 d2 : Dt} (S : Sg K H σ l) (h : EvM K te σ H [d1, d2]) (k : ∀ σ' H1, Ex H H1 → Sg K H1 σ' ((l.set i (.d d1)).set j (.d d2)) → tz D σ' H1) : tSeq (tAsg te (gUnl K 2 (gCons (gName i) (gCons (gName j) gNil)))) tz D σ H :=
  h H (Ex.refl _) _ fun p xs H1 hp e hx a => by
    obtain ⟨x, r, rfl, ax, a⟩ := a.of_cons
    obtain ⟨y, r, rfl, ay, a⟩ := a.of_cons
    obtain rfl := a.of_nil
    exact ⟨p, _, rfl, sq_of hx, rfl, x, _, rfl, y, _, rfl, rfl, k _ H1 e (((S.mono e).setD ax i).setD ay j)⟩
/-- x = sorted(ns or [0]) -/
theorem z_sortOr {i : Nat} {ns : List Nat} (S : Sg K H σ l) (h : EvM K te σ H (ns.map nD)) (hn : ns.length < 60)
    (k : ∀ p (ms : List Int) σ' H1, Ex H H1 → ms.Perm ((if ns = [] then [0] else ns).map fun n : Nat => (n : Int)) → ms.Pairwise (· ≤ ·) → H1 p = some (.lst (ms.map V.int)) → Sg K H1 σ' (l.set i (.v (.ref p))) → tz D σ' H1) :
    tSeq (tAsg (tCB (rSorted K) (tCons (tOrT K te (tLst (tCons (tC (.int 0)) tNil))) tNil)) (gName i)) tz D σ H :=
  h H (Ex.refl _) _ fun p xs H1 hp e hx a => by
    rw [nD_ints] at a
    have ex := a.ints
    refine ⟨!xs.isEmpty, .inl ⟨xs, sq_of hx, rfl⟩, ?_⟩
    cases ns with
    | nil =>
      obtain rfl : xs = [] := ex
      refine ⟨by show 1 ≤ sizeLine; exact sz_of (by decide), fun r hr => ⟨r, [0], rfl, sq_of upd_same, by show 1 < 64; decide, fun ms q m1 m2 hq => ?_⟩⟩
      have e2 : Ex H1 (upd H1 r (.lst [.int 0])) := Ex.new hr
      exact k q ms _ _ ((e.trans e2).trans (Ex.new hq)) m1 m2 upd_same ((S.mono ((e.trans e2).trans (Ex.new hq))).setV _ i)
    | cons n ns =>
      rw [ex]
      refine ⟨p, (n :: ns).map fun n : Nat => (n : Int), rfl, sq_of (by rw [hx, ex]), by rw [List.length_map]; omega, fun ms q m1 m2 hq => ?_⟩
      exact k q ms _ _ (e.trans (Ex.new hq)) m1 m2 upd_same ((S.mono (e.trans (Ex.new hq))).setV _ i)
theorem z_noIn2 {i : Nat} {w a b : Str} (S : Sg K H σ l) (hi : l[i]? = some (.d (.str w))) (hn : (([a, b] : List Str).any fun z => z == w) = false) (k : ∀ H1, Ex H H1 → tz D σ H1) : tSeq (tIfS (tTest (tOp (rIn K false) (tVar i) (tTup (tCons (tC (.str a)) (tCons (tC (.str b)) tNil))))) tw tNext) tz D σ H :=
  z_no' (et_is (et_d (ed_inS (neg := false) (ss := [a, b]) (ed_var S hi) (ed_tup (es_cons ed_cS (es_one ed_cS)) (Nat.le_of_ble_eq_true rfl)))) hn) k
theorem z_yesIn2 {i : Nat} {w a b : Str} (S : Sg K H σ l) (hi : l[i]? = some (.d (.str w))) (hn : (([a, b] : List Str).any fun z => z == w) = true) (k : ∀ H1, Ex H H1 → tw { D with nx := tz D } σ H1) : tSeq (tIfS (tTest (tOp (rIn K false) (tVar i) (tTup (tCons (tC (.str a)) (tCons (tC (.str b)) tNil))))) tw tNext) tz D σ H :=
  z_ifT (et_is (et_d (ed_inS (neg := false) (ss := [a, b]) (ed_var S hi) (ed_tup (es_cons ed_cS (es_one ed_cS)) (Nat.le_of_ble_eq_true rfl)))) hn) k
/-- word == lit, both known -/
theorem et_w {i : Nat} {w lit : Str} {b : Bool} (S : Sg K H σ l) (hi : l[i]? = some (.d (.str w))) (hn : decide (w = lit) = b) : EvT (tTest (tOp rEq (tVar i) (tC (.str lit)))) σ H b := et_is (et_d (ed_eqS (ed_var S hi) ed_cS)) hn
end
/-! ### least and most of a sorted list -/
theorem foldl_min_le : ∀ (l : List Nat) (a : Nat), l.foldl min a ≤ a ∧ ∀ x ∈ l, l.foldl min a ≤ x
  | [], a => ⟨Nat.le_refl _, fun x h => nomatch h⟩
  | y :: l, a => by
    obtain ⟨h1, h2⟩ := foldl_min_le l (min a y)
    rw [List.foldl_cons]
    refine ⟨by omega, fun x hx => ?_⟩
    rcases List.mem_cons.mp hx with rfl | hx
    · omega
    · exact h2 x hx
theorem foldl_min_mem : ∀ (l : List Nat) (a : Nat), l.foldl min a = a ∨ l.foldl min a ∈ l
  | [], a => .inl rfl
  | y :: l, a => by
    rw [List.foldl_cons]
    rcases foldl_min_mem l (min a y) with h | h
    · by_cases q : a ≤ y
      · left
        rw [h]
        omega
      · right
        have : min a y = y := by omega
        rw [this] at h ⊢
        rw [h]
        exact List.mem_cons_self
    · exact .inr (List.mem_cons_of_mem _ h)
theorem le_foldl_max : ∀ (l : List Nat) (a : Nat), a ≤ l.foldl max a ∧ ∀ x ∈ l, x ≤ l.foldl max a
  | [], a => ⟨Nat.le_refl _, fun x h => nomatch h⟩
  | y :: l, a => by
    obtain ⟨h1, h2⟩ := le_foldl_max l (max a y)
    rw [List.foldl_cons]
    refine ⟨by omega, fun x hx => ?_⟩
    rcases List.mem_cons.mp hx with rfl | hx
    · omega
    · exact h2 x hx
theorem foldl_max_mem : ∀ (l : List Nat) (a : Nat), l.foldl max a = a ∨ l.foldl max a ∈ l
  | [], a => .inl rfl
  | y :: l, a => by
    rw [List.foldl_cons]
    rcases foldl_max_mem l (max a y) with h | h
    · by_cases q : y ≤ a
      · left
        rw [h]
        omega
      · right
        have : max a y = y := by omega
        rw [this] at h ⊢
        rw [h]
        exact List.mem_cons_self
    · exact .inr (List.mem_cons_of_mem _ h)
theorem minL_spec {ns : List Nat} (h : ns ≠ []) : minL ns ∈ ns ∧ ∀ x ∈ ns, minL ns ≤ x := by
  cases ns with
  | nil => exact absurd rfl h
  | cons n ns =>
    obtain ⟨h1, h2⟩ := foldl_min_le ns n
    refine ⟨?_, fun x hx => ?_⟩
    · rcases foldl_min_mem ns n with e | e
      · show ns.foldl min n ∈ _
        rw [e]
        exact List.mem_cons_self
      · exact List.mem_cons_of_mem _ e
    · rcases List.mem_cons.mp hx with rfl | hx
      · exact h1
      · exact h2 x hx
theorem maxL_spec {ns : List Nat} (h : ns ≠ []) : maxL ns ∈ ns ∧ ∀ x ∈ ns, x ≤ maxL ns := by
  cases ns with
  | nil => exact absurd rfl h
  | cons n ns =>
    have e0 : maxL (n :: ns) = ns.foldl max n := by
      show (ns.foldl max (max 0 n)) = _
      rw [Nat.zero_max]
    obtain ⟨h1, h2⟩ := le_foldl_max ns n
    rw [e0]
    refine ⟨?_, fun x hx => ?_⟩
    · rcases foldl_max_mem ns n with e | e
      · rw [e]
        exact List.mem_cons_self
      · exact List.mem_cons_of_mem _ e
    · rcases List.mem_cons.mp hx with rfl | hx
      · exact h1
      · exact h2 x hx
def nz (ns : List Nat) : List Nat := if ns = [] then [0] else ns
theorem nz_ne (ns : List Nat) : nz ns ≠ [] := by
  unfold nz
  split
  · exact List.cons_ne_nil _ _
  · assumption
theorem minL_nz (ns : List Nat) : minL (nz ns) = minL ns := by
  unfold nz
  split
  · rename_i h
    rw [h] <;> rfl
  · rfl
theorem maxL_nz (ns : List Nat) : maxL (nz ns) = maxL ns := by
  unfold nz
  split
  · rename_i h
    rw [h] <;> rfl
  · rfl
theorem srt_first {ms : List Int} {ns : List Nat} (hp : ms.Perm ((nz ns).map fun n : Nat => (n : Int))) (hs : ms.Pairwise (· ≤ ·)) : ms[0]? = some ((minL ns : Nat) : Int) := by
  obtain ⟨m1, m2⟩ := minL_spec (nz_ne ns)
  rw [minL_nz] at m1 m2
  cases ms with
  | nil =>
    have := hp.length_eq
    rw [List.length_map] at this
    exact absurd (List.length_eq_zero_iff.mp this.symm) (nz_ne ns)
  | cons a ms =>
    have h1 : a ∈ (nz ns).map fun n : Nat => (n : Int) := hp.mem_iff.mp List.mem_cons_self
    obtain ⟨n, hn, rfl⟩ := List.mem_map.mp h1
    have h2 := hp.mem_iff.mpr (List.mem_map.mpr ⟨_, m1, rfl⟩)
    have h3 := m2 n hn
    refine congrArg some ?_
    rcases List.mem_cons.mp h2 with e | h2
    · exact e.symm
    · have := (List.pairwise_cons.mp hs).1 _ h2
      omega
theorem srt_last {ms : List Int} {ns : List Nat} (hp : ms.Perm ((nz ns).map fun n : Nat => (n : Int))) (hs : ms.Pairwise (· ≤ ·)) : 1 ≤ ms.length ∧ ms[ms.length - 1]? = some ((maxL ns : Nat) : Int) := by
  obtain ⟨m1, m2⟩ := maxL_spec (nz_ne ns)
  rw [maxL_nz] at m1 m2
  have hne : ms ≠ [] := fun e => by
    have := hp.length_eq
    rw [List.length_map, e] at this
    exact absurd (List.length_eq_zero_iff.mp this.symm) (nz_ne ns)
  have hl : 1 ≤ ms.length := by
    cases ms with
    | nil => exact absurd rfl hne
    | cons a ms => rw [List.length_cons]; omega
  refine ⟨hl, ?_⟩
  have e0 : ms[ms.length - 1]? = some (ms.getLast hne) := by rw [List.getLast_eq_getElem, List.getElem?_eq_getElem]
  rw [e0]
  refine congrArg some ?_
  obtain ⟨n, hn, e1⟩ := List.mem_map.mp (hp.mem_iff.mp (List.getLast_mem hne))
  have h2 := hp.mem_iff.mpr (List.mem_map.mpr ⟨_, m1, rfl⟩)
  have h3 := m2 n hn
  have hd : ms = ms.dropLast ++ [ms.getLast hne] := (List.dropLast_concat_getLast hne).symm
  rw [hd] at hs h2
  have h4 := (List.pairwise_append.mp hs).2.2
  rcases List.mem_append.mp h2 with h2 | h2
  · have := h4 _ h2 _ (List.mem_singleton.mpr rfl)
    omega
  · exact (List.mem_singleton.mp h2).symm
/-! ### the law's values -/
def RLv (n : Nat) : List Dt → Dt → Prop := fun ds d => ∃ (S : Sy) (st : List Nat) (h : Nat) (o : Option Nat) (e : E true), SC.Ok ⟨S.ey, st, h, o⟩ ∧ Wok S.ey ∧ deep e ≤ n ∧ okL o.isSome e = true ∧ rng e = true ∧ ds = [sysD S, stD st, nD h, opD o, encE e] ∧ d = nD (val S.ey st h e (o.getD 0))
def RLh (n : Nat) : List Dt → Dt → Prop := fun ds d => ∃ (S : Sy) (st : List Nat) (h : Nat) (o : Option Nat) (e : E false), SC.Ok ⟨S.ey, st, h, o⟩ ∧ Wok S.ey ∧ deep e ≤ n ∧ okL o.isSome e = true ∧ rng e = true ∧ ds = [sysD S, stD st, nD h, opD o, encE e] ∧ d = .bl (hol S.ey st h e (o.getD 0))
abbrev s_l_value : Stmt := top 85
theorem sc_l_value : FnScope ["_law_system", "_law_stand_here", "_law_hand", "_law_other", "_law_term_here", "_law_word", "_law_seen", "_law_one", "_law_some", "_law_good", "_law_more"] ["_law_system", "_law_stand_here", "_law_hand", "_law_other", "_law_term_here"] (defScope s_l_value) := ⟨rfl, rfl, rfl, by decide +kernel, rfl, by decide +kernel, by decide +kernel⟩
abbrev s_l_holds : Stmt := top 86
theorem sc_l_holds : FnScope ["_law_system", "_law_stand_here", "_law_hand", "_law_other", "_law_claim_here", "_law_word", "_law_one", "_law_more", "_law_term_here", "_law_parts", "_law_part"] ["_law_system", "_law_stand_here", "_law_hand", "_law_other", "_law_claim_here"] (defScope s_l_holds) := ⟨rfl, rfl, rfl, by decide +kernel, rfl, by decide +kernel, by decide +kernel⟩
section
variable {P : Program} {w : World} {K : PySem.W.Frag} {mg : Str → Option Value} {base : Heap}
theorem stY {S : Sy} {st : List Nat} {h : Nat} {o : Option Nat} (ok : SC.Ok ⟨S.ey, st, h, o⟩) {g : Nat} (k : g < S.ey.length) : (st.map boxD)[g]? = some (boxD (st.getD g 0)) := stD_at (by rw [ok.st]; exact k)
theorem ok_law_value {n : Nat} (D : Df K mg "_law_value" s_l_value ["_law_system", "_law_stand_here", "_law_hand", "_law_other", "_law_term_here"]) (B : Bi mg)
    (O_l_value : Ok P w K mg base CX0 (n + 1) "_law_value" ["_law_system", "_law_stand_here", "_law_hand", "_law_other", "_law_term_here"] (spF K (RLv n))) (O_l_holds : Ok P w K mg base CX0 (n + 1) "_law_holds" ["_law_system", "_law_stand_here", "_law_hand", "_law_other", "_law_claim_here"] (spF K (RLh n))) :
    Ok P w K mg base CX0 (n + 2) "_law_value" ["_law_system", "_law_stand_here", "_law_hand", "_law_other", "_law_term_here"] (spF K (RLv (n + 1))) := by
  refine D.okF sc_l_value (fun ds d h => ?_) fun cdv A outer s H f ds d Q E hr h q => ?_
  · obtain ⟨_, _, _, _, _, _, _, _, _, _, rfl, _⟩ := h
    rfl
  · obtain ⟨Y, st, h, o, e, ok, W, hd, hl, hg, rfl, rfl⟩ := h
    refine ⟨_, (pss_cons (ps_set (i := 5) sc_l_value.nd rfl (Or.inl rfl) (pe_ix ix_tup (pv 4) pe_int (fun _ _ => rfl)))
    (pss_cons (ps_if (pt_cmpR op_eq (pv 5) pe_str (nomark _)) (pss_one (ps_ret (pe_ix ix_tup (pv 4) pe_int (fun _ _ => rfl)))) pss_nil)
    (pss_cons (ps_if (pt_cmpR op_in_seq (pv 5) (pe_tup (pa_cons pe_str (pa_cons pe_str pa_nil))) (by rfl)) (pss_one (ps_ret (pe_ix ix_tup (pe_ix ix_tup (pv 1) (pe_ifExp (pt_cmpR op_eq (pv 5) pe_str (nomark _)) (pv 2) (pv 3)) (fun _ _ => rfl)) (pe_ix ix_tup (pv 4) pe_int (fun _ _ => rfl)) (fun _ _ => rfl)))) pss_nil)
    (pss_cons (ps_if (pt_cmpR op_in_seq (pv 5) (pe_tup (pa_cons pe_str (pa_cons pe_str pa_nil))) (by rfl)) (pss_one (ps_ret (pe_ifExp (pt_cmpR op_eq (pv 5) pe_str (nomark _)) (pv 2) (pv 3)))) pss_nil)
    (pss_cons (ps_set (i := 6) sc_l_value.nd rfl (Or.inl rfl) (pe_ix ix_tup (pe_ix ix_tup (pv 0) pe_int (fun _ _ => rfl)) (pv 2) (fun _ _ => rfl)))
    (pss_cons (ps_if (pt_cmpR op_eq (pv 5) pe_str (nomark _)) (pss_one (ps_ret (pe_ifExp (pt_cmpR op_lt (pe_ix ix_tup (pv 4) pe_int (fun _ _ => rfl)) (pe_callB call_len_seq rfl B.len (by decide +kernel) (pa_cons (pv 6) pa_nil)) (nomark _)) (pe_ix ix_tup (pe_ix ix_tup (pv 1) (pe_ix ix_tup (pv 6) (pe_ix ix_tup (pv 4) pe_int (fun _ _ => rfl)) (fun _ _ => rfl)) (fun _ _ => rfl)) (pe_ix ix_tup (pv 4) pe_int (fun _ _ => rfl)) (fun _ _ => rfl)) pe_int))) pss_nil)
    (pss_cons (ps_if (pt_cmpR op_eq (pv 5) pe_str (nomark _)) (pss_one (ps_ret (pe_callB call_len_seq rfl B.len (by decide +kernel) (pa_cons (pe_lc (own := [("_law_one", 7)]) (g := gName 7) rfl sc_l_value.nd (pi_tup (pv 6)) (blkOk_by (N := ["_law_system", "_law_stand_here", "_law_hand", "_law_other", "_law_term_here", "_law_word", "_law_seen", "_law_one", "_law_some", "_law_good", "_law_more"]) (sc := defScope s_l_value) (by decide +kernel)) (fun _ _ _ _ _ => (pg_name (i := 7) sc_l_value.nd rfl (Or.inl rfl))) (fun _ _ _ _ _ => (pts_one (pt_val (pe_ok O_l_holds hr rfl (pa_cons (pv 0) (pa_cons (pv 1) (pa_cons (pv 2) (pa_cons (pv 7) (pa_cons (pe_ix (show IxR _ (rIxT K) from ix_tup) (pv 4) pe_int (fun _ _ => rfl)) pa_nil))))))))) (fun _ _ _ _ _ => (pv 7))) pa_nil)))) pss_nil)
    (pss_cons (ps_if (pt_cmpR op_in_seq (pv 5) (pe_tup (pa_cons pe_str (pa_cons pe_str pa_nil))) (by rfl)) (pss_cons (ps_set (i := 8) sc_l_value.nd rfl (Or.inl rfl) (pe_callB cr_sorted rfl B.sorted (by decide +kernel) (pa_cons (pe_orT (pe_lc (own := [("_law_one", 7)]) (g := gName 7) (tt := tYes) rfl sc_l_value.nd (pi_tup (pv 6)) (blkOk_by (N := ["_law_system", "_law_stand_here", "_law_hand", "_law_other", "_law_term_here", "_law_word", "_law_seen", "_law_one", "_law_some", "_law_good", "_law_more"]) (sc := defScope s_l_value) (by decide +kernel)) (fun _ _ _ _ _ => (pg_name (i := 7) sc_l_value.nd rfl (Or.inl rfl))) (fun _ _ _ _ _ => pts_nil) (fun _ _ _ _ _ => (pe_ok O_l_value hr rfl (pa_cons (pv 0) (pa_cons (pv 1) (pa_cons (pv 2) (pa_cons (pv 7) (pa_cons (pe_ix (show IxR _ (rIxT K) from ix_tup) (pv 4) pe_int (fun _ _ => rfl)) pa_nil)))))))) (pe_one (pe_lst (pa_cons pe_int pa_nil)))) pa_nil)))
      (pss_one (ps_ret (pe_ifExp (pt_cmpR op_eq (pv 5) pe_str (nomark _)) (pe_ix ix_list (pv 8) pe_int (fun _ _ => rfl)) (pe_ix ix_list (pv 8) (pe_op op_sub (pe_callB call_len_seq rfl B.len (by decide +kernel) (pa_cons (pv 8) pa_nil)) pe_int) (fun _ _ => rfl)))))) pss_nil)
    (pss_cons (ps_if (pt_cmpR op_eq (pv 5) pe_str (nomark _)) (pss_cons (ps_set (i := 9) sc_l_value.nd rfl (Or.inl rfl) (pe_ok O_l_holds hr rfl (pa_cons (pv 0) (pa_cons (pv 1) (pa_cons (pv 2) (pa_cons (pv 3) (pa_cons (pe_ix ix_tup (pv 4) pe_int (fun _ _ => rfl)) pa_nil)))))))
      (pss_one (ps_ret (pe_ok O_l_value hr rfl (pa_cons (pv 0) (pa_cons (pv 1) (pa_cons (pv 2) (pa_cons (pv 3) (pa_cons (pe_ifExp (pt_val (pv 9)) (pe_ix ix_tup (pv 4) pe_int (fun _ _ => rfl)) (pe_ix ix_tup (pv 4) pe_int (fun _ _ => rfl))) pa_nil))))))))) pss_nil)
    (pss_cons (ps_set (i := 7) sc_l_value.nd rfl (Or.inl rfl) (pe_ok O_l_value hr rfl (pa_cons (pv 0) (pa_cons (pv 1) (pa_cons (pv 2) (pa_cons (pv 3) (pa_cons (pe_ix ix_tup (pv 4) pe_int (fun _ _ => rfl)) pa_nil)))))))
    (pss_cons (ps_if (pt_cmpR op_eq (pv 5) pe_str (nomark _)) (pss_one (ps_ret (pe_op op_mod (pv 7) (pe_ix ix_tup (pv 4) pe_int (fun _ _ => rfl))))) pss_nil)
    (pss_cons (ps_set (i := 10) sc_l_value.nd rfl (Or.inl rfl) (pe_ok O_l_value hr rfl (pa_cons (pv 0) (pa_cons (pv 1) (pa_cons (pv 2) (pa_cons (pv 3) (pa_cons (pe_ix ix_tup (pv 4) pe_int (fun _ _ => rfl)) pa_nil)))))))
    (pss_one (ps_ret (pe_ifExp (pt_cmpR op_eq (pv 5) pe_str (nomark _)) (pe_op op_add (pv 7) (pv 10)) (pe_callB (call_max2 rfl) rfl B.max (by decide +kernel) (pa_cons pe_int (pa_cons (pe_op op_sub (pv 7) (pv 10)) pa_nil)))))))))))))))))), fun σ S => ?_⟩
    have arg : ∀ {σ1 : L2.St} {H1 : Hp} {l : List Sl} {x : Dt} (j : Nat) {ds : List Dt}, Sg K H1 σ1 l → l[0]? = some (.d (sysD Y)) → l[1]? = some (.d (stD st)) → l[2]? = some (.d (nD h)) → l[3]? = some (.d (opD o)) → l[4]? = some (.d (.tup ds)) → ds[j]? = some x →
        EvS K (tCons (tVar 0) (tCons (tVar 1) (tCons (tVar 2) (tCons (tVar 3) (tCons (tOp (rIxT K) (tVar 4) (tC (.int (j : Int)))) tNil))))) σ1 H1 [sysD Y, stD st, nD h, opD o, x] :=
      fun {σ1 H1 l x} j {ds} S1 a0 a1 a2 a3 a4 a5 => es_cons (ed_var S1 a0) (es_cons (ed_var S1 a1) (es_cons (ed_var S1 a2) (es_cons (ed_var S1 a3) (es_one (ed_ixc (ed_var S1 a4) a5)))))
    have hsn : ∀ o', o' ∈ seen Y.ey h → SC.Ok ⟨Y.ey, st, h, some o'⟩ := fun o' ho => ok.look ho
    have sat : (Y.ey.map rowD)[h]? = some (rowD (seen Y.ey h)) := eyD_at ok.h
    cases e with
    | num k =>
      refine z_asg S (ed_ixc (j := 0) (ed_var S rfl) rfl) fun σ1 H1 e1 S1 => ?_
      refine z_hitS S1 rfl (by decide +kernel) ?_
      exact y_ret (ed_ixc (j := 1) (ed_var S1 rfl) rfl) fun v H2 e2 a => q v H2 (e1.trans e2) a
    | own =>
      refine z_asg S (ed_ixc (j := 0) (ed_var S rfl) rfl) fun σ1 H1 e1 S1 => ?_
      refine z_skS S1 rfl (by decide +kernel) ?_
      refine z_yesIn2 S1 rfl (by decide +kernel) fun H2 e2 => ?_
      have S2 := S1.mono e2
      exact y_ret (ed_ixn (ed_ixn (ed_var S2 rfl) (ed_if (b := true) (et_w S2 rfl (by decide +kernel)) (fun _ => ed_var S2 rfl) fun z => nomatch z) (stY ok ok.h)) (ed_ixc (j := 1) (ed_var S2 rfl) rfl) rfl) fun v H3 e3 a => q v H3 ((e1.trans e2).trans e3) a
    | its =>
      cases o with
      | none => cases hl
      | some o =>
        refine z_asg S (ed_ixc (j := 0) (ed_var S rfl) rfl) fun σ1 H1 e1 S1 => ?_
        refine z_skS S1 rfl (by decide +kernel) ?_
        refine z_yesIn2 S1 rfl (by decide +kernel) fun H2 e2 => ?_
        have S2 := S1.mono e2
        exact y_ret (ed_ixn (ed_ixn (ed_var S2 rfl) (ed_if (b := false) (et_w S2 rfl (by decide +kernel)) (fun z => nomatch z) fun _ => ed_var (d := nD o) S2 rfl) (stY ok (ok.o o rfl))) (ed_ixc (j := 1) (ed_var S2 rfl) rfl) rfl) fun v H3 e3 a => q v H3 ((e1.trans e2).trans e3) a
    | me =>
      refine z_asg S (ed_ixc (j := 0) (ed_var S rfl) rfl) fun σ1 H1 e1 S1 => ?_
      refine z_skS S1 rfl (by decide +kernel) ?_
      refine z_noIn2 S1 rfl (by decide +kernel) fun H2 e2 => ?_
      have S2 := S1.mono e2
      refine z_yesIn2 S2 rfl (by decide +kernel) fun H3 e3 => ?_
      have S3 := S2.mono e3
      exact y_ret (ed_if (b := true) (et_w S3 rfl (by decide +kernel)) (fun _ => ed_var S3 rfl) fun z => nomatch z) fun v H4 e4 a => q v H4 (((e1.trans e2).trans e3).trans e4) a
    | it =>
      cases o with
      | none => cases hl
      | some o =>
        refine z_asg S (ed_ixc (j := 0) (ed_var S rfl) rfl) fun σ1 H1 e1 S1 => ?_
        refine z_skS S1 rfl (by decide +kernel) ?_
        refine z_noIn2 S1 rfl (by decide +kernel) fun H2 e2 => ?_
        have S2 := S1.mono e2
        refine z_yesIn2 S2 rfl (by decide +kernel) fun H3 e3 => ?_
        have S3 := S2.mono e3
        exact y_ret (ed_if (b := false) (et_w S3 rfl (by decide +kernel)) (fun z => nomatch z) fun _ => ed_var (d := nD o) S3 rfl) fun v H4 e4 a => q v H4 (((e1.trans e2).trans e3).trans e4) a
    | eye k =>
      refine z_asg S (ed_ixc (j := 0) (ed_var S rfl) rfl) fun σ1 H1 e1 S1 => ?_
      refine z_skS S1 rfl (by decide +kernel) ?_
      refine z_noIn2 S1 rfl (by decide +kernel) fun H2 e2 => ?_
      refine z_noIn2 (S1.mono e2) rfl (by decide +kernel) fun H3 e3 => ?_
      have S3 := (S1.mono e2).mono e3
      refine z_asg S3 (ed_ixn (ed_ixc (j := 0) (ed_var S3 rfl) rfl) (ed_var S3 rfl) sat) fun σ4 H4 e4 S4 => ?_
      refine z_hitS S4 rfl (by decide +kernel) ?_
      refine y_ret (ed_if (d := nD (if k < (seen Y.ey h).length then st.getD ((seen Y.ey h).getD k 0) 0 else 0)) (et_d (ed_IB (ed_ixc (j := 1) (ed_var S4 rfl) rfl) (ed_len (ed_var S4 rfl)))) (fun hb => ?_) fun hb => ?_) fun v H5 e5 a => q v H5 ((((e1.trans e2).trans e3).trans e4).trans e5) a
      · have hk : k < (seen Y.ey h).length := by
          have z := of_decide_eq_true hb
          rw [List.length_map] at z
          omega
        have hm : (seen Y.ey h).getD k 0 ∈ seen Y.ey h := by
          rw [List.getD_eq_getElem?_getD, List.getElem?_eq_getElem hk]
          exact List.getElem_mem hk
        rw [if_pos hk]
        exact ed_ixn (ed_ixn (ed_var S4 rfl) (ed_ixn (ed_var S4 rfl) (ed_ixc (j := 1) (ed_var S4 rfl) rfl) (rowD_at hk)) (stY ok (W.lt _ _ hm))) (ed_ixc (j := 2) (ed_var S4 rfl) rfl) rfl
      · have hk : ¬ k < (seen Y.ey h).length := by
          have z := of_decide_eq_false hb
          rw [List.length_map] at z
          omega
        rw [if_neg hk]
        exact ed_cI
    | many a =>
      simp only [deep, okL, rng, Bool.and_eq_true] at hd hl hg
      refine z_asg S (ed_ixc (j := 0) (ed_var S rfl) rfl) fun σ1 H1 e1 S1 => ?_
      refine z_skS S1 rfl (by decide +kernel) ?_
      refine z_noIn2 S1 rfl (by decide +kernel) fun H2 e2 => ?_
      refine z_noIn2 (S1.mono e2) rfl (by decide +kernel) fun H3 e3 => ?_
      have S3 := (S1.mono e2).mono e3
      refine z_asg S3 (ed_ixn (ed_ixc (j := 0) (ed_var S3 rfl) rfl) (ed_var S3 rfl) sat) fun σ4 H4 e4 S4 => ?_
      refine z_skS S4 rfl (by decide +kernel) ?_
      refine z_hitS S4 rfl (by decide +kernel) ?_
      refine y_ret ((ed_lenM (em_lcT (enc := nD) (seen Y.ey h) (fun o' => hol Y.ey st h a o') nD (ed_var S4 rfl) (Nat.le_trans (W.few h) (by decide)) fun o' v H5 ho e5 av => ?_)).is ?_) fun v H5 e5 a => q v H5 ((((e1.trans e2).trans e3).trans e4).trans e5) a
      · have S5 := ((S4.mono e5).wipe [7]).setD av 7
        exact ⟨et_b (ed_call (es_cons (ed_var S5 rfl) (es_cons (ed_var S5 rfl) (es_cons (ed_var S5 rfl) (es_cons (ed_var S5 rfl) (es_one (ed_ixc (j := 1) (ed_var S5 rfl) rfl)))))) ⟨Y, st, h, some o', a, hsn o' ho, W, by omega, hl.2, hg, rfl, rfl⟩), fun _ => ed_var S5 rfl⟩
      · rw [List.length_map]
        rfl
    | least a =>
      simp only [deep, okL, rng, Bool.and_eq_true] at hd hl hg
      refine z_asg S (ed_ixc (j := 0) (ed_var S rfl) rfl) fun σ1 H1 e1 S1 => ?_
      refine z_skS S1 rfl (by decide +kernel) ?_
      refine z_noIn2 S1 rfl (by decide +kernel) fun H2 e2 => ?_
      refine z_noIn2 (S1.mono e2) rfl (by decide +kernel) fun H3 e3 => ?_
      have S3 := (S1.mono e2).mono e3
      refine z_asg S3 (ed_ixn (ed_ixc (j := 0) (ed_var S3 rfl) rfl) (ed_var S3 rfl) sat) fun σ4 H4 e4 S4 => ?_
      refine z_skS S4 rfl (by decide +kernel) ?_
      refine z_skS S4 rfl (by decide +kernel) ?_
      refine z_yesIn2 S4 rfl (by decide +kernel) fun H5 e5 => ?_
      have S5 := S4.mono e5
      refine z_sortOr (ns := (seen Y.ey h).map fun o' => val Y.ey st h a o') S5 ((em_lcT (enc := nD) (seen Y.ey h) (fun _ => true) (fun o' => nD (val Y.ey st h a o')) (ed_var S5 rfl) (Nat.le_trans (W.few h) (by decide)) fun o' v H6 ho e6 av => ⟨et_yes, fun _ => ?_⟩).is ?_) (by rw [List.length_map]; exact Nat.lt_of_le_of_lt (W.few h) (by decide)) fun p ms σ6 H6 e6 m1 m2 hp S6 => ?_
      · have S6 := ((S5.mono e6).wipe [7]).setD av 7
        exact ed_call (es_cons (ed_var S6 rfl) (es_cons (ed_var S6 rfl) (es_cons (ed_var S6 rfl) (es_cons (ed_var S6 rfl) (es_one (ed_ixc (j := 1) (ed_var S6 rfl) rfl)))))) ⟨Y, st, h, some o', a, hsn o' ho, W, by omega, hl.2, hg, rfl, rfl⟩
      · rw [filter_yes, List.map_map]
        rfl
      · refine y_ret (ed_if (b := true) (et_w S6 rfl (by decide +kernel)) (fun _ => ed_ixLst S6 rfl hp (AtL.of_ints ms) ed_cI ?_) fun z => nomatch z) fun v H7 e7 a => q v H7 (((((e1.trans e2).trans e3).trans e4).trans (e5.trans e6)).trans e7) a
        have e0 := srt_first m1 m2
        exact atI_n (j := 0) (by rw [List.getElem?_map, e0] <;> rfl)
    | most a =>
      simp only [deep, okL, rng, Bool.and_eq_true] at hd hl hg
      refine z_asg S (ed_ixc (j := 0) (ed_var S rfl) rfl) fun σ1 H1 e1 S1 => ?_
      refine z_skS S1 rfl (by decide +kernel) ?_
      refine z_noIn2 S1 rfl (by decide +kernel) fun H2 e2 => ?_
      refine z_noIn2 (S1.mono e2) rfl (by decide +kernel) fun H3 e3 => ?_
      have S3 := (S1.mono e2).mono e3
      refine z_asg S3 (ed_ixn (ed_ixc (j := 0) (ed_var S3 rfl) rfl) (ed_var S3 rfl) sat) fun σ4 H4 e4 S4 => ?_
      refine z_skS S4 rfl (by decide +kernel) ?_
      refine z_skS S4 rfl (by decide +kernel) ?_
      refine z_yesIn2 S4 rfl (by decide +kernel) fun H5 e5 => ?_
      have S5 := S4.mono e5
      refine z_sortOr (ns := (seen Y.ey h).map fun o' => val Y.ey st h a o') S5 ((em_lcT (enc := nD) (seen Y.ey h) (fun _ => true) (fun o' => nD (val Y.ey st h a o')) (ed_var S5 rfl) (Nat.le_trans (W.few h) (by decide)) fun o' v H6 ho e6 av => ⟨et_yes, fun _ => ?_⟩).is ?_) (by rw [List.length_map]; exact Nat.lt_of_le_of_lt (W.few h) (by decide)) fun p ms σ6 H6 e6 m1 m2 hp S6 => ?_
      · have S6 := ((S5.mono e6).wipe [7]).setD av 7
        exact ed_call (es_cons (ed_var S6 rfl) (es_cons (ed_var S6 rfl) (es_cons (ed_var S6 rfl) (es_cons (ed_var S6 rfl) (es_one (ed_ixc (j := 1) (ed_var S6 rfl) rfl)))))) ⟨Y, st, h, some o', a, hsn o' ho, W, by omega, hl.2, hg, rfl, rfl⟩
      · rw [filter_yes, List.map_map]
        rfl
      · obtain ⟨h1, e0⟩ := srt_last m1 m2
        refine y_ret (ed_if (b := false) (et_w S6 rfl (by decide +kernel)) (fun z => nomatch z) fun _ => ed_ixLst S6 rfl hp (AtL.of_ints ms) ((ed_II (ed_lenL S6 rfl hp (AtL.of_ints ms)) ed_cI)) ?_) fun v H7 e7 a => q v H7 (((((e1.trans e2).trans e3).trans e4).trans (e5.trans e6)).trans e7) a
        rw [List.length_map]
        have e9 : ((ms.length : Nat) : Int) - 1 = ((ms.length - 1 : Nat) : Int) := by omega
        rw [e9]
        exact atI_n (by rw [List.getElem?_map, e0] <;> rfl)
    | ite a0 b b' =>
      simp only [deep, okL, rng, Bool.and_eq_true] at hd hl hg
      refine z_asg S (ed_ixc (j := 0) (ed_var S rfl) rfl) fun σ1 H1 e1 S1 => ?_
      refine z_skS S1 rfl (by decide +kernel) ?_
      refine z_noIn2 S1 rfl (by decide +kernel) fun H2 e2 => ?_
      refine z_noIn2 (S1.mono e2) rfl (by decide +kernel) fun H3 e3 => ?_
      have S3 := (S1.mono e2).mono e3
      refine z_asg S3 (ed_ixn (ed_ixc (j := 0) (ed_var S3 rfl) rfl) (ed_var S3 rfl) sat) fun σ4 H4 e4 S4 => ?_
      refine z_skS S4 rfl (by decide +kernel) ?_
      refine z_skS S4 rfl (by decide +kernel) ?_
      refine z_noIn2 S4 rfl (by decide +kernel) fun H5 e5 => ?_
      have S5 := S4.mono e5
      refine z_hitS S5 rfl (by decide +kernel) ?_
      refine z_asg S5 (ed_call (arg 1 S5 rfl rfl rfl rfl rfl rfl) ⟨Y, st, h, o, a0, ok, W, by omega, hl.1.1, hg.1.1, rfl, rfl⟩) fun σ6 H6 e6 S6 => ?_
      have e16 := (((e1.trans e2).trans e3).trans e4).trans (e5.trans e6)
      refine y_ret (ed_call (es_cons (ed_var S6 rfl) (es_cons (ed_var S6 rfl) (es_cons (ed_var S6 rfl) (es_cons (ed_var S6 rfl) (es_one (ed_if (d := if hol Y.ey st h a0 (o.getD 0) = true then encE b else encE b') (et_b (ed_var S6 rfl)) (fun hb => ?_) fun hb => ?_)))))) ⟨Y, st, h, o, if hol Y.ey st h a0 (o.getD 0) = true then b else b', ok, W, ?_, ?_, ?_, ?_, rfl⟩) fun v H7 e7 a => q v H7 (e16.trans e7) (a.is' (congrArg nD ?_))
      · rw [if_pos hb]
        exact ed_ixc (j := 2) (ed_var S6 rfl) rfl
      · rw [if_neg (by rw [hb]; decide)]
        exact ed_ixc (j := 3) (ed_var S6 rfl) rfl
      · split <;> omega
      · split
        · exact hl.1.2
        · exact hl.2
      · split
        · exact hg.1.2
        · exact hg.2
      · split <;> rfl
      · show _ = if _ then _ else _
        split <;> rfl
    | rest a k =>
      simp only [deep, okL, rng, Bool.and_eq_true] at hd hl hg
      have hk := of_decide_eq_true hg.1.2
      refine z_asg S (ed_ixc (j := 0) (ed_var S rfl) rfl) fun σ1 H1 e1 S1 => ?_
      refine z_skS S1 rfl (by decide +kernel) ?_
      refine z_noIn2 S1 rfl (by decide +kernel) fun H2 e2 => ?_
      refine z_noIn2 (S1.mono e2) rfl (by decide +kernel) fun H3 e3 => ?_
      have S3 := (S1.mono e2).mono e3
      refine z_asg S3 (ed_ixn (ed_ixc (j := 0) (ed_var S3 rfl) rfl) (ed_var S3 rfl) sat) fun σ4 H4 e4 S4 => ?_
      refine z_skS S4 rfl (by decide +kernel) ?_
      refine z_skS S4 rfl (by decide +kernel) ?_
      refine z_noIn2 S4 rfl (by decide +kernel) fun H5 e5 => ?_
      have S5 := S4.mono e5
      refine z_skS S5 rfl (by decide +kernel) ?_
      refine z_asg S5 (ed_call (arg 1 S5 rfl rfl rfl rfl rfl rfl) ⟨Y, st, h, o, a, ok, W, by omega, hl, hg.1.1, rfl, rfl⟩) fun σ6 H6 e6 S6 => ?_
      refine z_hitS S6 rfl (by decide +kernel) ?_
      have e16 := (((e1.trans e2).trans e3).trans e4).trans (e5.trans e6)
      refine y_ret ((ed_IC (ed_var S6 rfl) (ed_ixc (j := 2) (ed_var S6 rfl) rfl) ?_).is ?_) fun v H7 e7 a => q v H7 (e16.trans e7) a
      · show (0 : Int) < (k : Int)
        omega
      · exact congrArg Dt.int (Int.natCast_emod _ _).symm
    | plus a b =>
      simp only [deep, okL, rng, Bool.and_eq_true] at hd hl hg
      refine z_asg S (ed_ixc (j := 0) (ed_var S rfl) rfl) fun σ1 H1 e1 S1 => ?_
      refine z_skS S1 rfl (by decide +kernel) ?_
      refine z_noIn2 S1 rfl (by decide +kernel) fun H2 e2 => ?_
      refine z_noIn2 (S1.mono e2) rfl (by decide +kernel) fun H3 e3 => ?_
      have S3 := (S1.mono e2).mono e3
      refine z_asg S3 (ed_ixn (ed_ixc (j := 0) (ed_var S3 rfl) rfl) (ed_var S3 rfl) sat) fun σ4 H4 e4 S4 => ?_
      refine z_skS S4 rfl (by decide +kernel) ?_
      refine z_skS S4 rfl (by decide +kernel) ?_
      refine z_noIn2 S4 rfl (by decide +kernel) fun H5 e5 => ?_
      have S5 := S4.mono e5
      refine z_skS S5 rfl (by decide +kernel) ?_
      refine z_asg S5 (ed_call (arg 1 S5 rfl rfl rfl rfl rfl rfl) ⟨Y, st, h, o, a, ok, W, by omega, hl.1, hg.1, rfl, rfl⟩) fun σ6 H6 e6 S6 => ?_
      refine z_skS S6 rfl (by decide +kernel) ?_
      refine z_asg S6 (ed_call (arg 2 S6 rfl rfl rfl rfl rfl rfl) ⟨Y, st, h, o, b, ok, W, by omega, hl.2, hg.2, rfl, rfl⟩) fun σ7 H7 e7 S7 => ?_
      have e17 := ((((e1.trans e2).trans e3).trans e4).trans (e5.trans e6)).trans e7
      exact y_ret (ed_if (b := true) (et_w S7 rfl (by decide +kernel)) (fun _ => (ed_II (ed_var S7 rfl) (ed_var S7 rfl)).is (congrArg Dt.int (Int.natCast_add _ _).symm)) fun z => nomatch z) fun v H8 e8 a => q v H8 (e17.trans e8) a
    | less a b =>
      simp only [deep, okL, rng, Bool.and_eq_true] at hd hl hg
      refine z_asg S (ed_ixc (j := 0) (ed_var S rfl) rfl) fun σ1 H1 e1 S1 => ?_
      refine z_skS S1 rfl (by decide +kernel) ?_
      refine z_noIn2 S1 rfl (by decide +kernel) fun H2 e2 => ?_
      refine z_noIn2 (S1.mono e2) rfl (by decide +kernel) fun H3 e3 => ?_
      have S3 := (S1.mono e2).mono e3
      refine z_asg S3 (ed_ixn (ed_ixc (j := 0) (ed_var S3 rfl) rfl) (ed_var S3 rfl) sat) fun σ4 H4 e4 S4 => ?_
      refine z_skS S4 rfl (by decide +kernel) ?_
      refine z_skS S4 rfl (by decide +kernel) ?_
      refine z_noIn2 S4 rfl (by decide +kernel) fun H5 e5 => ?_
      have S5 := S4.mono e5
      refine z_skS S5 rfl (by decide +kernel) ?_
      refine z_asg S5 (ed_call (arg 1 S5 rfl rfl rfl rfl rfl rfl) ⟨Y, st, h, o, a, ok, W, by omega, hl.1, hg.1, rfl, rfl⟩) fun σ6 H6 e6 S6 => ?_
      refine z_skS S6 rfl (by decide +kernel) ?_
      refine z_asg S6 (ed_call (arg 2 S6 rfl rfl rfl rfl rfl rfl) ⟨Y, st, h, o, b, ok, W, by omega, hl.2, hg.2, rfl, rfl⟩) fun σ7 H7 e7 S7 => ?_
      have e17 := ((((e1.trans e2).trans e3).trans e4).trans (e5.trans e6)).trans e7
      refine y_ret (ed_if (b := false) (et_w S7 rfl (by decide +kernel)) (fun z => nomatch z) fun _ => (ed_max2 ed_cI (ed_II (ed_var S7 rfl) (ed_var S7 rfl))).is ?_) fun v H8 e8 a => q v H8 (e17.trans e8) a
      refine congrArg Dt.int ?_
      show max 0 (((val Y.ey st h a (o.getD 0) : Nat) : Int) - ((val Y.ey st h b (o.getD 0) : Nat) : Int)) = ((val Y.ey st h a (o.getD 0) - val Y.ey st h b (o.getD 0) : Nat) : Int)
      omega
end
end K9
end
section
set_option maxHeartbeats 1000000
/-! K9Q2: the law's claims, acts, sums. -/
namespace K9
open PySem PySem.Spec PyProof.Rows L2 Evl K9M RZ
def rulD (r : Option (E false × E true)) : Dt := match r with
  | some r => ruleD r
  | none => .non
def RLr : List Dt → Dt → Prop := fun ds d => ∃ (S : Sy) (st : List Nat) (h : Nat), SyOk S ∧ st.length = S.ey.length ∧ h < S.ey.length ∧ ds = [sysD S, stD st, nD h] ∧ d = rulD (rul S st h)
def RLb : List Dt → Dt → Prop := fun ds d => ∃ (S : Sy) (st : List Nat) (h : Nat), SyOk S ∧ st.length = S.ey.length ∧ h < S.ey.length ∧ rdy S st h = true ∧ ds = [sysD S, stD st, .tup [nD h]] ∧ d = stD (act S st h)
def goalD (c : E false) : Dt := .tup [.str "every", encE c]
def RLg : List Dt → Dt → Prop := fun ds d => ∃ (S : Sy) (st : List Nat) (c : E false), Wok S.ey ∧ st.length = S.ey.length ∧ Fit false c ∧ ds = [sysD S, goalD c, stD st] ∧ d = .bl ((List.range S.ey.length).all fun h => hol S.ey st h c 0)
abbrev s_l_rule_at : Stmt := top 87
theorem sc_l_rule_at : FnScope ["_law_system", "_law_stand_here", "_law_hand", "_law_rule"] ["_law_system", "_law_stand_here", "_law_hand"] (defScope s_l_rule_at) := ⟨rfl, rfl, rfl, by decide +kernel, rfl, by decide +kernel, by decide +kernel⟩
abbrev s_l_ready : Stmt := top 88
theorem sc_l_ready : FnScope ["_law_system", "_law_stand_here", "_law_hand"] ["_law_system", "_law_stand_here"] (defScope s_l_ready) := ⟨rfl, rfl, rfl, by decide +kernel, rfl, by decide +kernel, by decide +kernel⟩
abbrev s_l_behind : Stmt := top 89
theorem sc_l_behind : FnScope ["_law_system", "_law_stand_here", "_law_hands", "_law_found", "_law_boxes", "_law_hand", "_law_box", "_law_term_here"] ["_law_system", "_law_stand_here", "_law_hands"] (defScope s_l_behind) := ⟨rfl, rfl, rfl, by decide +kernel, rfl, by decide +kernel, by decide +kernel⟩
abbrev s_l_right : Stmt := top 90
theorem sc_l_right : FnScope ["_law_system", "_law_goal", "_law_stand_here", "_law_word", "_law_hands", "_law_claim_here", "_law_hand", "_law_parts", "_law_part"] ["_law_system", "_law_goal", "_law_stand_here"] (defScope s_l_right) := ⟨rfl, rfl, rfl, by decide +kernel, rfl, by decide +kernel, by decide +kernel⟩
abbrev s_l_share : Stmt := top 92
theorem sc_l_share : FnScope ["_law_system", "_law_shares", "_law_stand_here", "_law_hand", "_law_term_here", "_law_pair", "_law_some", "_law_other"] ["_law_system", "_law_shares", "_law_stand_here", "_law_hand"] (defScope s_l_share) := ⟨rfl, rfl, rfl, by decide +kernel, rfl, by decide +kernel, by decide +kernel⟩
abbrev s_l_total : Stmt := top 93
theorem sc_l_total : FnScope ["_law_system", "_law_shares", "_law_stand_here", "_law_hand"] ["_law_system", "_law_shares", "_law_stand_here"] (defScope s_l_total) := ⟨rfl, rfl, rfl, by decide +kernel, rfl, by decide +kernel, by decide +kernel⟩
section
variable {K : PySem.W.Frag} {σ : L2.St} {H H' : Hp} {ta tb te tl tx : TE} {t : TT} {d : Dt} {ds : List Dt} {D : Ends} {tw tz : TS} {g : TG} {l : List Sl} {p : Addr} {vs : List V}
theorem ed_sumL {i : Nat} {ns : List Int} (S : Sg K H σ l) (hi : l[i]? = some (.v (.ref p))) (hp : H p = some (.lst vs)) (ha : AtL K H vs (ns.map .int)) : EvD K (tCB (rSum K) (tCons (tVar i) tNil)) σ H (.int ns.sum) := fun H1 e Q q =>
  ⟨_, S.val hi, p, ns, rfl, sq_of (by rw [e _ _ hp, ha.ints]), q _ H1 (Ex.refl _) (.int _)⟩
theorem em_ifT (h : EvT t σ H true) (h1 : EvM K ta σ H ds) : EvM K (tIf t ta tb) σ H ds := fun H1 e Q q => h H1 e _ fun H2 e2 => h1 H2 (e.trans e2) Q fun p xs H3 hp e3 hx a => q p xs H3 (fresh_back e2 hp) (e2.trans e3) hx a
theorem em_lrng {n : Nat} (h : EvD K ta σ H (.int (n : Int))) (hn : n ≤ 1000) : EvM K (tLstRg (tRg1 ta)) σ H ((List.range n).map nD) := fun H1 e Q q => h H1 e _ fun v H2 e2 a => by
  rw [a.of_int]
  refine ⟨(n : Int), rfl, RgOk.of_le (Int.le_refl _) (by omega) (by omega) (by omega), fun r hr => q r _ _ (fresh_back e2 hr) (e2.trans (Ex.new hr)) upd_same ?_⟩
  have e1 : rgV 0 (n : Int) = ((List.range n).map fun n : Nat => (n : Int)).map V.int := by
    unfold rgV
    rw [List.map_map, Int.sub_zero, Int.toNat_natCast]
    refine List.map_congr_left fun i _ => ?_
    show V.int (0 + (i : Int)) = V.int (i : Int)
    rw [Int.zero_add]
  rw [e1, nD_ints]
  exact AtL.of_ints _
end
theorem notF_all {α : Type} (f : α → Bool) : ∀ l : List α, (!((l.map f).any fun z => z == false)) = l.all f
  | [] => rfl
  | a :: l => by
    have h := notF_all f l
    rw [List.map_cons, List.any_cons, List.all_cons, ← h]
    cases f a <;> simp
section
variable {P : Program} {w : World} {K : PySem.W.Frag} {mg : Str → Option Value} {base : Heap}
theorem ok_law_holds {n : Nat} (D : Df K mg "_law_holds" s_l_holds ["_law_system", "_law_stand_here", "_law_hand", "_law_other", "_law_claim_here"]) (B : Bi mg)
    (O_l_value : Ok P w K mg base CX0 (n + 1) "_law_value" ["_law_system", "_law_stand_here", "_law_hand", "_law_other", "_law_term_here"] (spF K (RLv n))) (O_l_holds : Ok P w K mg base CX0 (n + 1) "_law_holds" ["_law_system", "_law_stand_here", "_law_hand", "_law_other", "_law_claim_here"] (spF K (RLh n))) :
    Ok P w K mg base CX0 (n + 2) "_law_holds" ["_law_system", "_law_stand_here", "_law_hand", "_law_other", "_law_claim_here"] (spF K (RLh (n + 1))) := by
  refine D.okF sc_l_holds (fun ds d h => ?_) fun cdv A outer s H f ds d Q E hr h q => ?_
  · obtain ⟨_, _, _, _, _, _, _, _, _, _, rfl, _⟩ := h
    rfl
  · obtain ⟨Y, st, h, o, e, ok, W, hd, hl, hg, rfl, rfl⟩ := h
    refine ⟨_, (pss_cons (ps_set (i := 5) sc_l_holds.nd rfl (Or.inl rfl) (pe_ix ix_tup (pv 4) pe_int (fun _ _ => rfl)))
    (pss_cons (ps_if (pt_cmpR op_eq (pv 5) pe_str (nomark _)) (pss_one (ps_ret pe_bl)) pss_nil)
    (pss_cons (ps_if (pt_cmpR op_in_seq (pv 5) (pe_tup (pa_cons pe_str (pa_cons pe_str pa_nil))) (by rfl)) (pss_cons (ps_asg (pe_lc (own := [("_law_term_here", 8)]) (g := gName 8) (tt := tYes) rfl sc_l_holds.nd (pi_tup (pe_slice sl_tupA (pv 4) (po_some pe_int) po_none)) (blkOk_by (N := ["_law_system", "_law_stand_here", "_law_hand", "_law_other", "_law_claim_here", "_law_word", "_law_one", "_law_more", "_law_term_here", "_law_parts", "_law_part"]) (sc := defScope s_l_holds) (by decide +kernel)) (fun _ _ _ _ _ => (pg_name (i := 8) sc_l_holds.nd rfl (Or.inl rfl))) (fun _ _ _ _ _ => pts_nil) (fun _ _ _ _ _ => (pe_ok O_l_value hr rfl (pa_cons (pv 0) (pa_cons (pv 1) (pa_cons (pv 2) (pa_cons (pv 3) (pa_cons (pv 8) pa_nil)))))))) (pg_unl rfl (pgs_cons (pg_name (i := 6) sc_l_holds.nd rfl (Or.inl rfl)) (pgs_cons (pg_name (i := 7) sc_l_holds.nd rfl (Or.inl rfl)) pgs_nil))))
      (pss_one (ps_ret (pe_ifExp (pt_cmpR op_eq (pv 5) pe_str (nomark _)) (pe_cmpR op_eq (pv 6) (pv 7) (nomark _)) (pe_cmpR op_lt (pv 6) (pv 7) (nomark _)))))) pss_nil)
    (pss_cons (ps_if (pt_cmpR op_eq (pv 5) pe_str (nomark _)) (pss_one (ps_ret (pe_not (pe_ok O_l_holds hr rfl (pa_cons (pv 0) (pa_cons (pv 1) (pa_cons (pv 2) (pa_cons (pv 3) (pa_cons (pe_ix ix_tup (pv 4) pe_int (fun _ _ => rfl)) pa_nil))))))))) pss_nil)
    (pss_cons (ps_setLc (i := 9) (own := [("_law_part", 10)]) (g := gName 10) (tt := tYes) rfl sc_l_holds.nd rfl rfl (sw_true rfl rfl rfl (by decide +kernel)) (pi_tup (pe_slice sl_tupA (pv 4) (po_some pe_int) po_none)) (blkOk_by (N := ["_law_system", "_law_stand_here", "_law_hand", "_law_other", "_law_claim_here", "_law_word", "_law_one", "_law_more", "_law_term_here", "_law_parts", "_law_part"]) (sc := defScope s_l_holds) (by decide +kernel)) (fun _ _ _ _ _ => (pg_name (i := 10) sc_l_holds.nd rfl (Or.inl rfl))) (fun _ _ _ _ _ => pts_nil) (fun _ _ _ _ _ => (pe_ok O_l_holds hr rfl (pa_cons (pv 0) (pa_cons (pv 1) (pa_cons (pv 2) (pa_cons (pv 3) (pa_cons (pv 10) pa_nil))))))))
    (pss_one (ps_ret (pe_ifExp (pt_cmpR op_eq (pv 5) pe_str (nomark _)) (pe_cmpR op_notIn_seq pe_bl (pv 9) (by rfl)) (pe_cmpR op_in_seq pe_bl (pv 9) (by rfl)))))))))), fun σ S => ?_⟩
    cases e with
    | yes =>
      refine z_asg S (ed_ixc (j := 0) (ed_var S rfl) rfl) fun σ1 H1 e1 S1 => ?_
      refine z_hitS S1 rfl (by decide +kernel) ?_
      exact y_ret (K := K) ed_cB fun v H2 e2 a => q v H2 (e1.trans e2) a
    | like a b =>
      simp only [deep, okL, rng, Bool.and_eq_true] at hd hl hg
      refine z_asg S (ed_ixc (j := 0) (ed_var S rfl) rfl) fun σ1 H1 e1 S1 => ?_
      refine z_skS S1 rfl (by decide +kernel) ?_
      refine z_yesIn2 S1 rfl (by decide +kernel) fun H2 e2 => ?_
      have S2 := S1.mono e2
      refine z_unl2 S2 ((em_lcT (enc := fun e : K9M.E true => encE e) [a, b] (fun _ => true) (fun e => nD (val Y.ey st h e (o.getD 0))) (ed_from1 (ds := [.str "like", encE a, encE b]) (ed_var S2 rfl) (by show 1 ≤ 3; decide)) (by show 2 ≤ _; decide) fun e v H3 he e3 av => ⟨et_yes, fun _ => ?_⟩).is rfl) fun σ3 H3 e3 S3 => ?_
      · have S3 := ((S2.mono e3).wipe [8]).setD av 8
        have hh : deep e ≤ n ∧ okL o.isSome e = true ∧ rng e = true := by
          rcases List.mem_cons.mp he with rfl | he
          · exact ⟨by omega, hl.1, hg.1⟩
          · rcases List.mem_cons.mp he with rfl | he
            · exact ⟨by omega, hl.2, hg.2⟩
            · cases he
        exact ed_call (es_cons (ed_var S3 rfl) (es_cons (ed_var S3 rfl) (es_cons (ed_var S3 rfl) (es_cons (ed_var S3 rfl) (es_one (ed_var S3 rfl)))))) ⟨Y, st, h, o, e, ok, W, hh.1, hh.2.1, hh.2.2, rfl, rfl⟩
      · refine y_ret (ed_if (b := true) (et_w S3 rfl (by decide +kernel)) (fun _ => (ed_eqI (ed_var S3 rfl) (ed_var S3 rfl)).is ?_) fun z => nomatch z) fun v H4 e4 a => q v H4 (((e1.trans e2).trans e3).trans e4) a
        refine congrArg Dt.bl ?_
        show _ = (b2n _ != 0)
        rw [b2n_eq]
        exact decide_eq_decide.mpr ⟨fun z => by omega, fun z => by omega⟩
    | blw a b =>
      simp only [deep, okL, rng, Bool.and_eq_true] at hd hl hg
      refine z_asg S (ed_ixc (j := 0) (ed_var S rfl) rfl) fun σ1 H1 e1 S1 => ?_
      refine z_skS S1 rfl (by decide +kernel) ?_
      refine z_yesIn2 S1 rfl (by decide +kernel) fun H2 e2 => ?_
      have S2 := S1.mono e2
      refine z_unl2 S2 ((em_lcT (enc := fun e : K9M.E true => encE e) [a, b] (fun _ => true) (fun e => nD (val Y.ey st h e (o.getD 0))) (ed_from1 (ds := [.str "below", encE a, encE b]) (ed_var S2 rfl) (by show 1 ≤ 3; decide)) (by show 2 ≤ _; decide) fun e v H3 he e3 av => ⟨et_yes, fun _ => ?_⟩).is rfl) fun σ3 H3 e3 S3 => ?_
      · have S3 := ((S2.mono e3).wipe [8]).setD av 8
        have hh : deep e ≤ n ∧ okL o.isSome e = true ∧ rng e = true := by
          rcases List.mem_cons.mp he with rfl | he
          · exact ⟨by omega, hl.1, hg.1⟩
          · rcases List.mem_cons.mp he with rfl | he
            · exact ⟨by omega, hl.2, hg.2⟩
            · cases he
        exact ed_call (es_cons (ed_var S3 rfl) (es_cons (ed_var S3 rfl) (es_cons (ed_var S3 rfl) (es_cons (ed_var S3 rfl) (es_one (ed_var S3 rfl)))))) ⟨Y, st, h, o, e, ok, W, hh.1, hh.2.1, hh.2.2, rfl, rfl⟩
      · refine y_ret (ed_if (b := false) (et_w S3 rfl (by decide +kernel)) (fun z => nomatch z) fun _ => (ed_IB (ed_var S3 rfl) (ed_var S3 rfl)).is ?_) fun v H4 e4 a => q v H4 (((e1.trans e2).trans e3).trans e4) a
        refine congrArg Dt.bl ?_
        show _ = (b2n _ != 0)
        rw [b2n_eq]
        exact decide_eq_decide.mpr ⟨fun z => by omega, fun z => by omega⟩
    | not a =>
      simp only [deep, okL, rng] at hd hl hg
      refine z_asg S (ed_ixc (j := 0) (ed_var S rfl) rfl) fun σ1 H1 e1 S1 => ?_
      refine z_skS S1 rfl (by decide +kernel) ?_
      refine z_noIn2 S1 rfl (by decide +kernel) fun H2 e2 => ?_
      have S2 := S1.mono e2
      refine z_hitS S2 rfl (by decide +kernel) ?_
      refine y_ret ((ed_not (ed_call (es_cons (ed_var S2 rfl) (es_cons (ed_var S2 rfl) (es_cons (ed_var S2 rfl) (es_cons (ed_var S2 rfl) (es_one (ed_ixc (j := 1) (ed_var S2 rfl) rfl)))))) ⟨Y, st, h, o, a, ok, W, by omega, hl, hg, rfl, rfl⟩)).is ?_) fun v H3 e3 a => q v H3 ((e1.trans e2).trans e3) a
      exact congrArg Dt.bl b2n_eq.symm
    | and a b =>
      simp only [deep, okL, rng, Bool.and_eq_true] at hd hl hg
      refine z_asg S (ed_ixc (j := 0) (ed_var S rfl) rfl) fun σ1 H1 e1 S1 => ?_
      refine z_skS S1 rfl (by decide +kernel) ?_
      refine z_noIn2 S1 rfl (by decide +kernel) fun H2 e2 => ?_
      have S2 := S1.mono e2
      refine z_skS S2 rfl (by decide +kernel) ?_
      refine z_asgM S2 (ds := ([hol Y.ey st h a (o.getD 0), hol Y.ey st h b (o.getD 0)]).map .bl) ((em_lcT (enc := fun e : K9M.E false => encE e) [a, b] (fun _ => true) (fun e => .bl (hol Y.ey st h e (o.getD 0))) (ed_from1 (ds := [.str "and", encE a, encE b]) (ed_var S2 rfl) (by show 1 ≤ 3; decide)) (by show 2 ≤ _; decide) fun e v H3 he e3 av => ⟨et_yes, fun _ => ?_⟩).is rfl) fun p xs σ3 H3 hp e3 hx ax S3 => ?_
      · have S3 := ((S2.mono e3).wipe [10]).setD av 10
        have hh : deep e ≤ n ∧ okL o.isSome e = true ∧ rng e = true := by
          rcases List.mem_cons.mp he with rfl | he
          · exact ⟨by omega, hl.1, hg.1⟩
          · rcases List.mem_cons.mp he with rfl | he
            · exact ⟨by omega, hl.2, hg.2⟩
            · cases he
        exact ed_call (es_cons (ed_var S3 rfl) (es_cons (ed_var S3 rfl) (es_cons (ed_var S3 rfl) (es_cons (ed_var S3 rfl) (es_one (ed_var S3 rfl)))))) ⟨Y, st, h, o, e, ok, W, hh.1, hh.2.1, hh.2.2, rfl, rfl⟩
      · refine y_ret (ed_if (b := true) (et_w S3 rfl (by decide +kernel)) (fun _ => (ed_inBLst (neg := true) S3 rfl hx ax ed_cB).is ?_) fun z => nomatch z) fun v H4 e4 a => q v H4 (((e1.trans e2).trans e3).trans e4) a
        refine congrArg Dt.bl ?_
        show _ = (b2n _ != 0)
        rw [b2n_eq]
        show (!((hol Y.ey st h a (o.getD 0) == false) || ((hol Y.ey st h b (o.getD 0) == false) || false))) = (hol Y.ey st h a (o.getD 0) && hol Y.ey st h b (o.getD 0))
        cases hol Y.ey st h a (o.getD 0) <;> cases hol Y.ey st h b (o.getD 0) <;> rfl
    | or a b =>
      simp only [deep, okL, rng, Bool.and_eq_true] at hd hl hg
      refine z_asg S (ed_ixc (j := 0) (ed_var S rfl) rfl) fun σ1 H1 e1 S1 => ?_
      refine z_skS S1 rfl (by decide +kernel) ?_
      refine z_noIn2 S1 rfl (by decide +kernel) fun H2 e2 => ?_
      have S2 := S1.mono e2
      refine z_skS S2 rfl (by decide +kernel) ?_
      refine z_asgM S2 (ds := ([hol Y.ey st h a (o.getD 0), hol Y.ey st h b (o.getD 0)]).map .bl) ((em_lcT (enc := fun e : K9M.E false => encE e) [a, b] (fun _ => true) (fun e => .bl (hol Y.ey st h e (o.getD 0))) (ed_from1 (ds := [.str "or", encE a, encE b]) (ed_var S2 rfl) (by show 1 ≤ 3; decide)) (by show 2 ≤ _; decide) fun e v H3 he e3 av => ⟨et_yes, fun _ => ?_⟩).is rfl) fun p xs σ3 H3 hp e3 hx ax S3 => ?_
      · have S3 := ((S2.mono e3).wipe [10]).setD av 10
        have hh : deep e ≤ n ∧ okL o.isSome e = true ∧ rng e = true := by
          rcases List.mem_cons.mp he with rfl | he
          · exact ⟨by omega, hl.1, hg.1⟩
          · rcases List.mem_cons.mp he with rfl | he
            · exact ⟨by omega, hl.2, hg.2⟩
            · cases he
        exact ed_call (es_cons (ed_var S3 rfl) (es_cons (ed_var S3 rfl) (es_cons (ed_var S3 rfl) (es_cons (ed_var S3 rfl) (es_one (ed_var S3 rfl)))))) ⟨Y, st, h, o, e, ok, W, hh.1, hh.2.1, hh.2.2, rfl, rfl⟩
      · refine y_ret (ed_if (b := false) (et_w S3 rfl (by decide +kernel)) (fun z => nomatch z) fun _ => (ed_inBLst (neg := false) S3 rfl hx ax ed_cB).is ?_) fun v H4 e4 a => q v H4 (((e1.trans e2).trans e3).trans e4) a
        refine congrArg Dt.bl ?_
        show _ = (b2n _ != 0)
        rw [b2n_eq]
        show ((hol Y.ey st h a (o.getD 0) == true) || ((hol Y.ey st h b (o.getD 0) == true) || false)) = (hol Y.ey st h a (o.getD 0) || hol Y.ey st h b (o.getD 0))
        cases hol Y.ey st h a (o.getD 0) <;> cases hol Y.ey st h b (o.getD 0) <;> rfl
theorem ok_lv (D1 : Df K mg "_law_value" s_l_value ["_law_system", "_law_stand_here", "_law_hand", "_law_other", "_law_term_here"]) (D2 : Df K mg "_law_holds" s_l_holds ["_law_system", "_law_stand_here", "_law_hand", "_law_other", "_law_claim_here"]) (B : Bi mg) : ∀ n : Nat,
    Ok P w K mg base CX0 (n + 1) "_law_value" ["_law_system", "_law_stand_here", "_law_hand", "_law_other", "_law_term_here"] (spF K (RLv n)) ∧ Ok P w K mg base CX0 (n + 1) "_law_holds" ["_law_system", "_law_stand_here", "_law_hand", "_law_other", "_law_claim_here"] (spF K (RLh n))
  | 0 => by
    have h1 : ∀ ds d, ¬ RLv 0 ds d := fun ds d h => by
      obtain ⟨_, _, _, _, e, _, _, h, _⟩ := h
      have := deep_pos e
      omega
    have h2 : ∀ ds d, ¬ RLh 0 ds d := fun ds d h => by
      obtain ⟨_, _, _, _, e, _, _, h, _⟩ := h
      have := deep_pos e
      omega
    exact ⟨D1.okF sc_l_value (fun ds d h => absurd h (h1 ds d)) fun cdv A outer s H f ds d Q E hr h q => absurd h (h1 ds d), D2.okF sc_l_holds (fun ds d h => absurd h (h2 ds d)) fun cdv A outer s H f ds d Q E hr h q => absurd h (h2 ds d)⟩
  | n + 1 => by
    obtain ⟨i1, i2⟩ := ok_lv D1 D2 B n
    exact ⟨ok_law_value D1 B i1 i2, ok_law_holds D2 B i1 i2⟩
theorem find_drop {α : Type} (p : α → Bool) {l : List α} {i : Nat} {a : α} (h : l[i]? = some a) : (l.drop i).find? p = if p a = true then some a else (l.drop (i + 1)).find? p := by
  obtain ⟨hi, e⟩ := List.getElem?_eq_some_iff.mp h
  rw [List.drop_eq_getElem_cons hi, List.find?_cons, e]
  cases p a <;> rfl
theorem ok_law_rule_at (D : Df K mg "_law_rule_at" s_l_rule_at ["_law_system", "_law_stand_here", "_law_hand"]) (B : Bi mg) (O_l_holds : Ok P w K mg base CX0 13 "_law_holds" ["_law_system", "_law_stand_here", "_law_hand", "_law_other", "_law_claim_here"] (spF K (RLh 12))) :
    Ok P w K mg base CX0 14 "_law_rule_at" ["_law_system", "_law_stand_here", "_law_hand"] (spF K RLr) := by
  refine D.okF sc_l_rule_at (fun ds d h => ?_) fun cdv A outer s H f ds d Q E hr h q => ?_
  · obtain ⟨_, _, _, _, _, _, rfl, _⟩ := h
    rfl
  · obtain ⟨Y, st, h, ok, hs, hh, rfl, rfl⟩ := h
    refine ⟨_, (pss_cons (ps_for PassesOwn.never rfl (pi_tup (pe_ix ix_tup (pe_ix ix_tup (pv 0) pe_int (fun _ _ => rfl)) (pe_ix ix_tup (pe_ix ix_tup (pv 0) pe_int (fun _ _ => rfl)) (pv 2) (fun _ _ => rfl)) (fun _ _ => rfl))) (pg_name (i := 3) sc_l_rule_at.nd rfl (Or.inl rfl)) (pss_one (ps_if (pt_val (pe_ok O_l_holds hr rfl (pa_cons (pv 0) (pa_cons (pv 1) (pa_cons (pv 2) (pa_cons pe_non (pa_cons (pe_ix ix_tup (pv 3) pe_int (fun _ _ => rfl)) pa_nil))))))) (pss_one (ps_ret (pv 3))) pss_nil)))
    (pss_one (ps_ret pe_non))), fun σ S => ?_⟩
    refine q_for1 (tf_tupn (enc := ruleD) Y.ru (ed_ixn (j := 0) (ed_ixc (j := 3) (ed_var S rfl) rfl) (ed_ixn (j := h) (ed_ixc (j := 2) (ed_var S rfl) rfl) (ed_var S rfl) (zero_at hh)) rfl)
      (fun i σ' H' => Sg K H' σ' [.d (sysD Y), .d (stD st), .d (nD h), .no] ∧ Ex H H' ∧ rul Y st h = (Y.ru.drop i).find? fun r => hol Y.ey st h r.1 0)
      (fun H2 e2 => ⟨S.mono e2, e2, rfl⟩) (fun i r x σ' H' hi k ax N hN => ?_) fun σ' H' k => ?_)
    · obtain ⟨k1, k2, k3⟩ := k
      have S2 := k1.setD ax 3
      have hf := (ok.ru r (List.mem_of_getElem? hi)).1
      refine s_when (et_b (ed_call (es_cons (ed_var S2 rfl) (es_cons (ed_var S2 rfl) (es_cons (ed_var S2 rfl) (es_cons ed_cN (es_one (ed_ixc (j := 0) (ed_var S2 rfl) rfl)))))) ⟨Y, st, h, none, r.1, ok.web.sc hs hh, ok.web, hf.dp, hf.ok, hf.rg, rfl, rfl⟩)) (fun hb H3 e3 => ?_) fun hb H3 e3 => ?_
      · refine y_ret (ed_var (S2.mono e3) rfl) fun v H4 e4 a => q v H4 ((k2.trans e3).trans e4) ?_
        have hb' : hol Y.ey st h r.1 0 = true := hb
        rw [k3, find_drop _ hi, if_pos hb']
        exact a
      · refine hN _ _ (.ex e3) ⟨(S2.mono e3).less rfl fun i => ?_, k2.trans e3, ?_⟩
        · match i with
          | 0 => rfl
          | 1 => rfl
          | 2 => rfl
          | 3 => trivial
          | n + 4 => trivial
        · rw [k3, find_drop _ hi, if_neg (by
            have hb' : hol Y.ey st h r.1 0 = false := hb
            show ¬ hol Y.ey st h r.1 0 = true
            rw [hb']
            decide)]
    · obtain ⟨k1, k2, k3⟩ := k
      rw [List.drop_length] at k3
      refine y_ret (K := K) (σ := σ') (D := { nx := fun _ H' => Q .non H', rt := Q }) ed_cN fun v H4 e4 a => q v H4 (k2.trans e4) ?_
      rw [k3]
      exact a
theorem ok_law_ready (D : Df K mg "_law_ready" s_l_ready ["_law_system", "_law_stand_here"]) (B : Bi mg) (O_l_rule_at : Ok P w K mg base CX0 14 "_law_rule_at" ["_law_system", "_law_stand_here", "_law_hand"] (spF K RLr)) : Ok P w K mg base CX0 15 "_law_ready" ["_law_system", "_law_stand_here"] (spM K RRh) := by
  refine D.okM sc_l_ready (fun ds d h => ?_) fun cdv A outer s H f ds es Q E hr h q => ?_
  · obtain ⟨_, _, _, _, rfl, _⟩ := h
    rfl
  · obtain ⟨Y, st, ok, hs, rfl, rfl⟩ := h
    refine ⟨_, (pss_one (ps_ret (pe_lc (own := [("_law_hand", 2)]) (g := gName 2) rfl sc_l_ready.nd (pi_range1 rfl B.range (pa_cons (pe_callB call_len_seq rfl B.len (by decide +kernel) (pa_cons (pe_ix ix_tup (pv 0) pe_int (fun _ _ => rfl)) pa_nil)) pa_nil)) (blkOk_by (N := ["_law_system", "_law_stand_here", "_law_hand"]) (sc := defScope s_l_ready) (by decide +kernel)) (fun _ _ _ _ _ => (pg_name (i := 2) sc_l_ready.nd rfl (Or.inl rfl))) (fun _ _ _ _ _ => (pts_one (pt_cmpR op_notN (pe_ok O_l_rule_at hr rfl (pa_cons (pv 0) (pa_cons (pv 1) (pa_cons (pv 2) pa_nil)))) pe_non (nomark _)))) (fun _ _ _ _ _ => (pv 2))))), fun σ S => ?_⟩
    refine y_retM (em_lcR (n := Y.ey.length) (fun h => rdy Y st h) nD (es_one ((ed_len (ds := Y.ey.map rowD) (ed_ixc (j := 0) (ed_var S rfl) rfl)).is (by rw [List.length_map]))) (by have := ok.web.sm; omega) fun h v H1 hh e a => ⟨?_, fun _ => ?_⟩) q
    · have S1 := ((S.mono e).wipe [2]).setD a 2
      refine et_is (et_d (ed_notN (ed_call (es_cons (ed_var S1 rfl) (es_cons (ed_var S1 rfl) (es_one (ed_var S1 rfl)))) ⟨Y, st, h, ok, hs, hh, rfl, rfl⟩))) ?_
      unfold rdy
      cases rul Y st h <;> rfl
    · have S1 := ((S.mono e).wipe [2]).setD a 2
      exact ed_var S1 rfl
theorem ok_law_share (D : Df K mg "_law_share" s_l_share ["_law_system", "_law_shares", "_law_stand_here", "_law_hand"]) (B : Bi mg) (O_l_value : Ok P w K mg base CX0 13 "_law_value" ["_law_system", "_law_stand_here", "_law_hand", "_law_other", "_law_term_here"] (spF K (RLv 12))) :
    Ok P w K mg base CX0 14 "_law_share" ["_law_system", "_law_shares", "_law_stand_here", "_law_hand"] (spF K RSa) := by
  refine D.okF sc_l_share (fun ds d h => ?_) fun cdv A outer s H f ds d Q E hr h q => ?_
  · obtain ⟨_, _, _, _, _, _, _, _, _, _, rfl, _⟩ := h
    rfl
  · obtain ⟨Y, t, p, st, h, ok, hs, hh, ft, fp, rfl, rfl⟩ := h
    refine ⟨_, (pss_cons (ps_asg (pe_ix ix_tup (pv 1) pe_int (fun _ _ => rfl)) (pg_tup rfl (pgs_cons (pg_name (i := 4) sc_l_share.nd rfl (Or.inl rfl)) (pgs_cons (pg_name (i := 5) sc_l_share.nd rfl (Or.inr rfl)) pgs_nil))))
    (pss_cons (ps_setLc (i := 6) (own := [("_law_other", 7)]) (g := gName 7) (tt := tYes) rfl sc_l_share.nd rfl rfl (sw_true rfl rfl rfl (by decide +kernel)) (pi_tup (pe_ix ix_tup (pe_ix ix_tup (pv 0) pe_int (fun _ _ => rfl)) (pv 3) (fun _ _ => rfl))) (blkOk_by (N := ["_law_system", "_law_shares", "_law_stand_here", "_law_hand", "_law_term_here", "_law_pair", "_law_some", "_law_other"]) (sc := defScope s_l_share) (by decide +kernel)) (fun _ _ _ _ _ => (pg_name (i := 7) sc_l_share.nd rfl (Or.inl rfl))) (fun _ _ _ _ _ => pts_nil) (fun _ _ _ _ _ => (pe_ok O_l_value hr rfl (pa_cons (pv 0) (pa_cons (pv 2) (pa_cons (pv 3) (pa_cons (pv 7) (pa_cons (pv 5) pa_nil))))))))
    (pss_one (ps_ret (pe_op op_add (pe_ok O_l_value hr rfl (pa_cons (pv 0) (pa_cons (pv 2) (pa_cons (pv 3) (pa_cons pe_non (pa_cons (pv 4) pa_nil)))))) (pe_callB (cr_sum rfl) rfl B.sum (by decide +kernel) (pa_cons (pv 6) pa_nil))))))), fun σ S => ?_⟩
    refine z_tup2 S (ed_ixc (j := 0) (ed_var S rfl) rfl) fun σ2 H2 e2 S2 => ?_
    refine z_asgM S2 ((em_lcT (enc := nD) (seen Y.ey h) (fun _ => true) (fun o => nD (val Y.ey st h p o)) (ed_ixn (j := h) (ed_ixc (j := 0) (ed_var S2 rfl) rfl) (ed_var S2 rfl) (eyD_at hh)) (Nat.le_trans (ok.web.few h) (by decide)) fun o v H3 ho e3 a => ⟨et_yes, fun _ => ?_⟩)) fun lp ls σ3 H3 hlp e3 hl3 al3 S3 => ?_
    · have S3 := ((S2.mono e3).wipe [7]).setD a 7
      exact ed_call (es_cons (ed_var S3 rfl) (es_cons (ed_var S3 rfl) (es_cons (ed_var S3 rfl) (es_cons (d := opD (some o)) (ed_var S3 rfl) (es_one (ed_var S3 rfl)))))) ⟨Y, st, h, some o, p, ok.web.sco hs hh ho, ok.web, fp.dp, fp.ok, fp.rg, rfl, rfl⟩
    · rw [filter_yes] at al3
      have al4 : AtL K H3 ls (((seen Y.ey h).map fun o => ((val Y.ey st h p o : Nat) : Int)).map .int) := by rw [List.map_map]; exact al3
      refine y_ret ((ed_II (ed_call (es_cons (ed_var S3 rfl) (es_cons (ed_var S3 rfl) (es_cons (ed_var S3 rfl) (es_cons (d := opD none) ed_cN (es_one (ed_var S3 rfl)))))) ⟨Y, st, h, none, t, ok.web.sc hs hh, ok.web, ft.dp, ft.ok, ft.rg, rfl, rfl⟩) (ed_sumL S3 rfl hl3 al4)).is ?_) fun v H4 e4 a => q v H4 ((e2.trans e3).trans e4) a
      rw [sum_nat]
      exact congrArg Dt.int (Int.natCast_add _ _).symm
theorem ok_law_total (D : Df K mg "_law_total" s_l_total ["_law_system", "_law_shares", "_law_stand_here"]) (B : Bi mg) (O_l_share : Ok P w K mg base CX0 14 "_law_share" ["_law_system", "_law_shares", "_law_stand_here", "_law_hand"] (spF K RSa)) : Ok P w K mg base CX0 15 "_law_total" ["_law_system", "_law_shares", "_law_stand_here"] (spF K RTo) := by
  refine D.okF sc_l_total (fun ds d h => ?_) fun cdv A outer s H f ds d Q E hr h q => ?_
  · obtain ⟨_, _, _, _, _, _, _, _, rfl, _⟩ := h
    rfl
  · obtain ⟨Y, t, p, st, ok, hs, ft, fp, rfl, rfl⟩ := h
    refine ⟨_, (pss_one (ps_ret (pe_callB (cr_sum rfl) rfl B.sum (by decide +kernel) (pa_cons (pe_lc (own := [("_law_hand", 3)]) (g := gName 3) (tt := tYes) rfl sc_l_total.nd (pi_range1 rfl B.range (pa_cons (pe_callB call_len_seq rfl B.len (by decide +kernel) (pa_cons (pe_ix ix_tup (pv 0) pe_int (fun _ _ => rfl)) pa_nil)) pa_nil)) (blkOk_by (N := ["_law_system", "_law_shares", "_law_stand_here", "_law_hand"]) (sc := defScope s_l_total) (by decide +kernel)) (fun _ _ _ _ _ => (pg_name (i := 3) sc_l_total.nd rfl (Or.inl rfl))) (fun _ _ _ _ _ => pts_nil) (fun _ _ _ _ _ => (pe_ok O_l_share hr rfl (pa_cons (pv 0) (pa_cons (pv 1) (pa_cons (pv 2) (pa_cons (pv 3) pa_nil))))))) pa_nil)))), fun σ S => ?_⟩
    refine y_ret ((ed_sumM (ns := (List.range Y.ey.length).map fun h => ((share Y.ey t p st h : Nat) : Int)) ((em_lcR (n := Y.ey.length) (fun _ => true) (fun h => nD (share Y.ey t p st h)) (es_one ((ed_len (ds := Y.ey.map rowD) (ed_ixc (j := 0) (ed_var S rfl) rfl)).is (by rw [List.length_map]))) (by have := ok.web.sm; omega) fun h v H1 hh e a => ⟨et_yes, fun _ => ?_⟩).is ?_)).is ?_) q
    · have S1 := ((S.mono e).wipe [3]).setD a 3
      exact ed_call (es_cons (ed_var S1 rfl) (es_cons (ed_var S1 rfl) (es_cons (ed_var S1 rfl) (es_one (ed_var S1 rfl))))) ⟨Y, t, p, st, h, ok, hs, hh, ft, fp, rfl, rfl⟩
    · rw [filter_yes, List.map_map]
      rfl
    · rw [sum_nat]
      rfl
theorem ok_law_right (D : Df K mg "_law_right" s_l_right ["_law_system", "_law_goal", "_law_stand_here"]) (B : Bi mg) (O_l_holds : Ok P w K mg base CX0 13 "_law_holds" ["_law_system", "_law_stand_here", "_law_hand", "_law_other", "_law_claim_here"] (spF K (RLh 12))) : Ok P w K mg base CX0 14 "_law_right" ["_law_system", "_law_goal", "_law_stand_here"] (spF K RLg) := by
  refine D.okF sc_l_right (fun ds d h => ?_) fun cdv A outer s H f ds d Q E hr h q => ?_
  · obtain ⟨_, _, _, _, _, _, rfl, _⟩ := h
    rfl
  · obtain ⟨Y, st, c, W, hs, fc, rfl, rfl⟩ := h
    refine ⟨_, (pss_cons (ps_set (i := 3) sc_l_right.nd rfl (Or.inl rfl) (pe_ix ix_tup (pv 1) pe_int (fun _ _ => rfl)))
    (pss_cons (ps_if (pt_cmpR op_in_seq (pv 3) (pe_tup (pa_cons pe_str (pa_cons pe_str pa_nil))) (by rfl)) (pss_cons (ps_set (i := 4) sc_l_right.nd rfl (Or.inl rfl) (pe_ifExp (pt_cmpR op_eq (pv 3) pe_str (nomark _)) (pe_listRg rfl rfl B.list (prg_1 rfl B.range (pe_callB call_len_seq rfl B.len (by decide +kernel) (pa_cons (pe_ix ix_tup (pv 0) pe_int (fun _ _ => rfl)) pa_nil)))) (pe_ix ix_tup (pv 1) pe_int (fun _ _ => rfl))))
      (pss_cons (ps_set (i := 5) sc_l_right.nd rfl (Or.inr rfl) (pe_ix ix_tup (pv 1) (pe_op op_sub (pe_callB call_len_seq rfl B.len (by decide +kernel) (pa_cons (pv 1) pa_nil)) pe_int) (fun _ _ => rfl)))
      (pss_one (ps_ret (pe_cmpR op_notIn_seq pe_bl (pe_lc (own := [("_law_hand", 6)]) (g := gName 6) (tt := tYes) rfl sc_l_right.nd (pi_list (pv 4)) (blkOk_by (N := ["_law_system", "_law_goal", "_law_stand_here", "_law_word", "_law_hands", "_law_claim_here", "_law_hand", "_law_parts", "_law_part"]) (sc := defScope s_l_right) (by decide +kernel)) (fun _ _ _ _ _ => (pg_name (i := 6) sc_l_right.nd rfl (Or.inl rfl))) (fun _ _ _ _ _ => pts_nil) (fun _ _ _ _ _ => (pe_ok O_l_holds hr rfl (pa_cons (pv 0) (pa_cons (pv 2) (pa_cons (pv 6) (pa_cons pe_non (pa_cons (pv 5) pa_nil)))))))) (by rfl)))))) pss_nil)
    (pss_cons ps_dead
    (pss_cons ps_dead
    (pss_cons ps_dead
    (pss_one ps_dead)))))), fun σ S => ?_⟩
    refine z_asg S (ed_ixc (j := 0) (ed_var S rfl) rfl) fun σ1 H1 e1 S1 => ?_
    refine z_yesIn2 S1 rfl (by decide +kernel) fun H2 e2 => ?_
    have S2 := S1.mono e2
    have sm := W.sm
    refine z_asgM (ds := (List.range Y.ey.length).map nD) S2 (em_ifT (et_w S2 rfl (by decide +kernel)) (em_lrng ((ed_len (ds := Y.ey.map rowD) (ed_ixc (j := 0) (ed_var S2 rfl) rfl)).is (by rw [List.length_map])) (by omega))) fun lp ls σ3 H3 hlp e3 hl3 al3 S3 => ?_
    refine z_asg S3 (ed_ixn (j := 1) (ed_var S3 rfl) ((ed_II (ed_len (ds := [.str "every", encE c]) (ed_var S3 rfl)) ed_cI).is rfl) rfl) fun σ4 H4 e4 S4 => ?_
    refine y_ret ((ed_inBM (neg := true) (ss := (List.range Y.ey.length).map fun h => hol Y.ey st h c 0) ed_cB ((em_lcL (enc := nD) (List.range Y.ey.length) (fun _ => true) (fun h => .bl (hol Y.ey st h c 0)) (ev_varV S4 rfl) (sq_of (e4 _ _ hl3)) (al3.mono e4) (by rw [List.length_range]; omega) fun h v H5 hh e5 a => ⟨et_yes, fun _ => ?_⟩).is ?_)).is ?_) fun v H5 e5 a => q v H5 ((((e1.trans e2).trans e3).trans e4).trans e5) a
    · have S5 := ((S4.mono e5).wipe [6]).setD a 6
      exact ed_call (es_cons (ed_var S5 rfl) (es_cons (ed_var S5 rfl) (es_cons (ed_var S5 rfl) (es_cons (d := opD none) ed_cN (es_one (ed_var S5 rfl)))))) ⟨Y, st, h, none, c, W.sc hs (List.mem_range.mp hh), W, fc.dp, fc.ok, fc.rg, rfl, rfl⟩
    · rw [filter_yes, List.map_map]
      rfl
    · refine congrArg Dt.bl ?_
      rw [if_pos rfl]
      exact notF_all _ _
end
end K9
end
section
set_option maxHeartbeats 1000000
/-! K9Q3: the law's acts and its asking. -/
namespace K9
open PySem PySem.Spec PyProof.Rows L2 Evl K9M RZ
/-- a promise with more than one answer -/
def spN (K : PySem.W.Frag) (R : List Dt → (Dt → Prop) → Prop) : Sp := fun vs H Q _ => ∃ ds G, AtL K H vs ds ∧ R ds G ∧ ∀ d v H', G d → Ex H H' → At K H' v d → Q v H'
section
variable {P : Program} {w : World} {K : PySem.W.Frag} {mg : Str → Option Value} {base : Heap} {k : Nat} {x : Str} {st : Stmt} {N ps : List Str}
theorem Df.okN {R : List Dt → (Dt → Prop) → Prop} (D : Df K mg x st ps) (S : FnScope N ps (defScope st)) (len : ∀ ds d, R ds d → ds.length = ps.length)
    (hb : ∀ (cdv : Value) (A : Around) (outer : List PySem.Env) (s : Shared) (H : Hp) (f : Addr) (ds : List Dt) (G : Dt → Prop) (Q : VK) (E : XK), Room k (A.deeper (envOfC x (defScope st) s.heap.objs.size f cdv)) → R ds G → (∀ d v H', G d → Ex H H' → At K H' v d → Q v H') →
      ∃ t, PSs (cxOf CX0 P w K mg base N x (defScope st) f cdv A outer s H E).nox (defBody st) t ∧ ∀ σ, Sg K H σ (ds.map .d ++ List.replicate (N.length - ds.length) .no) → t { nx := fun _ H' => Q .non H', rt := Q } σ H) :
    Ok P w K mg base CX0 (k + 1) x ps (spN K R) := by
  obtain ⟨f, fd, hm, b, F⟩ := D.ex
  refine ⟨f, fd, hm, F.kp, b, F.ok S (fun vs H Q E h => ?_) (fun cdv A outer s H vs Q E hr h => ?_)⟩
  · obtain ⟨ds, d, l, hR, _⟩ := h
    rw [l.len]
    exact len ds d hR
  · obtain ⟨ds, d, l, hR, q⟩ := h
    obtain ⟨t, h1, h2⟩ := hb cdv A outer s H f ds d Q E hr hR q
    exact ⟨t, h1, h2 _ (Sg.start l)⟩
end
/-! ### lists of lists -/
structure Li (H0 : Hp) (D : Addr) (H : Hp) (ps : List Addr) (bs : List Nat) : Prop where
  nd : ps.Nodup
  nD : D ∉ ps
  fr : ∀ p ∈ ps, H0 p = none
  len : ps.length = bs.length
  at_ : ∀ (j : Nat) p b, ps[j]? = some p → bs[j]? = some b → H p = some (.lst [.int (b : Int)])
theorem Li.ex {H0 H H' : Hp} {D : Addr} {ps : List Addr} {bs : List Nat} (h : Li H0 D H ps bs) (e : Ex H H') : Li H0 D H' ps bs := ⟨h.nd, h.nD, h.fr, h.len, fun j p b h1 h2 => e _ _ (h.at_ j p b h1 h2)⟩
section
variable {K : PySem.W.Frag} {σ : L2.St} {H H' : Hp} {ta tb te tl tx : TE} {t : TT} {d : Dt} {ds : List Dt} {D : Ends} {tw tz : TS} {g : TG} {l : List Sl} {p : Addr} {vs : List V}
/-- [list(x) for x in st] -/
theorem lc_lists {i j : Nat} {st : List Nat} {Q : VK} (S : Sg K H σ l) (hi : l[i]? = some (.d (stD st))) (hj : ∀ s : Sl, ((wipeS l [j]).set j s)[j]? = some s) (hz : st.length ≤ 1000)
    (k : ∀ q ps H1, H q = none → Ex H H1 → H1 q = some (.lst (ps.map V.ref)) → Li H q H1 ps st → Q (.ref q) H1) : tLc (iTup K (tVar i)) (gName j) tYes (tCB (rLstO K) (tCons (tVar j) tNil)) [j] σ H Q := by
  obtain ⟨v, hv, av⟩ := S.get hi
  obtain ⟨a, xs, rfl, hs, al⟩ := av.of_tup
  have xl : xs.length = st.length := by rw [al.len, List.length_map]
  refine ⟨_, hv, a, rfl, ⟨xs, hs⟩, fun q hq => lc_tup (xs := xs) (fun n H' => Ex H H' ∧ ∃ ps, H' q = some (.lst (ps.map V.ref)) ∧ Li H q H' ps (st.take n)) ⟨Ex.new hq, [], upd_same, .nil, (fun z => nomatch z), (fun p z => nomatch z), rfl, fun j p b h1 _ => nomatch h1⟩ (fun n H' _ c => ex_t c.1 hs) (fun n x H' hx c => ⟨wipe_one _, ?_⟩) fun H' c => ?_⟩
  · obtain ⟨c1, ps, c2, L⟩ := c
    obtain ⟨d, hd, ad⟩ := al.at hx
    rw [List.getElem?_map] at hd
    cases eb : st[n]? with
    | none => rw [eb] at hd; cases hd
    | some b =>
      rw [eb] at hd
      obtain rfl : boxD b = d := Option.some.inj hd
      have hn := (List.getElem?_eq_some_iff.mp eb).1
      have S1 := ((S.mono c1).wipe [j]).setD (ad.mono c1) j
      refine et_yes H' (Ex.refl _) _ fun H3 e3 => ?_
      rw [if_pos rfl]
      refine (em_list (ds := [nD b]) (ed_var S1 (hj _))) H3 e3 _ fun r ys H4 hr e4 hy ay => ?_
      obtain ⟨y, r', rfl, ay1, ay⟩ := ay.of_cons
      obtain rfl := ay.of_nil
      rw [ay1.of_int] at hy
      have e34 := e3.trans e4
      have c4 := e34 _ _ c2
      have hrq : r ≠ q := fun z => by
        rw [z, e3 _ _ c2] at hr
        cases hr
      have pl : ps.length = n := by rw [L.len, List.length_take]; omega
      refine ⟨_, c4, by rw [List.length_map]; exact sz_lt (by omega), (c1.trans e34).mut hq, ps ++ [r], by rw [upd_same, List.map_append]; rfl, ?_⟩
      have hrn : r ∉ ps := fun z => by
        obtain ⟨m, hm⟩ := List.getElem?_of_mem z
        have hml := (List.getElem?_eq_some_iff.mp hm).1
        have hb : (st.take n)[m]? = some (st.getD m 0) := by
          rw [List.getElem?_take_of_lt (by omega), List.getD_eq_getElem?_getD, List.getElem?_eq_getElem (by omega)]
          rfl
        have := e3 _ _ (L.at_ m r _ hm hb)
        rw [hr] at this
        cases this
      refine ⟨?_, ?_, ?_, ?_, ?_⟩
      · rw [List.nodup_append]
        refine ⟨L.nd, by simp, fun x hx y hy => ?_⟩
        rw [List.mem_singleton] at hy
        rw [hy]
        exact fun z => hrn (by rw [← z]; exact hx)
      · rw [List.mem_append, List.mem_singleton]
        rintro (z | z)
        · exact L.nD z
        · exact hrq z.symm
      · intro p hp
        rcases List.mem_append.mp hp with hp | hp
        · exact L.fr p hp
        · rw [List.mem_singleton] at hp
          rw [hp]
          exact fresh_back (c1.trans e3) hr
      · rw [filter_take_more eb, List.length_append, List.length_append, L.len]
        rfl
      · intro m p' b' h1 h2
        rw [filter_take_more eb] at h2
        by_cases hm : m < n
        · rw [List.getElem?_append_left (by omega)] at h1
          rw [List.getElem?_append_left (by rw [List.length_take]; omega)] at h2
          have h3 := L.at_ m p' b' h1 h2
          have hpq : p' ≠ q := fun z => L.nD (by rw [← z]; exact List.mem_of_getElem? h1)
          rw [upd_ne hpq]
          exact e34 _ _ h3
        · have hml := (List.getElem?_eq_some_iff.mp h1).1
          rw [List.length_append, List.length_singleton] at hml
          have hmn : m = n := by omega
          subst hmn
          rw [List.getElem?_append_right (by omega), pl, Nat.sub_self] at h1
          rw [List.getElem?_append_right (by rw [List.length_take]; omega), List.length_take, Nat.min_eq_left (by omega), Nat.sub_self] at h2
          obtain rfl : r = p' := Option.some.inj h1
          obtain rfl : b = b' := Option.some.inj h2
          rw [upd_ne hrq]
          exact hy
  · obtain ⟨c1, ps, c2, L⟩ := c
    rw [xl, List.take_length] at L
    exact k q ps H' hq c1 c2 L
theorem z_lists {i j m : Nat} {st : List Nat} (S : Sg K H σ l) (hi : l[i]? = some (.d (stD st))) (hj : ∀ s : Sl, ((wipeS l [j]).set j s)[j]? = some s) (hz : st.length ≤ 1000)
    (k : ∀ q ps σ' H1, H q = none → Ex H H1 → H1 q = some (.lst (ps.map V.ref)) → Li H q H1 ps st → Sg K H1 σ' (l.set m (.v (.ref q))) → tz D σ' H1) : tSeq (tAsg (tLc (iTup K (tVar i)) (gName j) tYes (tCB (rLstO K) (tCons (tVar j) tNil)) [j]) (gName m)) tz D σ H :=
  lc_lists (Q := fun v H => tz D (σ.set m (some v)) H) S hi hj hz fun q ps H1 h1 h2 h3 h4 => k q ps _ H1 h1 h2 h3 h4 ((S.mono h2).setV (.ref q) m)
/-- a comprehension over a standing list of things -/
theorem em_lcWL {α : Type} {W : Hp → V → α → Prop} {j : Nat} (mono : ∀ {H H' : Hp} {v : V} {a : α}, Ex H H' → W H v a → W H' v a) (xs : List α) (f : α → Bool) (g : α → Dt) (h : Ev tl σ H (.ref p)) (hs : H p = some (.lst vs)) (al : Paired (W H) vs xs) (hz : xs.length ≤ 40000)
    (hb : ∀ a v H1, a ∈ xs → Ex H H1 → W H1 v a → EvT t ((wipe σ [j]).set j (some v)) H1 (f a) ∧ (f a = true → EvD K te ((wipe σ [j]).set j (some v)) H1 (g a))) :
    EvM K (tLc (iList K tl) (gName j) t te [j]) σ H ((xs.filter f).map g) := fun H0 e Q q => h H0 e _ fun H1 e1 => by
  have hs1 := e1 _ _ (e _ _ hs)
  refine ⟨p, rfl, ⟨vs, sq_of hs1⟩, fun D hD => lc_list (xs := vs) (Cd K H1 xs f g D) ⟨hD, Ex.new hD, [], upd_same, .nil⟩ (fun i H' _ c => ex_l c.2.1 (sq_of hs1)) (fun i x H' hi c => ⟨wipe_one _, ?_⟩) (fun H' c => ?_)⟩
  · obtain ⟨y, hy, wy⟩ := paired_at al hi
    obtain ⟨b1, b2⟩ := hb y x H' (List.mem_of_getElem? hy) ((e.trans e1).trans c.2.1) (mono ((e.trans e1).trans c.2.1) wy)
    exact cd_turn hy hz c b1 b2
  · have ll : vs.length = xs.length := Paired.length al
    rw [ll] at c
    obtain ⟨c1, c2, ws, c3, c4⟩ := cd_end c
    exact q D ws H' (fresh_back e1 c1) (e1.trans c2) c3 c4
theorem Li.pair {H0 : Hp} {D : Addr} {H : Hp} : ∀ {ps : List Addr} {bs : List Nat}, ps.length = bs.length → (∀ (j : Nat) p b, ps[j]? = some p → bs[j]? = some b → H p = some (.lst [.int (b : Int)])) → Paired (fun v (b : Nat) => ∃ p, v = V.ref p ∧ H p = some (.lst [.int (b : Int)])) (ps.map V.ref) bs
  | [], [], _, _ => .nil
  | p :: ps, [], e, _ => nomatch e
  | [], b :: bs, e, _ => nomatch e
  | p :: ps, b :: bs, e, h => .cons ⟨p, rfl, h 0 p b rfl rfl⟩ (Li.pair (H0 := H0) (D := D) (by simpa using e) fun j p' b' h1 h2 => h (j + 1) p' b' (by simpa using h1) (by simpa using h2))
end
abbrev s_l_let : Stmt := top 91
theorem sc_l_let : FnScope ["_law_which", "_law_system", "_law_thing", "_law_found"] ["_law_which", "_law_system", "_law_thing"] (defScope s_l_let) := ⟨rfl, rfl, rfl, by decide +kernel, rfl, by decide +kernel, by decide +kernel⟩
section
variable {P : Program} {w : World} {K : PySem.W.Frag} {mg : Str → Option Value} {base : Heap}
theorem ok_law_behind (D : Df K mg "_law_behind" s_l_behind ["_law_system", "_law_stand_here", "_law_hands"]) (B : Bi mg) (O_l_rule_at : Ok P w K mg base CX0 14 "_law_rule_at" ["_law_system", "_law_stand_here", "_law_hand"] (spF K RLr)) (O_l_value : Ok P w K mg base CX0 14 "_law_value" ["_law_system", "_law_stand_here", "_law_hand", "_law_other", "_law_term_here"] (spF K (RLv 12))) :
    Ok P w K mg base CX0 15 "_law_behind" ["_law_system", "_law_stand_here", "_law_hands"] (spF K RLb) := by
  refine D.okF sc_l_behind (fun ds d h => ?_) fun cdv A outer s H f ds d Q E hr h q => ?_
  · obtain ⟨_, _, _, _, _, _, _, rfl, _⟩ := h
    rfl
  · obtain ⟨Y, st, h, ok, hs, hh, hy, rfl, rfl⟩ := h
    refine ⟨_, (pss_cons (ps_setLc (i := 3) (own := [("_law_boxes", 4)]) (g := gName 4) (tt := tYes) rfl sc_l_behind.nd rfl rfl (sw_true rfl rfl rfl (by decide +kernel)) (pi_tup (pv 1)) (blkOk_by (N := ["_law_system", "_law_stand_here", "_law_hands", "_law_found", "_law_boxes", "_law_hand", "_law_box", "_law_term_here"]) (sc := defScope s_l_behind) (by decide +kernel)) (fun _ _ _ _ _ => (pg_name (i := 4) sc_l_behind.nd rfl (Or.inl rfl))) (fun _ _ _ _ _ => pts_nil) (fun _ _ _ _ _ => (pe_callTy (T := "list") (show CallR _ (.type "list") (rLstO K) from call_list_of) rfl B.list (by decide +kernel) (pa_cons (pv 4) pa_nil))))
    (pss_cons (ps_for PassesOwn.never rfl (pi_tup (pv 2)) (pg_name (i := 5) sc_l_behind.nd rfl (Or.inl rfl)) (pss_one (ps_for PassesOwn.never rfl (pi_tup (pe_ix ix_tup (pe_ok O_l_rule_at hr rfl (pa_cons (pv 0) (pa_cons (pv 1) (pa_cons (pv 5) pa_nil)))) pe_int (fun _ _ => rfl))) (pg_tup rfl (pgs_cons (pg_name (i := 6) sc_l_behind.nd rfl (Or.inl rfl)) (pgs_cons (pg_name (i := 7) sc_l_behind.nd rfl (Or.inl rfl)) pgs_nil))) (pss_one (ps_asg (pe_op op_mod (pe_ok O_l_value hr rfl (pa_cons (pv 0) (pa_cons (pv 1) (pa_cons (pv 5) (pa_cons pe_non (pa_cons (pv 7) pa_nil)))))) (pe_ix ix_tup (pe_ix ix_tup (pv 0) pe_int (fun _ _ => rfl)) (pv 6) (fun _ _ => rfl))) (pg_sub (pe_ix ix_list (pv 3) (pv 5) (fun _ _ => rfl)) (pv 6) set_list))))))
    (pss_one (ps_ret (pe_callTy call_tuple_of rfl B.tuple (by decide +kernel) (pa_cons (pe_lc (own := [("_law_boxes", 4)]) (g := gName 4) (tt := tYes) rfl sc_l_behind.nd (pi_list (pv 3)) (blkOk_by (N := ["_law_system", "_law_stand_here", "_law_hands", "_law_found", "_law_boxes", "_law_hand", "_law_box", "_law_term_here"]) (sc := defScope s_l_behind) (by decide +kernel)) (fun _ _ _ _ _ => (pg_name (i := 4) sc_l_behind.nd rfl (Or.inl rfl))) (fun _ _ _ _ _ => pts_nil) (fun _ _ _ _ _ => (pe_callTy (T := "tuple") (show CallR _ (.type "tuple") (rTupO K) from call_tuple_of) rfl B.tuple (by decide +kernel) (pa_cons (pv 4) pa_nil)))) pa_nil)))))), fun σ S => ?_⟩
    cases hr2 : rul Y st h with
    | none => unfold rdy at hy; rw [hr2] at hy; cases hy
    | some r =>
      have hf := (ok.ru r (List.mem_of_find?_eq_some hr2)).2
      have sm := ok.web.sm
      refine z_lists S rfl (fun s => rfl) (by omega) fun fp ps σ1 H1 hfp e1 hf1 L1 S1 => ?_
      obtain ⟨ph, hph⟩ : ∃ ph, ps[h]? = some ph := ⟨ps[h]'(by rw [L1.len, hs]; exact hh), List.getElem?_eq_getElem _⟩
      have hpm := List.mem_of_getElem? hph
      have hpf : ph ≠ fp := fun z => L1.nD (by rw [← z]; exact hpm)
      have ev : newv Y st h = val Y.ey st h r.2 0 % Y.m := by
        unfold newv
        rw [hr2]
      refine q_for1 (tf_tupn (enc := nD) [h] (ed_var S1 rfl)
        (fun i σ' H' => Sg K H' σ' [.d (sysD Y), .d (stD st), .no, .v (.ref fp), .no, .no, .no, .no] ∧ Ex H H' ∧ H' fp = some (.lst (ps.map V.ref)) ∧ ∀ (j : Nat) p b, ps[j]? = some p → (if i = 0 then st else act Y st h)[j]? = some b → H' p = some (.lst [.int (b : Int)]))
        (fun H2 e2 => ⟨(S1.mono e2).less rfl fun i => ?_, e1.trans e2, e2 _ _ hf1, fun j p b h1 h2 => e2 _ _ (L1.at_ j p b h1 h2)⟩) (fun i h' x σ' H' hi k ax N hN => ?_) fun σ' H' k => ?_)
      · match i with
        | 0 => rfl
        | 1 => rfl
        | 2 => trivial
        | 3 => rfl
        | 4 => trivial
        | 5 => trivial
        | 6 => trivial
        | 7 => trivial
        | n + 8 => trivial
      · obtain ⟨k1, k2, k3, k4⟩ := k
        have hj0 : i = 0 := by
          have := (List.getElem?_eq_some_iff.mp hi).1
          simp only [List.length_cons, List.length_nil] at this
          omega
        subst hj0
        obtain rfl : h = h' := Option.some.inj hi
        rw [if_pos rfl] at k4
        have S2 := k1.setD ax 5
        refine tf_tup (enc := fun t : K9M.E true => .tup [nD 0, encE t]) [r.2] (ed_ixc (j := 1) ((ed_call (es_cons (ed_var S2 rfl) (es_cons (ed_var S2 rfl) (es_one (ed_var S2 rfl)))) ⟨Y, st, h, ok, hs, hh, rfl, rfl⟩).is (by rw [hr2] <;> rfl)) rfl)
          (fun i σ'' H'' => Sg K H'' σ'' [.d (sysD Y), .d (stD st), .no, .v (.ref fp), .no, .d (nD h), .no, .no] ∧ Ex H H'' ∧ TKp K H' H'' ∧ H'' fp = some (.lst (ps.map V.ref)) ∧ ∀ (j : Nat) p b, ps[j]? = some p → (if i = 0 then st else act Y st h)[j]? = some b → H'' p = some (.lst [.int (b : Int)]))
          (fun H3 e3 => ⟨(S2.mono e3).less rfl fun i => ?_, k2.trans e3, .ex e3, e3 _ _ k3, fun j p b h1 h2 => e3 _ _ (k4 j p b h1 h2)⟩) (fun i t x σ'' H'' hi kk ax N' hN' => ?_) fun σ'' H'' kk => ?_
        · match i with
          | 0 => rfl
          | 1 => rfl
          | 2 => trivial
          | 3 => rfl
          | 4 => trivial
          | 5 => rfl
          | 6 => trivial
          | 7 => trivial
          | n + 8 => trivial
        · obtain ⟨kk1, kk2, kkt, kk3, kk4⟩ := kk
          have hj0 : i = 0 := by
            have := (List.getElem?_eq_some_iff.mp hi).1
            simp only [List.length_cons, List.length_nil] at this
            omega
          subst hj0
          obtain rfl : r.2 = t := Option.some.inj hi
          rw [if_pos rfl] at kk4
          refine g_tup2 ax fun x1 x2 a1 a2 => ?_
          have S3 := (kk1.setD a1 6).setD a2 7
          refine (ed_IC (ed_call (es_cons (ed_var S3 rfl) (es_cons (ed_var S3 rfl) (es_cons (ed_var S3 rfl) (es_cons (d := opD none) ed_cN (es_one (ed_var S3 rfl)))))) ⟨Y, st, h, none, r.2, ok.web.sc hs hh, ok.web, hf.dp, hf.ok, hf.rg, rfl, rfl⟩) (ed_ixn (j := 0) (ds := [nD Y.m]) (ed_ixc (j := 1) (ed_var S3 rfl) rfl) (ed_var S3 rfl) rfl) (by show (0 : Int) < (Y.m : Int); have := ok.m1; omega)) H'' (Ex.refl _) _ fun v H4 e4 av => ?_
          have S4 := S3.mono e4
          obtain ⟨y, hy5, ay5⟩ := S4.get (i := 5) rfl
          obtain rfl := ay5.of_int
          obtain ⟨z, hz6, az6⟩ := S4.get (i := 6) rfl
          obtain rfl := az6.of_int
          have hbh : st[h]? = some (st.getD h 0) := by
            rw [List.getD_eq_getElem?_getD, List.getElem?_eq_getElem (by omega)]
            rfl
          have h4p := e4 _ _ (kk4 h ph _ hph hbh)
          refine ⟨_, S4.val (i := 3) rfl, _, hy5, ⟨fp, ps.map V.ref, (h : Int), .ref ph, rfl, rfl, sq_of (e4 _ _ kk3), atI_n (by rw [List.getElem?_map, hph] <;> rfl), ?_⟩⟩
          refine ⟨_, hz6, ph, _, ((0 : Nat) : Int), 0, rfl, rfl, h4p, ixN_nat Nat.zero_lt_one, ?_⟩
          have eF : ExF ph H4 (upd H4 ph (.lst ([V.int (st.getD h 0)].set 0 v))) := ExF.upd _ _ _
          have tk : TKp K H4 (upd H4 ph (.lst ([V.int (st.getD h 0)].set 0 v))) := .exF h4p eF
          refine hN' _ _ ((TKp.ex e4).trans tk) ⟨(S4.tk tk).less rfl fun i => ?_, Ex.exF (kk2.trans e4) (L1.fr ph hpm) eF, kkt.trans ((TKp.ex e4).trans tk), ?_, fun j p b h1 h2 => ?_⟩
          · match i with
            | 0 => rfl
            | 1 => rfl
            | 2 => trivial
            | 3 => rfl
            | 4 => trivial
            | 5 => rfl
            | 6 => trivial
            | 7 => trivial
            | n + 8 => trivial
          · rw [upd_ne (Ne.symm hpf)]
            exact e4 _ _ kk3
          · rw [if_neg (by omega)] at h2
            unfold act at h2
            by_cases hj : j = h
            · subst hj
              rw [hph] at h1
              obtain rfl : ph = p := Option.some.inj h1
              rw [List.getElem?_set_self (by rw [hs]; exact hh)] at h2
              obtain rfl : newv Y st j = b := Option.some.inj h2
              rw [upd_same, ev]
              have : v = .int ((val Y.ey st j r.2 0 % Y.m : Nat) : Int) := by
                rw [av.of_int]
                exact congrArg V.int (Int.natCast_emod _ _).symm
              rw [this]
              rfl
            · rw [List.getElem?_set_ne (Ne.symm hj)] at h2
              have hpp : p ≠ ph := fun z => hj (by
                rw [z] at h1
                exact (List.getElem?_inj (List.getElem?_eq_some_iff.mp h1).1 L1.nd).mp (h1.trans hph.symm))
              rw [upd_ne hpp]
              exact e4 _ _ (kk4 j p b h1 h2)
        · obtain ⟨kk1, kk2, kkt, kk3, kk4⟩ := kk
          refine hN _ _ kkt ⟨kk1.less rfl fun i => ?_, kk2, kk3, kk4⟩
          match i with
          | 0 => rfl
          | 1 => rfl
          | 2 => trivial
          | 3 => rfl
          | 4 => trivial
          | 5 => trivial
          | 6 => trivial
          | 7 => trivial
          | n + 8 => trivial
      · obtain ⟨k1, k2, k3, k4⟩ := k
        have al : (act Y st h).length = st.length := by unfold act; rw [List.length_set]
        refine y_ret (D := { nx := fun _ H' => Q .non H', rt := Q }) (ed_tupM ((em_lcWL (W := fun H v (b : Nat) => ∃ p, v = V.ref p ∧ H p = some (.lst [.int (b : Int)])) (fun {H H' v a} e w => by obtain ⟨p, h1, h2⟩ := w; exact ⟨p, h1, e _ _ h2⟩) (act Y st h) (fun _ => true) boxD (ev_varV k1 rfl) k3 (Li.pair (H0 := H') (D := fp) (by rw [L1.len, al]) k4) (by rw [al]; omega) fun b v H4 hb e4 w => ⟨et_yes, fun _ => ?_⟩).is (by rw [filter_yes]))) fun v H4 e4 a => q v H4 (k2.trans e4) a
        obtain ⟨p, rfl, hp⟩ := w
        have S4 := ((k1.mono e4).wipe [4]).setV (.ref p) 4
        exact ed_tupL (ds := [nD b]) S4 rfl hp (.one (.int _))
def tyv (w : Nat) : Prop := True
def RLe : List Dt → (Dt → Prop) → Prop := fun ds G => ∃ (S : Sy) (A : Prop), SyOk S ∧ ((∃ (t p : E true), rng t = true ∧ rng p = true ∧ ds = [.int 0, sysD S, sumD t p] ∧ A = LetS S t p) ∨ ∃ c : E false, rng c = true ∧ ds = [.int 1, sysD S, stlD c] ∧ A = LetC S c) ∧
  G = fun d => (d = .bl true ∧ A) ∨ (d = .bl false ∧ ¬ A) ∨ d = .non
structure ExT (K : PySem.W.Frag) (NPa TMa : Addr) : Prop where
  nn : PySem.W.exmOne K (.ref NPa) (.ref NPa) = some true
  tn : PySem.W.exmOne K (.ref TMa) (.ref NPa) = some false
  tt : PySem.W.exmOne K (.ref TMa) (.ref TMa) = some true
theorem ok_law_let {NPa TMa fN fT : Addr} (D : Df K mg "_law_let" s_l_let ["_law_which", "_law_system", "_law_thing"]) (B : Bi mg) (NP : ErT K mg "NoPaper" NPa fN) (TM : ErT K mg "TooMany" TMa fT) (EX : ExT K NPa TMa)
    (O_lets_sum : Ok P w K mg base (L2.CX P w) 36 "lets_sum" ["system", "thing"] (spE K NPa TMa RLs)) (O_lets_settled : Ok P w K mg base (L2.CX P w) 36 "lets_settled" ["system", "thing"] (spE K NPa TMa RLt)) :
    Ok P w K mg base CX0 37 "_law_let" ["_law_which", "_law_system", "_law_thing"] (spN K RLe) := by
  obtain ⟨f1, fd1, m1, k1, b1, F1⟩ := O_lets_sum.ex
  obtain ⟨f2, fd2, m2, k2, b2, F2⟩ := O_lets_settled.ex
  refine D.okN sc_l_let (fun ds d h => ?_) fun cdv A outer s H f ds G Q E hr h q => ?_
  · obtain ⟨_, _, _, ⟨_, _, _, _, rfl, _⟩ | ⟨_, _, rfl, _⟩, _⟩ := h <;> rfl
  · obtain ⟨Y, A, ok, hc, rfl⟩ := h
    refine ⟨_, (pss_cons (ps_set (i := 3) sc_l_let.nd rfl (Or.inl rfl) pe_non)
    (pss_cons (ps_try_many rfl rfl takes0 (fun W pn xe tk _ => (pss_one (ps_set (i := 3) sc_l_let.nd rfl (Or.inl rfl) (pe_cmpR op_isBl (pe_ifExp (pt_cmpR op_eq (pv 0) pe_int (nomark _)) (pe_callS F1 hr rfl m1 k1 b1 (fun σ => passAt tk σ) (pa_cons (pv 1) (pa_cons (pv 2) pa_nil))) (pe_callS F2 hr rfl m2 k2 b2 (fun σ => passAt tk σ) (pa_cons (pv 1) (pa_cons (pv 2) pa_nil)))) pe_bl (nomark _))))) (.cons ⟨rfl, by decide +kernel, .inl NP.gC⟩ (fun a oe cls d pn _ _ => (pss_one (ps_set (i := 3) sc_l_let.nd rfl (Or.inl rfl) pe_bl))) (.cons ⟨rfl, by decide +kernel, .inl TM.gC⟩ (fun a oe cls d pn _ _ => (pss_one (ps_set (i := 3) sc_l_let.nd rfl (Or.inl rfl) pe_non))) .nil)))
    (pss_one (ps_ret (pv 3))))), fun σ S => ?_⟩
    have np : ∀ {Wo : WX} {D : Ends} {σ1 : L2.St} {H1 : Hp} {dx : Addr} {ts1 ts2 : Addr → Value → Option Addr → TS}, (∀ a, ts1 a (.ref NPa) (some dx) D σ1 H1) → wMany K Wo D [(.ref NPa, ts1), (.ref TMa, ts2)] (.ref NPa) (some dx) σ1 H1 := by
      intro Wo D σ1 H1 dx ts1 ts2 h
      show ∃ b, _ ∧ _
      exact ⟨true, EX.nn, fun _ a _ => h a, fun z => nomatch z⟩
    have tm : ∀ {Wo : WX} {D : Ends} {σ1 : L2.St} {H1 : Hp} {dx : Addr} {ts1 ts2 : Addr → Value → Option Addr → TS}, (∀ a, ts2 a (.ref TMa) (some dx) D σ1 H1) → wMany K Wo D [(.ref NPa, ts1), (.ref TMa, ts2)] (.ref TMa) (some dx) σ1 H1 := by
      intro Wo D σ1 H1 dx ts1 ts2 h
      show ∃ b, _ ∧ _
      refine ⟨false, EX.tn, (fun z => nomatch z), fun _ => ?_⟩
      show ∃ b, _ ∧ _
      exact ⟨true, EX.tt, fun _ a _ => h a, fun z => nomatch z⟩
    rcases hc with ⟨t, p, rt, rp, rfl, rfl⟩ | ⟨c, rc, rfl, rfl⟩
    · refine z_asg S ed_cN fun σ1 H1 e1 S1 => ?_
      refine (et_is (et_d (ed_eqI (ed_var S1 rfl) ed_cI)) (show decide ((0 : Int) = 0) = true from rfl)) H1 (Ex.refl _) _ fun H2 e2 => ?_
      rw [if_pos rfl]
      have S2 := S1.mono e2
      refine go_callE (es_cons (ed_var S2 rfl) (es_one (ed_var S2 rfl))) ⟨Y, t, p, ok, rt, rp, rfl, rfl, rfl⟩ (fun hA v H3 e3 a => ?_) (fun hA dx H3 e3 => np fun a => ?_) fun dx H3 e3 => tm fun a => ?_
      · rw [a.of_bl]
        exact ⟨true, true, rfl, rfl, y_ret (D := { nx := fun _ H' => Q .non H', rt := Q }) (ed_var ((S2.mono e3).setD (d := .bl true) (.bl _) 3) rfl) fun v H4 e4 a => q (.bl true) v H4 (.inl ⟨rfl, hA⟩) (((e1.trans e2).trans e3).trans e4) a⟩
      · exact y_ret (D := { nx := fun _ H' => Q .non H', rt := Q }) (ed_var ((S2.mono e3).setD (d := .bl false) (.bl _) 3) rfl) fun v H4 e4 a => q (.bl false) v H4 (.inr (.inl ⟨rfl, hA⟩)) (((e1.trans e2).trans e3).trans e4) a
      · exact y_ret (D := { nx := fun _ H' => Q .non H', rt := Q }) (ed_var ((S2.mono e3).setD (d := .non) .non 3) rfl) fun v H4 e4 a => q .non v H4 (.inr (.inr rfl)) (((e1.trans e2).trans e3).trans e4) a
    · refine z_asg S ed_cN fun σ1 H1 e1 S1 => ?_
      refine (et_is (et_d (ed_eqI (ed_var S1 rfl) ed_cI)) (show decide ((1 : Int) = 0) = false from rfl)) H1 (Ex.refl _) _ fun H2 e2 => ?_
      rw [if_neg (by decide)]
      have S2 := S1.mono e2
      refine go_callE (es_cons (ed_var S2 rfl) (es_one (ed_var S2 rfl))) ⟨Y, c, ok, rc, rfl, rfl, rfl⟩ (fun hA v H3 e3 a => ?_) (fun hA dx H3 e3 => np fun a => ?_) fun dx H3 e3 => tm fun a => ?_
      · rw [a.of_bl]
        exact ⟨true, true, rfl, rfl, y_ret (D := { nx := fun _ H' => Q .non H', rt := Q }) (ed_var ((S2.mono e3).setD (d := .bl true) (.bl _) 3) rfl) fun v H4 e4 a => q (.bl true) v H4 (.inl ⟨rfl, hA⟩) (((e1.trans e2).trans e3).trans e4) a⟩
      · exact y_ret (D := { nx := fun _ H' => Q .non H', rt := Q }) (ed_var ((S2.mono e3).setD (d := .bl false) (.bl _) 3) rfl) fun v H4 e4 a => q (.bl false) v H4 (.inr (.inl ⟨rfl, hA⟩)) (((e1.trans e2).trans e3).trans e4) a
      · exact y_ret (D := { nx := fun _ H' => Q .non H', rt := Q }) (ed_var ((S2.mono e3).setD (d := .non) .non 3) rfl) fun v H4 e4 a => q .non v H4 (.inr (.inr rfl)) (((e1.trans e2).trans e3).trans e4) a
end
end K9
end
section
set_option maxHeartbeats 1000000
/-! K9W: hues and posts. -/
namespace K9M
abbrev eN (k : Nat) : E true := .num k
abbrev likeOwn : E false := .like .its .own
abbrev alike : E true := .many likeOwn
abbrev noneAlike : E false := .like alike (eN 0)
abbrev postsE : E true := .many (.like .its (eN 1))
abbrev noPosts : E false := .like postsE (eN 0)
abbrev atPost : E false := .like .own (eN 1)
abbrev posted : E false := .like .own (.ite noPosts (eN 1) (eN 0))
def takenE (k : Nat) : E false := .like (.many (.like .its (eN k))) (eN 0)
def lfS (m : Nat) : Nat → E true
  | 0 => .num (m - 1)
  | i + 1 => .ite (takenE (m - 2 - i)) (.num (m - 2 - i)) (lfS m i)
def hueS (ey : List (List Nat)) (m : Nat) : Sy := ⟨ey, m, [(.blw (eN 0) alike, lfS m (m - 1))]⟩
def postS (ey : List (List Nat)) : Sy := ⟨ey, 2, [(.and atPost (.blw (eN 0) postsE), eN 0), (.and (.not atPost) noPosts, eN 1)]⟩
abbrev hueP : E true := .ite likeOwn (eN 1) (eN 0)
abbrev twice : E true := .plus postsE postsE
abbrev postT : E true := .ite atPost (.plus twice twice) (.ite noPosts (eN 1) (eN 0))
end K9M
namespace K9
open PySem PySem.Spec PyProof.Rows L2 Evl K9M RZ
structure MkT (K : PySem.W.Frag) (mg : Str → Option Value) : Prop where
  g_NOUGHT : Gd K mg "NOUGHT" (encE (eN 0))
  g_UNIT : Gd K mg "UNIT" (encE (eN 1))
  g_OWN : Gd K mg "OWN" (encE (K9M.E.own))
  g_ITS : Gd K mg "ITS" (encE (K9M.E.its))
  g_LIKE_OWN : Gd K mg "LIKE_OWN" (encE likeOwn)
  g_ALIKE : Gd K mg "ALIKE" (encE alike)
  g_NONE_ALIKE : Gd K mg "NONE_ALIKE" (encE noneAlike)
  g_POSTS : Gd K mg "POSTS" (encE postsE)
  g_NO_POSTS : Gd K mg "NO_POSTS" (encE noPosts)
  g_AT_POST : Gd K mg "AT_POST" (encE atPost)
  g_POSTED : Gd K mg "POSTED" (encE posted)
abbrev s_least_free : Stmt := top 71
theorem sc_least_free : FnScope ["many", "found", "number", "taken"] ["many"] (defScope s_least_free) := ⟨rfl, rfl, rfl, by decide +kernel, rfl, by decide +kernel, by decide +kernel⟩
abbrev s_hues_system : Stmt := top 72
theorem sc_hues_system : FnScope ["eyes", "many", "rule"] ["eyes", "many"] (defScope s_hues_system) := ⟨rfl, rfl, rfl, by decide +kernel, rfl, by decide +kernel, by decide +kernel⟩
abbrev s_posts_system : Stmt := top 73
theorem sc_posts_system : FnScope ["eyes", "leave", "enter"] ["eyes"] (defScope s_posts_system) := ⟨rfl, rfl, rfl, by decide +kernel, rfl, by decide +kernel, by decide +kernel⟩
abbrev s_hues_sum : Stmt := top 74
theorem sc_hues_sum : FnScope [] [] (defScope s_hues_sum) := ⟨rfl, rfl, rfl, by decide +kernel, rfl, by decide +kernel, by decide +kernel⟩
abbrev s_hues_settled : Stmt := top 75
theorem sc_hues_settled : FnScope [] [] (defScope s_hues_settled) := ⟨rfl, rfl, rfl, by decide +kernel, rfl, by decide +kernel, by decide +kernel⟩
abbrev s_posts_sum : Stmt := top 76
theorem sc_posts_sum : FnScope ["twice"] [] (defScope s_posts_sum) := ⟨rfl, rfl, rfl, by decide +kernel, rfl, by decide +kernel, by decide +kernel⟩
abbrev s_posts_settled : Stmt := top 77
theorem sc_posts_settled : FnScope [] [] (defScope s_posts_settled) := ⟨rfl, rfl, rfl, by decide +kernel, rfl, by decide +kernel, by decide +kernel⟩
def RLf : List Dt → Dt → Prop := fun ds d => ∃ m : Nat, 2 ≤ m ∧ m ≤ 10 ∧ ds = [nD m] ∧ d = encE (lfS m (m - 1))
def RHs : List Dt → Dt → Prop := fun ds d => ∃ (ey : List (List Nat)) (m : Nat), Wok ey ∧ 2 ≤ m ∧ m ≤ 10 ∧ ds = [eyD ey, nD m] ∧ d = .tup [sysD (hueS ey m), goalD noneAlike]
def RPsy : List Dt → Dt → Prop := fun ds d => ∃ (ey : List (List Nat)), Wok ey ∧ ds = [eyD ey] ∧ d = .tup [sysD (postS ey), goalD posted]
def RC0 (d0 : Dt) : List Dt → Dt → Prop := fun ds d => ds = [] ∧ d = d0
section
variable {K : PySem.W.Frag} {σ : L2.St} {H : Hp} {ta : TA} {tw : TS} {D : Ends} {Ee : XK}
theorem tf_down {j n : Nat} (h : EvS K ta σ H [.int (n : Int), .int (-1), .int (-1)]) (hn : n ≤ 1000) (Pv : Nat → L2.St → Hp → Prop) (h0 : ∀ H1, Ex H H1 → Pv 0 σ H1)
    (hs : ∀ i σ' H', i < n + 1 → Pv i σ' H' → tw { D with nx := Pv (i + 1), ct := Pv (i + 1), bk := D.nx } (σ'.set j (some (.int ((n - i : Nat) : Int)))) H') (hd : ∀ σ' H', Pv (n + 1) σ' H' → D.nx σ' H') : tFor (iRng3 ta) (gName j) tw D σ H := h H (Ex.refl H) _ fun ws H1 e1 al => by
  obtain ⟨v, r, rfl, a1, al⟩ := al.of_cons
  obtain ⟨v2, r, rfl, a2, al⟩ := al.of_cons
  obtain ⟨v3, r, rfl, a3, al⟩ := al.of_cons
  obtain rfl := al.of_nil
  rw [a1.of_int, a2.of_int, a3.of_int]
  have e0 : ((n : Int) - -1).toNat = n + 1 := by omega
  refine ⟨(n : Int), -1, -1, n + 1, rfl, by rw [← e0]; exact RgC.neg (by omega) (by omega) (by omega) (by omega), for_rangeC (lo := (n : Int)) (c := -1) (n := n + 1) Pv (h0 H1 e1) (fun i σ' H' hi k => ?_) fun σ' H' k => hd σ' H' k⟩
  have e1 : ((n : Int) + (i : Nat) * (-1)) = ((n - i : Nat) : Int) := by omega
  rw [e1]
  exact hs i σ' H' hi k
theorem ed_call0 {R : List Dt → Dt → Prop} {d : Dt} (h : R [] d) : EvD K (tCall (spF K R) [] Ee tNil) σ H d := fun H1 e Q q => ⟨[], d, .nil, h, fun v H' e' a => q v H' e' a⟩
end
section
variable {P : Program} {w : World} {K : PySem.W.Frag} {mg : Str → Option Value} {base : Heap}
theorem ok_least_free (D : Df K mg "least_free" s_least_free ["many"]) (B : Bi mg) (G : MkT K mg) : Ok P w K mg base CX0 1 "least_free" ["many"] (spF K RLf) := by
  obtain ⟨u_NOUGHT, v_NOUGHT, m_NOUGHT, r_NOUGHT, a_NOUGHT⟩ := G.g_NOUGHT.ex
  obtain ⟨u_ITS, v_ITS, m_ITS, r_ITS, a_ITS⟩ := G.g_ITS.ex
  refine D.okF sc_least_free (fun ds d h => ?_) fun cdv A outer s H f ds d Q E hr h q => ?_
  · obtain ⟨_, _, _, rfl, _⟩ := h
    rfl
  · obtain ⟨m, h2, h10, rfl, rfl⟩ := h
    refine ⟨_, (pss_cons (ps_set (i := 1) sc_least_free.nd rfl (Or.inl rfl) (pe_tup (pa_cons pe_str (pa_cons (pe_op op_sub (pv 0) pe_int) pa_nil))))
    (pss_cons (ps_for PassesOwn.never rfl (pi_range3 rfl B.range (pa_cons (pe_op op_sub (pv 0) pe_int) (pa_cons (pe_un un_neg pe_int) (pa_cons (pe_un un_neg pe_int) pa_nil)))) (pg_name (i := 2) sc_least_free.nd rfl (Or.inl rfl)) (pss_cons (ps_set (i := 3) sc_least_free.nd rfl (Or.inl rfl) (pe_tup (pa_cons pe_str (pa_cons (pe_tup (pa_cons pe_str (pa_cons (pe_glob rfl m_ITS r_ITS) (pa_cons (pe_tup (pa_cons pe_str (pa_cons (pv 2) pa_nil))) pa_nil)))) pa_nil))))
      (pss_one (ps_set (i := 1) sc_least_free.nd rfl (Or.inl rfl) (pe_tup (pa_cons pe_str (pa_cons (pe_tup (pa_cons pe_str (pa_cons (pv 3) (pa_cons (pe_glob rfl m_NOUGHT r_NOUGHT) pa_nil)))) (pa_cons (pe_tup (pa_cons pe_str (pa_cons (pv 2) pa_nil))) (pa_cons (pv 1) pa_nil)))))))))
    (pss_one (ps_ret (pv 1))))), fun σ S => ?_⟩
    refine z_asg S (ed_tup (ds := [.str "num", .int ((m : Int) - 1)]) (es_cons ed_cS (es_one (ed_II (ed_var S rfl) ed_cI))) (Nat.le_of_ble_eq_true rfl)) fun σ1 H1 e1 S1 => ?_
    have em : ((m : Int) - 1) = ((m - 1 : Nat) : Int) := by omega
    rw [em] at S1
    refine q_for1 (tf_down (n := m - 2) (es_cons ((ed_II (ed_var S1 rfl) ed_cI).is (congrArg Dt.int (by omega))) (es_cons (ed_neg ed_cI) (es_one (ed_neg ed_cI)))) (by omega)
      (fun i σ' H' => Sg K H' σ' [.d (nD m), .d (encE (lfS m i)), .no, .no] ∧ Ex H H') (fun H2 e2 => ⟨S1.mono e2, e1.trans e2⟩) (fun i σ' H' hi k => ?_) fun σ' H' k => ?_)
    · obtain ⟨k1, k2⟩ := k
      have S2 := k1.setD (.int ((m - 2 - i : Nat) : Int)) 2
      refine z_asg S2 (ed_tup (ds := [.str "many", .tup [.str "like", encE (K9M.E.its), .tup [.str "num", nD (m - 2 - i)]]]) (es_cons ed_cS (es_one (ed_tup (ds := [.str "like", encE (K9M.E.its), .tup [.str "num", nD (m - 2 - i)]]) (es_cons ed_cS (es_cons (ed_cR a_ITS) (es_one (ed_tup (ds := [.str "num", nD (m - 2 - i)]) (es_cons ed_cS (es_one (ed_var S2 rfl))) (Nat.le_of_ble_eq_true rfl))))) (Nat.le_of_ble_eq_true rfl)))) (Nat.le_of_ble_eq_true rfl)) fun σ3 H3 e3 S3 => ?_
      refine y_asg S3 (ed_tup (ds := [.str "if", encE (takenE (m - 2 - i)), encE (eN (m - 2 - i)), encE (lfS m i)]) (es_cons ed_cS (es_cons (ed_tup (ds := [.str "like", encE (K9M.E.many (.like .its (eN (m - 2 - i)))), encE (eN 0)]) (es_cons ed_cS (es_cons (ed_var S3 rfl) (es_one (ed_cR a_NOUGHT)))) (Nat.le_of_ble_eq_true rfl)) (es_cons (ed_tup (ds := [.str "num", nD (m - 2 - i)]) (es_cons ed_cS (es_one (ed_var S3 rfl))) (Nat.le_of_ble_eq_true rfl)) (es_one (ed_var S3 rfl))))) (Nat.le_of_ble_eq_true rfl)) fun σ4 H4 e4 S4 => ⟨S4.less rfl fun i => ?_, (k2.trans e3).trans e4⟩
      match i with
      | 0 => rfl
      | 1 => rfl
      | 2 => trivial
      | 3 => trivial
      | n + 4 => trivial
    · obtain ⟨k1, k2⟩ := k
      have e9 : m - 2 + 1 = m - 1 := by omega
      rw [e9] at k1
      exact y_ret (D := { nx := fun _ H' => Q .non H', rt := Q }) (ed_var k1 rfl) fun v H4 e4 a => q v H4 (k2.trans e4) a
theorem ok_hues_system (D : Df K mg "hues_system" s_hues_system ["eyes", "many"]) (B : Bi mg) (G : MkT K mg) (O_least_free : Ok P w K mg base CX0 1 "least_free" ["many"] (spF K RLf)) : Ok P w K mg base CX0 2 "hues_system" ["eyes", "many"] (spF K RHs) := by
  obtain ⟨u_NOUGHT, v_NOUGHT, m_NOUGHT, r_NOUGHT, a_NOUGHT⟩ := G.g_NOUGHT.ex
  obtain ⟨u_ALIKE, v_ALIKE, m_ALIKE, r_ALIKE, a_ALIKE⟩ := G.g_ALIKE.ex
  obtain ⟨u_NONE_ALIKE, v_NONE_ALIKE, m_NONE_ALIKE, r_NONE_ALIKE, a_NONE_ALIKE⟩ := G.g_NONE_ALIKE.ex
  refine D.okF sc_hues_system (fun ds d h => ?_) fun cdv A outer s H f ds d Q E hr h q => ?_
  · obtain ⟨_, _, _, _, _, rfl, _⟩ := h
    rfl
  · obtain ⟨ey, m, W, h2, h10, rfl, rfl⟩ := h
    refine ⟨_, (pss_cons (ps_set (i := 2) sc_hues_system.nd rfl (Or.inl rfl) (pe_tup (pa_cons (pe_tup (pa_cons pe_str (pa_cons (pe_glob rfl m_NOUGHT r_NOUGHT) (pa_cons (pe_glob rfl m_ALIKE r_ALIKE) pa_nil)))) (pa_cons (pe_tup (pa_cons (pe_tup (pa_cons pe_int (pa_cons (pe_ok O_least_free hr rfl (pa_cons (pv 1) pa_nil)) pa_nil))) pa_nil)) pa_nil))))
    (pss_one (ps_ret (pe_tup (pa_cons (pe_tup (pa_cons (pv 0) (pa_cons (pe_tup (pa_cons (pv 1) pa_nil)) (pa_cons (pe_op op_repT (pe_tup (pa_cons pe_int pa_nil)) (pe_callB call_len_seq rfl B.len (by decide +kernel) (pa_cons (pv 0) pa_nil))) (pa_cons (pe_tup (pa_cons (pe_tup (pa_cons (pv 2) pa_nil)) pa_nil)) pa_nil))))) (pa_cons (pe_tup (pa_cons pe_str (pa_cons (pe_glob rfl m_NONE_ALIKE r_NONE_ALIKE) pa_nil))) pa_nil)))))), fun σ S => ?_⟩
    have L : ∀ {n : Nat}, n ≤ 5 → n ≤ 100000 := fun h => by omega
    refine z_asg S (ed_tup (ds := [encE (K9M.E.blw (eN 0) alike), .tup [.tup [nD 0, encE (lfS m (m - 1))]]]) (es_cons (ed_tup (ds := [.str "below", encE (eN 0), encE alike]) (es_cons ed_cS (es_cons (ed_cR a_NOUGHT) (es_one (ed_cR a_ALIKE)))) (Nat.le_of_ble_eq_true rfl)) (es_one (ed_tup (ds := [.tup [nD 0, encE (lfS m (m - 1))]]) (es_one (ed_tup (ds := [nD 0, encE (lfS m (m - 1))]) (es_cons ed_cI (es_one (ed_call (es_one (ed_var S rfl)) ⟨m, h2, h10, rfl, rfl⟩))) (Nat.le_of_ble_eq_true rfl))) (Nat.le_of_ble_eq_true rfl)))) (Nat.le_of_ble_eq_true rfl)) fun σ1 H1 e1 S1 => ?_
    refine y_ret (ed_tup (ds := [sysD (hueS ey m), goalD noneAlike]) (es_cons (ed_tup (ds := [eyD ey, boxD m, rowD (List.replicate ey.length 0), .tup [.tup [ruleD (.blw (eN 0) alike, lfS m (m - 1))]]]) (es_cons (ed_var S1 rfl) (es_cons (ed_tup (ds := [nD m]) (es_one (ed_var S1 rfl)) (Nat.le_of_ble_eq_true rfl)) (es_cons ((ed_rep (d := nD 0) (n := ey.length) (ed_tup (ds := [nD 0]) (es_one ed_cI) (Nat.le_of_ble_eq_true rfl)) ((ed_len (ds := ey.map rowD) (ed_var S1 rfl)).is (by rw [List.length_map])) W.two (by have := W.sm; omega)).is (by unfold rowD; rw [List.map_replicate]))
      (es_one (ed_tup (es_one (ed_tup (es_one (ed_var S1 rfl)) (Nat.le_of_ble_eq_true rfl))) (Nat.le_of_ble_eq_true rfl)))))) (Nat.le_of_ble_eq_true rfl)) (es_one (ed_tup (ds := [.str "every", encE noneAlike]) (es_cons ed_cS (es_one (ed_cR a_NONE_ALIKE))) (Nat.le_of_ble_eq_true rfl)))) (Nat.le_of_ble_eq_true rfl)) fun v H2 e2 a => q v H2 (e1.trans e2) a
theorem ok_posts_system (D : Df K mg "posts_system" s_posts_system ["eyes"]) (B : Bi mg) (G : MkT K mg) : Ok P w K mg base CX0 2 "posts_system" ["eyes"] (spF K RPsy) := by
  obtain ⟨u_NOUGHT, v_NOUGHT, m_NOUGHT, r_NOUGHT, a_NOUGHT⟩ := G.g_NOUGHT.ex
  obtain ⟨u_UNIT, v_UNIT, m_UNIT, r_UNIT, a_UNIT⟩ := G.g_UNIT.ex
  obtain ⟨u_POSTS, v_POSTS, m_POSTS, r_POSTS, a_POSTS⟩ := G.g_POSTS.ex
  obtain ⟨u_AT_POST, v_AT_POST, m_AT_POST, r_AT_POST, a_AT_POST⟩ := G.g_AT_POST.ex
  obtain ⟨u_NO_POSTS, v_NO_POSTS, m_NO_POSTS, r_NO_POSTS, a_NO_POSTS⟩ := G.g_NO_POSTS.ex
  obtain ⟨u_POSTED, v_POSTED, m_POSTED, r_POSTED, a_POSTED⟩ := G.g_POSTED.ex
  refine D.okF sc_posts_system (fun ds d h => ?_) fun cdv A outer s H f ds d Q E hr h q => ?_
  · obtain ⟨_, _, rfl, _⟩ := h
    rfl
  · obtain ⟨ey, W, rfl, rfl⟩ := h
    refine ⟨_, (pss_cons (ps_set (i := 1) sc_posts_system.nd rfl (Or.inl rfl) (pe_tup (pa_cons (pe_tup (pa_cons pe_str (pa_cons (pe_glob rfl m_AT_POST r_AT_POST) (pa_cons (pe_tup (pa_cons pe_str (pa_cons (pe_glob rfl m_NOUGHT r_NOUGHT) (pa_cons (pe_glob rfl m_POSTS r_POSTS) pa_nil)))) pa_nil)))) (pa_cons (pe_tup (pa_cons (pe_tup (pa_cons pe_int (pa_cons (pe_glob rfl m_NOUGHT r_NOUGHT) pa_nil))) pa_nil)) pa_nil))))
    (pss_cons (ps_set (i := 2) sc_posts_system.nd rfl (Or.inl rfl) (pe_tup (pa_cons (pe_tup (pa_cons pe_str (pa_cons (pe_tup (pa_cons pe_str (pa_cons (pe_glob rfl m_AT_POST r_AT_POST) pa_nil))) (pa_cons (pe_glob rfl m_NO_POSTS r_NO_POSTS) pa_nil)))) (pa_cons (pe_tup (pa_cons (pe_tup (pa_cons pe_int (pa_cons (pe_glob rfl m_UNIT r_UNIT) pa_nil))) pa_nil)) pa_nil))))
    (pss_one (ps_ret (pe_tup (pa_cons (pe_tup (pa_cons (pv 0) (pa_cons (pe_tup (pa_cons pe_int pa_nil)) (pa_cons (pe_op op_repT (pe_tup (pa_cons pe_int pa_nil)) (pe_callB call_len_seq rfl B.len (by decide +kernel) (pa_cons (pv 0) pa_nil))) (pa_cons (pe_tup (pa_cons (pe_tup (pa_cons (pv 1) (pa_cons (pv 2) pa_nil))) pa_nil)) pa_nil))))) (pa_cons (pe_tup (pa_cons pe_str (pa_cons (pe_glob rfl m_POSTED r_POSTED) pa_nil))) pa_nil))))))), fun σ S => ?_⟩
    have z1 : ∀ {x : Dt}, ([x] : List Dt).length ≤ 100000 := fun {x} => Nat.le_of_ble_eq_true rfl
    have z2 : ∀ {x y : Dt}, ([x, y] : List Dt).length ≤ 100000 := fun {x y} => Nat.le_of_ble_eq_true rfl
    have z3 : ∀ {x y z : Dt}, ([x, y, z] : List Dt).length ≤ 100000 := fun {x y z} => Nat.le_of_ble_eq_true rfl
    have z4 : ∀ {x y z w : Dt}, ([x, y, z, w] : List Dt).length ≤ 100000 := fun {x y z w} => Nat.le_of_ble_eq_true rfl
    refine z_asg S (ed_tup (ds := [encE (K9M.E.and atPost (.blw (eN 0) postsE)), .tup [.tup [nD 0, encE (eN 0)]]]) (es_cons (ed_tup (ds := [.str "and", encE atPost, encE (K9M.E.blw (eN 0) postsE)]) (es_cons ed_cS (es_cons (ed_cR a_AT_POST) (es_one (ed_tup (ds := [.str "below", encE (eN 0), encE postsE]) (es_cons ed_cS (es_cons (ed_cR a_NOUGHT) (es_one (ed_cR a_POSTS)))) z3)))) z3) (es_one (ed_tup (ds := [.tup [nD 0, encE (eN 0)]]) (es_one (ed_tup (ds := [nD 0, encE (eN 0)]) (es_cons ed_cI (es_one (ed_cR a_NOUGHT))) z2)) z1))) z2) fun σ1 H1 e1 S1 => ?_
    refine z_asg S1 (ed_tup (ds := [encE (K9M.E.and (.not atPost) noPosts), .tup [.tup [nD 0, encE (eN 1)]]]) (es_cons (ed_tup (ds := [.str "and", encE (K9M.E.not atPost), encE noPosts]) (es_cons ed_cS (es_cons (ed_tup (ds := [.str "not", encE atPost]) (es_cons ed_cS (es_one (ed_cR a_AT_POST))) z2) (es_one (ed_cR a_NO_POSTS)))) z3) (es_one (ed_tup (ds := [.tup [nD 0, encE (eN 1)]]) (es_one (ed_tup (ds := [nD 0, encE (eN 1)]) (es_cons ed_cI (es_one (ed_cR a_UNIT))) z2)) z1))) z2) fun σ2 H2 e2 S2 => ?_
    refine y_ret (ed_tup (ds := [sysD (postS ey), goalD posted]) (es_cons (ed_tup (ds := [eyD ey, boxD 2, rowD (List.replicate ey.length 0), .tup [.tup [ruleD (.and atPost (.blw (eN 0) postsE), eN 0), ruleD (.and (.not atPost) noPosts, eN 1)]]]) (es_cons (ed_var S2 rfl) (es_cons (ed_tup (ds := [nD 2]) (es_one ed_cI) z1) (es_cons ((ed_rep (d := nD 0) (n := ey.length) (ed_tup (ds := [nD 0]) (es_one ed_cI) z1) ((ed_len (ds := ey.map rowD) (ed_var S2 rfl)).is (by rw [List.length_map])) W.two (by have := W.sm; omega)).is (by unfold rowD; rw [List.map_replicate]))
      (es_one (ed_tup (es_one (ed_tup (es_cons (ed_var S2 rfl) (es_one (ed_var S2 rfl))) z2)) z1))))) z4) (es_one (ed_tup (ds := [.str "every", encE posted]) (es_cons ed_cS (es_one (ed_cR a_POSTED))) z2))) z2) fun v H3 e3 a => q v H3 ((e1.trans e2).trans e3) a
theorem ok_hues_sum (D : Df K mg "hues_sum" s_hues_sum []) (G : MkT K mg) : Ok P w K mg base CX0 1 "hues_sum" [] (spF K (RC0 (sumD (eN 0) hueP))) := by
  obtain ⟨u_NOUGHT, v_NOUGHT, m_NOUGHT, r_NOUGHT, a_NOUGHT⟩ := G.g_NOUGHT.ex
  obtain ⟨u_UNIT, v_UNIT, m_UNIT, r_UNIT, a_UNIT⟩ := G.g_UNIT.ex
  obtain ⟨u_LIKE_OWN, v_LIKE_OWN, m_LIKE_OWN, r_LIKE_OWN, a_LIKE_OWN⟩ := G.g_LIKE_OWN.ex
  refine D.okF sc_hues_sum (fun ds d h => by obtain ⟨rfl, _⟩ := h; rfl) fun cdv A outer s H f ds d Q E hr h q => ?_
  obtain ⟨rfl, rfl⟩ := h
  refine ⟨_, (pss_one (ps_ret (pe_tup (pa_cons (pe_tup (pa_cons (pe_glob rfl m_NOUGHT r_NOUGHT) (pa_cons (pe_tup (pa_cons pe_str (pa_cons (pe_glob rfl m_LIKE_OWN r_LIKE_OWN) (pa_cons (pe_glob rfl m_UNIT r_UNIT) (pa_cons (pe_glob rfl m_NOUGHT r_NOUGHT) pa_nil))))) pa_nil))) pa_nil)))), fun σ S => ?_⟩
  exact y_ret (ed_tup (ds := [shD (eN 0) hueP]) (es_one (ed_tup (ds := [encE (eN 0), encE hueP]) (es_cons (ed_cR a_NOUGHT) (es_one (ed_tup (ds := [.str "if", encE likeOwn, encE (eN 1), encE (eN 0)]) (es_cons ed_cS (es_cons (ed_cR a_LIKE_OWN) (es_cons (ed_cR a_UNIT) (es_one (ed_cR a_NOUGHT))))) (Nat.le_of_ble_eq_true rfl)))) (Nat.le_of_ble_eq_true rfl))) (Nat.le_of_ble_eq_true rfl)) q
theorem ok_hues_settled (D : Df K mg "hues_settled" s_hues_settled []) (G : MkT K mg) : Ok P w K mg base CX0 1 "hues_settled" [] (spF K (RC0 (stlD noneAlike))) := by
  obtain ⟨u_NONE_ALIKE, v_NONE_ALIKE, m_NONE_ALIKE, r_NONE_ALIKE, a_NONE_ALIKE⟩ := G.g_NONE_ALIKE.ex
  refine D.okF sc_hues_settled (fun ds d h => by obtain ⟨rfl, _⟩ := h; rfl) fun cdv A outer s H f ds d Q E hr h q => ?_
  obtain ⟨rfl, rfl⟩ := h
  refine ⟨_, (pss_one (ps_ret (pe_tup (pa_cons (pe_glob rfl m_NONE_ALIKE r_NONE_ALIKE) pa_nil)))), fun σ S => ?_⟩
  exact y_ret (ed_tup (ds := [encE noneAlike]) (es_one (ed_cR a_NONE_ALIKE)) (Nat.le_of_ble_eq_true rfl)) q
theorem ok_posts_settled (D : Df K mg "posts_settled" s_posts_settled []) (G : MkT K mg) : Ok P w K mg base CX0 1 "posts_settled" [] (spF K (RC0 (stlD posted))) := by
  obtain ⟨u_POSTED, v_POSTED, m_POSTED, r_POSTED, a_POSTED⟩ := G.g_POSTED.ex
  refine D.okF sc_posts_settled (fun ds d h => by obtain ⟨rfl, _⟩ := h; rfl) fun cdv A outer s H f ds d Q E hr h q => ?_
  obtain ⟨rfl, rfl⟩ := h
  refine ⟨_, (pss_one (ps_ret (pe_tup (pa_cons (pe_glob rfl m_POSTED r_POSTED) pa_nil)))), fun σ S => ?_⟩
  exact y_ret (ed_tup (ds := [encE posted]) (es_one (ed_cR a_POSTED)) (Nat.le_of_ble_eq_true rfl)) q
theorem ok_posts_sum (D : Df K mg "posts_sum" s_posts_sum []) (G : MkT K mg) : Ok P w K mg base CX0 1 "posts_sum" [] (spF K (RC0 (sumD postT (eN 0)))) := by
  obtain ⟨u_NOUGHT, v_NOUGHT, m_NOUGHT, r_NOUGHT, a_NOUGHT⟩ := G.g_NOUGHT.ex
  obtain ⟨u_UNIT, v_UNIT, m_UNIT, r_UNIT, a_UNIT⟩ := G.g_UNIT.ex
  obtain ⟨u_POSTS, v_POSTS, m_POSTS, r_POSTS, a_POSTS⟩ := G.g_POSTS.ex
  obtain ⟨u_AT_POST, v_AT_POST, m_AT_POST, r_AT_POST, a_AT_POST⟩ := G.g_AT_POST.ex
  obtain ⟨u_NO_POSTS, v_NO_POSTS, m_NO_POSTS, r_NO_POSTS, a_NO_POSTS⟩ := G.g_NO_POSTS.ex
  refine D.okF sc_posts_sum (fun ds d h => by obtain ⟨rfl, _⟩ := h; rfl) fun cdv A outer s H f ds d Q E hr h q => ?_
  obtain ⟨rfl, rfl⟩ := h
  refine ⟨_, (pss_cons (ps_set (i := 0) sc_posts_sum.nd rfl (Or.inl rfl) (pe_tup (pa_cons pe_str (pa_cons (pe_glob rfl m_POSTS r_POSTS) (pa_cons (pe_glob rfl m_POSTS r_POSTS) pa_nil)))))
    (pss_one (ps_ret (pe_tup (pa_cons (pe_tup (pa_cons (pe_tup (pa_cons pe_str (pa_cons (pe_glob rfl m_AT_POST r_AT_POST) (pa_cons (pe_tup (pa_cons pe_str (pa_cons (pv 0) (pa_cons (pv 0) pa_nil)))) (pa_cons (pe_tup (pa_cons pe_str (pa_cons (pe_glob rfl m_NO_POSTS r_NO_POSTS) (pa_cons (pe_glob rfl m_UNIT r_UNIT) (pa_cons (pe_glob rfl m_NOUGHT r_NOUGHT) pa_nil))))) pa_nil))))) (pa_cons (pe_glob rfl m_NOUGHT r_NOUGHT) pa_nil))) pa_nil))))), fun σ S => ?_⟩
  refine z_asg S (ed_tup (ds := [.str "plus", encE postsE, encE postsE]) (es_cons ed_cS (es_cons (ed_cR a_POSTS) (es_one (ed_cR a_POSTS)))) (Nat.le_of_ble_eq_true rfl)) fun σ1 H1 e1 S1 => ?_
  exact y_ret (ed_tup (ds := [shD postT (eN 0)]) (es_one (ed_tup (ds := [encE postT, encE (eN 0)]) (es_cons (ed_tup (ds := [.str "if", encE atPost, encE (K9M.E.plus twice twice), encE (K9M.E.ite noPosts (eN 1) (eN 0))]) (es_cons ed_cS (es_cons (ed_cR a_AT_POST) (es_cons (ed_tup (ds := [.str "plus", encE twice, encE twice]) (es_cons ed_cS (es_cons (ed_var S1 rfl) (es_one (ed_var S1 rfl)))) (Nat.le_of_ble_eq_true rfl)) (es_one (ed_tup (ds := [.str "if", encE noPosts, encE (eN 1), encE (eN 0)]) (es_cons ed_cS (es_cons (ed_cR a_NO_POSTS) (es_cons (ed_cR a_UNIT) (es_one (ed_cR a_NOUGHT))))) (Nat.le_of_ble_eq_true rfl)))))) (Nat.le_of_ble_eq_true rfl)) (es_one (ed_cR a_NOUGHT))) (Nat.le_of_ble_eq_true rfl))) (Nat.le_of_ble_eq_true rfl)) fun v H2 e2 a => q v H2 (e1.trans e2) a
end
end K9
end
section
set_option maxHeartbeats 1000000
/-! K9G: the feed and its draws. -/
namespace K9
open PySem PySem.Spec PyProof.Rows L2 Evl K9M RZ
/-- the feed: at most n draws were made of it -/
structure FdX (H : Hp) (fa ca : Addr) (cs : List Int) (at_ : Nat) (left : Int) : Prop where
  f : H fa = some (.lst [.ref ca, .int (at_ : Int), .int left])
  c : H ca = some (.lst (cs.map V.int))
  l : 0 ≤ left
theorem FdX.ne {H : Hp} {fa ca : Addr} {cs : List Int} {a : Nat} {left : Int} (h : FdX H fa ca cs a left) : ca ≠ fa := fun z => by
  have h1 := h.c
  rw [z, h.f] at h1
  have h2 : [V.ref ca, .int (a : Int), .int left] = cs.map V.int := by
    injection h1 with h1
    injection h1
  cases cs with
  | nil => cases h2
  | cons c cs =>
    rw [List.map_cons] at h2
    exact nomatch (List.cons.inj h2).1
def Fd (H : Hp) (fa ca : Addr) (n : Nat) : Prop := ∃ cs a left, FdX H fa ca cs a left ∧ a ≤ n
theorem Fd.ex {H H' : Hp} {fa ca : Addr} {n : Nat} (h : Fd H fa ca n) (e : Ex H H') : Fd H' fa ca n := by
  obtain ⟨cs, a, left, h, hn⟩ := h
  exact ⟨cs, a, left, ⟨e _ _ h.f, e _ _ h.c, h.l⟩, hn⟩
theorem Fd.le {H : Hp} {fa ca : Addr} {n m : Nat} (h : Fd H fa ca n) (e : n ≤ m) : Fd H fa ca m := by
  obtain ⟨cs, a, left, h, hn⟩ := h
  exact ⟨cs, a, left, h, Nat.le_trans hn e⟩
theorem Fd.lst {H : Hp} {fa ca : Addr} {n : Nat} (h : Fd H fa ca n) : ∃ xs, H fa = some (.lst xs) := by
  obtain ⟨cs, a, left, h, hn⟩ := h
  exact ⟨_, h.f⟩
/-- more draws than are ever made -/
abbrev BB : Nat := 1000000000
def spD (K : PySem.W.Frag) (R : List Dt → Nat → (Dt → Prop) → Prop) : Sp := fun vs H Q _ => ∃ fa ca us ds n c G, vs = .ref fa :: us ∧ AtL K H us ds ∧ Fd H fa ca n ∧ R ds c G ∧ n + c ≤ BB ∧ ∀ d v H', G d → ExF fa H H' → Fd H' fa ca (n + c) → At K H' v d → Q v H'
/-- at any heap behind H0 but for the feed -/
def EvF (K : PySem.W.Frag) (fa ca : Addr) (te : TE) (σ : L2.St) (H0 : Hp) (c : Nat) (G : Dt → Prop) : Prop := ∀ H n, ExF fa H0 H → Fd H fa ca n → n + c ≤ BB → ∀ Q : VK, (∀ d v H', G d → ExF fa H H' → Fd H' fa ca (n + c) → At K H' v d → Q v H') → te σ H Q
def EvFS (K : PySem.W.Frag) (fa ca : Addr) (ta : TA) (σ : L2.St) (H0 : Hp) (c : Nat) (G : List Dt → Prop) : Prop := ∀ H n, ExF fa H0 H → Fd H fa ca n → n + c ≤ BB → ∀ Q : List V → Hp → Prop, (∀ ds vs H', G ds → ExF fa H H' → Fd H' fa ca (n + c) → AtL K H' vs ds → Q vs H') → ta σ H Q
theorem ExF.refl {fa : Addr} {H : Hp} : ExF fa H H := fun _ _ _ h => h
theorem Fd.tk {K : PySem.W.Frag} {H H' : Hp} {fa ca : Addr} {n : Nat} (h : Fd H fa ca n) (e : ExF fa H H') : TKp K H H' := by
  obtain ⟨xs, hx⟩ := h.lst
  exact .exF hx e
section
variable {K : PySem.W.Frag} {fa ca : Addr} {σ : L2.St} {H H' : Hp} {ta tb te tl tx : TE} {t : TT} {d : Dt} {ds : List Dt} {D : Ends} {tu tw tz : TS} {l : List Sl} {c c1 c2 n : Nat} {G G1 G2 : Dt → Prop} {Ee : XK}
theorem ef_d (h : ∀ H1, ExF fa H H1 → EvD K te σ H1 d) (hG : G d) : EvF K fa ca te σ H c G := fun H1 n e0 F hn Q q => h H1 e0 H1 (Ex.refl _) _ fun v H2 e a => q d v H2 hG (ExF.ex e) ((F.ex e).le (Nat.le_add_right _ _)) a
theorem EvF.mono (h : EvF K fa ca te σ H c G) (e : ExF fa H H') : EvF K fa ca te σ H' c G := fun H1 n e0 F hn Q q => h H1 n (e.trans e0) F hn Q q
theorem ef_le (h : EvF K fa ca te σ H c1 G1) (hc : c1 ≤ c2) (hG : ∀ d, G1 d → G2 d) : EvF K fa ca te σ H c2 G2 := fun H1 n e0 F hn Q q => h H1 n e0 F (by omega) _ fun d v H1 g e F1 a => q d v H1 (hG d g) e (F1.le (by omega)) a
theorem efs_le {ta : TA} {G1 G2 : List Dt → Prop} (h : EvFS K fa ca ta σ H c1 G1) (hc : c1 ≤ c2) (hG : ∀ d, G1 d → G2 d) : EvFS K fa ca ta σ H c2 G2 := fun H1 n e0 F hn Q q => h H1 n e0 F (by omega) _ fun d v H1 g e F1 a => q d v H1 (hG d g) e (F1.le (by omega)) a
theorem efs_nil : EvFS K fa ca tNil σ H c (fun ds => ds = []) := fun H1 n e0 F hn Q q => q [] [] H1 rfl ExF.refl (F.le (Nat.le_add_right _ _)) .nil
theorem efs_cons {tr : TA} {G2 : List Dt → Prop} (h : EvF K fa ca ta σ H c1 G1) (hr : EvFS K fa ca tr σ H c2 G2) : EvFS K fa ca (tCons ta tr) σ H (c1 + c2) (fun ds => ∃ d r, ds = d :: r ∧ G1 d ∧ G2 r) := fun H0 n e0 F hn Q q =>
  h H0 n e0 F (by omega) _ fun d v H1 g e F1 a => hr H1 (n + c1) (e0.trans e) F1 (by omega) _ fun r vs H2 g2 e2 F2 as => q (d :: r) (v :: vs) H2 ⟨d, r, rfl, g, g2⟩ (e.trans e2) (by rw [← Nat.add_assoc]; exact F2) (.cons (a.tk (F1.tk e2)) as)
theorem ef_tup {ta : TA} {G : List Dt → Prop} (h : EvFS K fa ca ta σ H c G) (hl : ∀ ds, G ds → ds.length ≤ 100) : EvF K fa ca (tTup ta) σ H c (fun d => ∃ ds, d = .tup ds ∧ G ds) := fun H0 n e0 F hn Q q =>
  h H0 n e0 F hn _ fun ds vs H1 g e F1 a => ⟨sz_of (by rw [a.len]; have := hl ds g; omega), fun p hp => q (.tup ds) _ _ ⟨ds, rfl, g⟩ (e.trans (ExF.ex (Ex.new hp))) (F1.ex (Ex.new hp)) (.tup (st_of upd_same) (a.mono (Ex.new hp)))⟩
theorem ef_call {R : List Dt → Nat → (Dt → Prop) → Prop} {i : Nat} {ta : TA} {Ga : List Dt → Prop} (S : Sg K H σ l) (hi : l[i]? = some (.v (.ref fa))) (h : EvFS K fa ca ta σ H c1 Ga) (hR : ∀ ds, Ga ds → R ds c2 G) : EvF K fa ca (tCall (spD K R) [] Ee (tCons (tVar i) ta)) σ H (c1 + c2) G := fun H0 n e0 F hn Q q =>
  ⟨_, S.val hi, h H0 n e0 F (by omega) _ fun ds vs H1 g e F1 a => by
    show spD K R ((V.ref fa :: vs) ++ []) H1 Q Ee
    rw [List.append_nil]
    exact ⟨fa, ca, vs, ds, n + c1, c2, G, rfl, a, F1, hR ds g, by omega, fun d v H2 gd e2 F2 av => q d v H2 gd (e.trans e2) (by rw [← Nat.add_assoc]; exact F2) av⟩⟩
/-- args that draw nothing -/
theorem efs_d {ta : TA} (h : ∀ H1, ExF fa H H1 → EvS K ta σ H1 ds) : EvFS K fa ca ta σ H c (fun l => l = ds) := fun H1 n e0 F hn Q q => h H1 e0 H1 (Ex.refl _) _ fun vs H2 e a => q ds vs H2 rfl (ExF.ex e) ((F.ex e).le (Nat.le_add_right _ _)) a
/-! statements -/
theorem zf_asg {i : Nat} (S : Sg K H σ l) (F : Fd H fa ca n) (h : EvF K fa ca te σ H c G) (hn : n + c ≤ BB) (k : ∀ d σ' H1, G d → ExF fa H H1 → Fd H1 fa ca (n + c) → Sg K H1 σ' (l.set i (.d d)) → tz D σ' H1) : tSeq (tAsg te (gName i)) tz D σ H :=
  h H n ExF.refl F hn _ fun d v H1 g e F1 a => k d _ H1 g e F1 ((S.tk (F.tk e)).setD a i)
theorem yf_ret (F : Fd H fa ca n) (h : EvF K fa ca te σ H c G) (hn : n + c ≤ BB) (k : ∀ d v H1, G d → ExF fa H H1 → Fd H1 fa ca (n + c) → At K H1 v d → D.rt v H1) : tRet te D σ H := h H n ExF.refl F hn _ k
theorem zf_if (S : Sg K H σ l) (F : Fd H fa ca n) (h : EvF K fa ca te σ H c G) (hG : ∀ d, G d → ∃ b, d = .bl b) (hn : n + c ≤ BB) (h1 : ∀ H1, G (.bl true) → ExF fa H H1 → Fd H1 fa ca (n + c) → Sg K H1 σ l → tu { D with nx := tz D } σ H1) (h2 : ∀ H1, G (.bl false) → ExF fa H H1 → Fd H1 fa ca (n + c) → Sg K H1 σ l → tz D σ H1) :
    tSeq (tIfS (tTest te) tu tNext) tz D σ H := h H n ExF.refl F hn _ fun d v H1 g e F1 a => by
  obtain ⟨b, rfl⟩ := hG d g
  refine ⟨b, a.of_bl, ?_⟩
  have S1 := S.tk (F.tk e)
  cases b with
  | true => exact h1 H1 g e F1 S1
  | false => exact h2 H1 g e F1 S1
theorem ef_eqI {k : Int} (h : EvF K fa ca te σ H c G) (hG : ∀ d, G d → ∃ i : Int, d = .int i) : EvF K fa ca (tOp rEq te (tC (.int k))) σ H c (fun d => ∃ b, d = .bl b) := fun H0 n e0 F hn Q q => h H0 n e0 F hn _ fun d v H1 g e F1 a => by
  obtain ⟨i, rfl⟩ := hG d g
  rw [a.of_int]
  exact ⟨rfl, q (.bl _) _ H1 ⟨_, rfl⟩ e F1 (.bl _)⟩
theorem ef_op {r : R2} {GG : Dt → Prop} (ha : EvF K fa ca ta σ H c1 G1) (hb : EvF K fa ca tb σ H c2 G2) (hr : ∀ d1 d2 v w H Q, G1 d1 → G2 d2 → At K H v d1 → At K H w d2 → (∀ d z H', GG d → Ex H H' → At K H' z d → Q z H') → r v w H Q) : EvF K fa ca (tOp r ta tb) σ H (c1 + c2) GG := fun H0 n e0 F hn Q q =>
  ha H0 n e0 F (by omega) _ fun d v H1 g e F1 a => hb H1 (n + c1) (e0.trans e) F1 (by omega) _ fun d2 w H2 g2 e2 F2 b => hr d d2 v w H2 Q g g2 (a.tk (F1.tk e2)) b fun d3 z H3 g3 e3 a3 => q d3 z H3 g3 ((e.trans e2).trans (ExF.ex e3)) (by rw [← Nat.add_assoc]; exact F2.ex e3) a3
theorem fresh_backF {p : Addr} (F' : Fd H' fa ca n) (e : ExF fa H H') (h : H' p = none) : H p = none := by
  cases hp : H p with
  | none => rfl
  | some o =>
    by_cases hf : p = fa
    · obtain ⟨xs, hx⟩ := F'.lst
      rw [hf, hx] at h
      cases h
    · rw [e p o hf hp] at h
      cases h
theorem ne_feed {p : Addr} {o : HO} (F : Fd H fa ca n) (h : H p = none) : p ≠ fa := fun z => by
  obtain ⟨xs, hx⟩ := F.lst
  rw [z, hx] at h
  cases h
/-- x = [.., ..] with draws within -/
theorem zf_lst {i : Nat} {ta : TA} {G : List Dt → Prop} (S : Sg K H σ l) (F : Fd H fa ca n) (h : EvFS K fa ca ta σ H c G) (hn : n + c ≤ BB) (hl : ∀ ds, G ds → ds.length ≤ 100)
    (k : ∀ ds p xs σ' H1, G ds → ExF fa H H1 → Fd H1 fa ca (n + c) → H p = none → p ≠ fa → H1 p = some (.lst xs) → AtL K H1 xs ds → Sg K H1 σ' (l.set i (.v (.ref p))) → tz D σ' H1) : tSeq (tAsg (tLst ta) (gName i)) tz D σ H :=
  h H n ExF.refl F hn _ fun ds vs H1 g e F1 a => ⟨sz_of (by rw [a.len]; have := hl ds g; omega), fun p hp =>
    k ds p vs _ _ g (e.trans (ExF.ex (Ex.new hp))) (F1.ex (Ex.new hp)) (fresh_backF F1 e hp) (ne_feed (o := .lst []) F1 hp) upd_same (a.mono (Ex.new hp)) ((S.tk (F.tk (e.trans (ExF.ex (Ex.new hp))))).setV _ i)⟩
/-- a list display indexed by a draw, or at a place -/
theorem ef_pickD {ta : TA} {GL : List Dt → Prop} (h : EvFS K fa ca ta σ H c1 GL) (hl : ∀ ds, GL ds → ds.length ≤ 100) (hb : EvF K fa ca tb σ H c2 G2) (hG : ∀ ds d, GL ds → G2 d → ∃ i : Nat, d = nD i ∧ ∃ x, ds[i]? = some x ∧ G x) : EvF K fa ca (tOp (rIxL K) (tLst ta) tb) σ H (c1 + c2) G := fun H0 n e0 F hn Q q =>
  h H0 n e0 F (by omega) _ fun ds vs H1 g e F1 a => ⟨sz_of (by rw [a.len]; have := hl ds g; omega), fun p hp => by
    have e2 : ExF fa H1 (upd H1 p (.lst vs)) := ExF.ex (Ex.new hp)
    refine hb (upd H1 p (.lst vs)) (n + c1) ((e0.trans e).trans e2) (F1.ex (Ex.new hp)) (by omega) _ fun d w H3 g3 e3 F3 a3 => ?_
    obtain ⟨i, rfl, x, hx, gx⟩ := hG ds d g g3
    have hpf : p ≠ fa := ne_feed (o := .lst []) F1 hp
    have h3 : H3 p = some (.lst vs) := e3 _ _ hpf upd_same
    obtain ⟨v, hv, av⟩ := ((a.mono (Ex.new hp)).tk ((F1.ex (Ex.new hp)).tk e3)).get hx
    rw [a3.of_int]
    exact ⟨p, vs, (i : Int), v, rfl, rfl, sq_of h3, atI_n hv, q x v H3 gx ((e.trans e2).trans e3) (by rw [← Nat.add_assoc]; exact F3) av⟩⟩
/-- some[draw]: some a standing list -/
theorem ef_pickL {i : Nat} {p : Addr} {vs : List V} (S : Sg K H σ l) (F0 : Fd H fa ca n) (hi : l[i]? = some (.v (.ref p))) (hp : H p = some (.lst vs)) (hpf : p ≠ fa) (al : AtL K H vs ds) (hb : EvF K fa ca tb σ H c G2) (hG : ∀ d, G2 d → ∃ j : Nat, d = nD j ∧ ∃ x, ds[j]? = some x ∧ G x) : EvF K fa ca (tOp (rIxL K) (tVar i) tb) σ H c G := fun H0 m e0 F hn Q q =>
  ⟨_, S.val hi, hb H0 m e0 F hn _ fun d w H3 g3 e3 F3 a3 => by
    obtain ⟨j, rfl, x, hx, gx⟩ := hG d g3
    have h3 : H3 p = some (.lst vs) := e3 _ _ hpf (e0 _ _ hpf hp)
    obtain ⟨v, hv, av⟩ := ((al.tk (F0.tk e0)).tk (F.tk e3)).get hx
    rw [a3.of_int]
    exact ⟨p, vs, (j : Int), v, rfl, rfl, sq_of h3, atI_n hv, q x v H3 gx e3 F3 av⟩⟩
end
section
variable {P : Program} {w : World} {K : PySem.W.Frag} {mg : Str → Option Value} {base : Heap} {k : Nat} {x : Str} {st : Stmt} {N ps : List Str}
theorem sg_startF {K : PySem.W.Frag} {H : Hp} {N : List Str} {us : List V} {ds : List Dt} {v : V} (h : AtL K H us ds) : Sg K H (L2.start N (v :: us)) (.v v :: (ds.map .d ++ List.replicate (N.length - (ds.length + 1)) .no)) := by
  have e1 : N.length - (ds.length + 1) = N.length - (v :: us).length := by
    show _ = N.length - (us.length + 1)
    rw [h.len]
  unfold L2.start
  rw [← e1, List.map_cons, List.cons_append]
  generalize N.length - (ds.length + 1) = n
  have go : ∀ {vs : List V} {ds : List Dt}, AtL K H vs ds → Sg K H (vs.map some ++ List.replicate n none) (ds.map .d ++ List.replicate n .no) := by
    intro vs
    induction vs with
    | nil => intro ds h; cases h; exact Sg.nones n
    | cons v vs ih => intro ds h; cases h with | cons h t => exact .d h (ih t)
  exact .v _ (go h)
theorem Df.okD {R : List Dt → Nat → (Dt → Prop) → Prop} {p0 : Str} (D : Df K mg x st (p0 :: ps)) (S : FnScope N (p0 :: ps) (defScope st)) (len : ∀ ds c d, R ds c d → ds.length = ps.length)
    (hb : ∀ (cdv : Value) (A : Around) (outer : List PySem.Env) (s : Shared) (H : Hp) (f fa ca : Addr) (ds : List Dt) (n c : Nat) (G : Dt → Prop) (Q : VK) (E : XK), Room k (A.deeper (envOfC x (defScope st) s.heap.objs.size f cdv)) → R ds c G → Fd H fa ca n → n + c ≤ BB → (∀ d v H', G d → ExF fa H H' → Fd H' fa ca (n + c) → At K H' v d → Q v H') →
      ∃ t, PSs (cxOf CX0 P w K mg base N x (defScope st) f cdv A outer s H E).nox (defBody st) t ∧ ∀ σ, Sg K H σ (.v (.ref fa) :: (ds.map .d ++ List.replicate (N.length - (ds.length + 1)) .no)) → t { nx := fun _ H' => Q .non H', rt := Q } σ H) :
    Ok P w K mg base CX0 (k + 1) x (p0 :: ps) (spD K R) := by
  obtain ⟨f, fd, hm, b, F⟩ := D.ex
  refine ⟨f, fd, hm, F.kp, b, F.ok S (fun vs H Q E h => ?_) (fun cdv A outer s H vs Q E hr h => ?_)⟩
  · obtain ⟨fa, ca, us, ds, n, c, G, rfl, l, _, hR, _⟩ := h
    show us.length + 1 = ps.length + 1
    rw [l.len, len ds c G hR]
  · obtain ⟨fa, ca, us, ds, n, c, G, rfl, l, hF, hR, hn, q⟩ := h
    obtain ⟨t, h1, h2⟩ := hb cdv A outer s H f fa ca ds n c G Q E hr hR hF hn q
    exact ⟨t, h1, h2 _ (sg_startF l)⟩
end
/-! ### draw -/
abbrev s_l_draw : Stmt := top 80
theorem sc_l_draw : FnScope ["_law_feed_here", "_law_many", "_law_found", "_law_at", "_law_cell", "_law_mixed"] ["_law_feed_here", "_law_many"] (defScope s_l_draw) := ⟨rfl, rfl, rfl, by decide +kernel, rfl, by decide +kernel, by decide +kernel⟩
def GDr (m : Nat) : Dt → Prop := fun d => ∃ r : Nat, r < m ∧ d = nD r
def RDr : List Dt → Nat → (Dt → Prop) → Prop := fun ds c G => ∃ m : Nat, 1 ≤ m ∧ m ≤ 1000 ∧ ds = [nD m] ∧ c = 1 ∧ G = GDr m
theorem gdr_mod {m : Nat} (h : 1 ≤ m) (i : Int) : GDr m (.int (i % (m : Int))) := by
  have h1 := Int.emod_nonneg i (show (m : Int) ≠ 0 by omega)
  have h2 := Int.emod_lt_of_pos i (show (0 : Int) < (m : Int) by omega)
  refine ⟨(i % (m : Int)).toNat, by omega, ?_⟩
  show Dt.int _ = Dt.int _
  rw [Int.toNat_of_nonneg h1]
theorem eqv_nil (ns : List Int) : (!PyData.eqv (.list (ns.map .int)) (.list [])) = !ns.isEmpty := by
  cases ns <;> rfl
theorem lay_ints : ∀ ns : List Int, PyData.canLayAll0 (ns.map .int) = true
  | [] => rfl
  | n :: ns => by
    have := lay_ints ns
    show (PyData.canLay0 (.int n) && PyData.canLayAll0 (ns.map .int)) = true
    rw [this]
    rfl
theorem shaped_ints (ns : List Int) : SeqAt.shaped (.list (ns.map .int)) = true := by
  unfold SeqAt.shaped
  rw [Bool.and_eq_true, decide_eq_true_eq]
  refine ⟨lay_ints ns, ?_⟩
  have := depth_ints ns
  show PyData.depthAll (ns.map .int) + 1 ≤ 64
  omega
theorem dp_ints {K : PySem.W.Frag} {H : Hp} : ∀ ns : List Int, DpAll K H (ns.map V.int) (ns.map .int)
  | [] => .nil
  | n :: ns => .cons (.int n) (dp_ints ns)
section
variable {K : PySem.W.Frag} {fa ca : Addr} {σ : L2.St} {H H' : Hp} {ta tb te : TE} {D : Ends} {tw tz : TS} {l : List Sl} {cs : List Int} {a : Nat} {left : Int}
theorem ev_fd {i j : Nat} {v : V} (S : Sg K H σ l) (hi : l[i]? = some (.v (.ref fa))) (F : FdX H fa ca cs a left) (hj : ([V.ref ca, .int (a : Int), .int left] : List V)[j]? = some v) : Ev (tOp (rIxL K) (tVar i) (tC (.int (j : Int)))) σ H v := fun H1 e Q q =>
  ⟨_, S.val hi, fa, _, (j : Int), v, rfl, rfl, sq_of (e _ _ F.f), atI_n hj, q H1 (Ex.refl _)⟩
theorem ed_fdl {i : Nat} (S : Sg K H σ l) (hi : l[i]? = some (.v (.ref fa))) (F : FdX H fa ca cs a left) : EvD K (tCB (rLn K) (tCons (tOp (rIxL K) (tVar i) (tC (.int ((0 : Nat) : Int)))) tNil)) σ H (.int (cs.length : Int)) := fun H1 e Q q =>
  ev_fd (j := 0) S hi F rfl H1 e _ fun H2 e2 => ⟨ca, _, rfl, .inl (sq_of ((e.trans e2) _ _ F.c)), by rw [List.length_map]; exact q _ H2 e2 (.int _)⟩
theorem z_fdset {i j : Nat} {x : Int} (S : Sg K H σ l) (hi : l[i]? = some (.v (.ref fa))) (F : FdX H fa ca cs a left) (hj : j < 3) (h : EvD K te σ H (.int x))
    (k : ∀ H1, ExF fa H H1 → H1 fa = some (.lst ([.ref ca, .int (a : Int), .int left].set j (.int x))) → H1 ca = some (.lst (cs.map V.int)) → Sg K H1 σ l → tz D σ H1) : tSeq (tAsg te (gSub (tVar i) (tC (.int (j : Int))) L2.rSetL)) tz D σ H := by
  refine h H (Ex.refl _) _ fun v H1 e1 av => ⟨_, S.val hi, fa, _, (j : Int), j, rfl, rfl, e1 _ _ F.f, ixN_nat hj, ?_⟩
  rw [av.of_int]
  have eF : ExF fa H1 (upd H1 fa (.lst ([.ref ca, .int (a : Int), .int left].set j (.int x)))) := ExF.upd _ _ _
  exact k _ ((ExF.ex e1).trans eF) upd_same (by rw [upd_ne F.ne]; exact e1 _ _ F.c) ((S.mono e1).tk (.exF (e1 _ _ F.f) eF))
end
section
variable {P : Program} {w : World} {K : PySem.W.Frag} {mg : Str → Option Value} {base : Heap}
theorem ok_draw (D : Df K mg "_law_draw" s_l_draw ["_law_feed_here", "_law_many"]) (B : Bi mg) : Ok P w K mg base CX0 1 "_law_draw" ["_law_feed_here", "_law_many"] (spD K RDr) := by
  refine D.okD sc_l_draw (fun ds c d h => ?_) fun cdv A outer s H f fa ca ds n c G Q E hr h F hn q => ?_
  · obtain ⟨_, _, _, rfl, _⟩ := h
    rfl
  · obtain ⟨m, m1, m2, rfl, rfl, rfl⟩ := h
    have hu := hr.units
    refine ⟨_, (pss_cons (ps_if (pt_cmpR op_gt (pe_ix ix_list (pv 0) pe_int (fun _ _ => rfl)) pe_int (nomark _)) (pss_cons (ps_set (i := 2) sc_l_draw.nd rfl (Or.inl rfl) (pe_op op_mod (pe_ix ix_list (pv 0) pe_int (fun _ _ => rfl)) (pv 1)))
      (pss_cons (ps_asg (pe_op op_fdiv (pe_ix ix_list (pv 0) pe_int (fun _ _ => rfl)) (pv 1)) (pg_sub (pv 0) pe_int set_list))
      (pss_one (ps_ret (pv 2))))) pss_nil)
    (pss_cons (ps_set (i := 3) sc_l_draw.nd rfl (Or.inl rfl) (pe_ix ix_list (pv 0) pe_int (fun _ _ => rfl)))
    (pss_cons (ps_asg (pe_op op_add (pv 3) pe_int) (pg_sub (pv 0) pe_int set_list))
    (pss_cons (ps_set (i := 4) sc_l_draw.nd rfl (Or.inl rfl) (pe_ifExp ((pt_cmpR (op_neD hu) (pe_ix ix_list (pv 0) pe_int (fun _ _ => rfl)) (pe_lst pa_nil) (nomark _))) (pe_ix ix_list (pe_ix ix_list (pv 0) pe_int (fun _ _ => rfl)) (pe_op op_mod (pv 3) (pe_callB call_len_seq rfl B.len (by decide +kernel) (pa_cons (pe_ix ix_list (pv 0) pe_int (fun _ _ => rfl)) pa_nil))) (fun _ _ => rfl)) pe_int))
    (pss_cons (ps_if (PW.pt (pw_and (pt_cmpR op_ge (pv 4) (pe_op op_pow pe_int pe_int) (nomark _)) (pw_and1 (pt_cmpR op_lt (pv 3) (pe_callB call_len_seq rfl B.len (by decide +kernel) (pa_cons (pe_ix ix_list (pv 0) pe_int (fun _ _ => rfl)) pa_nil)) (nomark _))))) (pss_cons (ps_asg (pe_op op_fdiv (pv 4) (pv 1)) (pg_sub (pv 0) pe_int set_list))
      (pss_one (ps_ret (pe_op op_mod (pv 4) (pv 1))))) pss_nil)
    (pss_cons (ps_set (i := 5) sc_l_draw.nd rfl (Or.inl rfl) (pe_op op_mod (pe_op op_mul (pe_op op_add (pe_op op_add (pe_op op_add (pe_op op_mod (pv 4) pe_int) (pe_op op_mul (pe_op op_mul pe_int (pv 3)) (pv 3))) (pe_op op_mul pe_int (pv 3))) pe_int) pe_int) pe_int))
    (pss_one (ps_ret (pe_op op_mod (pe_op op_fdiv (pe_op op_mod (pe_op op_mul (pe_op op_add (pv 5) (pe_op op_mul pe_int (pv 3))) pe_int) pe_int) pe_int) (pv 1)))))))))), fun σ S => ?_⟩
    obtain ⟨cs, a, left, X, ha⟩ := F
    have mp : (0 : Int) < (m : Int) := by omega
    refine z_when (et_d (K := K) (ed_IB (ed_int (ev_fd (j := 2) S rfl X rfl)) ed_cI)) (fun hb H1 e1 => ?_) fun hb H1 e1 => ?_
    · have hl : (0 : Int) < left := of_decide_eq_true hb
      have S1 := S.mono e1
      have X1 : FdX H1 fa ca cs a left := ⟨e1 _ _ X.f, e1 _ _ X.c, X.l⟩
      refine z_asg S1 (ed_IC (ed_int (ev_fd (j := 2) S1 rfl X1 rfl)) (ed_var S1 rfl) mp) fun σ2 H2 e2 S2 => ?_
      have X2 : FdX H2 fa ca cs a left := ⟨e2 _ _ X1.f, e2 _ _ X1.c, X.l⟩
      refine z_fdset (j := 2) S2 rfl X2 (by decide) (ed_IC (ed_int (ev_fd (j := 2) S2 rfl X2 rfl)) (ed_var S2 rfl) ⟨mp, by omega⟩) fun H3 e3 h3 h3c S3 => ?_
      refine y_ret (ed_var S3 rfl) fun v H4 e4 av => q _ v H4 (gdr_mod m1 left) ((((ExF.ex e1).trans (ExF.ex e2)).trans e3).trans (ExF.ex e4)) ⟨cs, a, left / (m : Int), ⟨e4 _ _ h3, e4 _ _ h3c, Int.ediv_nonneg X.l (by omega)⟩, by omega⟩ av
    · have S1 := S.mono e1
      have X1 : FdX H1 fa ca cs a left := ⟨e1 _ _ X.f, e1 _ _ X.c, X.l⟩
      refine z_asg S1 (ed_int (ev_fd (j := 1) S1 rfl X1 rfl)) fun σ2 H2 e2 S2 => ?_
      have X2 : FdX H2 fa ca cs a left := ⟨e2 _ _ X1.f, e2 _ _ X1.c, X.l⟩
      refine z_fdset (j := 1) (x := (a : Int) + 1) S2 rfl X2 (by decide) (ed_II (ed_var S2 rfl) ed_cI) fun H3 e3 h3 h3c S3 => ?_
      have X3 : FdX H3 fa ca cs (a + 1) left := ⟨h3, h3c, X.l⟩
      have cell : ∃ c : Int, EvD K _ σ2 H3 (.int c) := ⟨if (!cs.isEmpty) = true then cs.getD (a % cs.length) 0 else 11, ed_if (b := !cs.isEmpty) (ta := tOp (rIxL K) (tOp (rIxL K) (tVar 0) (tC (.int 0))) (tOp (rI (fun _ j => 0 < j) fun i j => .int (i % j)) (tVar 3) (tCB (rLn K) (tCons (tOp (rIxL K) (tVar 0) (tC (.int 0))) tNil)))) (tb := tC (.int 11))
        (t := tTest (tOp (rNeD K) (tOp (rIxL K) (tVar 0) (tC (.int 0))) (tLst tNil)))
        (fun H4 e4 Q4 q4 => ev_fd (j := 0) S3 rfl X3 rfl H4 e4 _ fun H5 e5 => ⟨by show 0 ≤ sizeLine; exact Nat.zero_le _, fun p hp => by
          have e6 : Ex H5 (upd H5 p (.lst [])) := Ex.new hp
          refine ⟨.list (cs.map .int), .list [], .lst (sq_of (((e4.trans e5).trans e6) _ _ h3c)) (dp_ints cs), .lst (sq_of upd_same) .nil, shaped_ints cs, shaped_ints [], ?_⟩
          rw [eqv_nil]
          exact ⟨_, rfl, q4 _ (e5.trans e6)⟩⟩)
        (fun hb4 => by
          have hl : 0 < cs.length := by cases cs with | nil => cases hb4 | cons x cs => exact Nat.zero_lt_succ _
          rw [if_pos hb4]
          intro H4 e4 Q4 q4
          refine ev_fd (j := 0) S3 rfl X3 rfl H4 e4 _ fun H5 e5 => ?_
          refine (ed_IC (ed_var S3 rfl) (ed_fdl S3 rfl X3) (by omega)) H5 (e4.trans e5) _ fun v H6 e6 av => ?_
          rw [av.of_int]
          have em : ((a : Int) % (cs.length : Int)) = ((a % cs.length : Nat) : Int) := (Int.natCast_emod _ _).symm
          have hml : a % cs.length < cs.length := Nat.mod_lt _ hl
          refine ⟨ca, cs.map V.int, _, _, rfl, rfl, sq_of (((e4.trans e5).trans e6) _ _ h3c), by rw [em]; exact atI_n (by rw [List.getElem?_map, List.getElem?_eq_getElem hml] <;> rfl), q4 _ H6 (e5.trans e6) ?_⟩
          rw [List.getD_eq_getElem?_getD, List.getElem?_eq_getElem hml]
          exact .int _)
        fun hb4 => by
          rw [if_neg (by rw [hb4]; decide)]
          exact ed_cI⟩
      obtain ⟨c, hc⟩ := cell
      have e03 : ExF fa H H3 := ((ExF.ex e1).trans (ExF.ex e2)).trans e3
      refine z_asg S3 hc fun σ4 H4 e4 S4 => ?_
      have X4 : FdX H4 fa ca cs (a + 1) left := ⟨e4 _ _ X3.f, e4 _ _ X3.c, X.l⟩
      refine z_when (et_and (et_d (ed_IB (ed_var S4 rfl) (ed_IC ed_cI ed_cI ⟨by decide, by decide, by decide⟩))) fun _ => et_d (ed_IB (ed_var S4 rfl) (ed_fdl S4 rfl X4))) (fun hb H5 e5 => ?_) fun hb H5 e5 => ?_
      · rw [Bool.and_eq_true, decide_eq_true_eq] at hb
        have hcp : (0 : Int) ≤ c := Int.le_trans (by decide) hb.1
        have S5 := S4.mono e5
        have X5 : FdX H5 fa ca cs (a + 1) left := ⟨e5 _ _ X4.f, e5 _ _ X4.c, X.l⟩
        refine z_fdset (j := 2) S5 rfl X5 (by decide) (ed_IC (ed_var S5 rfl) (ed_var S5 rfl) ⟨mp, by omega⟩) fun H6 e6 h6 h6c S6 => ?_
        refine y_ret (ed_IC (ed_var S6 rfl) (ed_var S6 rfl) mp) fun v H7 e7 av => q _ v H7 (gdr_mod m1 c) ((((e03.trans (ExF.ex e4)).trans (ExF.ex e5)).trans e6).trans (ExF.ex e7)) ⟨cs, a + 1, c / (m : Int), ⟨e7 _ _ h6, e7 _ _ h6c, Int.ediv_nonneg hcp (by omega)⟩, by omega⟩ av
      · have S5 := S4.mono e5
        have hn' : n + 1 ≤ 1000000000 := hn
        have ab : (a : Int) < 2 ^ 64 := by omega
        refine z_asg S5 (ed_IC (ed_IC (ed_II (ed_II (ed_II (ed_IC (ed_var S5 rfl) ed_cI (by decide)) (ed_IC (ed_IC ed_cI (ed_var S5 rfl) (.inl ⟨by decide, by decide⟩)) (ed_var S5 rfl) (.inr ⟨by omega, ab⟩))) (ed_IC ed_cI (ed_var S5 rfl) (.inl ⟨by decide, by decide⟩))) ed_cI) ed_cI (.inr ⟨by decide, by decide⟩)) ed_cI (by decide)) fun σ6 H6 e6 S6 => ?_
        refine y_ret (ed_IC (ed_IC (ed_IC (ed_IC (ed_II (ed_var S6 rfl) (ed_IC ed_cI (ed_var S6 rfl) (.inl ⟨by decide, by decide⟩))) ed_cI (.inr ⟨by decide, by decide⟩)) ed_cI (by decide)) ed_cI ⟨by decide, by decide⟩) (ed_var S6 rfl) mp) fun v H7 e7 av => q _ v H7 (gdr_mod m1 _) (((((e03.trans (ExF.ex e4)).trans (ExF.ex e5)).trans (ExF.ex e6))).trans (ExF.ex e7)) ⟨cs, a + 1, left, ⟨e7 _ _ (e6 _ _ (e5 _ _ X4.f)), e7 _ _ (e6 _ _ (e5 _ _ X4.c)), X.l⟩, by omega⟩ av
end
end K9
end
section
set_option maxHeartbeats 1000000
/-! K9H: drawn terms and claims. -/
namespace K9
open PySem PySem.Spec PyProof.Rows L2 Evl K9M RZ
/-- a drawn term, claim -/
def GE (b lk : Bool) (k : Nat) : Dt → Prop := fun d => ∃ e : E b, d = encE e ∧ rng e = true ∧ okL lk e = true ∧ deep e ≤ k
theorem GE.le {b lk : Bool} {k m : Nat} {d : Dt} (h : GE b lk k d) (e : k ≤ m) : GE b lk m d := by
  obtain ⟨x, h1, h2, h3, h4⟩ := h
  exact ⟨x, h1, h2, h3, by omega⟩
def RLeaf : List Dt → Nat → (Dt → Prop) → Prop := fun ds c G => ∃ (m : Nat) (lk : Bool), ds = [boxD m, .bl lk] ∧ c = 4 ∧ G = GE true lk 1
def tcst (d : Nat) : Nat := 20 ^ (d + 1)
def RTmd (n : Nat) : List Dt → Nat → (Dt → Prop) → Prop := fun ds c G => ∃ (m : Nat) (lk : Bool), ds = [boxD m, nD n, .bl lk] ∧ c = tcst n ∧ G = GE true lk (2 * n + 1)
def RCld (n : Nat) : List Dt → Nat → (Dt → Prop) → Prop := fun ds c G => ∃ (m : Nat) (lk : Bool), ds = [boxD m, nD n, .bl lk] ∧ c = 3 * tcst n ∧ G = GE false lk (2 * n + 2)
abbrev s_l_leaf : Stmt := top 82
theorem sc_l_leaf : FnScope ["_law_feed_here", "_law_sizes", "_law_inner", "_law_box", "_law_some"] ["_law_feed_here", "_law_sizes", "_law_inner"] (defScope s_l_leaf) := ⟨rfl, rfl, rfl, by decide +kernel, rfl, by decide +kernel, by decide +kernel⟩
abbrev s_l_term : Stmt := top 83
theorem sc_l_term : FnScope ["_law_feed_here", "_law_sizes", "_law_deep", "_law_inner", "_law_way", "_law_claim_here", "_law_one"] ["_law_feed_here", "_law_sizes", "_law_deep", "_law_inner"] (defScope s_l_term) := ⟨rfl, rfl, rfl, by decide +kernel, rfl, by decide +kernel, by decide +kernel⟩
abbrev s_l_claim : Stmt := top 84
theorem sc_l_claim : FnScope ["_law_feed_here", "_law_sizes", "_law_deep", "_law_inner", "_law_way", "_law_one"] ["_law_feed_here", "_law_sizes", "_law_deep", "_law_inner"] (defScope s_l_claim) := ⟨rfl, rfl, rfl, by decide +kernel, rfl, by decide +kernel, by decide +kernel⟩
section
variable {K : PySem.W.Frag} {fa ca : Addr} {σ : L2.St} {H H' : Hp} {ta tb te tl tx : TE} {t : TT} {d : Dt} {ds : List Dt} {D : Ends} {tu tw tz : TS} {l : List Sl} {c c1 c2 n : Nat} {G G1 G2 : Dt → Prop} {Ee : XK}
/-- _law_draw(feed, m) -/
theorem ef_draw {i m : Nat} {ta : TA} (S : Sg K H σ l) (hi : l[i]? = some (.v (.ref fa))) (h1 : 1 ≤ m) (h2 : m ≤ 1000) (h : ∀ H1, ExF fa H H1 → EvS K ta σ H1 [nD m]) : EvF K fa ca (tCall (spD K RDr) [] Ee (tCons (tVar i) ta)) σ H 1 (GDr m) :=
  ef_le (ef_call (c1 := 0) (c2 := 1) S hi (efs_d h) fun ds e => ⟨m, h1, h2, e, rfl, rfl⟩) (by omega) fun _ g => g
theorem FdS {l : List Sl} (F : Fd H fa ca n) (S : Sg K H σ l) (e : ExF fa H H') : Sg K H' σ l := S.tk (F.tk e)
/-- ("w", a draw's number, ..) etc: a tuple of parts -/
theorem ef_tup1 {b : Nat} (h : EvF K fa ca ta σ H c G) (hG : ∀ d, G d → G2 (.tup [d])) : EvF K fa ca (tTup (tCons ta tNil)) σ H c G2 := ef_le (ef_tup (efs_cons (c2 := 0) h efs_nil) fun ds g => by
  obtain ⟨d, r, rfl, _, rfl⟩ := g
  show 1 ≤ 100
  decide) (by omega) fun d g => by
  obtain ⟨ds, rfl, d, r, rfl, g, rfl⟩ := g
  exact hG d g
theorem ef_tup2 (h1 : EvF K fa ca ta σ H c1 G1) (h2 : EvF K fa ca tb σ H c2 G2) (hG : ∀ d e, G1 d → G2 e → G (.tup [d, e])) : EvF K fa ca (tTup (tCons ta (tCons tb tNil))) σ H (c1 + c2) G := ef_le (ef_tup (efs_cons h1 (efs_cons (c2 := 0) h2 efs_nil)) fun ds g => by
  obtain ⟨d, r, rfl, _, e, r', rfl, _, rfl⟩ := g
  show 2 ≤ 100
  decide) (by omega) fun d g => by
  obtain ⟨ds, rfl, d, r, rfl, g, e, r', rfl, g', rfl⟩ := g
  exact hG d e g g'
theorem ef_tup3 {c3 : Nat} {G3 : Dt → Prop} (h1 : EvF K fa ca ta σ H c1 G1) (h2 : EvF K fa ca tb σ H c2 G2) (h3 : EvF K fa ca tx σ H c3 G3) (hG : ∀ d e f, G1 d → G2 e → G3 f → G (.tup [d, e, f])) : EvF K fa ca (tTup (tCons ta (tCons tb (tCons tx tNil)))) σ H (c1 + (c2 + c3)) G := ef_le (ef_tup (efs_cons h1 (efs_cons h2 (efs_cons (c2 := 0) h3 efs_nil))) fun ds g => by
  obtain ⟨d, r, rfl, _, e, r', rfl, _, f, r'', rfl, _, rfl⟩ := g
  show 3 ≤ 100
  decide) (by omega) fun d g => by
  obtain ⟨ds, rfl, d, r, rfl, g, e, r', rfl, g', f, r'', rfl, g'', rfl⟩ := g
  exact hG d e f g g' g''
end
section
variable {P : Program} {w : World} {K : PySem.W.Frag} {mg : Str → Option Value} {base : Heap}
theorem ok_leaf (D : Df K mg "_law_leaf" s_l_leaf ["_law_feed_here", "_law_sizes", "_law_inner"]) (B : Bi mg) (O_l_draw : Ok P w K mg base CX0 1 "_law_draw" ["_law_feed_here", "_law_many"] (spD K RDr)) : Ok P w K mg base CX0 2 "_law_leaf" ["_law_feed_here", "_law_sizes", "_law_inner"] (spD K RLeaf) := by
  refine D.okD sc_l_leaf (fun ds c d h => ?_) fun cdv A outer s H f fa ca ds n c G Q E hr h F hn q => ?_
  · obtain ⟨_, _, rfl, _⟩ := h
    rfl
  · obtain ⟨m, lk, rfl, rfl, rfl⟩ := h
    refine ⟨_, (pss_cons (ps_set (i := 3) sc_l_leaf.nd rfl (Or.inl rfl) (pe_ok O_l_draw hr rfl (pa_cons (pv 0) (pa_cons (pe_callB call_len_seq rfl B.len (by decide +kernel) (pa_cons (pv 1) pa_nil)) pa_nil))))
    (pss_cons (ps_set (i := 4) sc_l_leaf.nd rfl (Or.inl rfl) (pe_lst (pa_cons (pe_tup (pa_cons pe_str (pa_cons (pe_ok O_l_draw hr rfl (pa_cons (pv 0) (pa_cons pe_int pa_nil))) pa_nil))) (pa_cons (pe_tup (pa_cons pe_str (pa_cons (pv 3) pa_nil))) (pa_cons (pe_tup (pa_cons pe_str (pa_cons (pe_ok O_l_draw hr rfl (pa_cons (pv 0) (pa_cons pe_int pa_nil))) (pa_cons (pv 3) pa_nil)))) (pa_cons (pe_tup (pa_cons pe_str (pa_cons pe_int pa_nil))) (pa_cons (pe_tup (pa_cons pe_str pa_nil)) pa_nil)))))))
    (pss_cons (ps_if (pt_val (pv 2)) (pss_one (ps_set (i := 4) sc_l_leaf.nd rfl (Or.inl rfl) (pe_op op_cat (pv 4) (pe_lst (pa_cons (pe_tup (pa_cons pe_str (pa_cons (pv 3) pa_nil))) (pa_cons (pe_tup (pa_cons pe_str (pa_cons pe_int pa_nil))) (pa_cons (pe_tup (pa_cons pe_str pa_nil)) pa_nil))))))) pss_nil)
    (pss_one (ps_ret (pe_ix ix_list (pv 4) (pe_ok O_l_draw hr rfl (pa_cons (pv 0) (pa_cons (pe_callB call_len_seq rfl B.len (by decide +kernel) (pa_cons (pv 4) pa_nil)) pa_nil))) (fun _ _ => rfl))))))), fun σ S => ?_⟩
    refine zf_asg S F (ef_draw (m := 1) S rfl (by decide) (by decide) fun H1 e => es_one (ed_len (ds := [nD m]) (ed_var (FdS F S e) rfl))) (by omega) fun d σ1 H1 g e1 F1 S1 => ?_
    obtain ⟨r, hr1, rfl⟩ := g
    obtain rfl : r = 0 := by omega
    have any : ∀ d, (∃ k : Nat, k < 3 ∧ d = .tup [.str "num", nD k]) → GE true lk 1 d := fun d h => by
      obtain ⟨k, hk, rfl⟩ := h
      exact ⟨.num k, rfl, decide_eq_true (by omega), rfl, Nat.le_refl _⟩
    refine zf_lst (c := 2) (G := fun ds => ds.length = 5 ∧ ∀ d ∈ ds, GE true lk 1 d) S1 F1 (efs_le (efs_cons (G1 := GE true lk 1) (c1 := 1) (ef_le (ef_tup2 (c1 := 0) (c2 := 1) (G1 := fun d => d = .str "num") (ef_d (fun _ _ => ed_cS) rfl) (ef_draw (m := 3) S1 rfl (by decide) (by decide) fun H2 e => es_one ed_cI) (G := GE true lk 1) fun d e h1 h2 => by
        obtain ⟨k, hk, rfl⟩ := h2
        subst h1
        exact any _ ⟨k, hk, rfl⟩) (by omega) fun _ g => g) (efs_cons (c1 := 0) (G1 := GE true lk 1) (ef_d (d := encE (K9M.E.own)) (fun H2 e => ed_tup (es_cons ed_cS (es_one (ed_var (FdS F1 S1 e) rfl))) (Nat.le_of_ble_eq_true rfl)) ⟨.own, rfl, rfl, rfl, Nat.le_refl _⟩)
        (efs_cons (c1 := 1) (G1 := GE true lk 1) (ef_le (ef_tup3 (c1 := 0) (c2 := 1) (c3 := 0) (G1 := fun d => d = .str "eye") (G3 := fun d => d = nD 0) (ef_d (fun _ _ => ed_cS) rfl) (ef_draw (m := 2) S1 rfl (by decide) (by decide) fun H2 e => es_one ed_cI) (ef_d (fun H2 e => ed_var (FdS F1 S1 e) rfl) rfl) (G := GE true lk 1) fun d e f h1 h2 h3 => by
          obtain ⟨k, hk, rfl⟩ := h2
          subst h1 h3
          exact ⟨.eye k, rfl, decide_eq_true (by omega), rfl, Nat.le_refl _⟩) (by omega) fun _ g => g) (efs_cons (c1 := 0) (G1 := GE true lk 1) (ef_d (d := encE (K9M.E.own)) (fun H2 e => ed_tup (es_cons ed_cS (es_one ed_cI)) (Nat.le_of_ble_eq_true rfl)) ⟨.own, rfl, rfl, rfl, Nat.le_refl _⟩)
            (efs_cons (c1 := 0) (c2 := 0) (G1 := GE true lk 1) (ef_d (d := encE (K9M.E.me)) (fun H2 e => ed_tup (es_one ed_cS) (Nat.le_of_ble_eq_true rfl)) ⟨.me, rfl, rfl, rfl, Nat.le_refl _⟩) efs_nil))))) (by omega) fun ds g => by
              obtain ⟨d1, r1, rfl, g1, d2, r2, rfl, g2, d3, r3, rfl, g3, d4, r4, rfl, g4, d5, r5, rfl, g5, rfl⟩ := g
              refine ⟨rfl, fun d hd => ?_⟩
              simp only [List.mem_cons, List.not_mem_nil, or_false] at hd
              rcases hd with rfl | rfl | rfl | rfl | rfl <;> assumption) (by omega) (fun ds g => by rw [g.1]; decide) fun ds p xs σ2 H2 g e2 F2 hp hpf hx ax S2 => ?_
    have fin : ∀ {ds' : List Dt} {p' : Addr} {xs' : List V} {σ3 : L2.St} {H3 : Hp} {l3 : List Sl}, (∀ d ∈ ds', GE true lk 1 d) → 1 ≤ ds'.length → ds'.length ≤ 100 → ExF fa H H3 → Fd H3 fa ca (n + 1 + 2) → p' ≠ fa → H3 p' = some (.lst xs') → AtL K H3 xs' ds' → Sg K H3 σ3 l3 → l3[0]? = some (.v (.ref fa)) → l3[4]? = some (.v (.ref p')) →
        tRet (tOp (rIxL K) (tVar 4) (tCall (spD K RDr) [] E0 (tCons (tVar 0) (tCons (tCB (rLn K) (tCons (tVar 4) tNil)) tNil)))) { nx := fun _ H' => Q .non H', rt := Q } σ3 H3 := by
      intro ds' p' xs' σ3 H3 l3 hall h1 h2 e3 F3 hpf hx ax S3 i0 i4
      refine yf_ret F3 (ef_pickL (G := GE true lk 1) S3 F3 i4 hx hpf ax (ef_draw (m := ds'.length) S3 i0 h1 (by omega) fun H4 e4 => es_one (ed_lenL (FdS F3 S3 e4) i4 (e4 _ _ hpf hx) (ax.tk (F3.tk e4)))) fun d hd => ?_) (by omega) fun d v H4 g e4 F4 a => q d v H4 g (e3.trans e4) F4 a
      obtain ⟨j, hj, rfl⟩ := hd
      exact ⟨j, rfl, ds'[j], List.getElem?_eq_getElem hj, hall _ (List.getElem_mem hj)⟩
    have g1 := g.1
    cases lk with
    | false =>
      refine z_no' (et_b (ed_var S2 rfl)) fun H3 e3 => ?_
      exact fin g.2 (by omega) (by omega) ((e1.trans e2).trans (ExF.ex e3)) (F2.ex e3) hpf (e3 _ _ hx) (ax.mono e3) (S2.mono e3) rfl rfl
    | true =>
      refine z_ifT (et_b (ed_var S2 rfl)) fun H3 e3 => ?_
      have S3 := S2.mono e3
      have ax3 := ax.mono e3
      have mem : ∀ d ∈ [encE (K9M.E.its), encE (K9M.E.its), encE (K9M.E.it)], GE true true 1 d := fun d hd => by
        simp only [List.mem_cons, List.not_mem_nil, or_false] at hd
        rcases hd with rfl | rfl | rfl
        · exact ⟨.its, rfl, rfl, rfl, Nat.le_refl _⟩
        · exact ⟨.its, rfl, rfl, rfl, Nat.le_refl _⟩
        · exact ⟨.it, rfl, rfl, rfl, Nat.le_refl _⟩
      refine ⟨_, S3.val (i := 4) rfl, ?_⟩
      refine (em_lst (ds := [encE (K9M.E.its), encE (K9M.E.its), encE (K9M.E.it)]) (es_cons (ed_tup (es_cons ed_cS (es_one (ed_var S3 rfl))) (Nat.le_of_ble_eq_true rfl)) (es_cons (ed_tup (es_cons ed_cS (es_one ed_cI)) (Nat.le_of_ble_eq_true rfl)) (es_one (ed_tup (es_one ed_cS) (Nat.le_of_ble_eq_true rfl))))) (Nat.le_of_ble_eq_true rfl)) H3 (Ex.refl _) _ fun p2 ys H4 hp2 e4 hy ay => ?_
      refine ⟨p, p2, xs, ys, rfl, rfl, e4 _ _ (e3 _ _ hx), hy, ?_, fun p3 hp3 => ?_⟩
      · rw [ax3.len, ay.len, g1]
        exact sz_of (by decide)
      have e5 : Ex H4 (upd H4 p3 (.lst (xs ++ ys))) := Ex.new hp3
      have F4 := (F2.ex e3).ex e4
      refine fin (ds' := ds ++ [encE (K9M.E.its), encE (K9M.E.its), encE (K9M.E.it)]) (fun d hd => ?_) ?_ ?_ (((e1.trans e2).trans (ExF.ex e3)).trans (ExF.ex (e4.trans e5))) (F4.ex e5) (ne_feed (o := .lst []) F4 hp3) upd_same (((ax3.mono e4).append ay).mono e5) ((S3.mono (e4.trans e5)).setV (.ref p3) 4) rfl rfl
      · rcases List.mem_append.mp hd with hd | hd
        · exact g.2 d hd
        · exact mem d hd
      · rw [List.length_append]; omega
      · rw [List.length_append, g1]; decide
theorem tcst_pos (n : Nat) : 20 ≤ tcst n := by
  unfold tcst
  rw [Nat.pow_succ]
  have : 0 < 20 ^ n := Nat.pow_pos (by decide)
  omega
theorem tcst_succ (n : Nat) : tcst (n + 1) = 20 * tcst n := by
  unfold tcst
  rw [Nat.pow_succ 20 (n + 1), Nat.mul_comm]
theorem ok_term_of {k n : Nat} {RT RC : List Dt → Nat → (Dt → Prop) → Prop} (D : Df K mg "_law_term" s_l_term ["_law_feed_here", "_law_sizes", "_law_deep", "_law_inner"]) (B : Bi mg) (hk : 2 ≤ k) (O_l_draw : Ok P w K mg base CX0 k "_law_draw" ["_law_feed_here", "_law_many"] (spD K RDr)) (O_l_leaf : Ok P w K mg base CX0 k "_law_leaf" ["_law_feed_here", "_law_sizes", "_law_inner"] (spD K RLeaf))
    (O_l_term : Ok P w K mg base CX0 k "_law_term" ["_law_feed_here", "_law_sizes", "_law_deep", "_law_inner"] (spD K RT)) (O_l_claim : Ok P w K mg base CX0 k "_law_claim" ["_law_feed_here", "_law_sizes", "_law_deep", "_law_inner"] (spD K RC)) (hR : n = 0 ∨ ∃ m, n = m + 1 ∧ RT = RTmd m ∧ RC = RCld m) :
    Ok P w K mg base CX0 (k + 1) "_law_term" ["_law_feed_here", "_law_sizes", "_law_deep", "_law_inner"] (spD K (RTmd n)) := by
  refine D.okD sc_l_term (fun ds c d h => ?_) fun cdv A outer s H f fa ca ds n0 c G Q E hr h F hn q => ?_
  · obtain ⟨_, _, rfl, _⟩ := h
    rfl
  · obtain ⟨m, lk, rfl, rfl, rfl⟩ := h
    have tp := tcst_pos n
    refine ⟨_, (pss_cons (ps_set (i := 4) sc_l_term.nd rfl (Or.inl rfl) (pe_ok O_l_draw hr rfl (pa_cons (pv 0) (pa_cons pe_int pa_nil))))
    (pss_cons (ps_if (PW.pt (pw_or (pt_cmpR op_eq (pv 2) pe_int (nomark _)) (pw_or1 (pt_cmpR op_lt (pv 4) pe_int (nomark _))))) (pss_one (ps_ret (pe_ok O_l_leaf hr rfl (pa_cons (pv 0) (pa_cons (pv 1) (pa_cons (pv 3) pa_nil)))))) pss_nil)
    (pss_cons (ps_if (PW.pt (pw_and (pt_cmpR op_lt (pv 4) pe_int (nomark _)) (pw_and1 (pt_not (pt_val (pv 3)))))) (pss_one (ps_ret (pe_tup (pa_cons (pe_ix ix_list (pe_lst (pa_cons pe_str (pa_cons pe_str pa_nil))) (pe_op op_sub (pv 4) pe_int) (fun _ _ => rfl)) (pa_cons (pe_ok O_l_term hr rfl (pa_cons (pv 0) (pa_cons (pv 1) (pa_cons (pe_op op_sub (pv 2) pe_int) (pa_cons pe_bl pa_nil))))) pa_nil))))) pss_nil)
    (pss_cons (ps_if (PW.pt (pw_and (pt_cmpR op_eq (pv 4) pe_int (nomark _)) (pw_and1 (pt_not (pt_val (pv 3)))))) (pss_one (ps_ret (pe_tup (pa_cons pe_str (pa_cons (pe_ok O_l_claim hr rfl (pa_cons (pv 0) (pa_cons (pv 1) (pa_cons (pe_op op_sub (pv 2) pe_int) (pa_cons pe_bl pa_nil))))) pa_nil))))) pss_nil)
    (pss_cons (ps_if (pt_cmpR op_eq (pv 4) pe_int (nomark _)) (pss_one (ps_ret (pe_tup (pa_cons pe_str (pa_cons (pe_ok O_l_term hr rfl (pa_cons (pv 0) (pa_cons (pv 1) (pa_cons (pe_op op_sub (pv 2) pe_int) (pa_cons (pv 3) pa_nil))))) (pa_cons (pe_op op_add pe_int (pe_ok O_l_draw hr rfl (pa_cons (pv 0) (pa_cons pe_int pa_nil)))) pa_nil)))))) pss_nil)
    (pss_cons (ps_if (pt_cmpR op_eq (pv 4) pe_int (nomark _)) (pss_cons (ps_set (i := 5) sc_l_term.nd rfl (Or.inl rfl) (pe_ok O_l_claim hr rfl (pa_cons (pv 0) (pa_cons (pv 1) (pa_cons (pe_op op_sub (pv 2) pe_int) (pa_cons (pv 3) pa_nil))))))
      (pss_one (ps_ret (pe_tup (pa_cons pe_str (pa_cons (pv 5) (pa_cons (pe_ok O_l_leaf hr rfl (pa_cons (pv 0) (pa_cons (pv 1) (pa_cons (pv 3) pa_nil)))) (pa_cons (pe_ok O_l_term hr rfl (pa_cons (pv 0) (pa_cons (pv 1) (pa_cons (pe_op op_sub (pv 2) pe_int) (pa_cons (pv 3) pa_nil))))) pa_nil)))))))) pss_nil)
    (pss_cons (ps_set (i := 6) sc_l_term.nd rfl (Or.inl rfl) (pe_ok O_l_term hr rfl (pa_cons (pv 0) (pa_cons (pv 1) (pa_cons (pe_op op_sub (pv 2) pe_int) (pa_cons (pv 3) pa_nil))))))
    (pss_one (ps_ret (pe_tup (pa_cons (pe_ix ix_list (pe_lst (pa_cons pe_str (pa_cons pe_str (pa_cons pe_str pa_nil)))) (pe_ok O_l_draw hr rfl (pa_cons (pv 0) (pa_cons pe_int pa_nil))) (fun _ _ => rfl)) (pa_cons (pv 6) (pa_cons (pe_ok O_l_leaf hr rfl (pa_cons (pv 0) (pa_cons (pv 1) (pa_cons (pv 3) pa_nil)))) pa_nil))))))))))))), fun σ S => ?_⟩
    refine zf_asg S F (ef_draw (m := 9) S rfl (by decide) (by decide) fun H1 e => es_one ed_cI) (by omega) fun d σ1 H1 g e1 F1 S1 => ?_
    obtain ⟨r, hr9, rfl⟩ := g
    have leaf : ∀ {σ2 : L2.St} {H2 : Hp} {l2 : List Sl}, Fd H2 fa ca (n0 + 1) → Sg K H2 σ2 l2 → l2[0]? = some (.v (.ref fa)) → l2[1]? = some (.d (boxD m)) → l2[3]? = some (.d (.bl lk)) → EvF K fa ca (tCall (spD K RLeaf) [] E0 (tCons (tVar 0) (tCons (tVar 1) (tCons (tVar 3) tNil)))) σ2 H2 4 (GE true lk 1) := fun {σ2 H2 l2} F2 S2 i0 i1 i3 =>
      ef_le (ef_call (c1 := 0) (c2 := 4) S2 i0 (efs_d fun H3 e => es_cons (ed_var (FdS F2 S2 e) i1) (es_one (ed_var (FdS F2 S2 e) i3))) fun ds e => ⟨m, lk, e, rfl, rfl⟩) (by omega) fun _ g => g
    refine z_when (et_or (et_d (ed_eqI (ed_var S1 rfl) ed_cI)) fun _ => et_d (ed_IB (ed_var S1 rfl) ed_cI)) (fun hb H2 e2 => ?_) fun hb H2 e2 => ?_
    · exact yf_ret (F1.ex e2) (leaf (F1.ex e2) (S1.mono e2) rfl rfl rfl) (by omega) fun d v H3 g e3 F3 a => q d v H3 (g.le (by omega)) ((e1.trans (ExF.ex e2)).trans e3) (F3.le (by omega)) a
    · rw [Bool.or_eq_false_iff, decide_eq_false_iff_not, decide_eq_false_iff_not] at hb
      have hn0 : n ≠ 0 := fun z => hb.1 (by rw [z] <;> rfl)
      have hr3 : 3 ≤ r := by
        have := hb.2
        omega
      rcases hR with rfl | ⟨n', rfl, rfl, rfl⟩
      · exact absurd rfl hn0
      have tp' := tcst_pos n'
      have ts := tcst_succ n'
      have F2 := F1.ex e2
      have S2 := S1.mono e2
      have e02 : ExF fa H H2 := e1.trans (ExF.ex e2)
      have dm : ((n' + 1 : Nat) : Int) - 1 = (n' : Int) := by omega
      have term : ∀ {σ2 : L2.St} {H2 : Hp} {l2 : List Sl} {m0 : Nat} {ta : TE} {lk' : Bool}, Fd H2 fa ca m0 → Sg K H2 σ2 l2 → l2[0]? = some (.v (.ref fa)) → l2[1]? = some (.d (boxD m)) → l2[2]? = some (.d (nD (n' + 1))) → (∀ H3, ExF fa H2 H3 → EvD K ta σ2 H3 (.bl lk')) → EvF K fa ca (tCall (spD K (RTmd n')) [] E0 (tCons (tVar 0) (tCons (tVar 1) (tCons (tOp (rI0 fun i j => .int (i - j)) (tVar 2) (tC (.int 1))) (tCons ta tNil))))) σ2 H2 (tcst n') (GE true lk' (2 * n' + 1)) := fun {σ2 H2 l2 m0 ta lk'} F2 S2 i0 i1 i2 h3 =>
        ef_le (ef_call (c1 := 0) (c2 := tcst n') S2 i0 (efs_d fun H3 e => es_cons (ed_var (FdS F2 S2 e) i1) (es_cons ((ed_II (ed_var (FdS F2 S2 e) i2) ed_cI).is (congrArg Dt.int dm)) (es_one (h3 H3 e)))) fun ds e => ⟨m, lk', e, rfl, rfl⟩) (by omega) fun _ g => g
      have claim : ∀ {σ2 : L2.St} {H2 : Hp} {l2 : List Sl} {m0 : Nat} {ta : TE} {lk' : Bool}, Fd H2 fa ca m0 → Sg K H2 σ2 l2 → l2[0]? = some (.v (.ref fa)) → l2[1]? = some (.d (boxD m)) → l2[2]? = some (.d (nD (n' + 1))) → (∀ H3, ExF fa H2 H3 → EvD K ta σ2 H3 (.bl lk')) → EvF K fa ca (tCall (spD K (RCld n')) [] E0 (tCons (tVar 0) (tCons (tVar 1) (tCons (tOp (rI0 fun i j => .int (i - j)) (tVar 2) (tC (.int 1))) (tCons ta tNil))))) σ2 H2 (3 * tcst n') (GE false lk' (2 * n' + 2)) := fun {σ2 H2 l2 m0 ta lk'} F2 S2 i0 i1 i2 h3 =>
        ef_le (ef_call (c1 := 0) (c2 := 3 * tcst n') S2 i0 (efs_d fun H3 e => es_cons (ed_var (FdS F2 S2 e) i1) (es_cons ((ed_II (ed_var (FdS F2 S2 e) i2) ed_cI).is (congrArg Dt.int dm)) (es_one (h3 H3 e)))) fun ds e => ⟨m, lk', e, rfl, rfl⟩) (by omega) fun _ g => g
      refine z_when (et_and (et_d (ed_IB (ed_var S2 rfl) ed_cI)) fun _ => et_not (et_b (ed_var S2 rfl))) (fun hb H3 e3 => ?_) fun hb H3 e3 => ?_
      · rw [Bool.and_eq_true, decide_eq_true_eq, Bool.not_eq_true'] at hb
        obtain ⟨hr5, rfl⟩ := hb
        have F3 := F2.ex e3
        have S3 := S2.mono e3
        refine yf_ret F3 (ef_tup2 (G1 := fun d => d = .str "least" ∨ d = .str "most") (G := GE true false (2 * (n' + 1) + 1)) (ef_pickD (c1 := 0) (c2 := 0) (G2 := fun d => d = nD (r - 3)) (GL := fun l => l = [.str "least", .str "most"]) (efs_d fun H4 e4 => es_cons ed_cS (es_one ed_cS)) (fun ds g => by rw [g]; decide) (ef_d (fun H4 e4 => (ed_II (ed_var (FdS F3 S3 e4) rfl) ed_cI).is (congrArg Dt.int (show (r : Int) - 3 = ((r - 3 : Nat) : Int) by omega))) rfl) fun ds d gl g2 => ⟨r - 3, g2, by
            subst gl
            have h34 : r = 3 ∨ r = 4 := by omega
            rcases h34 with rfl | rfl
            · exact ⟨_, rfl, .inl rfl⟩
            · exact ⟨_, rfl, .inr rfl⟩⟩) (term F3 S3 rfl rfl rfl fun H4 e4 => ed_cB) fun d e h1 h2 => ?_) (by omega) fun d v H4 g e4 F4 a => q d v H4 g ((e02.trans (ExF.ex e3)).trans e4) (F4.le (by omega)) a
        obtain ⟨x, rfl, x1, x2, x3⟩ := h2
        rcases h1 with rfl | rfl
        · exact ⟨.least x, rfl, by simp only [rng, x1], by simp only [okL, x2, Bool.not_false, Bool.and_self], by simp only [deep]; omega⟩
        · exact ⟨.most x, rfl, by simp only [rng, x1], by simp only [okL, x2, Bool.not_false, Bool.and_self], by simp only [deep]; omega⟩
      · have F3 := F2.ex e3
        have S3 := S2.mono e3
        have e03 := e02.trans (ExF.ex e3)
        refine z_when (et_and (et_d (ed_eqI (ed_var S3 rfl) ed_cI)) fun _ => et_not (et_b (ed_var S3 rfl))) (fun hb4 H4 e4 => ?_) fun hb4 H4 e4 => ?_
        · rw [Bool.and_eq_true, Bool.not_eq_true'] at hb4
          obtain ⟨_, rfl⟩ := hb4
          have F4 := F3.ex e4
          have S4 := S3.mono e4
          refine yf_ret F4 (ef_tup2 (c1 := 0) (G1 := fun d => d = .str "many") (G := GE true false (2 * (n' + 1) + 1)) (ef_d (fun _ _ => ed_cS) rfl) (claim F4 S4 rfl rfl rfl fun H4 e4 => ed_cB) fun d e h1 h2 => ?_) (by omega) fun d v H5 g e5 F5 a => q d v H5 g ((e03.trans (ExF.ex e4)).trans e5) (F5.le (by omega)) a
          obtain ⟨x, rfl, x1, x2, x3⟩ := h2
          subst h1
          exact ⟨.many x, rfl, by simp only [rng, x1], by simp only [okL, x2, Bool.not_false, Bool.and_self], by simp only [deep]; omega⟩
        · have F4 := F3.ex e4
          have S4 := S3.mono e4
          have e04 := e03.trans (ExF.ex e4)
          refine z_when (et_d (ed_eqI (ed_var S4 rfl) ed_cI)) (fun hb5 H5 e5 => ?_) fun hb5 H5 e5 => ?_
          · have F5 := F4.ex e5
            have S5 := S4.mono e5
            refine yf_ret F5 (ef_tup3 (c1 := 0) (c3 := 0 + 1) (G1 := fun d => d = .str "rest") (G3 := fun d => ∃ k : Nat, k < 3 ∧ d = nD (k + 1)) (G := GE true lk (2 * (n' + 1) + 1)) (ef_d (fun _ _ => ed_cS) rfl) (term F5 S5 rfl rfl rfl fun H6 e6 => ed_var (FdS F5 S5 e6) rfl) (ef_op (c1 := 0) (c2 := 1) (G1 := fun d => d = .int 1) (ef_d (fun _ _ => ed_cI) rfl) (ef_draw (m := 3) S5 rfl (by decide) (by decide) fun H6 e6 => es_one ed_cI) fun d1 d2 v w H6 Q6 g1 g2 a1 a2 q6 => by
                obtain ⟨k, hk, rfl⟩ := g2
                subst g1
                rw [a1.of_int, a2.of_int]
                exact ⟨1, (k : Int), rfl, rfl, q6 (nD (k + 1)) _ H6 ⟨k, hk, rfl⟩ (Ex.refl _) (by
                  show At K H6 (.int ((1 : Int) + (k : Int))) (nD (k + 1))
                  have : (1 : Int) + (k : Int) = ((k + 1 : Nat) : Int) := by omega
                  rw [this]
                  exact .int _)⟩) fun d e f h1 h2 h3 => ?_) (by omega) fun d v H6 g e6 F6 a => q d v H6 g ((e04.trans (ExF.ex e5)).trans e6) (F6.le (by omega)) a
            obtain ⟨x, rfl, x1, x2, x3⟩ := h2
            obtain ⟨k, hk, rfl⟩ := h3
            subst h1
            exact ⟨.rest x (k + 1), rfl, by simp only [rng, x1, Bool.true_and, Bool.and_eq_true, decide_eq_true_eq]; omega, by simp only [okL, x2], by simp only [deep]; omega⟩
          · have F5 := F4.ex e5
            have S5 := S4.mono e5
            have e05 := e04.trans (ExF.ex e5)
            refine z_when (et_d (ed_eqI (ed_var S5 rfl) ed_cI)) (fun hb6 H6 e6 => ?_) fun hb6 H6 e6 => ?_
            · have F6 := F5.ex e6
              have S6 := S5.mono e6
              refine zf_asg S6 F6 (claim F6 S6 rfl rfl rfl fun H7 e7 => ed_var (FdS F6 S6 e7) rfl) (by omega) fun d7 σ7 H7 g7 e7 F7 S7 => ?_
              have ce : EvF K fa ca (tVar 5) σ7 H7 0 (fun d => d = d7) := ef_d (fun H8 e8 => ed_var (FdS F7 S7 e8) rfl) rfl
              have lf7 : EvF K fa ca (tCall (spD K RLeaf) [] E0 (tCons (tVar 0) (tCons (tVar 1) (tCons (tVar 3) tNil)))) σ7 H7 4 (GE true lk 1) := ef_le (ef_call (c1 := 0) (c2 := 4) S7 rfl (efs_d fun H3 e => es_cons (ed_var (FdS F7 S7 e) rfl) (es_one (ed_var (FdS F7 S7 e) rfl))) fun ds e => ⟨m, lk, e, rfl, rfl⟩) (by omega) fun _ g => g
              refine yf_ret F7 (ef_le (ef_tup (efs_cons (c1 := 0) (ef_d (d := .str "if") (G := fun d => d = .str "if") (fun _ _ => ed_cS) rfl) (efs_cons ce (efs_cons lf7 (efs_cons (c2 := 0) (term F7 S7 rfl rfl rfl fun H8 e8 => ed_var (FdS F7 S7 e8) rfl) efs_nil)))) fun ds g => ?_) (Nat.le_refl _) (G2 := GE true lk (2 * (n' + 1) + 1)) fun d g => ?_) (by omega) fun d v H8 g e8 F8 a => q d v H8 g (((e05.trans (ExF.ex e6)).trans e7).trans e8) (F8.le (by omega)) a
              · obtain ⟨d1, r1, rfl, _, d2, r2, rfl, _, d3, r3, rfl, _, d4, r4, rfl, _, rfl⟩ := g
                show 4 ≤ 100
                decide
              · obtain ⟨ds, rfl, d1, r1, rfl, rfl, d2, r2, rfl, rfl, d3, r3, rfl, g3, d4, r4, rfl, g4, rfl⟩ := g
                obtain ⟨x, rfl, x1, x2, x3⟩ := g7
                obtain ⟨y, rfl, y1, y2, y3⟩ := g3
                obtain ⟨z, rfl, z1, z2, z3⟩ := g4
                exact ⟨.ite x y z, rfl, by simp only [rng, x1, y1, z1, Bool.and_self], by simp only [okL, x2, y2, z2, Bool.and_self], by show max (deep x) (max (deep y) (deep z)) + 1 ≤ _; omega⟩
            · have F6 := F5.ex e6
              have S6 := S5.mono e6
              refine zf_asg S6 F6 (term F6 S6 rfl rfl rfl fun H7 e7 => ed_var (FdS F6 S6 e7) rfl) (by omega) fun d7 σ7 H7 g7 e7 F7 S7 => ?_
              have ce : EvF K fa ca (tVar 6) σ7 H7 0 (fun d => d = d7) := ef_d (fun H8 e8 => ed_var (FdS F7 S7 e8) rfl) rfl
              have lf7 : EvF K fa ca (tCall (spD K RLeaf) [] E0 (tCons (tVar 0) (tCons (tVar 1) (tCons (tVar 3) tNil)))) σ7 H7 4 (GE true lk 1) := ef_le (ef_call (c1 := 0) (c2 := 4) S7 rfl (efs_d fun H3 e => es_cons (ed_var (FdS F7 S7 e) rfl) (es_one (ed_var (FdS F7 S7 e) rfl))) fun ds e => ⟨m, lk, e, rfl, rfl⟩) (by omega) fun _ g => g
              refine yf_ret F7 (ef_tup3 (c1 := 0 + 1) (G1 := fun d => d = .str "plus" ∨ d = .str "less") (G := GE true lk (2 * (n' + 1) + 1)) (ef_pickD (c1 := 0) (c2 := 1) (GL := fun l => l = [.str "plus", .str "less", .str "plus"]) (efs_d fun H8 e8 => es_cons ed_cS (es_cons ed_cS (es_one ed_cS))) (fun ds g => by rw [g]; decide) (ef_draw (m := 3) S7 rfl (by decide) (by decide) fun H8 e8 => es_one ed_cI) fun ds d gl g2 => by
                  obtain ⟨k, hk, rfl⟩ := g2
                  subst gl
                  refine ⟨k, rfl, ?_⟩
                  have h012 : k = 0 ∨ k = 1 ∨ k = 2 := by omega
                  rcases h012 with rfl | rfl | rfl
                  · exact ⟨_, rfl, .inl rfl⟩
                  · exact ⟨_, rfl, .inr rfl⟩
                  · exact ⟨_, rfl, .inl rfl⟩) ce lf7 fun d e f h1 h2 h3 => ?_) (by omega) fun d v H8 g e8 F8 a => q d v H8 g (((e05.trans (ExF.ex e6)).trans e7).trans e8) (F8.le (by omega)) a
              obtain ⟨x, rfl, x1, x2, x3⟩ := g7
              obtain ⟨y, rfl, y1, y2, y3⟩ := h3
              subst h2
              rcases h1 with rfl | rfl
              · exact ⟨.plus x y, rfl, by simp only [rng, x1, y1, Bool.and_self], by simp only [okL, x2, y2, Bool.and_self], by show max (deep x) (deep y) + 1 ≤ _; omega⟩
              · exact ⟨.less x y, rfl, by simp only [rng, x1, y1, Bool.and_self], by simp only [okL, x2, y2, Bool.and_self], by show max (deep x) (deep y) + 1 ≤ _; omega⟩
theorem ok_claim_of {k n : Nat} {RC : List Dt → Nat → (Dt → Prop) → Prop} (D : Df K mg "_law_claim" s_l_claim ["_law_feed_here", "_law_sizes", "_law_deep", "_law_inner"]) (B : Bi mg) (hk : 2 ≤ k) (O_l_draw : Ok P w K mg base CX0 k "_law_draw" ["_law_feed_here", "_law_many"] (spD K RDr))
    (O_l_term : Ok P w K mg base CX0 k "_law_term" ["_law_feed_here", "_law_sizes", "_law_deep", "_law_inner"] (spD K (RTmd (n - 1)))) (O_l_claim : Ok P w K mg base CX0 k "_law_claim" ["_law_feed_here", "_law_sizes", "_law_deep", "_law_inner"] (spD K RC)) (hR : n = 0 ∨ ∃ m, n = m + 1 ∧ RC = RCld m) :
    Ok P w K mg base CX0 (k + 1) "_law_claim" ["_law_feed_here", "_law_sizes", "_law_deep", "_law_inner"] (spD K (RCld n)) := by
  refine D.okD sc_l_claim (fun ds c d h => ?_) fun cdv A outer s H f fa ca ds n0 c G Q E hr h F hn q => ?_
  · obtain ⟨_, _, rfl, _⟩ := h
    rfl
  · obtain ⟨m, lk, rfl, rfl, rfl⟩ := h
    have tp := tcst_pos n
    have tpm := tcst_pos (n - 1)
    have tle : tcst (n - 1) ≤ tcst n := Nat.pow_le_pow_right (by decide) (by omega)
    refine ⟨_, (pss_cons (ps_set (i := 4) sc_l_claim.nd rfl (Or.inl rfl) (pe_ok O_l_draw hr rfl (pa_cons (pv 0) (pa_cons pe_int pa_nil))))
    (pss_cons (ps_if (PW.pt (pw_and (pt_cmpR op_gt (pv 2) pe_int (nomark _)) (pw_and1 (pt_cmpR op_eq (pv 4) pe_int (nomark _))))) (pss_one (ps_ret (pe_tup (pa_cons pe_str (pa_cons (pe_ok O_l_claim hr rfl (pa_cons (pv 0) (pa_cons (pv 1) (pa_cons (pe_op op_sub (pv 2) pe_int) (pa_cons (pv 3) pa_nil))))) pa_nil))))) pss_nil)
    (pss_cons (ps_if (PW.pt (pw_and (pt_cmpR op_gt (pv 2) pe_int (nomark _)) (pw_and1 (pt_cmpR op_lt (pv 4) pe_int (nomark _))))) (pss_cons (ps_set (i := 5) sc_l_claim.nd rfl (Or.inl rfl) (pe_ok O_l_claim hr rfl (pa_cons (pv 0) (pa_cons (pv 1) (pa_cons (pe_op op_sub (pv 2) pe_int) (pa_cons (pv 3) pa_nil))))))
      (pss_one (ps_ret (pe_tup (pa_cons (pe_ix ix_list (pe_lst (pa_cons pe_str (pa_cons pe_str pa_nil))) (pe_op op_sub (pv 4) pe_int) (fun _ _ => rfl)) (pa_cons (pv 5) (pa_cons (pe_ok O_l_claim hr rfl (pa_cons (pv 0) (pa_cons (pv 1) (pa_cons (pe_op op_sub (pv 2) pe_int) (pa_cons (pv 3) pa_nil))))) pa_nil))))))) pss_nil)
    (pss_cons (ps_if (pt_cmpR op_eq (pv 4) pe_int (nomark _)) (pss_one (ps_ret (pe_tup (pa_cons pe_str pa_nil)))) pss_nil)
    (pss_cons (ps_set (i := 5) sc_l_claim.nd rfl (Or.inl rfl) (pe_ok O_l_term hr rfl (pa_cons (pv 0) (pa_cons (pv 1) (pa_cons (pe_callB (call_max2 rfl) rfl B.max (by decide +kernel) (pa_cons pe_int (pa_cons (pe_op op_sub (pv 2) pe_int) pa_nil))) (pa_cons (pv 3) pa_nil))))))
    (pss_one (ps_ret (pe_tup (pa_cons (pe_ix ix_list (pe_lst (pa_cons pe_str (pa_cons pe_str pa_nil))) (pe_op op_mod (pv 4) pe_int) (fun _ _ => rfl)) (pa_cons (pv 5) (pa_cons (pe_ok O_l_term hr rfl (pa_cons (pv 0) (pa_cons (pv 1) (pa_cons (pe_callB (call_max2 rfl) rfl B.max (by decide +kernel) (pa_cons pe_int (pa_cons (pe_op op_sub (pv 2) pe_int) pa_nil))) (pa_cons (pv 3) pa_nil))))) pa_nil))))))))))), fun σ S => ?_⟩
    refine zf_asg S F (ef_draw (m := 8) S rfl (by decide) (by decide) fun H1 e => es_one ed_cI) (by omega) fun d σ1 H1 g e1 F1 S1 => ?_
    obtain ⟨r, hr8, rfl⟩ := g
    have hmax : max (0 : Int) ((n : Int) - 1) = ((n - 1 : Nat) : Int) := by omega
    have term : ∀ {σ2 : L2.St} {H2 : Hp} {l2 : List Sl} {m0 : Nat}, Fd H2 fa ca m0 → Sg K H2 σ2 l2 → l2[0]? = some (.v (.ref fa)) → l2[1]? = some (.d (boxD m)) → l2[2]? = some (.d (nD n)) → l2[3]? = some (.d (.bl lk)) → EvF K fa ca (tCall (spD K (RTmd (n - 1))) [] E0 (tCons (tVar 0) (tCons (tVar 1) (tCons (tCB rMx2 (tCons (tC (.int 0)) (tCons (tOp (rI0 fun i j => .int (i - j)) (tVar 2) (tC (.int 1))) tNil))) (tCons (tVar 3) tNil))))) σ2 H2 (tcst (n - 1)) (GE true lk (2 * n + 1)) := fun {σ2 H2 l2 m0} F2 S2 i0 i1 i2 i3 =>
      ef_le (ef_call (c1 := 0) (c2 := tcst (n - 1)) S2 i0 (efs_d fun H3 e => es_cons (ed_var (FdS F2 S2 e) i1) (es_cons ((ed_max2 ed_cI (ed_II (ed_var (FdS F2 S2 e) i2) ed_cI)).is (congrArg Dt.int hmax)) (es_one (ed_var (FdS F2 S2 e) i3)))) fun ds e => ⟨m, lk, e, rfl, rfl⟩) (by omega) fun _ g => g.le (by omega)
    have two : ∀ {H2 : Hp}, Ex H1 H2 → tSeq (tAsg (tCall (spD K (RTmd (n - 1))) [] E0 (tCons (tVar 0) (tCons (tVar 1) (tCons (tCB rMx2 (tCons (tC (.int 0)) (tCons (tOp (rI0 fun i j => .int (i - j)) (tVar 2) (tC (.int 1))) tNil))) (tCons (tVar 3) tNil))))) (gName 5))
        (tRet (tTup (tCons (tOp (rIxL K) (tLst (tCons (tC (.str "like")) (tCons (tC (.str "below")) tNil))) (tOp (rI (fun _ j => 0 < j) fun i j => .int (i % j)) (tVar 4) (tC (.int 2)))) (tCons (tVar 5) (tCons (tCall (spD K (RTmd (n - 1))) [] E0 (tCons (tVar 0) (tCons (tVar 1) (tCons (tCB rMx2 (tCons (tC (.int 0)) (tCons (tOp (rI0 fun i j => .int (i - j)) (tVar 2) (tC (.int 1))) tNil))) (tCons (tVar 3) tNil))))) tNil))))) { nx := fun _ H' => Q .non H', rt := Q } σ1 H2 := fun {H2} e2 => by
      have F2 := F1.ex e2
      have S2 := S1.mono e2
      refine zf_asg S2 F2 (term F2 S2 rfl rfl rfl rfl) (by omega) fun d7 σ7 H7 g7 e7 F7 S7 => ?_
      have ce : EvF K fa ca (tVar 5) σ7 H7 0 (fun d => d = d7) := ef_d (fun H8 e8 => ed_var (FdS F7 S7 e8) rfl) rfl
      refine yf_ret F7 (ef_tup3 (c1 := 0 + 0) (G1 := fun d => d = .str "like" ∨ d = .str "below") (G := GE false lk (2 * n + 2)) (ef_pickD (c1 := 0) (c2 := 0) (GL := fun l => l = [.str "like", .str "below"]) (G2 := fun d => ∃ k : Nat, k < 2 ∧ d = nD k) (efs_d fun H8 e8 => es_cons ed_cS (es_one ed_cS)) (fun ds g => by rw [g]; decide) (ef_d (fun H8 e8 => (ed_IC (ed_var (FdS F7 S7 e8) rfl) ed_cI (by decide)).is (congrArg Dt.int (show (r : Int) % 2 = ((r % 2 : Nat) : Int) by omega))) ⟨r % 2, by omega, rfl⟩) fun ds d gl g2 => by
          obtain ⟨k, hk, rfl⟩ := g2
          subst gl
          refine ⟨k, rfl, ?_⟩
          have h01 : k = 0 ∨ k = 1 := by omega
          rcases h01 with rfl | rfl
          · exact ⟨_, rfl, .inl rfl⟩
          · exact ⟨_, rfl, .inr rfl⟩) ce (term F7 S7 rfl rfl rfl rfl) fun d e f h1 h2 h3 => ?_) (by omega) fun d v H8 g e8 F8 a => q d v H8 g (((e1.trans (ExF.ex e2)).trans e7).trans e8) (F8.le (by omega)) a
      obtain ⟨x, rfl, x1, x2, x3⟩ := g7
      obtain ⟨y, rfl, y1, y2, y3⟩ := h3
      subst h2
      rcases h1 with rfl | rfl
      · exact ⟨.like x y, rfl, by simp only [rng, x1, y1, Bool.and_self], by simp only [okL, x2, y2, Bool.and_self], by simp only [deep]; omega⟩
      · exact ⟨.blw x y, rfl, by simp only [rng, x1, y1, Bool.and_self], by simp only [okL, x2, y2, Bool.and_self], by simp only [deep]; omega⟩
    have yes : ∀ {H2 : Hp}, Ex H1 H2 → tSeq (tIfS (tTest (tOp rEq (tVar 4) (tC (.int 3)))) (tRet (tTup (tCons (tC (.str "yes")) tNil))) tNext) (tSeq (tAsg (tCall (spD K (RTmd (n - 1))) [] E0 (tCons (tVar 0) (tCons (tVar 1) (tCons (tCB rMx2 (tCons (tC (.int 0)) (tCons (tOp (rI0 fun i j => .int (i - j)) (tVar 2) (tC (.int 1))) tNil))) (tCons (tVar 3) tNil))))) (gName 5))
        (tRet (tTup (tCons (tOp (rIxL K) (tLst (tCons (tC (.str "like")) (tCons (tC (.str "below")) tNil))) (tOp (rI (fun _ j => 0 < j) fun i j => .int (i % j)) (tVar 4) (tC (.int 2)))) (tCons (tVar 5) (tCons (tCall (spD K (RTmd (n - 1))) [] E0 (tCons (tVar 0) (tCons (tVar 1) (tCons (tCB rMx2 (tCons (tC (.int 0)) (tCons (tOp (rI0 fun i j => .int (i - j)) (tVar 2) (tC (.int 1))) tNil))) (tCons (tVar 3) tNil))))) tNil)))))) { nx := fun _ H' => Q .non H', rt := Q } σ1 H2 := fun {H2} e2 => by
      refine z_when (et_d (ed_eqI (ed_var (S1.mono e2) rfl) ed_cI)) (fun hb H3 e3 => ?_) fun hb H3 e3 => two (e2.trans e3)
      exact yf_ret ((F1.ex e2).ex e3) (ef_d (c := 0) (d := encE (K9M.E.yes)) (G := GE false lk (2 * n + 2)) (fun H4 e4 => ed_tup (es_one ed_cS) (Nat.le_of_ble_eq_true rfl)) ⟨.yes, rfl, rfl, rfl, by simp only [deep]; omega⟩) (by omega) fun d v H4 g e4 F4 a => q d v H4 g ((e1.trans (ExF.ex (e2.trans e3))).trans e4) (F4.le (by omega)) a
    rcases hR with rfl | ⟨n', rfl, rfl⟩
    · refine z_no' (et_is (et_and (a := false) (et_is (et_d (ed_IB (ed_var S1 rfl) ed_cI)) rfl) fun z => nomatch z) (b := false) (Bool.false_and true)) fun H2 e2 => ?_
      refine z_no' (et_is (et_and (a := false) (et_is (et_d (ed_IB (ed_var (S1.mono e2) rfl) ed_cI)) rfl) fun z => nomatch z) (b := false) (Bool.false_and true)) fun H3 e3 => ?_
      exact yes (e2.trans e3)
    · have ts := tcst_succ n'
      have tp' := tcst_pos n'
      have dm : ((n' + 1 : Nat) : Int) - 1 = (n' : Int) := by omega
      have claim : ∀ {σ2 : L2.St} {H2 : Hp} {l2 : List Sl} {m0 : Nat}, Fd H2 fa ca m0 → Sg K H2 σ2 l2 → l2[0]? = some (.v (.ref fa)) → l2[1]? = some (.d (boxD m)) → l2[2]? = some (.d (nD (n' + 1))) → l2[3]? = some (.d (.bl lk)) → EvF K fa ca (tCall (spD K (RCld n')) [] E0 (tCons (tVar 0) (tCons (tVar 1) (tCons (tOp (rI0 fun i j => .int (i - j)) (tVar 2) (tC (.int 1))) (tCons (tVar 3) tNil))))) σ2 H2 (3 * tcst n') (GE false lk (2 * n' + 2)) := fun {σ2 H2 l2 m0} F2 S2 i0 i1 i2 i3 =>
        ef_le (ef_call (c1 := 0) (c2 := 3 * tcst n') S2 i0 (efs_d fun H3 e => es_cons (ed_var (FdS F2 S2 e) i1) (es_cons ((ed_II (ed_var (FdS F2 S2 e) i2) ed_cI).is (congrArg Dt.int dm)) (es_one (ed_var (FdS F2 S2 e) i3)))) fun ds e => ⟨m, lk, e, rfl, rfl⟩) (by omega) fun _ g => g
      refine z_when (et_and (et_d (ed_IB (ed_var S1 rfl) ed_cI)) fun _ => et_d (ed_eqI (ed_var S1 rfl) ed_cI)) (fun hb H2 e2 => ?_) fun hb H2 e2 => ?_
      · have F2 := F1.ex e2
        have S2 := S1.mono e2
        refine yf_ret F2 (ef_tup2 (c1 := 0) (G1 := fun d => d = .str "not") (G := GE false lk (2 * (n' + 1) + 2)) (ef_d (fun _ _ => ed_cS) rfl) (claim F2 S2 rfl rfl rfl rfl) fun d e h1 h2 => ?_) (by omega) fun d v H5 g e5 F5 a => q d v H5 g ((e1.trans (ExF.ex e2)).trans e5) (F5.le (by omega)) a
        obtain ⟨x, rfl, x1, x2, x3⟩ := h2
        subst h1
        exact ⟨.not x, rfl, by simp only [rng, x1], by simp only [okL, x2], by simp only [deep]; omega⟩
      · have S2 := S1.mono e2
        refine z_when (et_and (et_d (ed_IB (ed_var S2 rfl) ed_cI)) fun _ => et_d (ed_IB (ed_var S2 rfl) ed_cI)) (fun hb3 H3 e3 => ?_) fun hb3 H3 e3 => yes (e2.trans e3)
        rw [Bool.and_eq_true, decide_eq_true_eq, decide_eq_true_eq] at hb3
        have hr3 : r < 3 := by
          have := hb3.2
          omega
        have hr0 : r ≠ 0 := fun z => by
          subst z
          have h1 : decide ((0 : Int) < ((n' + 1 : Nat) : Int)) = true := decide_eq_true (by omega)
          have h2 : decide (((0 : Nat) : Int) = 0) = true := rfl
          rw [h1, h2] at hb
          cases hb
        have F3 := (F1.ex e2).ex e3
        have S3 := S2.mono e3
        refine zf_asg S3 F3 (claim F3 S3 rfl rfl rfl rfl) (by omega) fun d7 σ7 H7 g7 e7 F7 S7 => ?_
        have ce : EvF K fa ca (tVar 5) σ7 H7 0 (fun d => d = d7) := ef_d (fun H8 e8 => ed_var (FdS F7 S7 e8) rfl) rfl
        refine yf_ret F7 (ef_tup3 (c1 := 0 + 0) (G1 := fun d => d = .str "and" ∨ d = .str "or") (G := GE false lk (2 * (n' + 1) + 2)) (ef_pickD (c1 := 0) (c2 := 0) (GL := fun l => l = [.str "and", .str "or"]) (G2 := fun d => d = nD (r - 1)) (efs_d fun H8 e8 => es_cons ed_cS (es_one ed_cS)) (fun ds g => by rw [g]; decide) (ef_d (fun H8 e8 => (ed_II (ed_var (FdS F7 S7 e8) rfl) ed_cI).is (congrArg Dt.int (show (r : Int) - 1 = ((r - 1 : Nat) : Int) by omega))) rfl) fun ds d gl g2 => ⟨r - 1, g2, by
            subst gl
            have h12 : r = 1 ∨ r = 2 := by omega
            rcases h12 with rfl | rfl
            · exact ⟨_, rfl, .inl rfl⟩
            · exact ⟨_, rfl, .inr rfl⟩⟩) ce (claim F7 S7 rfl rfl rfl rfl) fun d e f h1 h2 h3 => ?_) (by omega) fun d v H8 g e8 F8 a => q d v H8 g (((e1.trans (ExF.ex (e2.trans e3))).trans e7).trans e8) (F8.le (by omega)) a
        obtain ⟨x, rfl, x1, x2, x3⟩ := g7
        obtain ⟨y, rfl, y1, y2, y3⟩ := h3
        subst h2
        rcases h1 with rfl | rfl
        · exact ⟨.and x y, rfl, by simp only [rng, x1, y1, Bool.and_self], by simp only [okL, x2, y2, Bool.and_self], by simp only [deep]; omega⟩
        · exact ⟨.or x y, rfl, by simp only [rng, x1, y1, Bool.and_self], by simp only [okL, x2, y2, Bool.and_self], by simp only [deep]; omega⟩
theorem ok_tc (D1 : Df K mg "_law_term" s_l_term ["_law_feed_here", "_law_sizes", "_law_deep", "_law_inner"]) (D2 : Df K mg "_law_claim" s_l_claim ["_law_feed_here", "_law_sizes", "_law_deep", "_law_inner"]) (B : Bi mg) (O_l_draw : Ok P w K mg base CX0 1 "_law_draw" ["_law_feed_here", "_law_many"] (spD K RDr)) (O_l_leaf : Ok P w K mg base CX0 2 "_law_leaf" ["_law_feed_here", "_law_sizes", "_law_inner"] (spD K RLeaf)) : ∀ n : Nat,
    Ok P w K mg base CX0 (2 * n + 3) "_law_term" ["_law_feed_here", "_law_sizes", "_law_deep", "_law_inner"] (spD K (RTmd n)) ∧ Ok P w K mg base CX0 (2 * n + 4) "_law_claim" ["_law_feed_here", "_law_sizes", "_law_deep", "_law_inner"] (spD K (RCld n))
  | 0 => by
    have v1 : ∀ k : Nat, Ok P w K mg base CX0 (k + 1) "_law_term" ["_law_feed_here", "_law_sizes", "_law_deep", "_law_inner"] (spD K fun _ _ _ => False) := fun k => D1.okD sc_l_term (fun ds c d h => h.elim) fun cdv A outer s H f fa ca ds n0 c G Q E hr h F hn q => h.elim
    have v2 : ∀ k : Nat, Ok P w K mg base CX0 (k + 1) "_law_claim" ["_law_feed_here", "_law_sizes", "_law_deep", "_law_inner"] (spD K fun _ _ _ => False) := fun k => D2.okD sc_l_claim (fun ds c d h => h.elim) fun cdv A outer s H f fa ca ds n0 c G Q E hr h F hn q => h.elim
    have t0 := ok_term_of (k := 2) (n := 0) D1 B (by decide) (O_l_draw.mono (by decide)) O_l_leaf (v1 1) (v2 1) (.inl rfl)
    exact ⟨t0, ok_claim_of (k := 3) (n := 0) D2 B (by decide) (O_l_draw.mono (by decide)) t0 (v2 2) (.inl rfl)⟩
  | n + 1 => by
    obtain ⟨i1, i2⟩ := ok_tc D1 D2 B O_l_draw O_l_leaf n
    exact ⟨ok_term_of (k := 2 * n + 4) D1 B (by omega) (O_l_draw.mono (by omega)) (O_l_leaf.mono (by omega)) (i1.mono (by omega)) i2 (.inr ⟨n, rfl, rfl, rfl⟩), ok_claim_of (k := 2 * n + 5) D2 B (by omega) (O_l_draw.mono (by omega)) (i1.mono (by omega)) (i2.mono (by omega)) (.inr ⟨n, rfl, rfl⟩)⟩
end
end K9
end
section
set_option maxHeartbeats 1000000
/-! K9I: runs. -/
namespace K9M
theorem maxL_le {ns : List Nat} {b : Nat} (h : ∀ x ∈ ns, x ≤ b) : maxL ns ≤ b := by
  have go : ∀ (ns : List Nat) (a : Nat), a ≤ b → (∀ x ∈ ns, x ≤ b) → ns.foldl max a ≤ b := by
    intro ns
    induction ns with
    | nil => intro a ha _; exact ha
    | cons y ns ih =>
      intro a ha h
      have := h y List.mem_cons_self
      exact ih (max a y) (by omega) fun x hx => h x (List.mem_cons_of_mem _ hx)
  exact go ns 0 (Nat.zero_le _) h
theorem minL_le {ns : List Nat} {b : Nat} (h : ∀ x ∈ ns, x ≤ b) : minL ns ≤ b := by
  cases ns with
  | nil => exact Nat.zero_le _
  | cons n ns =>
    have go : ∀ (ns : List Nat) (a : Nat), a ≤ b → ns.foldl min a ≤ b := by
      intro ns
      induction ns with
      | nil => intro a ha; exact ha
      | cons y ns ih => intro a ha; exact ih (min a y) (by omega)
    exact go ns n (h n List.mem_cons_self)
/-- no value is large -/
theorem val_le {ey : List (List Nat)} {st : List Nat} {h : Nat} (hs : ∀ i, st.getD i 0 ≤ 100) (hh : h ≤ 100) (hz : ∀ h, (seen ey h).length ≤ 100) (hl : ∀ h o, o ∈ seen ey h → o ≤ 100) :
    ∀ {b : Bool} (e : E b) (o : Nat), o ≤ 100 → rng e = true → val ey st h e o ≤ 100 * size e := by
  intro b e
  have sp : ∀ {b : Bool} (e : E b), 1 ≤ size e := fun e => by cases e <;> simp [size]
  induction e with
  | num k => intro o ho r; simp only [rng, decide_eq_true_eq] at r; simp only [val, size]; omega
  | own => intro o ho r; have := hs h; simp only [val, size]; omega
  | eye e =>
    intro o ho r
    simp only [val, size]
    split
    · have := hs ((seen ey h).getD e 0)
      omega
    · omega
  | me => intro o ho r; simp only [val, size]; omega
  | plus a b iha ihb => intro o ho r; simp only [rng, Bool.and_eq_true] at r; have := iha o ho r.1; have := ihb o ho r.2; simp only [val, size]; omega
  | less a b iha ihb => intro o ho r; simp only [rng, Bool.and_eq_true] at r; have := iha o ho r.1; simp only [val, size]; omega
  | rest a k iha => intro o ho r; simp only [rng, Bool.and_eq_true] at r; have := iha o ho r.1.1; have := Nat.mod_le (val ey st h a o) k; simp only [val, size]; omega
  | least a iha =>
    intro o ho r
    simp only [rng] at r
    simp only [val, size]
    have := minL_le (ns := (seen ey h).map fun p => val ey st h a p) (b := 100 * size a) fun x hx => by
      obtain ⟨p, hp, rfl⟩ := List.mem_map.mp hx
      exact iha p (hl h p hp) r
    omega
  | most a iha =>
    intro o ho r
    simp only [rng] at r
    simp only [val, size]
    have := maxL_le (ns := (seen ey h).map fun p => val ey st h a p) (b := 100 * size a) fun x hx => by
      obtain ⟨p, hp, rfl⟩ := List.mem_map.mp hx
      exact iha p (hl h p hp) r
    omega
  | many c ihc =>
    intro o ho r
    simp only [val, size]
    have := List.length_filter_le (fun p => val ey st h c p != 0) (seen ey h)
    have := hz h
    omega
  | ite c a b ihc iha ihb =>
    intro o ho r
    simp only [rng, Bool.and_eq_true] at r
    have := iha o ho r.1.2
    have := ihb o ho r.2
    simp only [val, size]
    split <;> omega
  | its => intro o ho r; have := hs o; simp only [val, size]; omega
  | it => intro o ho r; simp only [val, size]; omega
  | yes => intro o ho r; simp only [val, size]; omega
  | like a b _ _ => intro o ho r; have := b2n_le (decide (val ey st h a o = val ey st h b o)); simp only [val, size]; omega
  | blw a b _ _ => intro o ho r; have := b2n_le (decide (val ey st h a o < val ey st h b o)); simp only [val, size]; omega
  | not c _ => intro o ho r; have := b2n_le (!(val ey st h c o != 0)); simp only [val, size]; omega
  | and c d _ _ => intro o ho r; have := b2n_le ((val ey st h c o != 0) && (val ey st h d o != 0)); simp only [val, size]; omega
  | or c d _ _ => intro o ho r; have := b2n_le ((val ey st h c o != 0) || (val ey st h d o != 0)); simp only [val, size]; omega
theorem sum_le_mul {α : Type} (f : α → Nat) (b : Nat) : ∀ l : List α, (∀ x ∈ l, f x ≤ b) → (l.map f).sum ≤ b * l.length
  | [], _ => Nat.zero_le _
  | a :: l, h => by
    have h1 := h a List.mem_cons_self
    have h2 := sum_le_mul f b l fun x hx => h x (List.mem_cons_of_mem _ hx)
    rw [List.map_cons, List.sum_cons, List.length_cons, Nat.mul_add, Nat.mul_one]
    omega
end K9M
namespace K9
open PySem PySem.Spec PyProof.Rows L2 Evl K9M RZ
/-- no total is large -/
theorem total_le {S : Sy} (ok : SyOk S) {st : List Nat} (X : Stand S st) {t p : E true} (ht : fit1 false t = true) (rt : rng t = true) (hp : pair1 p = true) (rp : rng p = true) : total S.ey t p st ≤ 300000 := by
  have hs : ∀ i, st.getD i 0 ≤ 100 := fun i => by
    by_cases hi : i < S.ey.length
    · have := X.lt i hi
      have := ok.m2
      omega
    · rw [List.getD_eq_getElem?_getD, List.getElem?_eq_none (by rw [X.len]; omega)]
      exact Nat.zero_le _
  have sm := ok.web.sm
  have hz : ∀ h, (seen S.ey h).length ≤ 100 := fun h => Nat.le_trans (ok.web.few h) (by decide)
  have hl : ∀ h o, o ∈ seen S.ey h → o ≤ 100 := fun h o ho => by have := ok.web.lt h o ho; omega
  have st1 : size t ≤ 60 := by
    unfold fit1 at ht
    rw [Bool.and_eq_true, Bool.and_eq_true, decide_eq_true_eq] at ht
    exact ht.1.2
  have sp1 : size p ≤ 60 := by
    unfold pair1 at hp
    rw [Bool.and_eq_true, Bool.and_eq_true, Bool.and_eq_true, decide_eq_true_eq] at hp
    have := hp.1.1.2
    omega
  have hsh : ∀ h ∈ List.range S.ey.length, share S.ey t p st h ≤ 42000 := fun h hh => by
    have hh' := List.mem_range.mp hh
    have h1 := val_le hs (h := h) (by omega) hz hl t 0 (by decide) rt
    have h2 := sum_le_mul (fun o => val S.ey st h p o) 6000 (seen S.ey h) fun o ho => Nat.le_trans (val_le hs (h := h) (by omega) hz hl p o (hl h o ho) rp) (by omega)
    have h3 := ok.web.few h
    unfold share
    omega
  have h4 := sum_le_mul (fun h => share S.ey t p st h) 42000 (List.range S.ey.length) hsh
  unfold total
  rw [List.length_range] at h4
  omega
/-- a system whose sums may be reckoned through -/
structure SyW (S : Sy) : Prop where
  ok : SyOk S
  web : Web S.ey
theorem SyW.rules {S : Sy} (Y : SyW S) : OkRules S := fun r hr => ⟨(Y.ok.ru r hr).1.ok, (Y.ok.ru r hr).2.ok⟩
/-- an act lets the sum fall -/
theorem act_falls {S : Sy} (Y : SyW S) {t p : E true} (rt : rng t = true) (rp : rng p = true) (L : LetS S t p) {st : List Nat} (X : Stand S st) {h : Nat} (hh : h < S.ey.length) (r : rdy S st h = true) : total S.ey t p (act S st h) < total S.ey t p st := by
  have ft := fit1_fit rt L.1
  have hp := L.2.1
  unfold pair1 at hp
  rw [Bool.and_eq_true, Bool.not_eq_true'] at hp
  have fp := pair1_fit rp L.2.1
  exact sum_falls Y.web Y.rules ft.ok (inner_near p fp.ok hp.2) X hh (arL S.ey t h) (fun g => mem_arL Y.ok.web hh) (fun st hst hr => by
    have := L.2.2 h hh st hst hr
    unfold part at this
    rw [List.map_cons, List.sum_cons, List.map_cons, List.sum_cons] at this
    exact this) r
theorem done_so {S : Sy} (Y : SyW S) {c : E false} (rc : rng c = true) (L : LetC S c) {st : List Nat} (X : Stand S st) {h : Nat} (hh : h < S.ey.length) (r : rdy S st h = false) : hol S.ey st h c 0 = true :=
  settled_so Y.web Y.rules (fit1_fit rc L.1).ok X hh (fun st hst hr => L.2 h hh st hst hr) r
section
variable {K : PySem.W.Frag} {fa ca : Addr} {σ : L2.St} {H H' : Hp} {ta tb te tl tx : TE} {t : TT} {d : Dt} {ds : List Dt} {D : Ends} {tu tw tz : TS} {l : List Sl} {c c1 c2 n : Nat} {G G1 G2 : Dt → Prop} {Ee : XK}
theorem ExF.mut {H0 H : Hp} {p : Addr} {o : HO} (e : ExF fa H0 H) (h : H0 p = none) : ExF fa H0 (L2.upd H p o) := fun b u hb hu => by
  have hbD : b ≠ p := fun z => by rw [z, h] at hu; cases hu
  rw [upd_ne hbD]
  exact e b u hb hu
/-- tuple([e for x in t]), draws within e -/
theorem ef_tupLc {α : Type} {j : Nat} {enc : α → Dt} (xs : List α) (h : ∀ H1, ExF fa H H1 → EvD K tl σ H1 (.tup (xs.map enc))) (hz : xs.length ≤ 1000)
    (hb : ∀ a v H1, a ∈ xs → ExF fa H H1 → At K H1 v (enc a) → EvF K fa ca te ((wipe σ [j]).set j (some v)) H1 c G) :
    EvF K fa ca (tCB (rTupO K) (tCons (tLc (iTup K tl) (gName j) tYes te [j]) tNil)) σ H (c * xs.length) (fun d => ∃ ds, d = .tup ds ∧ ds.length = xs.length ∧ ∀ x ∈ ds, G x) := fun H0 n e0 F hn Q q => h H0 e0 H0 (Ex.refl _) _ fun v H1 e1 a => by
  obtain ⟨p, vs, rfl, hs, al⟩ := a.of_tup
  have F1 := F.ex e1
  have ll : vs.length = xs.length := by rw [al.len, List.length_map]
  refine ⟨p, rfl, ⟨vs, hs⟩, fun D hD => lc_tup (xs := vs) (fun i H' => ExF fa H1 H' ∧ Fd H' fa ca (n + c * i) ∧ ∃ ws ds, H' D = some (.lst ws) ∧ AtL K H' ws ds ∧ ds.length = i ∧ ∀ x ∈ ds, G x) ⟨ExF.ex (Ex.new hD), F1.ex (Ex.new hD) |>.le (by omega), [], [], upd_same, .nil, rfl, fun x hx => nomatch hx⟩ (fun i H' _ k => F1.tk k.1 _ _ hs) (fun i x H' hi k => ⟨wipe_one _, ?_⟩) fun H' k => ?_⟩
  · obtain ⟨k1, k2, ws, ds, k3, k4, k5, k6⟩ := k
    have hil := (List.getElem?_eq_some_iff.mp hi).1
    obtain ⟨d, hd, ad⟩ := al.at hi
    rw [List.getElem?_map] at hd
    cases ea : xs[i]? with
    | none => rw [ea] at hd; cases hd
    | some y =>
      rw [ea] at hd
      obtain rfl : enc y = d := Option.some.inj hd
      refine et_yes H' (Ex.refl _) _ fun H3 e3 => ?_
      rw [if_pos rfl]
      have hci : c * (i + 1) ≤ c * xs.length := Nat.mul_le_mul_left c (by omega)
      rw [Nat.mul_add, Nat.mul_one] at hci
      refine hb y x H3 (List.mem_of_getElem? ea) ((e0.trans (ExF.ex e1)).trans (k1.trans (ExF.ex e3))) ((ad.tk (F1.tk k1)).mono e3) H3 (n + c * i) ExF.refl (k2.ex e3) (by omega) _ fun d v H4 g e4 F4 av => ?_
      have hDf : D ≠ fa := ne_feed (o := .lst []) F1 hD
      have h4 : H4 D = some (.lst ws) := e4 _ _ hDf (e3 _ _ k3)
      have tk : TKp K H4 (upd H4 D (.lst (ws ++ [v]))) := .exF h4 (ExF.upd _ _ _)
      refine ⟨ws, h4, sz_lt (by rw [k4.len, k5]; omega), (k1.trans ((ExF.ex e3).trans e4)).mut hD, ?_, ws ++ [v], ds ++ [d], upd_same, (((k4.mono e3).tk ((k2.ex e3).tk e4)).append (.one av)).tk tk, by rw [List.length_append, k5]; rfl, fun x hx => ?_⟩
      · obtain ⟨cs, a', left, X, ha⟩ := F4
        have hcD : ca ≠ D := fun z => by
          obtain ⟨cs1, a1, left1, X1, _⟩ := F1
          have h1 := X1.c
          rw [z, hD] at h1
          cases h1
        exact ⟨cs, a', left, ⟨by rw [upd_ne (Ne.symm hDf)]; exact X.f, by rw [upd_ne hcD]; exact X.c, X.l⟩, by rw [Nat.mul_add]; omega⟩
      · rcases List.mem_append.mp hx with hx | hx
        · exact k6 x hx
        · rw [List.mem_singleton] at hx
          rw [hx]
          exact g
  · obtain ⟨k1, k2, ws, ds, k3, k4, k5, k6⟩ := k
    rw [ll] at k2
    refine ⟨D, ws, rfl, .inl ⟨sq_of k3, fun r hr => q (.tup ds) _ _ ⟨ds, rfl, by rw [k5, ll], k6⟩ (((ExF.ex e1).trans k1).trans (ExF.ex (Ex.new hr))) (k2.ex (Ex.new hr)) (.tup (st_of upd_same) (k4.mono (Ex.new hr)))⟩⟩
theorem ed_neNil {i : Nat} {p : Addr} {vs : List V} {ns : List Int} (S : Sg K H σ l) (hi : l[i]? = some (.v (.ref p))) (hp : H p = some (.lst vs)) (ha : AtL K H vs (ns.map .int)) : EvD K (tOp (rNeD K) (tVar i) (tLst tNil)) σ H (.bl (!ns.isEmpty)) := fun H1 e Q q =>
  ⟨_, S.val hi, by show 0 ≤ sizeLine; exact Nat.zero_le _, fun r hr => by
    have e6 : Ex H1 (upd H1 r (.lst [])) := Ex.new hr
    refine ⟨.list (ns.map .int), .list [], .lst (sq_of (e6 _ _ (e _ _ hp))) (by rw [ha.ints]; exact dp_ints ns), .lst (sq_of upd_same) .nil, shaped_ints ns, shaped_ints [], ?_⟩
    rw [eqv_nil]
    exact q _ _ e6 (.bl _)⟩
theorem eqv_nil' (ns : List Int) : PyData.eqv (.list (ns.map .int)) (.list []) = ns.isEmpty := by
  cases ns <;> rfl
theorem ed_eqNil {i : Nat} {p : Addr} {vs : List V} {ns : List Int} (S : Sg K H σ l) (hi : l[i]? = some (.v (.ref p))) (hp : H p = some (.lst vs)) (ha : AtL K H vs (ns.map .int)) : EvD K (tOp (rEqD K) (tVar i) (tLst tNil)) σ H (.bl ns.isEmpty) := fun H1 e Q q =>
  ⟨_, S.val hi, by show 0 ≤ sizeLine; exact Nat.zero_le _, fun r hr => by
    have e6 : Ex H1 (upd H1 r (.lst [])) := Ex.new hr
    refine ⟨.list (ns.map .int), .list [], .lst (sq_of (e6 _ _ (e _ _ hp))) (by rw [ha.ints]; exact dp_ints ns), .lst (sq_of upd_same) .nil, shaped_ints ns, shaped_ints [], ?_⟩
    rw [eqv_nil']
    exact q _ _ e6 (.bl _)⟩
theorem ed_repr {i : Int} (h : EvD K ta σ H (.int i)) (hz : i.natAbs.log2 < 1920) : EvD K (tCB (fun xs H Q => ∃ i, xs = [.int i] ∧ i.natAbs.log2 < 1920 ∧ Q (.str (toString i)) H) (tCons ta tNil)) σ H (.str (toString i)) := fun H1 e Q q =>
  h H1 e _ fun v H2 e2 a => ⟨i, by rw [a.of_int], hz, q _ H2 e2 (.str _)⟩
theorem ef_callF {R : List Dt → Dt → Prop} {ta : TA} {Ga : List Dt → Prop} (h : EvFS K fa ca ta σ H c Ga) (hR : ∀ ds, Ga ds → ∃ d, R ds d ∧ G d) : EvF K fa ca (tCall (spF K R) [] Ee ta) σ H c G := fun H0 n e0 F hn Q q =>
  h H0 n e0 F hn _ fun ds vs H1 g e F1 a => by
    obtain ⟨d, r, gd⟩ := hR ds g
    rw [List.append_nil]
    exact ⟨ds, d, a, r, fun v H2 e2 b => q d v H2 gd (e.trans (ExF.ex e2)) (F1.ex e2) b⟩
end
/-! ### stands, runs -/
def GSt (S : Sy) : Dt → Prop := fun d => ∃ st, Stand S st ∧ d = stD st
theorem st_of_boxes {m : Nat} : ∀ ds : List Dt, (∀ x ∈ ds, ∃ r : Nat, r < m ∧ x = boxD r) → ∃ st : List Nat, ds = st.map boxD ∧ ∀ r ∈ st, r < m
  | [], _ => ⟨[], rfl, fun r h => nomatch h⟩
  | x :: ds, h => by
    obtain ⟨r, hr, rfl⟩ := h x List.mem_cons_self
    obtain ⟨st, rfl, hs⟩ := st_of_boxes ds fun y hy => h y (List.mem_cons_of_mem _ hy)
    refine ⟨r :: st, rfl, fun r' h' => ?_⟩
    rcases List.mem_cons.mp h' with rfl | h'
    · exact hr
    · exact hs r' h'
def RSd : List Dt → Nat → (Dt → Prop) → Prop := fun ds c G => ∃ S : Sy, SyOk S ∧ ds = [sysD S] ∧ c = 6 ∧ G = GSt S
/-- more than any run's acts -/
def RRr : List Dt → Nat → (Dt → Prop) → Prop := fun ds c G => ∃ (S : Sy) (t p : E true), SyW S ∧ rng t = true ∧ rng p = true ∧ LetS S t p ∧ ds = [sysD S, sumD t p] ∧ c = 300010 ∧ G = fun d => d = .bl true
/-- the runs of it are short -/
def Short (S : Sy) : Prop := ∃ t p, rng t = true ∧ rng p = true ∧ LetS S t p ∧ ∀ st, Stand S st → total S.ey t p st ≤ 79
def RGoal (S : Sy) (c : E false) (d : Dt) : Prop := d = .non ∨ (d = goalD c ∧ Short S)
def REr : List Dt → Nat → (Dt → Prop) → Prop := fun ds c G => ∃ (S : Sy) (cl : E false) (dg : Dt), SyW S ∧ rng cl = true ∧ LetC S cl ∧ RGoal S cl dg ∧ ds = [sysD S, dg, encE cl] ∧ c = 100 ∧ G = fun d => d = .bl true
abbrev s_l_stand : Stmt := top 96
theorem sc_l_stand : FnScope ["_law_feed_here", "_law_system", "_law_hand"] ["_law_feed_here", "_law_system"] (defScope s_l_stand) := ⟨rfl, rfl, rfl, by decide +kernel, rfl, by decide +kernel, by decide +kernel⟩
abbrev s_l_run_right : Stmt := top 97
theorem sc_l_run_right : FnScope ["_law_feed_here", "_law_system", "_law_shares", "_law_stand_here", "_law_total_here", "_law_some", "_law_less"] ["_law_feed_here", "_law_system", "_law_shares"] (defScope s_l_run_right) := ⟨rfl, rfl, rfl, by decide +kernel, rfl, by decide +kernel, by decide +kernel⟩
abbrev s_l_ends_right : Stmt := top 98
theorem sc_l_ends_right : FnScope ["_law_feed_here", "_law_system", "_law_goal", "_law_claim_here", "_law_stand_here", "_law_turn", "_law_some", "_law_good", "_law_hand"] ["_law_feed_here", "_law_system", "_law_goal", "_law_claim_here"] (defScope s_l_ends_right) := ⟨rfl, rfl, rfl, by decide +kernel, rfl, by decide +kernel, by decide +kernel⟩
section
variable {P : Program} {w : World} {K : PySem.W.Frag} {mg : Str → Option Value} {base : Heap}
theorem ok_stand (D : Df K mg "_law_stand" s_l_stand ["_law_feed_here", "_law_system"]) (B : Bi mg) (O_l_draw : Ok P w K mg base CX0 1 "_law_draw" ["_law_feed_here", "_law_many"] (spD K RDr)) : Ok P w K mg base CX0 2 "_law_stand" ["_law_feed_here", "_law_system"] (spD K RSd) := by
  refine D.okD sc_l_stand (fun ds c d h => ?_) fun cdv A outer s H f fa ca ds n0 c G Q E hr h F hn q => ?_
  · obtain ⟨_, _, rfl, _⟩ := h
    rfl
  · obtain ⟨Y, ok, rfl, rfl, rfl⟩ := h
    refine ⟨_, (pss_one (ps_ret (pe_callTy call_tuple_of rfl B.tuple (by decide +kernel) (pa_cons (pe_lc (own := [("_law_hand", 2)]) (g := gName 2) (tt := tYes) rfl sc_l_stand.nd (pi_tup (pe_ix ix_tup (pv 1) pe_int (fun _ _ => rfl))) (blkOk_by (N := ["_law_feed_here", "_law_system", "_law_hand"]) (sc := defScope s_l_stand) (by decide +kernel)) (fun _ _ _ _ _ => (pg_name (i := 2) sc_l_stand.nd rfl (Or.inl rfl))) (fun _ _ _ _ _ => pts_nil) (fun _ _ _ _ _ => (pe_tup (pa_cons (pe_ok O_l_draw hr rfl (pa_cons (pv 0) (pa_cons (pe_ix (show IxR _ (rIxT K) from ix_tup) (pe_ix (show IxR _ (rIxT K) from ix_tup) (pv 1) pe_int (fun _ _ => rfl)) pe_int (fun _ _ => rfl)) pa_nil))) pa_nil)))) pa_nil)))), fun σ S => ?_⟩
    have sm := ok.web.sm
    have m1 := ok.m1
    have m2 := ok.m2
    refine yf_ret F (ef_le (ef_tupLc (c := 1) (G := fun d => ∃ r : Nat, r < Y.m ∧ d = boxD r) (enc := rowD) Y.ey (fun H1 e1 => ed_ixc (j := 0) (ed_var (FdS F S e1) rfl) rfl) (by omega) fun a v H1 ha e1 av => ?_) (by omega) (G2 := GSt Y) fun d g => ?_) (by omega) q
    · have S1 := ((FdS F S e1).wipe [2]).setD av 2
      have F1 : TKp K H H1 := F.tk e1
      exact ef_tup1 (b := 0) (ef_le (ef_call (c1 := 0) (c2 := 1) S1 rfl (efs_d (ds := [nD Y.m]) fun H2 e2 => es_one (ed_ixc (j := 0) (ed_ixc (j := 1) (ed_var ((((S.tk (F.tk (e1.trans e2)))).wipe [2]).setN _ 2 |> fun z => z) rfl) rfl) rfl)) fun ds e => ⟨Y.m, by omega, by omega, e, rfl, rfl⟩) (by omega) fun _ g => g) fun d g => by
        obtain ⟨r, hr, rfl⟩ := g
        exact ⟨r, hr, rfl⟩
    · obtain ⟨ds, rfl, hl, hall⟩ := g
      obtain ⟨st, rfl, hs⟩ := st_of_boxes ds hall
      rw [List.length_map] at hl
      refine ⟨st, ⟨hl, fun i hi => ?_⟩, rfl⟩
      rw [List.getD_eq_getElem?_getD, List.getElem?_eq_getElem (by omega)]
      exact hs _ (List.getElem_mem (by omega))
theorem log_small {n : Nat} (h : n ≤ 300000) : ((n : Int)).natAbs.log2 < 1920 := by
  have h1 : ((n : Int)).natAbs = n := Int.natAbs_natCast n
  rw [h1]
  rcases Nat.eq_zero_or_pos n with rfl | hp
  · decide
  · exact (Nat.log2_lt (by omega)).mpr (Nat.lt_of_le_of_lt h (Nat.lt_of_lt_of_le (show 300000 < 2 ^ 20 by decide) (Nat.pow_le_pow_right (by decide) (by decide))))
theorem act_st {S : Sy} (ok : SyOk S) {st : List Nat} (X : Stand S st) (h : Nat) : Stand S (act S st h) := act_stand X (by have := ok.m1; omega) h
def rdyL (S : Sy) (st : List Nat) : List Nat := (List.range S.ey.length).filter fun h => rdy S st h
theorem mem_rdyL {S : Sy} {st : List Nat} {h : Nat} : h ∈ rdyL S st ↔ h < S.ey.length ∧ rdy S st h = true := by
  unfold rdyL
  rw [List.mem_filter, List.mem_range]
theorem rdyL_len {S : Sy} (ok : SyOk S) (st : List Nat) : (rdyL S st).length ≤ 6 := Nat.le_trans (List.length_filter_le _ _) (by rw [List.length_range]; exact ok.web.sm)
/-- the stand behind an act of one drawn ready hand -/
theorem ef_turn {σ : L2.St} {H : Hp} {l : List Sl} {fa ca p : Addr} {xs : List V} {i1 i3 i5 n : Nat} {Y : Sy} {st : List Nat} {Ee E2 : XK} (ok : SyOk Y) (X : Stand Y st) (S : Sg K H σ l) (F : Fd H fa ca n) (i0 : l[0]? = some (.v (.ref fa))) (h1 : l[i1]? = some (.d (sysD Y))) (h3 : l[i3]? = some (.d (stD st))) (h5 : l[i5]? = some (.v (.ref p))) (hp : H p = some (.lst xs)) (hpf : p ≠ fa) (al : AtL K H xs ((rdyL Y st).map nD)) (hne : 1 ≤ (rdyL Y st).length) :
    EvF K fa ca (tCall (spF K RLb) [] Ee (tCons (tVar i1) (tCons (tVar i3) (tCons (tTup (tCons (tOp (rIxL K) (tVar i5) (tCall (spD K RDr) [] E2 (tCons (tVar 0) (tCons (tCB (rLn K) (tCons (tVar i5) tNil)) tNil)))) tNil)) tNil)))) σ H 1 (fun d => ∃ h, h < Y.ey.length ∧ rdy Y st h = true ∧ d = stD (act Y st h)) := by
  have h6 := rdyL_len ok st
  refine ef_callF (efs_le (efs_cons (c1 := 0) (ef_d (d := sysD Y) (G := fun d => d = sysD Y) (fun H1 e => ed_var (FdS F S e) h1) rfl) (efs_cons (c1 := 0) (ef_d (d := stD st) (G := fun d => d = stD st) (fun H1 e => ed_var (FdS F S e) h3) rfl) (efs_cons (c1 := 1) (c2 := 0) (ef_tup1 (b := 0) (G2 := fun d => ∃ h, (h < Y.ey.length ∧ rdy Y st h = true) ∧ d = .tup [nD h]) (ef_pickL (G := fun d => ∃ h, (h < Y.ey.length ∧ rdy Y st h = true) ∧ d = nD h) S F h5 hp hpf al (ef_draw (m := (rdyL Y st).length) S i0 hne (by omega) fun H4 e4 => es_one ((ed_lenL (FdS F S e4) h5 (e4 _ _ hpf hp) (al.tk (F.tk e4))).is (by rw [List.length_map]))) fun d g => ?_) fun d g => ?_) efs_nil))) (by omega) fun ds g => g) fun ds g => ?_
  · obtain ⟨j, hj, rfl⟩ := g
    exact ⟨j, rfl, nD ((rdyL Y st)[j]), by rw [List.getElem?_map, List.getElem?_eq_getElem hj] <;> rfl, _, mem_rdyL.mp (List.getElem_mem hj), rfl⟩
  · obtain ⟨h, hh, rfl⟩ := g
    exact ⟨h, hh, rfl⟩
  · obtain ⟨d1, r1, rfl, rfl, d2, r2, rfl, rfl, d3, r3, rfl, ⟨h, hh, rfl⟩, rfl⟩ := g
    exact ⟨_, ⟨Y, st, h, ok, X.len, hh.1, hh.2, rfl, rfl⟩, h, hh.1, hh.2, rfl⟩
theorem rdy_ints (S : Sy) (st : List Nat) : (rdyL S st).map nD = ((rdyL S st).map fun n : Nat => (n : Int)).map .int := nD_ints _
theorem ok_run_right (D : Df K mg "_law_run_right" s_l_run_right ["_law_feed_here", "_law_system", "_law_shares"]) (B : Bi mg) (O_l_draw : Ok P w K mg base CX0 31 "_law_draw" ["_law_feed_here", "_law_many"] (spD K RDr)) (O_l_stand : Ok P w K mg base CX0 31 "_law_stand" ["_law_feed_here", "_law_system"] (spD K RSd))
    (O_l_total : Ok P w K mg base CX0 31 "_law_total" ["_law_system", "_law_shares", "_law_stand_here"] (spF K RTo)) (O_sum_at : Ok P w K mg base CX0 31 "sum_at" ["system", "shares", "stand"] (spF K RTo)) (O_l_ready : Ok P w K mg base CX0 31 "_law_ready" ["_law_system", "_law_stand_here"] (spM K RRh)) (O_l_behind : Ok P w K mg base CX0 31 "_law_behind" ["_law_system", "_law_stand_here", "_law_hands"] (spF K RLb)) :
    Ok P w K mg base CX0 32 "_law_run_right" ["_law_feed_here", "_law_system", "_law_shares"] (spD K RRr) := by
  refine D.okD sc_l_run_right (fun ds c d h => ?_) fun cdv A outer s H f fa ca ds n0 c G Q E hr h F hn q => ?_
  · obtain ⟨_, _, _, _, _, _, _, rfl, _⟩ := h
    rfl
  · obtain ⟨Y, t, pr, SW, rt, rp, L, rfl, rfl, rfl⟩ := h
    have ok := SW.ok
    have ft := fit1_fit rt L.1
    have fp := pair1_fit rp L.2.1
    have hu := hr.units
    have hn' : n0 + 300010 ≤ 1000000000 := hn
    refine ⟨_, (pss_cons (ps_set (i := 3) sc_l_run_right.nd rfl (Or.inl rfl) (pe_ok O_l_stand hr rfl (pa_cons (pv 0) (pa_cons (pv 1) pa_nil))))
    (pss_cons (ps_set (i := 4) sc_l_run_right.nd rfl (Or.inl rfl) (pe_ok O_l_total hr rfl (pa_cons (pv 1) (pa_cons (pv 2) (pa_cons (pv 3) pa_nil)))))
    (pss_cons (ps_if (pt_cmpR op_ne (pe_callB SkE.call_repr_int rfl B.repr (by decide +kernel) (pa_cons (pe_ok O_sum_at hr rfl (pa_cons (pv 1) (pa_cons (pv 2) (pa_cons (pv 3) pa_nil)))) pa_nil)) (pe_callB SkE.call_repr_int rfl B.repr (by decide +kernel) (pa_cons (pv 4) pa_nil)) (nomark _)) (pss_one (ps_ret pe_bl)) pss_nil)
    (pss_cons (ps_set (i := 5) sc_l_run_right.nd rfl (Or.inl rfl) (pe_ok O_l_ready hr rfl (pa_cons (pv 1) (pa_cons (pv 3) pa_nil))))
    (pss_cons (ps_while PassesOwn.never ((pt_cmpR (op_neD hu) (pv 5) (pe_lst pa_nil) (nomark _))) (pss_cons (ps_set (i := 3) sc_l_run_right.nd rfl (Or.inl rfl) (pe_ok O_l_behind hr rfl (pa_cons (pv 1) (pa_cons (pv 3) (pa_cons (pe_tup (pa_cons (pe_ix ix_list (pv 5) (pe_ok O_l_draw hr rfl (pa_cons (pv 0) (pa_cons (pe_callB call_len_seq rfl B.len (by decide +kernel) (pa_cons (pv 5) pa_nil)) pa_nil))) (fun _ _ => rfl)) pa_nil)) pa_nil)))))
      (pss_cons (ps_set (i := 6) sc_l_run_right.nd rfl (Or.inl rfl) (pe_ok O_l_total hr rfl (pa_cons (pv 1) (pa_cons (pv 2) (pa_cons (pv 3) pa_nil)))))
      (pss_cons (ps_if (pt_cmpR op_ge (pv 6) (pv 4) (nomark _)) (pss_one (ps_ret pe_bl)) pss_nil)
      (pss_cons (ps_set (i := 4) sc_l_run_right.nd rfl (Or.inl rfl) (pv 6))
      (pss_one (ps_set (i := 5) sc_l_run_right.nd rfl (Or.inl rfl) (pe_ok O_l_ready hr rfl (pa_cons (pv 1) (pa_cons (pv 3) pa_nil))))))))))
    (pss_one (ps_ret pe_bl))))))), fun σ S => ?_⟩
    refine zf_asg S F (ef_le (ef_call (c1 := 0) (c2 := 6) S rfl (efs_d (ds := [sysD Y]) fun H1 e => es_one (ed_var (FdS F S e) rfl)) fun ds e => ⟨Y, ok, e, rfl, rfl⟩) (by omega) fun _ g => g) (c := 6) (by show n0 + 6 ≤ 1000000000; omega) fun d σ1 H1 g e1 F1 S1 => ?_
    obtain ⟨st0, X0, rfl⟩ := g
    have T0 := total_le ok X0 L.1 rt L.2.1 rp
    refine z_asg S1 (ed_call (es_cons (ed_var S1 rfl) (es_cons (ed_var S1 rfl) (es_one (ed_var S1 rfl)))) ⟨Y, t, pr, st0, ok, X0.len, ft, fp, rfl, rfl⟩) fun σ2 H2 e2 S2 => ?_
    refine z_no' (et_is (et_d (ed_neS (ed_repr (ed_call (es_cons (ed_var S2 rfl) (es_cons (ed_var S2 rfl) (es_one (ed_var S2 rfl)))) ⟨Y, t, pr, st0, ok, X0.len, ft, fp, rfl, rfl⟩) (log_small T0)) (ed_repr (ed_var S2 rfl) (log_small T0)))) ?_) fun H3 e3 => ?_
    · rw [decide_eq_true rfl] <;> rfl
    have S3 := S2.mono e3
    have F3 := (F1.ex e2).ex e3
    refine z_asgM S3 (em_call (es_cons (ed_var S3 rfl) (es_one (ed_var S3 rfl))) ⟨Y, st0, ok, X0.len, rfl, rfl⟩) fun p xs σ4 H4 hp e4 hx ax S4 => ?_
    have e04 : ExF fa H H4 := ((e1.trans (ExF.ex e2)).trans (ExF.ex e3)).trans (ExF.ex e4)
    refine q_while (fun m σ' H' => ∃ st p xs, Stand Y st ∧ m = total Y.ey t pr st ∧ Sg K H' σ' [.v (.ref fa), .d (sysD Y), .d (sumD t pr), .d (stD st), .d (nD (total Y.ey t pr st)), .v (.ref p), .no] ∧ ExF fa H H' ∧ total Y.ey t pr st ≤ total Y.ey t pr st0 ∧ Fd H' fa ca (n0 + 6 + (total Y.ey t pr st0 - total Y.ey t pr st)) ∧ p ≠ fa ∧ H' p = some (.lst xs) ∧ AtL K H' xs ((rdyL Y st).map nD)) (total Y.ey t pr st0)
      ⟨st0, p, xs, X0, rfl, S4.less rfl fun i => ?_, e04, Nat.le_refl _, (F3.ex e4).le (by omega), ne_feed (o := .lst []) F3 hp, hx, ax⟩ ?_
    · match i with
      | 0 => rfl
      | 1 => rfl
      | 2 => rfl
      | 3 => rfl
      | 4 => rfl
      | 5 => rfl
      | 6 => trivial
      | n + 7 => trivial
    rintro m σ' H' ⟨st, p, xs, X, rfl, S5, e5, tl, F5, hpf, hx, ax⟩
    have ai : AtL K H' xs (((rdyL Y st).map fun n : Nat => (n : Int)).map .int) := by rw [← rdy_ints]; exact ax
    refine ⟨_, et_d (ed_neNil S5 rfl hx ai), fun hb H6 e6 => ?_, fun hb H6 e6 => ?_⟩
    · have hne : 1 ≤ (rdyL Y st).length := by
        cases hz : rdyL Y st with
        | nil => rw [hz] at hb; cases hb
        | cons a l => rw [List.length_cons]; omega
      have F6 := F5.ex e6
      have S6 := S5.mono e6
      have TS := total_le ok X L.1 rt L.2.1 rp
      refine ⟨_, fun _ _ h => h, ?_⟩
      refine zf_asg S6 F6 (ef_turn ok X S6 F6 rfl rfl rfl rfl (e6 _ _ hx) hpf (ax.mono e6) hne) (by show _ + 1 ≤ 1000000000; omega) fun d σ7 H7 g e7 F7 S7 => ?_
      obtain ⟨h, hh, hy, rfl⟩ := g
      have fall := act_falls SW rt rp L X hh hy
      have X7 := act_st ok X h
      refine z_asg S7 (ed_call (es_cons (ed_var S7 rfl) (es_cons (ed_var S7 rfl) (es_one (ed_var S7 rfl)))) ⟨Y, t, pr, _, ok, X7.len, ft, fp, rfl, rfl⟩) fun σ8 H8 e8 S8 => ?_
      refine z_no' (et_is (et_d (ed_IB (ed_var S8 rfl) (ed_var S8 rfl))) (decide_eq_false (by omega))) fun H9 e9 => ?_
      have S9 := S8.mono e9
      refine z_asg S9 (ed_var S9 rfl) fun σ10 H10 e10 S10 => ?_
      have F10 := ((F7.ex e8).ex e9).ex e10
      refine y_asgM S10 (em_call (es_cons (ed_var S10 rfl) (es_one (ed_var S10 rfl))) ⟨Y, _, ok, X7.len, rfl, rfl⟩) fun p' xs' σ11 H11 hp' e11 hx' ax' S11 => ?_
      refine ⟨total Y.ey t pr (act Y st h), fall, act Y st h, p', xs', X7, rfl, S11.less rfl fun i => ?_, ((e5.trans (ExF.ex e6)).trans e7).trans (ExF.ex ((e8.trans e9).trans (e10.trans e11))), by omega, (F10.ex e11).le (by omega), ne_feed (o := .lst []) F10 hp', hx', ax'⟩
      match i with
      | 0 => rfl
      | 1 => rfl
      | 2 => rfl
      | 3 => rfl
      | 4 => rfl
      | 5 => rfl
      | 6 => trivial
      | n + 7 => trivial
    · exact y_ret (K := K) ed_cB fun v H7 e7 a => q (.bl true) v H7 rfl ((e5.trans (ExF.ex e6)).trans (ExF.ex e7)) (((F5.ex e6).ex e7).le (by omega)) a
theorem ok_ends_right (D : Df K mg "_law_ends_right" s_l_ends_right ["_law_feed_here", "_law_system", "_law_goal", "_law_claim_here"]) (B : Bi mg) (O_l_draw : Ok P w K mg base CX0 31 "_law_draw" ["_law_feed_here", "_law_many"] (spD K RDr)) (O_l_stand : Ok P w K mg base CX0 31 "_law_stand" ["_law_feed_here", "_law_system"] (spD K RSd))
    (O_l_ready : Ok P w K mg base CX0 31 "_law_ready" ["_law_system", "_law_stand_here"] (spM K RRh)) (O_l_behind : Ok P w K mg base CX0 31 "_law_behind" ["_law_system", "_law_stand_here", "_law_hands"] (spF K RLb)) (O_l_holds : Ok P w K mg base CX0 31 "_law_holds" ["_law_system", "_law_stand_here", "_law_hand", "_law_other", "_law_claim_here"] (spF K (RLh 12)))
    (O_l_right : Ok P w K mg base CX0 31 "_law_right" ["_law_system", "_law_goal", "_law_stand_here"] (spF K RLg)) :
    Ok P w K mg base CX0 32 "_law_ends_right" ["_law_feed_here", "_law_system", "_law_goal", "_law_claim_here"] (spD K REr) := by
  refine D.okD sc_l_ends_right (fun ds c d h => ?_) fun cdv A outer s H f fa ca ds n0 c G Q E hr h F hn q => ?_
  · obtain ⟨_, _, _, _, _, _, _, rfl, _⟩ := h
    rfl
  · obtain ⟨Y, cl, dg, SW, rc, L, hg, rfl, rfl, rfl⟩ := h
    have ok := SW.ok
    have fc := fit1_fit rc L.1
    have hu := hr.units
    have hn' : n0 + 100 ≤ 1000000000 := hn
    have sm := ok.web.sm
    refine ⟨_, (pss_cons (ps_set (i := 4) sc_l_ends_right.nd rfl (Or.inr rfl) (pe_ok O_l_stand hr rfl (pa_cons (pv 0) (pa_cons (pv 1) pa_nil))))
    (pss_cons (ps_for PassesOwn.never rfl (pi_range1 rfl B.range (pa_cons pe_int pa_nil)) (pg_name (i := 5) sc_l_ends_right.nd rfl (Or.inl rfl)) (pss_cons (ps_set (i := 6) sc_l_ends_right.nd rfl (Or.inl rfl) (pe_ok O_l_ready hr rfl (pa_cons (pv 1) (pa_cons (pv 4) pa_nil))))
      (pss_cons (ps_if ((pt_cmpR (op_eqD hu) (pv 6) (pe_lst pa_nil) (nomark _))) (pss_cons (ps_setLc (i := 7) (own := [("_law_hand", 8)]) (g := gName 8) (tt := tYes) rfl sc_l_ends_right.nd rfl rfl (sw_true rfl rfl rfl (by decide +kernel)) (pi_range1 rfl B.range (pa_cons (pe_callB call_len_seq rfl B.len (by decide +kernel) (pa_cons (pv 4) pa_nil)) pa_nil)) (blkOk_by (N := ["_law_feed_here", "_law_system", "_law_goal", "_law_claim_here", "_law_stand_here", "_law_turn", "_law_some", "_law_good", "_law_hand"]) (sc := defScope s_l_ends_right) (by decide +kernel)) (fun _ _ _ _ _ => (pg_name (i := 8) sc_l_ends_right.nd rfl (Or.inl rfl))) (fun _ _ _ _ _ => pts_nil) (fun _ _ _ _ _ => (pe_ok O_l_holds hr rfl (pa_cons (pv 1) (pa_cons (pv 4) (pa_cons (pv 8) (pa_cons pe_non (pa_cons (pv 3) pa_nil))))))))
        (pss_one (ps_ret (pe_and (pe_cmpR op_notIn_seq pe_bl (pv 7) (by rfl)) (pe_one (pe_or (pe_cmpR op_isN (pv 2) pe_non (nomark _)) (pe_one (pe_ok O_l_right hr rfl (pa_cons (pv 1) (pa_cons (pv 2) (pa_cons (pv 4) pa_nil))))))))))) pss_nil)
      (pss_one (ps_set (i := 4) sc_l_ends_right.nd rfl (Or.inr rfl) (pe_ok O_l_behind hr rfl (pa_cons (pv 1) (pa_cons (pv 4) (pa_cons (pe_tup (pa_cons (pe_ix ix_list (pv 6) (pe_ok O_l_draw hr rfl (pa_cons (pv 0) (pa_cons (pe_callB call_len_seq rfl B.len (by decide +kernel) (pa_cons (pv 6) pa_nil)) pa_nil))) (fun _ _ => rfl)) pa_nil)) pa_nil)))))))))
    (pss_one (ps_ret (pe_cmpR op_isN (pv 2) pe_non (nomark _)))))), fun σ S => ?_⟩
    refine zf_asg S F (ef_le (ef_call (c1 := 0) (c2 := 6) S rfl (efs_d (ds := [sysD Y]) fun H1 e => es_one (ed_var (FdS F S e) rfl)) fun ds e => ⟨Y, ok, e, rfl, rfl⟩) (by omega) fun _ g => g) (c := 6) (by show n0 + 6 ≤ 1000000000; omega) fun d σ1 H1 g e1 F1 S1 => ?_
    obtain ⟨st0, X0, rfl⟩ := g
    refine q_for1 (tf_rangen (K := K) (n := 80) (es_one ed_cI) (by decide) (fun i σ' H' => ∃ st, Stand Y st ∧ Sg K H' σ' [.v (.ref fa), .d (sysD Y), .d dg, .d (encE cl), .d (stD st), .no, .no, .no, .no] ∧ ExF fa H H' ∧ Fd H' fa ca (n0 + 6 + i) ∧ (dg = .non ∨ (dg = goalD cl ∧ ∃ t p, rng t = true ∧ rng p = true ∧ LetS Y t p ∧ total Y.ey t p st + i ≤ 79)))
      (fun H2 e2 => ⟨st0, X0, S1.mono e2, e1.trans (ExF.ex e2), F1.ex e2, ?_⟩) (fun i σ' H' hi k => ?_) fun σ' H' k => ?_)
    · rcases hg with rfl | ⟨rfl, t, p, h1, h2, h3, h4⟩
      · exact .inl rfl
      · exact .inr ⟨rfl, t, p, h1, h2, h3, h4 st0 X0⟩
    · obtain ⟨st, X, k1, k2, k3, k4⟩ := k
      have S2 := k1.setD (.int (i : Int)) 5
      refine z_asgM S2 (em_call (es_cons (ed_var S2 rfl) (es_one (ed_var S2 rfl))) ⟨Y, st, ok, X.len, rfl, rfl⟩) fun p xs σ3 H3 hp e3 hx ax S3 => ?_
      have ai : AtL K H3 xs (((rdyL Y st).map fun n : Nat => (n : Int)).map .int) := by rw [← rdy_ints]; exact ax
      have F3 := k3.ex e3
      refine z_when (et_d (ed_eqNil S3 rfl hx ai)) (fun hb H4 e4 => ?_) fun hb H4 e4 => ?_
      · have hz : rdyL Y st = [] := by
          cases hz : rdyL Y st with
          | nil => rfl
          | cons a l => rw [hz] at hb; cases hb
        have all : ∀ h, h < Y.ey.length → hol Y.ey st h cl 0 = true := fun h hh => done_so SW rc L X hh (by
          cases hy : rdy Y st h with
          | false => rfl
          | true =>
            have := mem_rdyL.mpr ⟨hh, hy⟩
            rw [hz] at this
            cases this)
        have S4 := S3.mono e4
        refine z_asgM S4 (ds := ((List.range Y.ey.length).map fun h => hol Y.ey st h cl 0).map .bl) ((em_lcR (n := Y.ey.length) (fun _ => true) (fun h => .bl (hol Y.ey st h cl 0)) (es_one ((ed_len (ds := st.map boxD) (ed_var S4 rfl)).is (by rw [List.length_map, X.len]))) (by omega) fun h v H5 hh e5 a => ⟨et_yes, fun _ => ?_⟩).is ?_) fun gp gs σ5 H5 hgp e5 hg5 ag5 S5 => ?_
        · have S5 := ((S4.mono e5).wipe [8]).setD a 8
          exact ed_call (es_cons (ed_var S5 rfl) (es_cons (ed_var S5 rfl) (es_cons (ed_var S5 rfl) (es_cons (d := opD none) ed_cN (es_one (ed_var S5 rfl)))))) ⟨Y, st, h, none, cl, ok.web.sc X.len hh, ok.web, fc.dp, fc.ok, fc.rg, rfl, rfl⟩
        · rw [filter_yes, List.map_map]
          rfl
        · have hall : ((List.range Y.ey.length).all fun h => hol Y.ey st h cl 0) = true := List.all_eq_true.mpr fun h hh => all h (List.mem_range.mp hh)
          refine y_ret (K := K) (d := .bl true) ((ed_and (a := true) (b := true) ((ed_inBLst (neg := true) S5 rfl hg5 ag5 ed_cB).is (congrArg Dt.bl (by rw [if_pos rfl, notF_all, hall]))) fun _ => ?_)) fun v H6 e6 a => q (.bl true) v H6 rfl ((k2.trans (ExF.ex (e3.trans (e4.trans e5)))).trans (ExF.ex e6)) ((((F3.ex e4).ex e5).ex e6).le (by omega)) a
          rcases k4 with rfl | ⟨rfl, _⟩
          · exact (ed_or (a := true) (b := true) (ed_isN (d := .non) (ed_var S5 rfl)) fun z => nomatch z)
          · exact (ed_or (a := false) (b := true) (ed_isN (d := goalD cl) (ed_var S5 rfl)) fun _ => (ed_call (es_cons (ed_var S5 rfl) (es_cons (ed_var S5 rfl) (es_one (ed_var S5 rfl)))) ⟨Y, st, cl, ok.web, X.len, fc, rfl, rfl⟩).is (congrArg Dt.bl hall))
      · have hne : 1 ≤ (rdyL Y st).length := by
          cases hz : rdyL Y st with
          | nil => rw [hz] at hb; cases hb
          | cons a l => rw [List.length_cons]; omega
        have F4 := F3.ex e4
        have S4 := S3.mono e4
        have hpf := ne_feed (o := .lst []) k3 hp
        refine (ef_turn ok X S4 F4 rfl rfl rfl rfl (e4 _ _ hx) hpf (ax.mono e4) hne) H4 _ ExF.refl F4 (by show _ + 1 ≤ 1000000000; omega) _ fun d v H7 g e7 F7 av => ?_
        obtain ⟨h, hh, hy, rfl⟩ := g
        refine ⟨act Y st h, act_st ok X h, (((S4.tk (F4.tk e7)).setD av 4).less rfl fun i => ?_), (k2.trans (ExF.ex (e3.trans e4))).trans e7, F7, ?_⟩
        · match i with
          | 0 => rfl
          | 1 => rfl
          | 2 => rfl
          | 3 => rfl
          | 4 => rfl
          | 5 => trivial
          | 6 => trivial
          | 7 => trivial
          | 8 => trivial
          | n + 9 => trivial
        · rcases k4 with rfl | ⟨rfl, t, p, h1, h2, h3, h4⟩
          · exact .inl rfl
          · have fall := act_falls SW h1 h2 h3 X hh hy
            exact .inr ⟨rfl, t, p, h1, h2, h3, by omega⟩
    · obtain ⟨st, X, k1, k2, k3, k4⟩ := k
      rcases k4 with rfl | ⟨rfl, t, p, h1, h2, h3, h4⟩
      · exact y_ret (K := K) (D := { nx := fun _ H' => Q .non H', rt := Q }) (ed_isN (d := .non) (ed_var k1 rfl)) fun v H6 e6 a => q (.bl true) v H6 rfl (k2.trans (ExF.ex e6)) ((k3.ex e6).le (by omega)) a
      · omega
end
end K9
end
section
set_option maxHeartbeats 1000000
/-! K9J: drawn systems, settled claims. -/
namespace K9
open PySem PySem.Spec PyProof.Rows L2 Evl K9M RZ
section
variable {K : PySem.W.Frag} {fa ca : Addr} {σ : L2.St} {H H' : Hp} {ta tb te tl tx : TE} {t : TT} {d : Dt} {ds : List Dt} {D : Ends} {tu tw tz : TS} {l : List Sl} {c c1 c2 n : Nat} {G G1 G2 : Dt → Prop} {Ee : XK}
theorem ef_if {b : Bool} (h : ∀ H1, ExF fa H H1 → EvT t σ H1 b) (h1 : b = true → EvF K fa ca ta σ H c G) (h2 : b = false → EvF K fa ca tb σ H c G) : EvF K fa ca (tIf t ta tb) σ H c G := fun H1 n e0 F hn Q q => h H1 e0 H1 (Ex.refl _) _ fun H2 e2 => by
  cases b with
  | true => exact h1 rfl H2 n (e0.trans (ExF.ex e2)) (F.ex e2) hn Q fun d v H3 g e F3 a => q d v H3 g ((ExF.ex e2).trans e) F3 a
  | false => exact h2 rfl H2 n (e0.trans (ExF.ex e2)) (F.ex e2) hn Q fun d v H3 g e F3 a => q d v H3 g ((ExF.ex e2).trans e) F3 a
/-- of such an answer the truth -/
theorem tru_at {v : V} {k : Bool} (a : At K H v d) (h : (d = .bl true ∧ k = true) ∨ (d = .bl false ∧ k = false) ∨ (d = .non ∧ k = false)) : TruV K v H k := by
  rcases h with ⟨rfl, rfl⟩ | ⟨rfl, rfl⟩ | ⟨rfl, rfl⟩
  · rw [a.of_bl]; rfl
  · rw [a.of_bl]; rfl
  · rw [a.of_non]; rfl
/-- _law_let(..) as a test -/
theorem go_let {ta : TA} {RQ : Bool → Hp → Prop} {A : Prop} (h : EvS K ta σ H ds) (hR : ∀ G, G = (fun d : Dt => (d = .bl true ∧ A) ∨ (d = .bl false ∧ ¬ A) ∨ d = .non) → RLe ds G) (k1 : A → ∀ H1, Ex H H1 → RQ true H1) (k2 : ∀ H1, Ex H H1 → RQ false H1) :
    (fun (σ : L2.St) (H : Hp) (Q : Bool → Hp → Prop) => tCall (spN K RLe) [] Ee ta σ H fun x H' => ∃ k, TruV K x H' k ∧ Q k H') σ H RQ := h H (Ex.refl _) _ fun vs H1 e1 al => by
  show spN K RLe (vs ++ []) H1 _ Ee
  rw [List.append_nil]
  refine ⟨ds, _, al, hR _ rfl, fun d v H2 g e2 a => ?_⟩
  rcases g with ⟨rfl, hA⟩ | ⟨rfl, hA⟩ | rfl
  · exact ⟨true, tru_at a (.inl ⟨rfl, rfl⟩), k1 hA H2 (e1.trans e2)⟩
  · exact ⟨false, tru_at a (.inr (.inl ⟨rfl, rfl⟩)), k2 H2 (e1.trans e2)⟩
  · exact ⟨false, tru_at a (.inr (.inr ⟨rfl, rfl⟩)), k2 H2 (e1.trans e2)⟩
end
def RSr : List Dt → Nat → (Dt → Prop) → Prop := fun ds c G => ∃ (S : Sy) (cl : E false) (dg : Dt), SyW S ∧ rng cl = true ∧ RGoal S cl dg ∧ ds = [sysD S, dg, encE cl] ∧ c = 3 * 1300 ∧ G = fun d => d = .bl true
def RAy : List Dt → Nat → (Dt → Prop) → Prop := fun ds c G => ∃ (ey : List (List Nat)) (mo : Nat), Wok ey ∧ ds = [eyD ey, nD mo] ∧ c = 1700 ∧ G = fun d => ∃ S : Sy, SyOk S ∧ S.ey = ey ∧ d = sysD S
abbrev s_l_settled_right : Stmt := top 99
theorem sc_l_settled_right : FnScope ["_law_feed_here", "_law_system", "_law_goal", "_law_told", "_law_turn", "_law_claim_here"] ["_law_feed_here", "_law_system", "_law_goal", "_law_told"] (defScope s_l_settled_right) := ⟨rfl, rfl, rfl, by decide +kernel, rfl, by decide +kernel, by decide +kernel⟩
abbrev s_l_any_system : Stmt := top 94
theorem sc_l_any_system : FnScope ["_law_feed_here", "_law_eyes", "_law_most", "_law_size", "_law_term_here", "_law_claim_here"] ["_law_feed_here", "_law_eyes", "_law_most"] (defScope s_l_any_system) := ⟨rfl, rfl, rfl, by decide +kernel, rfl, by decide +kernel, by decide +kernel⟩
section
variable {P : Program} {w : World} {K : PySem.W.Frag} {mg : Str → Option Value} {base : Heap}
theorem tc1 : tcst 1 = 400 := by decide
theorem ok_settled_right (D : Df K mg "_law_settled_right" s_l_settled_right ["_law_feed_here", "_law_system", "_law_goal", "_law_told"]) (B : Bi mg) (O_l_claim : Ok P w K mg base CX0 37 "_law_claim" ["_law_feed_here", "_law_sizes", "_law_deep", "_law_inner"] (spD K (RCld 1))) (O_l_let : Ok P w K mg base CX0 37 "_law_let" ["_law_which", "_law_system", "_law_thing"] (spN K RLe)) (O_l_ends_right : Ok P w K mg base CX0 37 "_law_ends_right" ["_law_feed_here", "_law_system", "_law_goal", "_law_claim_here"] (spD K REr)) :
    Ok P w K mg base CX0 38 "_law_settled_right" ["_law_feed_here", "_law_system", "_law_goal", "_law_told"] (spD K RSr) := by
  refine D.okD sc_l_settled_right (fun ds c d h => ?_) fun cdv A outer s H f fa ca ds n0 c G Q E hr h F hn q => ?_
  · obtain ⟨_, _, _, _, _, _, rfl, _⟩ := h
    rfl
  · obtain ⟨Y, cl, dg, SW, rc, hg, rfl, rfl, rfl⟩ := h
    have hn' : n0 + 3 * 1300 ≤ 1000000000 := hn
    have t1 := tc1
    refine ⟨_, (pss_cons (ps_for PassesOwn.never rfl (pi_range1 rfl B.range (pa_cons pe_int pa_nil)) (pg_name (i := 4) sc_l_settled_right.nd rfl (Or.inl rfl)) (pss_cons (ps_set (i := 5) sc_l_settled_right.nd rfl (Or.inl rfl) (pe_ifExp (pt_cmpR op_eq (pv 4) pe_int (nomark _)) (pv 3) (pe_ok O_l_claim hr rfl (pa_cons (pv 0) (pa_cons (pe_ix ix_tup (pv 1) pe_int (fun _ _ => rfl)) (pa_cons pe_int (pa_cons pe_bl pa_nil)))))))
      (pss_one (ps_if ((pt_truth (pe_ok O_l_let hr rfl (pa_cons pe_int (pa_cons (pv 1) (pa_cons (pe_tup (pa_cons (pv 5) pa_nil)) pa_nil)))) (fun _ => rfl))) (pss_one (ps_if (pt_not (pt_val (pe_ok O_l_ends_right hr rfl (pa_cons (pv 0) (pa_cons (pv 1) (pa_cons (pe_ifExp (pt_cmpR op_eq (pv 4) pe_int (nomark _)) (pv 2) pe_non) (pa_cons (pv 5) pa_nil))))))) (pss_one (ps_ret pe_bl)) pss_nil)) pss_nil))))
    (pss_one (ps_ret pe_bl))), fun σ S => ?_⟩
    refine q_for1 (tf_rangen (K := K) (n := 3) (es_one ed_cI) (by decide) (fun i σ' H' => Sg K H' σ' [.v (.ref fa), .d (sysD Y), .d dg, .d (encE cl), .no, .no] ∧ ExF fa H H' ∧ Fd H' fa ca (n0 + 1300 * i))
      (fun H2 e2 => ⟨S.mono e2, ExF.ex e2, (F.ex e2).le (by omega)⟩) (fun i σ' H' hi k => ?_) fun σ' H' k => ?_)
    · obtain ⟨k1, k2, k3⟩ := k
      have S2 := k1.setD (.int (i : Int)) 4
      refine zf_asg (c := 1200) (G := fun d => ∃ e : K9M.E false, d = encE e ∧ rng e = true ∧ (i = 0 → e = cl)) S2 k3 (ef_if (b := decide (i = 0)) (fun H1 e1 => et_is (et_d (ed_eqI (ed_var (FdS k3 S2 e1) rfl) ed_cI)) (decide_eq_decide.mpr ⟨fun z => by omega, fun z => by omega⟩)) (fun hb => ef_d (fun H1 e1 => ed_var (FdS k3 S2 e1) rfl) ⟨cl, rfl, rc, fun _ => rfl⟩) fun hb => ef_le (ef_call (c1 := 0) (c2 := 3 * tcst 1) S2 rfl (efs_d (ds := [boxD Y.m, nD 1, .bl false]) fun H1 e1 => es_cons (ed_ixc (j := 1) (ed_var (FdS k3 S2 e1) rfl) rfl) (es_cons ed_cI (es_one ed_cB))) fun ds e => ⟨Y.m, false, e, rfl, rfl⟩) (by omega) fun d g => by
          obtain ⟨e, rfl, h1, _, _⟩ := g
          exact ⟨e, rfl, h1, fun z => by rw [z] at hb; cases hb⟩) (by show _ + 1200 ≤ 1000000000; omega) fun d σ3 H3 g e3 F3 S3 => ?_
      obtain ⟨e, rfl, re, hcl⟩ := g
      refine go_let (A := LetC Y e) (es_cons ed_cI (es_cons (ed_var S3 rfl) (es_one (ed_tup (ds := [encE e]) (es_one (ed_var S3 rfl)) (Nat.le_of_ble_eq_true rfl))))) (fun G hG => ⟨Y, LetC Y e, SW.ok, .inr ⟨e, re, rfl, rfl⟩, hG⟩) (fun L H4 e4 => ?_) fun H4 e4 => ?_
      · have F4 := F3.ex e4
        have S4 := S3.mono e4
        have key : EvF K fa ca (tCall (spD K REr) [] E0 (tCons (tVar 0) (tCons (tVar 1) (tCons (tIf (tTest (tOp rEq (tVar 4) (tC (.int 0)))) (tVar 2) (tC .non)) (tCons (tVar 5) tNil))))) σ3 H4 100 (fun d => d = .bl true) := ef_le (ef_call (c1 := 0) (c2 := 100) (Ga := fun l => l = [sysD Y, (if i = 0 then dg else .non), encE e]) S4 rfl (efs_d fun H5 e5 => es_cons (ed_var (FdS F4 S4 e5) rfl) (es_cons (ed_if (b := decide (i = 0)) (et_is (et_d (ed_eqI (ed_var (FdS F4 S4 e5) rfl) ed_cI)) (decide_eq_decide.mpr ⟨fun z => by omega, fun z => by omega⟩)) (fun hb => by rw [if_pos (of_decide_eq_true hb)]; exact ed_var (FdS F4 S4 e5) rfl) fun hb => by rw [if_neg (of_decide_eq_false hb)]; exact ed_cN) (es_one (ed_var (FdS F4 S4 e5) rfl)))) fun ds eq => ⟨Y, e, _, SW, re, L, by
            by_cases hi0 : i = 0
            · rw [if_pos hi0, hcl hi0]
              exact hg
            · rw [if_neg hi0]
              exact .inl rfl, eq, rfl, rfl⟩) (by omega) fun _ g => g
        refine key H4 _ ExF.refl F4 (by show _ + 100 ≤ 1000000000; omega) _ fun d v H5 g e5 F5 av => ?_
        subst g
        refine ⟨true, av.of_bl, ?_⟩
        refine ⟨((S4.tk (F4.tk e5)).less rfl fun i => ?_), ((k2.trans e3).trans (ExF.ex e4)).trans e5, F5.le (by omega)⟩
        match i with
        | 0 => rfl
        | 1 => rfl
        | 2 => rfl
        | 3 => rfl
        | 4 => trivial
        | 5 => trivial
        | n + 6 => trivial
      · refine ⟨((S3.mono e4).less rfl fun i => ?_), (k2.trans e3).trans (ExF.ex e4), (F3.ex e4).le (by omega)⟩
        match i with
        | 0 => rfl
        | 1 => rfl
        | 2 => rfl
        | 3 => rfl
        | 4 => trivial
        | 5 => trivial
        | n + 6 => trivial
    · obtain ⟨k1, k2, k3⟩ := k
      exact y_ret (K := K) (σ := σ') (D := { nx := fun _ H' => Q .non H', rt := Q }) ed_cB fun v H6 e6 a => q (.bl true) v H6 rfl (k2.trans (ExF.ex e6)) ((k3.ex e6).le (by omega)) a
theorem ok_any_system (D : Df K mg "_law_any_system" s_l_any_system ["_law_feed_here", "_law_eyes", "_law_most"]) (B : Bi mg) (O_l_draw : Ok P w K mg base CX0 37 "_law_draw" ["_law_feed_here", "_law_many"] (spD K RDr)) (O_l_term : Ok P w K mg base CX0 37 "_law_term" ["_law_feed_here", "_law_sizes", "_law_deep", "_law_inner"] (spD K (RTmd 1))) (O_l_claim : Ok P w K mg base CX0 37 "_law_claim" ["_law_feed_here", "_law_sizes", "_law_deep", "_law_inner"] (spD K (RCld 1))) :
    Ok P w K mg base CX0 38 "_law_any_system" ["_law_feed_here", "_law_eyes", "_law_most"] (spD K RAy) := by
  refine D.okD sc_l_any_system (fun ds c d h => ?_) fun cdv A outer s H f fa ca ds n0 c G Q E hr h F hn q => ?_
  · obtain ⟨_, _, _, rfl, _⟩ := h
    rfl
  · obtain ⟨ey, mo, W, rfl, rfl, rfl⟩ := h
    have hn' : n0 + 1700 ≤ 1000000000 := hn
    have t1 := tc1
    refine ⟨_, (pss_cons (ps_set (i := 3) sc_l_any_system.nd rfl (Or.inl rfl) (pe_ifExp (pt_cmpR op_gt (pv 2) pe_int (nomark _)) pe_int (pe_op op_add pe_int (pe_ok O_l_draw hr rfl (pa_cons (pv 0) (pa_cons pe_int pa_nil))))))
    (pss_cons (ps_set (i := 4) sc_l_any_system.nd rfl (Or.inl rfl) (pe_ok O_l_term hr rfl (pa_cons (pv 0) (pa_cons (pe_tup (pa_cons (pv 3) pa_nil)) (pa_cons pe_int (pa_cons pe_bl pa_nil))))))
    (pss_cons (ps_set (i := 5) sc_l_any_system.nd rfl (Or.inl rfl) (pe_tup (pa_cons pe_str (pa_cons (pe_tup (pa_cons pe_str (pa_cons (pe_tup (pa_cons pe_str (pa_cons pe_int pa_nil))) (pa_cons (pe_tup (pa_cons pe_str (pa_cons (pv 4) (pa_cons (pv 3) pa_nil)))) pa_nil)))) pa_nil))))
    (pss_cons (ps_if (pt_cmpR op_eq (pe_ok O_l_draw hr rfl (pa_cons (pv 0) (pa_cons pe_int pa_nil))) pe_int (nomark _)) (pss_one (ps_set (i := 5) sc_l_any_system.nd rfl (Or.inl rfl) (pe_tup (pa_cons pe_str (pa_cons (pv 5) (pa_cons (pe_ok O_l_claim hr rfl (pa_cons (pv 0) (pa_cons (pe_tup (pa_cons (pv 3) pa_nil)) (pa_cons pe_int (pa_cons pe_bl pa_nil))))) pa_nil)))))) pss_nil)
    (pss_one (ps_ret (pe_tup (pa_cons (pv 1) (pa_cons (pe_tup (pa_cons (pv 3) pa_nil)) (pa_cons (pe_op op_repT (pe_tup (pa_cons pe_int pa_nil)) (pe_callB call_len_seq rfl B.len (by decide +kernel) (pa_cons (pv 1) pa_nil))) (pa_cons (pe_tup (pa_cons (pe_tup (pa_cons (pe_tup (pa_cons (pv 5) (pa_cons (pe_tup (pa_cons (pe_tup (pa_cons pe_int (pa_cons (pv 4) pa_nil))) pa_nil)) pa_nil))) pa_nil)) pa_nil)) pa_nil))))))))))), fun σ S => ?_⟩
    refine zf_asg (c := 1) (G := fun d => ∃ m : Nat, 2 ≤ m ∧ m ≤ 3 ∧ d = nD m) S F (ef_if (b := decide ((2 : Int) < (mo : Int))) (fun H1 e1 => et_d (ed_IB (ed_var (FdS F S e1) rfl) ed_cI)) (fun _ => ef_d (fun H1 e1 => ed_cI) ⟨2, by decide, by decide, rfl⟩) fun _ => ef_le (ef_op (c1 := 0) (c2 := 1) (G1 := fun d => d = .int 2) (GG := fun d => ∃ m : Nat, 2 ≤ m ∧ m ≤ 3 ∧ d = nD m) (ef_d (fun _ _ => ed_cI) rfl) (ef_draw (m := 2) S rfl (by decide) (by decide) fun H6 e6 => es_one ed_cI) fun d1 d2 v w H6 Q6 g1 g2 a1 a2 q6 => by
        obtain ⟨k, hk, rfl⟩ := g2
        subst g1
        rw [a1.of_int, a2.of_int]
        exact ⟨2, (k : Int), rfl, rfl, q6 (nD (2 + k)) _ H6 ⟨2 + k, by omega, by omega, rfl⟩ (Ex.refl _) (by
          show At K H6 (.int ((2 : Int) + (k : Int))) (nD (2 + k))
          have : (2 : Int) + (k : Int) = ((2 + k : Nat) : Int) := by omega
          rw [this]
          exact .int _)⟩) (by omega) fun _ g => g) (by show _ + 1 ≤ 1000000000; omega) fun d σ1 H1 g e1 F1 S1 => ?_
    obtain ⟨m, hm2, hm3, rfl⟩ := g
    refine zf_asg (c := 400) (G := GE true false 3) S1 F1 (ef_le (ef_call (c1 := 0) (c2 := tcst 1) S1 rfl (efs_d (ds := [boxD m, nD 1, .bl false]) fun H2 e2 => es_cons (ed_tup (ds := [nD m]) (es_one (ed_var (FdS F1 S1 e2) rfl)) (Nat.le_of_ble_eq_true rfl)) (es_cons ed_cI (es_one ed_cB))) fun ds e => ⟨m, false, e, rfl, rfl⟩) (by omega) fun d g => g.le (by omega)) (by show _ + 400 ≤ 1000000000; omega) fun d σ2 H2 g e2 F2 S2 => ?_
    obtain ⟨te, rfl, t1', t2, t3⟩ := g
    refine z_asg S2 (ed_tup (ds := [.str "not", .tup [.str "like", encE (K9M.E.own), .tup [.str "rest", encE te, nD m]]]) (es_cons ed_cS (es_one (ed_tup (ds := [.str "like", encE (K9M.E.own), .tup [.str "rest", encE te, nD m]]) (es_cons ed_cS (es_cons (ed_tup (ds := [.str "own", nD 0]) (es_cons ed_cS (es_one ed_cI)) (Nat.le_of_ble_eq_true rfl)) (es_one (ed_tup (ds := [.str "rest", encE te, nD m]) (es_cons ed_cS (es_cons (ed_var S2 rfl) (es_one (ed_var S2 rfl)))) (Nat.le_of_ble_eq_true rfl))))) (Nat.le_of_ble_eq_true rfl)))) (Nat.le_of_ble_eq_true rfl)) fun σ3 H3 e3 S3 => ?_
    have F3 := F2.ex e3
    have e03 : ExF fa H H3 := (e1.trans e2).trans (ExF.ex e3)
    let c0 : K9M.E false := .not (.like .own (.rest te m))
    have c0f : Fit false c0 := ⟨by simp only [c0, deep]; omega, by simp only [c0, okL, t2, Bool.and_self], by simp only [c0, rng, t1', Bool.true_and, Bool.and_eq_true, decide_eq_true_eq]; omega⟩
    have tf : Fit false te := ⟨by omega, t2, t1'⟩
    have fin : ∀ {cl : K9M.E false} {σ4 : L2.St} {H4 : Hp} {l4 : List Sl}, Fit false cl → ExF fa H H4 → Fd H4 fa ca (n0 + 1700) → Sg K H4 σ4 l4 → l4[1]? = some (.d (eyD ey)) → l4[3]? = some (.d (nD m)) → l4[4]? = some (.d (encE te)) → l4[5]? = some (.d (encE cl)) →
        tRet (tTup (tCons (tVar 1) (tCons (tTup (tCons (tVar 3) tNil)) (tCons (tOp (rRepT K) (tTup (tCons (tC (.int 0)) tNil)) (tCB (rLn K) (tCons (tVar 1) tNil))) (tCons (tTup (tCons (tTup (tCons (tTup (tCons (tVar 5) (tCons (tTup (tCons (tTup (tCons (tC (.int 0)) (tCons (tVar 4) tNil))) tNil)) tNil))) tNil)) tNil)) tNil))))) { nx := fun _ H' => Q .non H', rt := Q } σ4 H4 := by
      intro cl σ4 H4 l4 cf e4 F4 S4 i1 i3 i4 i5
      refine y_ret (ed_tup (ds := [eyD ey, boxD m, rowD (List.replicate ey.length 0), .tup [.tup [ruleD (cl, te)]]]) (es_cons (ed_var S4 i1) (es_cons (ed_tup (ds := [nD m]) (es_one (ed_var S4 i3)) (Nat.le_of_ble_eq_true rfl)) (es_cons ((ed_rep (d := nD 0) (n := ey.length) (ed_tup (ds := [nD 0]) (es_one ed_cI) (Nat.le_of_ble_eq_true rfl)) ((ed_len (ds := ey.map rowD) (ed_var S4 i1)).is (by rw [List.length_map])) W.two (by have := W.sm; omega)).is (by unfold rowD; rw [List.map_replicate]))
        (es_one (ed_tup (es_one (ed_tup (es_one (ed_tup (ds := [encE cl, .tup [.tup [nD 0, encE te]]]) (es_cons (ed_var S4 i5) (es_one (ed_tup (ds := [.tup [nD 0, encE te]]) (es_one (ed_tup (ds := [nD 0, encE te]) (es_cons ed_cI (es_one (ed_var S4 i4))) (Nat.le_of_ble_eq_true rfl))) (Nat.le_of_ble_eq_true rfl)))) (Nat.le_of_ble_eq_true rfl))) (Nat.le_of_ble_eq_true rfl))) (Nat.le_of_ble_eq_true rfl)))))) (Nat.le_of_ble_eq_true rfl)) fun v H5 e5 a => q _ v H5 ⟨⟨ey, m, [(cl, te)]⟩, ⟨W, by show 1 ≤ m; omega, by show m ≤ 6; omega, fun r hr => ?_, by show 1 ≤ 6; decide⟩, rfl, rfl⟩ (e4.trans (ExF.ex e5)) (F4.ex e5) a
      rcases List.mem_cons.mp hr with rfl | hr
      · exact ⟨cf, tf⟩
      · cases hr
    refine zf_if (c := 1) S3 F3 (ef_eqI (ef_draw (m := 2) S3 rfl (by decide) (by decide) fun H6 e6 => es_one ed_cI) fun d g => by
      obtain ⟨k, _, rfl⟩ := g
      exact ⟨_, rfl⟩) (fun d g => g) (by show _ + 1 ≤ 1000000000; omega) (fun H4 _ e4 F4 S4 => ?_) fun H4 _ e4 F4 S4 => ?_
    · refine zf_asg (c := 1200) (G := fun d => ∃ cl : K9M.E false, Fit false cl ∧ d = encE cl) S4 F4 (ef_le (ef_tup3 (c1 := 0) (c2 := 0) (G1 := fun d => d = .str "and") (G2 := fun d => d = encE c0) (G := fun d => ∃ cl : K9M.E false, Fit false cl ∧ d = encE cl) (ef_d (fun _ _ => ed_cS) rfl) (ef_d (fun H5 e5 => ed_var (FdS F4 S4 e5) rfl) rfl) (ef_call (c1 := 0) (c2 := 3 * tcst 1) S4 rfl (efs_d (ds := [boxD m, nD 1, .bl false]) fun H2 e2 => es_cons (ed_tup (ds := [nD m]) (es_one (ed_var (FdS F4 S4 e2) rfl)) (Nat.le_of_ble_eq_true rfl)) (es_cons ed_cI (es_one ed_cB))) fun ds e => ⟨m, false, e, rfl, rfl⟩) fun d e f h1 h2 h3 => by
          obtain ⟨x, rfl, x1, x2, x3⟩ := h3
          subst h1 h2
          exact ⟨.and c0 x, ⟨by have := c0f.dp; simp only [c0, deep] at this ⊢; omega, by simp only [okL, c0f.ok, x2, Bool.and_self], by simp only [rng, c0f.rg, x1, Bool.and_self]⟩, rfl⟩) (by omega) fun _ g => g) (by show _ + 1200 ≤ 1000000000; omega) fun d σ5 H5 g e5 F5 S5 => ?_
      obtain ⟨cl, cf, rfl⟩ := g
      exact fin cf ((e03.trans e4).trans e5) (F5.le (by omega)) S5 rfl rfl rfl rfl
    · exact fin c0f (e03.trans e4) (F4.le (by omega)) S4 rfl rfl rfl rfl
end
end K9
end
section
set_option maxHeartbeats 1000000
/-! K9K: drawn sums. -/
namespace K9
open PySem PySem.Spec PyProof.Rows L2 Evl K9M RZ
/-- a new list of data that all keep P -/
def EvMA (K : PySem.W.Frag) (te : TE) (σ : L2.St) (H : Hp) (P : Dt → Prop) (N : Nat) : Prop := ∀ H1, Ex H H1 → ∀ Q : VK, (∀ ds p xs H2, (∀ d ∈ ds, P d) → ds.length ≤ N → H1 p = none → Ex H1 H2 → H2 p = some (.lst xs) → AtL K H2 xs ds → Q (.ref p) H2) → te σ H1 Q
section
variable {K : PySem.W.Frag} {σ : L2.St} {H H' : Hp} {ta tb te tl tx : TE} {t : TT} {d : Dt} {ds : List Dt} {D : Ends} {tu tw tz : TS} {l : List Sl} {P P2 : Dt → Prop} {N N2 : Nat} {to th : TO} {lo hi : Option Int}
theorem em_a (h : EvM K te σ H ds) (hP : ∀ d ∈ ds, P d) (hN : ds.length ≤ N) : EvMA K te σ H P N := fun H1 e Q q => h H1 e Q fun p xs H2 hp e2 hx a => q ds p xs H2 hP hN hp e2 hx a
theorem ema_cat (ha : EvMA K ta σ H P N) (hb : ∀ H1, Ex H H1 → EvMA K tb σ H1 P N2) (hz : N + N2 ≤ 1000) : EvMA K (tOp rCat ta tb) σ H P (N + N2) := fun H1 e Q q =>
  ha H1 e _ fun ds p xs H2 g gn hp e2 hx a => hb H2 (e.trans e2) H2 (Ex.refl _) _ fun es p' ys H3 g' gn' hp' e3 hy b => by
    refine ⟨p, p', xs, ys, rfl, rfl, e3 _ _ hx, hy, ?_, fun r hr => q (ds ++ es) r _ _ (fun d hd => ?_) (by rw [List.length_append]; omega) (fresh_back (e2.trans e3) hr) ((e2.trans e3).trans (Ex.new hr)) upd_same (((a.mono e3).append b).mono (Ex.new hr))⟩
    · rw [a.len, b.len]
      exact sz_of (by omega)
    · rcases List.mem_append.mp hd with hd | hd
      · exact g d hd
      · exact g' d hd
/-- list + list, the first one standing -/
theorem ema_catV {i : Nat} {p : Addr} {vs : List V} (S : Sg K H σ l) (hi : l[i]? = some (.v (.ref p))) (hp : H p = some (.lst vs)) (al : AtL K H vs ds) (g : ∀ d ∈ ds, P d) (gn : ds.length ≤ N) (hb : EvMA K tb σ H P N2) (hz : N + N2 ≤ 1000) : EvMA K (tOp rCat (tVar i) tb) σ H P (N + N2) := fun H1 e Q q =>
  ⟨_, S.val hi, hb H1 e _ fun es p' ys H3 g' gn' hp' e3 hy b => by
    refine ⟨p, p', vs, ys, rfl, rfl, e3 _ _ (e _ _ hp), hy, ?_, fun r hr => q (ds ++ es) r _ _ (fun d hd => ?_) (by rw [List.length_append]; omega) (fresh_back e3 hr) (e3.trans (Ex.new hr)) upd_same (((al.mono (e.trans e3)).append b).mono (Ex.new hr))⟩
    · rw [al.len, b.len]
      exact sz_of (by omega)
    · rcases List.mem_append.mp hd with hd | hd
      · exact g d hd
      · exact g' d hd⟩
theorem cut_at {vs : List V} (al : AtL K H vs ds) (lo hi : Option Int) : ∃ es, AtL K H (cutV vs lo hi) es ∧ (∀ d ∈ es, d ∈ ds) ∧ es.length ≤ ds.length := by
  refine ⟨(ds.drop (HT.sIx vs.length 0 lo)).take (HT.sIx vs.length vs.length hi - HT.sIx vs.length 0 lo), (al.drop _).take _, fun d hd => List.mem_of_mem_drop (List.mem_of_mem_take hd), ?_⟩
  rw [List.length_take, List.length_drop]
  omega
theorem ema_slV {i : Nat} {p : Addr} {vs : List V} (S : Sg K H σ l) (hi' : l[i]? = some (.v (.ref p))) (hp : H p = some (.lst vs)) (al : AtL K H vs ds) (g : ∀ d ∈ ds, P d) (gn : ds.length ≤ N) (h1 : EvO to σ H lo) (h2 : EvO th σ H hi) : EvMA K (tSl (rSlL K) (tVar i) to th) σ H P N := fun H1 e Q q =>
  ⟨_, S.val hi', h1 H1 e _ fun H2 e2 => h2 H2 (e.trans e2) _ fun H3 e3 => by
    obtain ⟨es, a, m, n⟩ := cut_at (al.mono ((e.trans e2).trans e3)) lo hi
    exact ⟨p, vs, rfl, sq_of (((e.trans e2).trans e3) _ _ hp), fun r hr => q es r _ _ (fun d hd => g d (m d hd)) (by omega) (fresh_back (e2.trans e3) hr) ((e2.trans e3).trans (Ex.new hr)) upd_same (a.mono (Ex.new hr))⟩⟩
theorem EvO.mono' {o : Option Int} (e : Ex H H') (h : EvO to σ H o) : EvO to σ H' o := fun H1 a Q q => h H1 (e.trans a) Q q
theorem ema_sl (ha : EvMA K te σ H P N) (h1 : EvO to σ H lo) (h2 : EvO th σ H hi) : EvMA K (tSl (rSlL K) te to th) σ H P N := fun H1 e Q q =>
  ha H1 e _ fun ds p xs H2 g gn hp e2 hx a => h1 H2 (e.trans e2) _ fun H3 e3 => h2 H3 ((e.trans e2).trans e3) _ fun H4 e4 => by
    obtain ⟨es, b, m, n⟩ := cut_at (a.mono (e3.trans e4)) lo hi
    exact ⟨p, xs, rfl, sq_of ((e3.trans e4) _ _ hx), fun r hr => q es r _ _ (fun d hd => g d (m d hd)) (by omega) (fresh_back (e2.trans (e3.trans e4)) hr) ((e2.trans (e3.trans e4)).trans (Ex.new hr)) upd_same (b.mono (Ex.new hr))⟩
/-- [e for x in such a list] -/
theorem ema_lc {j : Nat} (h : EvMA K tl σ H P N) (hN : N ≤ 1000) (g : Dt → Dt) (hg : ∀ d, P d → P2 (g d)) (hb : ∀ d v H1, P d → Ex H H1 → At K H1 v d → EvD K te ((wipe σ [j]).set j (some v)) H1 (g d)) : EvMA K (tLc (iList K tl) (gName j) tYes te [j]) σ H P2 N := fun H0 e Q q =>
  h H0 e _ fun ds p vs H1 gP gn hp e1 hx al => by
    have key := em_lcL (σ := σ) (H := H1) (j := j) (tl := fun σ H Q => Q (.ref p) H) (te := te) (t := tYes) (enc := fun d : Dt => d) ds (fun _ => true) g (fun H2 _ Q2 q2 => q2 H2 (Ex.refl _)) (sq_of hx) (by rw [List.map_id']; exact al) (by omega) fun d v H2 hd e2 av => ⟨et_yes, fun _ => hb d v H2 (gP d hd) ((e.trans e1).trans e2) av⟩
    refine key H1 (Ex.refl _) Q fun r xs H2 hr e2 hx2 a2 => ?_
    rw [filter_yes] at a2
    exact q (ds.map g) r xs H2 (fun d hd => by
      obtain ⟨x, hx, rfl⟩ := List.mem_map.mp hd
      exact hg x (gP x hx)) (by rw [List.length_map]; exact gn) (fresh_back e1 hr) (e1.trans e2) hx2 a2
end
theorem z_asgMA {K : PySem.W.Frag} {σ : L2.St} {H : Hp} {te : TE} {D : Ends} {tz : TS} {l : List Sl} {P : Dt → Prop} {N i : Nat} (S : Sg K H σ l) (h : EvMA K te σ H P N) (k : ∀ ds p xs σ' H1, (∀ d ∈ ds, P d) → ds.length ≤ N → H p = none → Ex H H1 → H1 p = some (.lst xs) → AtL K H1 xs ds → Sg K H1 σ' (l.set i (.v (.ref p))) → tz D σ' H1) : tSeq (tAsg te (gName i)) tz D σ H :=
  h H (Ex.refl _) _ fun ds p xs H1 g gn hp e hx a => k ds p xs _ H1 g gn hp e hx a ((S.mono e).setV _ i)
/-! ### sums -/
def GSh : Dt → Prop := fun d => ∃ t p : E true, rng t = true ∧ rng p = true ∧ d = shD t p
def GSu : Dt → Prop := fun d => ∃ t p : E true, rng t = true ∧ rng p = true ∧ d = sumD t p
/-- a promise with draws of a new list -/
def spDM (K : PySem.W.Frag) (R : List Dt → Nat → (Dt → Prop) → Nat → Prop) : Sp := fun vs H Q _ => ∃ fa ca us ds n c G N, vs = .ref fa :: us ∧ AtL K H us ds ∧ Fd H fa ca n ∧ R ds c G N ∧ n + c ≤ BB ∧ ∀ es p xs H', (∀ d ∈ es, G d) → es.length ≤ N → ExF fa H H' → Fd H' fa ca (n + c) → H p = none → H' p = some (.lst xs) → AtL K H' xs es → Q (.ref p) H'
def RSm : List Dt → Nat → (Dt → Prop) → Nat → Prop := fun ds c G N => ∃ t p : E true, rng t = true ∧ rng p = true ∧ ds = [shD t p] ∧ c = 801 ∧ G = GSu ∧ N = 100
abbrev s_l_sums : Stmt := top 95
theorem sc_l_sums : FnScope ["_law_feed_here", "_law_told", "_law_term_here", "_law_pair", "_law_some", "_law_at", "_law_one"] ["_law_feed_here", "_law_told"] (defScope s_l_sums) := ⟨rfl, rfl, rfl, by decide +kernel, rfl, by decide +kernel, by decide +kernel⟩
section
variable {P : Program} {w : World} {K : PySem.W.Frag} {mg : Str → Option Value} {base : Heap}
theorem ok_sums (D : Df K mg "_law_sums" s_l_sums ["_law_feed_here", "_law_told"]) (B : Bi mg) (O_l_draw : Ok P w K mg base CX0 37 "_law_draw" ["_law_feed_here", "_law_many"] (spD K RDr)) (O_l_term : Ok P w K mg base CX0 37 "_law_term" ["_law_feed_here", "_law_sizes", "_law_deep", "_law_inner"] (spD K (RTmd 1))) :
    Ok P w K mg base CX0 38 "_law_sums" ["_law_feed_here", "_law_told"] (spDM K RSm) := by
  obtain ⟨f, fd, hm, b, F0⟩ := D.ex
  refine ⟨f, fd, hm, F0.kp, b, F0.ok sc_l_sums (fun vs H Q E h => ?_) (fun cdv A outer s H vs Q E hr h => ?_)⟩
  · obtain ⟨fa, ca, us, ds, n, c, G, N, rfl, l, _, ⟨_, _, _, _, rfl, _⟩, _⟩ := h
    show us.length + 1 = 2
    rw [l.len]
    rfl
  · obtain ⟨fa, ca, us, ds, n, c, G, N, rfl, al0, F, ⟨t, p, rt, rp, rfl, rfl, rfl, rfl⟩, hn, q⟩ := h
    have hn' : n + 801 ≤ 1000000000 := hn
    have t1 := tc1
    refine ⟨_, (pss_cons (ps_asg (pv 1) (pg_tup rfl (pgs_cons (pg_name (i := 2) sc_l_sums.nd rfl (Or.inl rfl)) (pgs_cons (pg_name (i := 3) sc_l_sums.nd rfl (Or.inl rfl)) pgs_nil))))
    (pss_cons (ps_set (i := 4) sc_l_sums.nd rfl (Or.inl rfl) (pe_lst (pa_cons (pe_tup (pa_cons (pe_tup (pa_cons pe_str (pa_cons (pv 2) (pa_cons (pe_tup (pa_cons pe_str (pa_cons pe_int pa_nil))) pa_nil)))) (pa_cons (pv 3) pa_nil))) (pa_cons (pe_tup (pa_cons (pv 2) (pa_cons (pe_tup (pa_cons pe_str (pa_cons (pv 3) (pa_cons (pv 3) pa_nil)))) pa_nil))) (pa_cons (pe_tup (pa_cons (pe_tup (pa_cons pe_str (pa_cons (pv 2) (pa_cons (pv 2) pa_nil)))) (pa_cons (pv 3) pa_nil))) pa_nil)))))
    (pss_cons (ps_set (i := 4) sc_l_sums.nd rfl (Or.inl rfl) (pe_op op_cat (pv 4) (pe_lst (pa_cons (pe_tup (pa_cons (pe_tup (pa_cons pe_str (pa_cons (pv 2) (pa_cons (pe_tup (pa_cons pe_str (pa_cons pe_int pa_nil))) pa_nil)))) (pa_cons (pv 3) pa_nil))) (pa_cons (pe_tup (pa_cons (pv 2) (pa_cons (pe_tup (pa_cons pe_str (pa_cons pe_int pa_nil))) pa_nil))) (pa_cons (pe_tup (pa_cons (pe_tup (pa_cons pe_str (pa_cons pe_int pa_nil))) (pa_cons (pe_tup (pa_cons pe_str (pa_cons pe_int pa_nil))) pa_nil))) pa_nil))))))
    (pss_cons (ps_set (i := 4) sc_l_sums.nd rfl (Or.inl rfl) (pe_op op_cat (pv 4) (pe_lst (pa_cons (pe_tup (pa_cons (pe_tup (pa_cons pe_str (pa_cons (pe_tup (pa_cons pe_str (pa_cons pe_int pa_nil))) (pa_cons (pe_tup (pa_cons pe_str (pa_cons pe_int pa_nil))) pa_nil)))) (pa_cons (pe_tup (pa_cons pe_str (pa_cons pe_int pa_nil))) pa_nil))) (pa_cons (pe_tup (pa_cons (pv 3) (pa_cons (pv 2) pa_nil))) pa_nil)))))
    (pss_cons (ps_expr (pe_bm PySem.F.plainAttrs_list PySem.F.slot_list_append PySem.F.type_list_append mt_append (pv 4) (pa_cons (pe_tup (pa_cons (pe_ok O_l_term hr rfl (pa_cons (pv 0) (pa_cons (pe_tup (pa_cons pe_int pa_nil)) (pa_cons pe_int (pa_cons pe_bl pa_nil))))) (pa_cons (pe_ok O_l_term hr rfl (pa_cons (pv 0) (pa_cons (pe_tup (pa_cons pe_int pa_nil)) (pa_cons pe_int (pa_cons pe_bl pa_nil))))) pa_nil))) pa_nil)))
    (pss_cons (ps_set (i := 5) sc_l_sums.nd rfl (Or.inl rfl) (pe_ok O_l_draw hr rfl (pa_cons (pv 0) (pa_cons (pe_callB call_len_seq rfl B.len (by decide +kernel) (pa_cons (pv 4) pa_nil)) pa_nil))))
    (pss_one (ps_ret (pe_lc (own := [("_law_one", 6)]) (g := gName 6) (tt := tYes) rfl sc_l_sums.nd (pi_list (pe_op op_cat (pe_lst (pa_cons (pv 1) pa_nil)) (pe_slice sl_list (pe_op op_cat (pe_slice sl_list (pv 4) (po_some (pv 5)) po_none) (pe_slice sl_list (pv 4) po_none (po_some (pv 5)))) po_none (po_some pe_int)))) (blkOk_by (N := ["_law_feed_here", "_law_told", "_law_term_here", "_law_pair", "_law_some", "_law_at", "_law_one"]) (sc := defScope s_l_sums) (by decide +kernel)) (fun _ _ _ _ _ => (pg_name (i := 6) sc_l_sums.nd rfl (Or.inl rfl))) (fun _ _ _ _ _ => pts_nil) (fun _ _ _ _ _ => (pe_tup (pa_cons (pv 6) pa_nil)))))))))))), ?_⟩
    have S : Sg K H (L2.start ["_law_feed_here", "_law_told", "_law_term_here", "_law_pair", "_law_some", "_law_at", "_law_one"] (.ref fa :: us)) [.v (.ref fa), .d (shD t p), .no, .no, .no, .no, .no] := sg_startF al0
    generalize L2.start ["_law_feed_here", "_law_told", "_law_term_here", "_law_pair", "_law_some", "_law_at", "_law_one"] (V.ref fa :: us) = σ at S
    have mk2 : ∀ {x y : K9M.E true}, rng x = true → rng y = true → GSh (shD x y) := fun hx hy => ⟨_, _, hx, hy, rfl⟩
    have rpl : ∀ {x y : K9M.E true}, rng x = true → rng y = true → rng (K9M.E.plus x y) = true := fun hx hy => by simp only [rng, hx, hy, Bool.and_self]
    have rls : ∀ {x y : K9M.E true}, rng x = true → rng y = true → rng (K9M.E.less x y) = true := fun hx hy => by simp only [rng, hx, hy, Bool.and_self]
    have z2 : ∀ {x y : Dt}, ([x, y] : List Dt).length ≤ 100000 := fun {x y} => Nat.le_of_ble_eq_true rfl
    have z3 : ∀ {x y z : Dt}, ([x, y, z] : List Dt).length ≤ 100000 := fun {x y z} => Nat.le_of_ble_eq_true rfl
    have num : ∀ {σ1 : L2.St} {H1 : Hp} (k : Nat), EvD K (tTup (tCons (tC (.str "num")) (tCons (tC (.int (k : Int))) tNil))) σ1 H1 (encE (K9M.E.num k)) := fun k => ed_tup (ds := [.str "num", nD k]) (es_cons ed_cS (es_one ed_cI)) (Nat.le_of_ble_eq_true rfl)
    have own : ∀ {σ1 : L2.St} {H1 : Hp}, EvD K (tTup (tCons (tC (.str "own")) (tCons (tC (.int 0)) tNil))) σ1 H1 (encE K9M.E.own) := ed_tup (ds := [.str "own", nD 0]) (es_cons ed_cS (es_one ed_cI)) (Nat.le_of_ble_eq_true rfl)
    refine z_tup2 S (ed_var S rfl) fun σ1 H1 e1 S1 => ?_
    refine z_asgM S1 (em_lst (ds := [shD (.plus t (.num 2)) p, shD t (.plus p p), shD (.plus t t) p]) (es_cons (ed_tup (ds := [encE (K9M.E.plus t (.num 2)), encE p]) (es_cons (ed_tup (ds := [.str "plus", encE t, encE (K9M.E.num 2)]) (es_cons ed_cS (es_cons (ed_var S1 rfl) (es_one (num 2)))) z3) (es_one (ed_var S1 rfl))) z2) (es_cons (ed_tup (ds := [encE t, encE (K9M.E.plus p p)]) (es_cons (ed_var S1 rfl) (es_one (ed_tup (ds := [.str "plus", encE p, encE p]) (es_cons ed_cS (es_cons (ed_var S1 rfl) (es_one (ed_var S1 rfl)))) z3))) z2) (es_one (ed_tup (ds := [encE (K9M.E.plus t t), encE p]) (es_cons (ed_tup (ds := [.str "plus", encE t, encE t]) (es_cons ed_cS (es_cons (ed_var S1 rfl) (es_one (ed_var S1 rfl)))) z3) (es_one (ed_var S1 rfl))) z2)))) (Nat.le_of_ble_eq_true rfl)) fun p1 x1 σ2 H2 hp1 e2 hx1 ax1 S2 => ?_
    have g1 : ∀ d ∈ [shD (.plus t (.num 2)) p, shD t (.plus p p), shD (.plus t t) p], GSh d := fun d hd => by
      simp only [List.mem_cons, List.not_mem_nil, or_false] at hd
      rcases hd with rfl | rfl | rfl
      · exact mk2 (rpl rt rfl) rp
      · exact mk2 rt (rpl rp rp)
      · exact mk2 (rpl rt rt) rp
    refine z_asgMA (P := GSh) (N := 6) S2 (ema_catV (N := 3) (N2 := 3) S2 (i := 4) rfl hx1 ax1 g1 (Nat.le_of_ble_eq_true rfl) (em_a (em_lst (ds := [shD (.less t (.num 1)) p, shD t (.num 1), shD .own (.num 0)]) (es_cons (ed_tup (ds := [encE (K9M.E.less t (.num 1)), encE p]) (es_cons (ed_tup (ds := [.str "less", encE t, encE (K9M.E.num 1)]) (es_cons ed_cS (es_cons (ed_var S2 (i := 2) rfl) (es_one (num 1)))) z3) (es_one (ed_var S2 (i := 3) rfl))) z2) (es_cons (ed_tup (ds := [encE t, encE (K9M.E.num 1)]) (es_cons (ed_var S2 (i := 2) rfl) (es_one (num 1))) z2) (es_one (ed_tup (ds := [encE K9M.E.own, encE (K9M.E.num 0)]) (es_cons own (es_one (num 0))) z2)))) (Nat.le_of_ble_eq_true rfl)) (fun d hd => by
        simp only [List.mem_cons, List.not_mem_nil, or_false] at hd
        rcases hd with rfl | rfl | rfl
        · exact mk2 (rls rt rfl) rp
        · exact mk2 rt rfl
        · exact mk2 rfl rfl) (Nat.le_of_ble_eq_true rfl)) (by decide)) fun d2 p2 x2 σ3 H3 g2 n2 hp2 e3 hx2 ax2 S3 => ?_
    refine z_asgMA (P := GSh) (N := 8) S3 (ema_catV (N := 6) (N2 := 2) S3 (i := 4) rfl hx2 ax2 g2 n2 (em_a (em_lst (ds := [shD (.less (.num 3) .own) (.num 0), shD p t]) (es_cons (ed_tup (ds := [encE (K9M.E.less (.num 3) .own), encE (K9M.E.num 0)]) (es_cons (ed_tup (ds := [.str "less", encE (K9M.E.num 3), encE K9M.E.own]) (es_cons ed_cS (es_cons (num 3) (es_one own))) z3) (es_one (num 0))) z2) (es_one (ed_tup (ds := [encE p, encE t]) (es_cons (ed_var S3 (i := 3) rfl) (es_one (ed_var S3 (i := 2) rfl))) z2))) (Nat.le_of_ble_eq_true rfl)) (fun d hd => by
        simp only [List.mem_cons, List.not_mem_nil, or_false] at hd
        rcases hd with rfl | rfl
        · exact mk2 rfl rfl
        · exact mk2 rp rt) (Nat.le_of_ble_eq_true rfl)) (by decide)) fun d3 p3 x3 σ4 H4 g3 n3 hp3 e4 hx3 ax3 S4 => ?_
    have e04 := (e1.trans e2).trans (e3.trans e4)
    have F4 := F.ex e04
    have hp3H : H p3 = none := fresh_back ((e1.trans e2).trans e3) hp3
    have hpf := ne_feed (o := .lst []) F hp3H
    -- some.append((drawn, drawn))
    refine ⟨_, S4.val (i := 4) rfl, .inl ⟨rfl, _, sq_of hx3⟩, ?_⟩
    have term : ∀ {H5 : Hp} {m0 : Nat} {l5 : List Sl} (lk : Bool), Fd H5 fa ca m0 → Sg K H5 σ4 l5 → l5[0]? = some (.v (.ref fa)) → EvF K fa ca (tCall (spD K (RTmd 1)) [] E0 (tCons (tVar 0) (tCons (tTup (tCons (tC (.int 2)) tNil)) (tCons (tC (.int 1)) (tCons (tC (.bl lk)) tNil))))) σ4 H5 400 (GE true lk 3) := fun {H5 m0 l5} lk F5 S5 i0 => ef_le (ef_call (c1 := 0) (c2 := tcst 1) S5 i0 (efs_d (ds := [boxD 2, nD 1, .bl lk]) fun H6 e6 => es_cons (ed_tup (ds := [nD 2]) (es_one ed_cI) (Nat.le_of_ble_eq_true rfl)) (es_cons ed_cI (es_one ed_cB))) fun ds e => ⟨2, lk, e, rfl, rfl⟩) (by omega) fun d g => g
    refine (ef_tup2 (G := GSh) (term false F4 S4 rfl) (term true F4 S4 rfl) fun d e h1 h2 => by
      obtain ⟨x, rfl, x1, _⟩ := h1
      obtain ⟨y, rfl, y1, _⟩ := h2
      exact mk2 x1 y1) H4 n ExF.refl F4 (by show n + (400 + 400) ≤ 1000000000; omega) _ fun d v H5 g5 e5 F5 a5 => ?_
    have h5p := e5 _ _ hpf hx3
    have eU : ExF p3 H5 (L2.upd H5 p3 (.lst (x3 ++ [v]))) := ExF.upd _ _ _
    have tkU : TKp K H5 (L2.upd H5 p3 (.lst (x3 ++ [v]))) := .exF h5p eU
    have hcp : ca ≠ p3 := fun z => by
      obtain ⟨cs, a', left, X, _⟩ := F
      rw [← z, X.c] at hp3H
      cases hp3H
    refine ⟨p3, x3, v, rfl, rfl, h5p, sz_lt (by rw [ax3.len]; omega), ?_⟩
    have F6 : Fd (L2.upd H5 p3 (.lst (x3 ++ [v]))) fa ca (n + (400 + 400)) := by
      obtain ⟨cs, a', left, X, ha⟩ := F5
      exact ⟨cs, a', left, ⟨by rw [upd_ne (Ne.symm hpf)]; exact X.f, by rw [upd_ne hcp]; exact X.c, X.l⟩, ha⟩
    have S6 := (S4.tk (F4.tk e5)).tk tkU
    have ax6 : AtL K (L2.upd H5 p3 (.lst (x3 ++ [v]))) (x3 ++ [v]) (d3 ++ [d]) := ((ax3.tk (F4.tk e5)).append (.one a5)).tk tkU
    have g6 : ∀ x ∈ d3 ++ [d], GSh x := fun x hx => by
      rcases List.mem_append.mp hx with hx | hx
      · exact g3 x hx
      · rw [List.mem_singleton] at hx
        rw [hx]
        exact g5
    have n6 : (d3 ++ [d]).length ≤ 9 := by rw [List.length_append]; show _ + 1 ≤ 9; omega
    have h6 : (L2.upd H5 p3 (.lst (x3 ++ [v]))) p3 = some (.lst (x3 ++ [v])) := upd_same
    have e06 : ExF fa H (L2.upd H5 p3 (.lst (x3 ++ [v]))) := ExF.mut ((ExF.ex e04).trans e5) hp3H
    generalize L2.upd H5 p3 (.lst (x3 ++ [v])) = H6 at *
    refine zf_asg (c := 1) (G := GDr (d3 ++ [d]).length) S6 F6 (ef_draw (m := (d3 ++ [d]).length) S6 rfl (by rw [List.length_append]; show 1 ≤ _ + 1; omega) (by omega) fun H7 e7 => es_one (ed_lenL (FdS F6 S6 e7) rfl (e7 _ _ hpf h6) (ax6.tk (F6.tk e7)))) (by show n + (400 + 400) + 1 ≤ 1000000000; omega) fun dk σ7 H7 g7 e7 F7 S7 => ?_
    obtain ⟨k, hk, rfl⟩ := g7
    have h7 := e7 _ _ hpf h6
    have ax7 := ax6.tk (F6.tk e7)
    have fin : EvMA K _ σ7 H7 GSu 100 := ema_lc (j := 6) (P2 := GSu) (N := 100) (fun H8 e8 Q8 q8 => (ema_cat (P := GSh) (N := 1) (N2 := 18) (em_a (em_lst (ds := [shD t p]) (es_one (ed_var S7 (i := 1) rfl)) (Nat.le_of_ble_eq_true rfl)) (fun d hd => by
        rw [List.mem_singleton] at hd
        rw [hd]
        exact mk2 rt rp) (Nat.le_of_ble_eq_true rfl)) (fun H9 e9 => ema_sl (lo := none) (hi := some 2) (ema_cat (N := 9) (N2 := 9) (ema_slV (lo := some (k : Int)) (hi := none) (S7.mono e9) (i := 4) rfl (e9 _ _ h7) (ax7.mono e9) g6 n6 (eo_some (ed_var (S7.mono e9) (i := 5) rfl).i) eo_none) (fun H10 e10 => ema_slV (lo := none) (hi := some (k : Int)) (S7.mono (e9.trans e10)) (i := 4) rfl ((e9.trans e10) _ _ h7) (ax7.mono (e9.trans e10)) g6 n6 eo_none (eo_some (ed_var (S7.mono (e9.trans e10)) (i := 5) rfl).i)) (by decide)) eo_none (eo_some ev_c)) (by decide)) H8 e8 Q8 fun ds p xs H9 a b c d e f => q8 ds p xs H9 a (by omega) c d e f) (by decide) (fun d => .tup [d]) (fun d g => by
          obtain ⟨x, y, h1, h2, rfl⟩ := g
          exact ⟨x, y, h1, h2, rfl⟩) fun d v H8 _ e8 av => ed_tup (es_one (ed_var ((((S7.mono e8).wipe [6]).setD av 6)) (i := 6) rfl)) (Nat.le_of_ble_eq_true rfl)
    refine fin H7 (Ex.refl _) _ fun es r xs H8 ge ne hr' e8 hx8 ax8 => ?_
    exact q es r xs H8 ge ne ((e06.trans e7).trans (ExF.ex e8)) ((F7.ex e8).le (by omega)) (fresh_backF F7 (e06.trans e7) hr') hx8 ax8
end
end K9
end
section
set_option maxHeartbeats 1000000
/-! K9Y: drawn webs. -/
namespace K9M
def sees (T : List (Nat × Nat)) (h : Nat) : List Nat := ((T.filter fun e => decide (e.2 = h)).map fun e => e.1) ++ ((T.filter fun e => decide (e.1 = h)).map fun e => e.2)
theorem sum_ind {k : Nat} : ∀ n : Nat, ((List.range n).map fun h => if k = h then 1 else 0).sum = if k < n then 1 else 0
  | 0 => rfl
  | n + 1 => by
    rw [List.range_succ, List.map_append, List.sum_append, sum_ind n]
    show (if k < n then 1 else 0) + ((if k = n then 1 else 0) + 0) = _
    split <;> split <;> split <;> omega
theorem sum_add (f g : Nat → Nat) : ∀ l : List Nat, (l.map fun h => f h + g h).sum = (l.map f).sum + (l.map g).sum
  | [] => rfl
  | a :: l => by
    have := sum_add f g l
    simp only [List.map_cons, List.sum_cons]
    omega
theorem sum_sees (n : Nat) : ∀ T : List (Nat × Nat), (∀ e ∈ T, e.1 < n ∧ e.2 < n) → ((List.range n).map fun h => (sees T h).length).sum = 2 * T.length
  | [], _ => by
    have : ∀ l : List Nat, (l.map fun h => (sees [] h).length).sum = 0 := by
      intro l
      induction l with
      | nil => rfl
      | cons a l ih => rw [List.map_cons, List.sum_cons, ih]; rfl
    exact this _
  | e :: T, h => by
    have ih := sum_sees n T fun x hx => h x (List.mem_cons_of_mem _ hx)
    obtain ⟨h1, h2⟩ := h e List.mem_cons_self
    have e1 : (fun x => (sees (e :: T) x).length) = fun x => ((sees T x).length + (if e.1 = x then 1 else 0)) + (if e.2 = x then 1 else 0) := by
      funext x
      unfold sees
      simp only [List.length_append, List.length_map, List.filter_cons, decide_eq_true_eq]
      split <;> split <;> (try simp only [List.length_cons]) <;> omega
    rw [e1, sum_add, sum_add, ih, sum_ind, sum_ind, if_pos h1, if_pos h2, List.length_cons]
    omega
structure Ties (n : Nat) (T : List (Nat × Nat)) : Prop where
  lt : ∀ e ∈ T, e.1 < e.2 ∧ e.2 < n
  nd : T.Nodup
theorem map_nodup {α β : Type} (f : α → β) : ∀ l : List α, l.Nodup → (∀ a ∈ l, ∀ b ∈ l, f a = f b → a = b) → (l.map f).Nodup
  | [], _, _ => List.nodup_nil
  | a :: l, h, k => by
    obtain ⟨h1, h2⟩ := List.nodup_cons.mp h
    rw [List.map_cons, List.nodup_cons]
    refine ⟨fun z => ?_, map_nodup f l h2 fun a ha b hb => k a (List.mem_cons_of_mem _ ha) b (List.mem_cons_of_mem _ hb)⟩
    obtain ⟨b, hb, e⟩ := List.mem_map.mp z
    have := k b (List.mem_cons_of_mem _ hb) a List.mem_cons_self e
    exact h1 (by rw [← this]; exact hb)
theorem sees_ok {n : Nat} {T : List (Nat × Nat)} (X : Ties n T) (h : Nat) : (sees T h).Nodup ∧ (h ∉ sees T h) ∧ ∀ o ∈ sees T h, o < n := by
  have m1 : ∀ {o}, o ∈ ((T.filter fun e => decide (e.2 = h)).map fun e => e.1) → (o, h) ∈ T := fun {o} ho => by
    obtain ⟨e, he, rfl⟩ := List.mem_map.mp ho
    obtain ⟨e1, e2⟩ := List.mem_filter.mp he
    rw [decide_eq_true_eq] at e2
    rw [← e2]
    exact e1
  have m2 : ∀ {o}, o ∈ ((T.filter fun e => decide (e.1 = h)).map fun e => e.2) → (h, o) ∈ T := fun {o} ho => by
    obtain ⟨e, he, rfl⟩ := List.mem_map.mp ho
    obtain ⟨e1, e2⟩ := List.mem_filter.mp he
    rw [decide_eq_true_eq] at e2
    rw [← e2]
    exact e1
  refine ⟨?_, ?_, ?_⟩
  · unfold sees
    rw [List.nodup_append]
    refine ⟨map_nodup _ _ (X.nd.filter _) fun a ha b hb e => ?_, map_nodup _ _ (X.nd.filter _) fun a ha b hb e => ?_, fun a ha b hb e => ?_⟩
    · have h1 := (List.mem_filter.mp ha).2
      have h2 := (List.mem_filter.mp hb).2
      rw [decide_eq_true_eq] at h1 h2
      exact Prod.ext e (h1.trans h2.symm)
    · have h1 := (List.mem_filter.mp ha).2
      have h2 := (List.mem_filter.mp hb).2
      rw [decide_eq_true_eq] at h1 h2
      exact Prod.ext (h1.trans h2.symm) e
    · have h1 := X.lt _ (m1 ha)
      have h2 := X.lt _ (m2 hb)
      simp only at h1 h2
      omega
  · intro z
    rcases List.mem_append.mp z with z | z
    · have := X.lt _ (m1 z); simp only at this; omega
    · have := X.lt _ (m2 z); simp only at this; omega
  · intro o z
    rcases List.mem_append.mp z with z | z
    · have := X.lt _ (m1 z); simp only at this; omega
    · have := X.lt _ (m2 z); simp only at this; omega
def nx (T : List (Nat × Nat)) (h : Nat) (o : List Nat) : Prop := o = (sees T h).take 6 ∨ o = (sees T h).reverse.take 6
theorem nx_ok {n : Nat} {T : List (Nat × Nat)} (X : Ties n T) {h : Nat} {o : List Nat} (k : nx T h o) : o.Nodup ∧ h ∉ o ∧ (∀ x ∈ o, x < n) ∧ o.length ≤ 6 ∧ o.length ≤ (sees T h).length := by
  obtain ⟨h1, h2, h3⟩ := sees_ok X h
  rcases k with rfl | rfl
  · exact ⟨List.Sublist.nodup (List.take_sublist _ _) h1, fun z => h2 (List.mem_of_mem_take z), fun x hx => h3 x (List.mem_of_mem_take hx), by rw [List.length_take]; omega, by rw [List.length_take]; omega⟩
  · refine ⟨List.Sublist.nodup (List.take_sublist _ _) (List.pairwise_reverse.mpr (h1.imp fun k => Ne.symm k)), fun z => h2 (List.mem_reverse.mp (List.mem_of_mem_take z)), fun x hx => h3 x (List.mem_reverse.mp (List.mem_of_mem_take hx)), by rw [List.length_take]; omega, by rw [List.length_take, List.length_reverse]; omega⟩
def webOf (n : Nat) (F : List (List Nat)) : List (List Nat) := (List.range n).map fun h => (F.getD h []).filter fun o => decide (h ∈ F.getD o [])
theorem webOf_at {n : Nat} {F : List (List Nat)} {h : Nat} (k : h < n) : (webOf n F).getD h [] = (F.getD h []).filter fun o => decide (h ∈ F.getD o []) := by
  unfold webOf
  rw [List.getD_eq_getElem?_getD, List.getElem?_map, List.getElem?_range k]
  rfl
theorem webOf_out {n : Nat} {F : List (List Nat)} {h : Nat} (k : ¬ h < n) : (webOf n F).getD h [] = [] := by
  unfold webOf
  rw [List.getD_eq_getElem?_getD, List.getElem?_eq_none (by rw [List.length_map, List.length_range]; omega)]
  rfl
theorem sum_mono (f g : Nat → Nat) : ∀ l : List Nat, (∀ x ∈ l, f x ≤ g x) → (l.map f).sum ≤ (l.map g).sum
  | [], _ => Nat.le_refl _
  | a :: l, h => by
    have h1 := h a List.mem_cons_self
    have h2 := sum_mono f g l fun x hx => h x (List.mem_cons_of_mem _ hx)
    rw [List.map_cons, List.map_cons, List.sum_cons, List.sum_cons]
    omega
theorem web_all {n : Nat} {T : List (Nat × Nat)} (X : Ties n T) (hl : T.length ≤ 6) {F : List (List Nat)} (hF : F.length = n) (hx : ∀ h, h < n → nx T h (F.getD h [])) :
    (webOf n F).length = n ∧ (∀ h o, o ∈ (webOf n F).getD h [] → o < n) ∧ (∀ h, h ∉ (webOf n F).getD h []) ∧ (∀ h, ((webOf n F).getD h []).Nodup) ∧ (∀ h o, o ∈ (webOf n F).getD h [] → h < n → h ∈ (webOf n F).getD o []) ∧ (∀ h, ((webOf n F).getD h []).length ≤ 6) ∧
    ((List.range n).map fun h => ((webOf n F).getD h []).length).sum ≤ 12 := by
  have at_ : ∀ h o, o ∈ (webOf n F).getD h [] → h < n ∧ o ∈ F.getD h [] ∧ h ∈ F.getD o [] := fun h o k => by
    by_cases hh : h < n
    · rw [webOf_at hh] at k
      obtain ⟨k1, k2⟩ := List.mem_filter.mp k
      exact ⟨hh, k1, of_decide_eq_true k2⟩
    · rw [webOf_out hh] at k
      cases k
  refine ⟨by unfold webOf; rw [List.length_map, List.length_range], fun h o k => ?_, fun h k => ?_, fun h => ?_, fun h o k hh => ?_, fun h => ?_, ?_⟩
  · obtain ⟨hh, k1, _⟩ := at_ h o k
    exact (nx_ok X (hx h hh)).2.2.1 o k1
  · obtain ⟨hh, k1, _⟩ := at_ h h k
    exact (nx_ok X (hx h hh)).2.1 k1
  · by_cases hh : h < n
    · rw [webOf_at hh]
      exact (nx_ok X (hx h hh)).1.filter _
    · rw [webOf_out hh]
      exact List.nodup_nil
  · obtain ⟨_, k1, k2⟩ := at_ h o k
    have ho := (nx_ok X (hx h hh)).2.2.1 o k1
    rw [webOf_at ho]
    exact List.mem_filter.mpr ⟨k2, decide_eq_true k1⟩
  · by_cases hh : h < n
    · rw [webOf_at hh]
      exact Nat.le_trans (List.length_filter_le _ _) (nx_ok X (hx h hh)).2.2.2.1
    · rw [webOf_out hh]
      exact Nat.zero_le _
  · have s1 := sum_sees n T fun e he => by have := X.lt e he; omega
    have s2 := sum_mono (fun h => ((webOf n F).getD h []).length) (fun h => (sees T h).length) (List.range n) fun h hh => by
      have hh' := List.mem_range.mp hh
      show ((webOf n F).getD h []).length ≤ _
      rw [webOf_at hh']
      exact Nat.le_trans (List.length_filter_le _ _) (nx_ok X (hx h hh')).2.2.2.2
    omega
end K9M
namespace K9
open PySem PySem.Spec PyProof.Rows L2 Evl K9M RZ
theorem atl_rev {K : PySem.W.Frag} {H : Hp} : ∀ {vs : List V} {ds : List Dt}, AtL K H vs ds → AtL K H vs.reverse ds.reverse
  | _, _, .nil => .nil
  | v :: vs, d :: ds, .cons h t => by
    rw [List.reverse_cons, List.reverse_cons]
    exact (atl_rev t).append (.one h)
section
variable {K : PySem.W.Frag} {fa ca p : Addr} {σ : L2.St} {H0 H H' : Hp} {ta tb te tl tx : TE} {t : TT} {d : Dt} {ds : List Dt} {D : Ends} {tu tw tz : TS} {l : List Sl} {c c1 c2 n : Nat} {G G1 G2 : Dt → Prop} {Ee : XK} {vs : List V}
theorem Fd.other (F : Fd H fa ca n) (e : ExF p H H') (h1 : fa ≠ p) (h2 : ca ≠ p) : Fd H' fa ca n := by
  obtain ⟨cs, a, left, X, ha⟩ := F
  exact ⟨cs, a, left, ⟨e _ _ h1 X.f, e _ _ h2 X.c, X.l⟩, ha⟩
theorem ExF.other (e0 : ExF fa H0 H) (n : H0 p = none) (e : ExF p H H') : ExF fa H0 H' := fun b o hb h => e b o (fun z => by rw [z, n] at h; cases h) (e0 b o hb h)
theorem ne_cells (F : Fd H fa ca n) (h : H p = none) : ca ≠ p := fun z => by
  obtain ⟨cs, a, left, X, ha⟩ := F
  rw [← z, X.c] at h
  cases h
/-- over range(1, n) -/
theorem tf_range2n {ta : TA} {n j : Nat} (h : EvS K ta σ H [.int 1, .int (n : Int)]) (hn : n ≤ 1000) (h1 : 1 ≤ n) (Pv : Nat → L2.St → Hp → Prop) (h0 : ∀ H1, Ex H H1 → Pv 0 σ H1)
    (hs : ∀ i σ' H', i + 1 < n → Pv i σ' H' → tw { D with nx := Pv (i + 1), ct := Pv (i + 1), bk := D.nx } (σ'.set j (some (.int ((i + 1 : Nat) : Int)))) H')
    (hd : ∀ σ' H', Pv (n - 1) σ' H' → D.nx σ' H') : tFor (iRng2 ta) (gName j) tw D σ H := h H (Ex.refl H) _ fun ws H1 e1 al => by
  obtain ⟨v, r, rfl, a1, al⟩ := al.of_cons
  obtain ⟨v2, r, rfl, a2, al⟩ := al.of_cons
  obtain rfl := al.of_nil
  rw [a1.of_int, a2.of_int]
  have e0 : ((n : Int) - 1).toNat = n - 1 := by omega
  refine ⟨1, (n : Int), rfl, ⟨by decide, by decide, by omega, by omega⟩, ?_⟩
  rw [e0]
  refine for_range (lo := 1) (n := n - 1) Pv (h0 H1 e1) (fun i σ' H' hi k => ?_) fun σ' H' k => hd σ' H' k
  have e2 : (1 : Int) + (i : Int) = ((i + 1 : Nat) : Int) := by omega
  rw [e2]
  exact hs i σ' H' (by omega) k
theorem z_ifK {P : L2.St → Hp → Prop} {b : Bool} (h : EvT t σ H b) (h1 : b = true → ∀ H1, Ex H H1 → ∀ N : L2.St → Hp → Prop, (∀ σ' H', P σ' H' → N σ' H') → tu { D with nx := N } σ H1) (h2 : b = false → ∀ H1, Ex H H1 → P σ H1) (k : ∀ σ' H', P σ' H' → tz D σ' H') : tSeq (tIfS t tu tNext) tz D σ H :=
  z_when h (fun hb H1 e => h1 hb H1 e (tz D) k) fun hb H1 e => k _ _ (h2 hb H1 e)
/-- p.append(e), draws within e -/
theorem yf_app {i : Nat} (S : Sg K H σ l) (F : Fd H fa ca n) (hi : l[i]? = some (.v (.ref p))) (hp : H p = some (.lst vs)) (hpf : p ≠ fa) (hcp : ca ≠ p) (ha : AtL K H vs ds) (hz : vs.length ≤ 90000) (h : EvF K fa ca te σ H c G) (hn : n + c ≤ BB)
    (k : ∀ d v H1, G d → (∀ b o, b ≠ fa → b ≠ p → H b = some o → H1 b = some o) → Fd H1 fa ca (n + c) → TKp K H H1 → H1 p = some (.lst (vs ++ [v])) → AtL K H1 (vs ++ [v]) (ds ++ [d]) → Sg K H1 σ l → D.nx σ H1) : tDrop (tBM K "list" rAppend (tVar i) (tCons te tNil)) D σ H := by
  refine ⟨_, S.val hi, .inl ⟨rfl, _, sq_of hp⟩, h H n ExF.refl F hn _ fun d v H1 g e F1 a => ?_⟩
  have h1 := e _ _ hpf hp
  have tk : TKp K H1 (L2.upd H1 p (.lst (vs ++ [v]))) := .exF h1 (ExF.upd _ _ _)
  refine ⟨p, vs, v, rfl, rfl, h1, sz_lt (by omega), ?_⟩
  exact k d v _ g (fun b o hb hbp h => by rw [upd_ne hbp]; exact e b o hb h) (F1.other (ExF.upd _ _ _) (Ne.symm hpf) hcp) ((F.tk e).trans tk) upd_same (((ha.tk (F.tk e)).append (.one a)).tk tk) ((S.tk (F.tk e)).tk tk)
/-- tuple(xs[::1 or -1][:6]) -/
theorem ef_step {i : Nat} {tk : TE} (S : Sg K H σ l) (F0 : Fd H fa ca n) (hi : l[i]? = some (.v (.ref p))) (hp : H p = some (.lst vs)) (hpf : p ≠ fa) (al : AtL K H vs ds) (hk : EvF K fa ca tk σ H c (fun d => d = .int 1 ∨ d = .int (-1))) :
    EvF K fa ca (tCB (rTupO K) (tCons (tSl (rSlL K) (tStepL K (tVar i) tk) tNoPart (tPart (tC (.int 6)))) tNil)) σ H c (fun d => d = .tup (ds.take 6) ∨ d = .tup (ds.reverse.take 6)) := fun H1 m e0 F hn Q q => by
  refine ⟨_, S.val hi, hk H1 m e0 F hn _ fun d v H2 g e F2 a => ?_⟩
  have h2 := e _ _ hpf (e0 _ _ hpf hp)
  have al2 := (al.tk (F0.tk e0)).tk (F.tk e)
  have cut : ∀ (ys : List V) (es : List Dt) (r : Addr), H2 r = none → AtL K H2 ys es → (Dt.tup (es.take 6) = .tup (ds.take 6) ∨ Dt.tup (es.take 6) = .tup (ds.reverse.take 6)) → (fun x H3 => tNoPart σ H3 fun lo H4 => tPart (tC (.int 6)) σ H4 fun hi H5 => rSlL K x lo hi H5 fun x H6 => rTupO K [x] H6 Q) (.ref r) (L2.upd H2 r (.lst ys)) := by
    intro ys es r hr ay hes
    refine ⟨6, rfl, r, ys, rfl, sq_of upd_same, fun r2 hr2 => ⟨r2, _, rfl, .inl ⟨sq_of upd_same, fun r3 hr3 => ?_⟩⟩⟩
    have e3 := (Ex.new (o := .lst ys) hr).trans ((Ex.new (o := .lst (cutV ys none (some 6))) hr2).trans (Ex.new (o := .tup (cutV ys none (some 6))) hr3))
    have ec : cutV ys none (some 6) = ys.take 6 := by
      unfold cutV
      have e6 : HT.sIx ys.length ys.length (some ((6 : Nat) : Int)) = min 6 ys.length := HT.sIx_nat _ _ _
      show (ys.drop 0).take (HT.sIx ys.length ys.length (some ((6 : Nat) : Int)) - 0) = _
      rw [e6, List.drop_zero, Nat.sub_zero, ← List.take_take, List.take_length]
    rw [ec] at e3 ⊢
    exact q (.tup (es.take 6)) _ _ hes (e.trans (ExF.ex e3)) (F2.ex e3) (.tup (st_of upd_same) ((ay.take 6).mono e3))
  rcases g with rfl | rfl
  · exact ⟨1, a.of_int, p, vs, 1, rfl, sq_of h2, rfl, .inl ⟨rfl, fun r hr => cut vs ds r hr al2 (.inl rfl)⟩⟩
  · exact ⟨-1, a.of_int, p, vs, -1, rfl, sq_of h2, rfl, .inr ⟨rfl, fun r hr => cut vs.reverse ds.reverse r hr (atl_rev al2) (.inr rfl)⟩⟩
end
abbrev s_l_wide_eyes : Stmt := top 81
theorem sc_l_wide_eyes : FnScope ["_law_feed_here", "_law_many", "_law_way", "_law_ties", "_law_hand", "_law_parent", "_law_found", "_law_seen", "_law_one", "_law_other"] ["_law_feed_here"] (defScope s_l_wide_eyes) := ⟨rfl, rfl, rfl, by decide +kernel, rfl, by decide +kernel, by decide +kernel⟩
abbrev s_l_wide_eyes_in : Scope := { kind := .function, names := [(".0", .local), ("_law_hand", .cell), ("tuple", .globalImplicit), ("_law_found", .cell)], isGenerator := false, isCoroutine := false }
theorem pi_tupk {X : Cx} {K : PySem.W.Frag} {tg l : Expr} {tl : TE} (hK : X.K = K) (hl : PE X l tl) : PI X tg l (iTup K tl) := by
  subst hK
  exact pi_tup hl
def tieD (e : Nat × Nat) : Dt := .tup [nD e.1, nD e.2]
def RWe : List Dt → Nat → (Dt → Prop) → Prop := fun ds c G => ds = [] ∧ c = 20 ∧ G = fun d => ∃ ey : List (List Nat), d = eyD ey ∧ Wok ey ∧ Web ey ∧ ((List.range ey.length).map fun h => (seen ey h).length).sum ≤ 12
section
variable {P : Program} {w : World} {K : PySem.W.Frag} {mg : Str → Option Value} {base : Heap}
theorem ok_wide_eyes (D : Df K mg "_law_wide_eyes" s_l_wide_eyes ["_law_feed_here"]) (B : Bi mg) (O_l_draw : Ok P w K mg base CX0 1 "_law_draw" ["_law_feed_here", "_law_many"] (spD K RDr)) : Ok P w K mg base CX0 2 "_law_wide_eyes" ["_law_feed_here"] (spD K RWe) := by
  refine D.okD sc_l_wide_eyes (fun ds c d h => ?_) fun cdv A outer s H f fa ca ds n0 c G Q E hr h F hn q => ?_
  · obtain ⟨rfl, _⟩ := h
    rfl
  · obtain ⟨rfl, rfl, rfl⟩ := h
    have hn' : n0 + 20 ≤ 1000000000 := hn
    refine ⟨_, (pss_cons (ps_set (i := 1) sc_l_wide_eyes.nd rfl (Or.inl rfl) (pe_ix ix_list (pe_lst (pa_cons pe_int (pa_cons pe_int (pa_cons pe_int (pa_cons pe_int (pa_cons pe_int (pa_cons pe_int (pa_cons pe_int (pa_cons pe_int pa_nil))))))))) (pe_ok O_l_draw hr rfl (pa_cons (pv 0) (pa_cons pe_int pa_nil))) (fun _ _ => rfl)))
    (pss_cons (ps_set (i := 2) sc_l_wide_eyes.nd rfl (Or.inl rfl) (pe_ok O_l_draw hr rfl (pa_cons (pv 0) (pa_cons pe_int pa_nil))))
    (pss_cons (ps_set (i := 3) sc_l_wide_eyes.nd rfl (Or.inl rfl) (pe_lst pa_nil))
    (pss_cons (ps_for PassesOwn.never rfl (pi_range2 rfl B.range (pa_cons pe_int (pa_cons (pv 1) pa_nil))) (pg_name (i := 4) sc_l_wide_eyes.nd rfl (Or.inr rfl)) (pss_cons (ps_set (i := 5) sc_l_wide_eyes.nd rfl (Or.inl rfl) (pe_ix ix_list (pe_lst (pa_cons (pe_op op_sub (pv 4) pe_int) (pa_cons (pe_op op_sub (pv 4) pe_int) (pa_cons (pe_op op_fdiv (pe_op op_sub (pv 4) pe_int) pe_int) (pa_cons (pe_ok O_l_draw hr rfl (pa_cons (pv 0) (pa_cons (pv 4) pa_nil))) pa_nil))))) (pv 2) (fun _ _ => rfl)))
      (pss_one (ps_expr (pe_bm PySem.F.plainAttrs_list PySem.F.slot_list_append PySem.F.type_list_append mt_append (pv 3) (pa_cons (pe_tup (pa_cons (pv 5) (pa_cons (pv 4) pa_nil))) pa_nil))))))
    (pss_cons (ps_if (PW.pt (pw_and (pt_cmpR op_eq (pv 2) pe_int (nomark _)) (pw_and1 (pt_cmpR op_gt (pv 1) pe_int (nomark _))))) (pss_one (ps_expr (pe_bm PySem.F.plainAttrs_list PySem.F.slot_list_append PySem.F.type_list_append mt_append (pv 3) (pa_cons (pe_tup (pa_cons pe_int (pa_cons (pe_op op_sub (pv 1) pe_int) pa_nil))) pa_nil)))) pss_nil)
    (pss_cons (ps_set (i := 6) sc_l_wide_eyes.nd rfl (Or.inr rfl) (pe_lst pa_nil))
    (pss_cons (ps_for PassesOwn.never rfl (pi_range1 rfl B.range (pa_cons (pv 1) pa_nil)) (pg_name (i := 4) sc_l_wide_eyes.nd rfl (Or.inr rfl)) (pss_cons (ps_set (i := 7) sc_l_wide_eyes.nd rfl (Or.inl rfl) (pe_op op_cat (pe_lc (own := [("_law_one", 8), ("_law_other", 9)]) (g := gTup K 2 (gCons (gName 8) (gCons (gName 9) gNil))) rfl sc_l_wide_eyes.nd (pi_list (pv 3)) (blkOk_by (N := ["_law_feed_here", "_law_many", "_law_way", "_law_ties", "_law_hand", "_law_parent", "_law_found", "_law_seen", "_law_one", "_law_other"]) (sc := defScope s_l_wide_eyes) (by decide +kernel)) (fun _ _ _ _ _ => (pg_tup rfl (pgs_cons (pg_name (i := 8) sc_l_wide_eyes.nd rfl (Or.inl rfl)) (pgs_cons (pg_name (i := 9) sc_l_wide_eyes.nd rfl (Or.inl rfl)) pgs_nil)))) (fun _ _ _ _ _ => (pts_one (pt_cmpR op_eq (pv 9) (pv 4) (nomark _)))) (fun _ _ _ _ _ => (pv 8))) (pe_lc (own := [("_law_one", 8), ("_law_other", 9)]) (g := gTup K 2 (gCons (gName 8) (gCons (gName 9) gNil))) rfl sc_l_wide_eyes.nd (pi_list (pv 3)) (blkOk_by (N := ["_law_feed_here", "_law_many", "_law_way", "_law_ties", "_law_hand", "_law_parent", "_law_found", "_law_seen", "_law_one", "_law_other"]) (sc := defScope s_l_wide_eyes) (by decide +kernel)) (fun _ _ _ _ _ => (pg_tup rfl (pgs_cons (pg_name (i := 8) sc_l_wide_eyes.nd rfl (Or.inl rfl)) (pgs_cons (pg_name (i := 9) sc_l_wide_eyes.nd rfl (Or.inl rfl)) pgs_nil)))) (fun _ _ _ _ _ => (pts_one (pt_cmpR op_eq (pv 8) (pv 4) (nomark _)))) (fun _ _ _ _ _ => (pv 9)))))
      (pss_one (ps_expr (pe_bm PySem.F.plainAttrs_list PySem.F.slot_list_append PySem.F.type_list_append mt_append (pv 6) (pa_cons (pe_callTy call_tuple_of rfl B.tuple (by decide +kernel) (pa_cons (pe_slice sl_list (pe_stepL (pv 7) (pe_ix ix_list (pe_lst (pa_cons pe_int (pa_cons (pe_un un_neg pe_int) pa_nil))) (pe_ok O_l_draw hr rfl (pa_cons (pv 0) (pa_cons pe_int pa_nil))) (fun _ _ => rfl))) po_none (po_some pe_int)) pa_nil)) pa_nil))))))
    (pss_one (ps_ret (pe_callTy call_tuple_of rfl B.tuple (by decide +kernel) (pa_cons (pe_lc (own := [("_law_hand", 4)]) (g := gName 4) (tt := tYes) rfl sc_l_wide_eyes.nd (pi_range1 rfl B.range (pa_cons (pv 1) pa_nil)) (blkOk_by (N := ["_law_feed_here", "_law_many", "_law_way", "_law_ties", "_law_hand", "_law_parent", "_law_found", "_law_seen", "_law_one", "_law_other"]) (sc := defScope s_l_wide_eyes) (by decide +kernel)) (fun _ _ _ _ _ => (pg_name (i := 4) sc_l_wide_eyes.nd rfl (Or.inr rfl))) (fun _ _ _ _ _ => pts_nil) (fun _ _ _ _ _ => (pe_callTy (T := "tuple") (show CallR _ (.type "tuple") (rTupO K) from call_tuple_of) rfl B.tuple (by decide +kernel) (pa_cons (pe_lc (own := [("_law_one", 8)]) (g := gName 8) rfl sc_l_wide_eyes.nd (pi_tupk (K := K) rfl (pe_ix (show IxR _ (rIxL K) from ix_list) (pv 6) (pv 4) (fun _ _ => rfl))) (blkOk_by (N := ["_law_feed_here", "_law_many", "_law_way", "_law_ties", "_law_hand", "_law_parent", "_law_found", "_law_seen", "_law_one", "_law_other"]) (sc := s_l_wide_eyes_in) (by decide +kernel)) (fun _ _ _ _ _ => (pg_name (i := 8) sc_l_wide_eyes.nd rfl (Or.inl rfl))) (fun _ _ _ _ _ => (pts_one (pt_cmpR (show OpR _ _ (rIn K false) from op_in_seq) (pv 4) (pe_ix (show IxR _ (rIxL K) from ix_list) (pv 6) (pv 8) (fun _ _ => rfl)) (by rfl)))) (fun _ _ _ _ _ => (pv 8))) pa_nil)))) pa_nil))))))))))), fun σ S => ?_⟩
    refine zf_asg (c := 1) (G := fun d => ∃ m : Nat, 2 ≤ m ∧ m ≤ 6 ∧ d = nD m) S F (ef_le (ef_pickD (c1 := 0) (c2 := 1) (G := fun d => ∃ m : Nat, 2 ≤ m ∧ m ≤ 6 ∧ d = nD m) (GL := fun l => l = [nD 2, nD 3, nD 4, nD 4, nD 5, nD 5, nD 6, nD 3]) (efs_d fun H8 e8 => es_cons ed_cI (es_cons ed_cI (es_cons ed_cI (es_cons ed_cI (es_cons ed_cI (es_cons ed_cI (es_cons ed_cI (es_one ed_cI)))))))) (fun ds g => by rw [g]; decide) (ef_draw (m := 8) S rfl (by decide) (by decide) fun H8 e8 => es_one ed_cI) fun ds d gl g2 => by
        obtain ⟨k, hk, rfl⟩ := g2
        subst gl
        refine ⟨k, rfl, ?_⟩
        have h8 : k = 0 ∨ k = 1 ∨ k = 2 ∨ k = 3 ∨ k = 4 ∨ k = 5 ∨ k = 6 ∨ k = 7 := by omega
        rcases h8 with rfl | rfl | rfl | rfl | rfl | rfl | rfl | rfl <;> exact ⟨_, rfl, _, by decide, by decide, rfl⟩) (by omega) fun _ g => g) (by show _ + 1 ≤ 1000000000; omega) fun d σ1 H1 g e1 F1 S1 => ?_
    obtain ⟨m, m2, m6, rfl⟩ := g
    refine zf_asg (c := 1) (G := GDr 4) S1 F1 (ef_draw (m := 4) S1 rfl (by decide) (by decide) fun H6 e6 => es_one ed_cI) (by show _ + 1 ≤ 1000000000; omega) fun d σ2 H2 g e2 F2 S2 => ?_
    obtain ⟨w4, hw4, rfl⟩ := g
    refine z_asgM S2 (em_lst es_nil) fun tp ts σ3 H3 htp e3 htx atx S3 => ?_
    obtain rfl := atx.of_nil
    have F3 := F2.ex e3
    have e03 : ExF fa H H3 := (e1.trans e2).trans (ExF.ex e3)
    have htH : H tp = none := fresh_backF F2 (e1.trans e2) htp
    have tpf := ne_feed (o := .lst []) F2 htp
    have tpc := ne_cells F2 htp
    refine q_for1 (tf_range2n (n := m) (es_cons ed_cI (es_one (ed_var S3 rfl))) (by omega) (by omega) (fun i σ' H' => ∃ (T : List (Nat × Nat)) (xs : List V), Sg K H' σ' [.v (.ref fa), .d (nD m), .d (nD w4), .v (.ref tp), .no, .no, .no, .no, .no, .no] ∧ ExF fa H H' ∧ Fd H' fa ca (n0 + 2 + i) ∧ H' tp = some (.lst xs) ∧ AtL K H' xs (T.map tieD) ∧ T.length = i ∧ T.Nodup ∧ (∀ e ∈ T, e.1 < e.2 ∧ e.2 ≤ i ∧ (w4 = 0 → e.1 + 1 = e.2)))
      (fun H4 e4 => ⟨[], [], S3.mono e4, e03.trans (ExF.ex e4), F3.ex e4, e4 _ _ htx, .nil, rfl, List.nodup_nil, fun e he => nomatch he⟩) (fun i σ' H' hi k => ?_) fun σ' H' k => ?_)
    · obtain ⟨T, xs, k1, k2, k3, k4, k5, k6, k7, k8⟩ := k
      have S4 := k1.setD (.int ((i + 1 : Nat) : Int)) 4
      have dm : ((i + 1 : Nat) : Int) - 1 = (i : Int) := by omega
      refine zf_asg (c := 1) (G := fun d => ∃ p : Nat, p < i + 1 ∧ (w4 = 0 → p + 1 = i + 1) ∧ d = nD p) S4 k3 (ef_le (ef_pickD (c1 := 1) (c2 := 0) (G := fun d => ∃ p : Nat, p < i + 1 ∧ (w4 = 0 → p + 1 = i + 1) ∧ d = nD p) (G2 := fun d => d = nD w4) (GL := fun l => ∃ r : Nat, r < i + 1 ∧ l = [nD i, nD i, nD (i / 2), nD r])
        (efs_le (efs_cons (c1 := 0) (G1 := fun d => d = nD i) (ef_d (fun H8 e8 => (ed_II (ed_var (FdS k3 S4 e8) rfl) ed_cI).is (congrArg Dt.int dm)) rfl) (efs_cons (c1 := 0) (G1 := fun d => d = nD i) (ef_d (fun H8 e8 => (ed_II (ed_var (FdS k3 S4 e8) rfl) ed_cI).is (congrArg Dt.int dm)) rfl) (efs_cons (c1 := 0) (G1 := fun d => d = nD (i / 2)) (ef_d (fun H8 e8 => (ed_IC ((ed_II (ed_var (FdS k3 S4 e8) rfl) ed_cI).is (congrArg Dt.int dm)) ed_cI ⟨by decide, by decide⟩).is (congrArg Dt.int (Int.natCast_ediv _ _).symm)) rfl)
          (efs_cons (c1 := 1) (c2 := 0) (ef_draw (m := i + 1) S4 rfl (by omega) (by omega) fun H6 e6 => es_one (ed_var (FdS k3 S4 e6) rfl)) efs_nil)))) (by omega) fun ds g => by
            obtain ⟨d1, r1, rfl, rfl, d2, r2, rfl, rfl, d3, r3, rfl, rfl, d4, r4, rfl, ⟨r, hr, rfl⟩, rfl⟩ := g
            exact ⟨r, hr, rfl⟩) (fun ds g => by obtain ⟨r, _, rfl⟩ := g; show 4 ≤ 100; decide) (ef_d (fun H8 e8 => ed_var (FdS k3 S4 e8) rfl) rfl) fun ds d gl g2 => by
              obtain ⟨r, hr, rfl⟩ := gl
              refine ⟨w4, g2, ?_⟩
              have h4 : w4 = 0 ∨ w4 = 1 ∨ w4 = 2 ∨ w4 = 3 := by omega
              rcases h4 with rfl | rfl | rfl | rfl
              · exact ⟨_, rfl, i, by omega, fun _ => rfl, rfl⟩
              · exact ⟨_, rfl, i, by omega, (fun z => by cases z), rfl⟩
              · exact ⟨_, rfl, i / 2, by omega, (fun z => by cases z), rfl⟩
              · exact ⟨_, rfl, r, hr, (fun z => by cases z), rfl⟩) (by omega) fun _ g => g) (by show _ + 1 ≤ 1000000000; omega) fun d σ5 H5 g e5 F5 S5 => ?_
      obtain ⟨p, hp1, hp2, rfl⟩ := g
      have k4' := e5 _ _ tpf k4
      have k5' := k5.tk (k3.tk e5)
      refine y_app (d := tieD (p, i + 1)) S5 rfl k4' k5' (by rw [k5.len, List.length_map]; omega) (ed_tup (ds := [nD p, nD (i + 1)]) (es_cons (ed_var S5 rfl) (es_one (ed_var S5 rfl))) (Nat.le_of_ble_eq_true rfl)) fun v H6 eF tk hx6 ax6 S6 => ?_
      refine ⟨T ++ [(p, i + 1)], _, S6.less rfl fun i => ?_, (k2.trans e5).other htH eF, (F5.other eF (Ne.symm tpf) tpc).le (by omega), hx6, by rw [List.map_append]; exact ax6, by rw [List.length_append, k6]; rfl, ?_, fun e he => ?_⟩
      · match i with
        | 0 => rfl
        | 1 => rfl
        | 2 => rfl
        | 3 => rfl
        | 4 => trivial
        | 5 => trivial
        | 6 => trivial
        | 7 => trivial
        | 8 => trivial
        | 9 => trivial
        | n + 10 => trivial
      · rw [List.nodup_append]
        refine ⟨k7, by simp, fun a ha b hb z => ?_⟩
        rw [List.mem_singleton] at hb
        have := k8 a ha
        rw [z, hb] at this
        simp only at this
        omega
      · rcases List.mem_append.mp he with he | he
        · have := k8 e he
          exact ⟨this.1, by omega, this.2.2⟩
        · rw [List.mem_singleton] at he
          rw [he]
          exact ⟨hp1, Nat.le_refl _, hp2⟩
    · obtain ⟨T, xs, k1, k2, k3, k4, k5, k6, k7, k8⟩ := k
      have tl : T.length ≤ 5 := by omega
      have X0 : Ties m T := ⟨fun e he => by have := k8 e he; omega, k7⟩
      refine z_ifK (P := fun σ' H' => ∃ (T : List (Nat × Nat)) (xs : List V), Ties m T ∧ T.length ≤ 6 ∧ Sg K H' σ' [.v (.ref fa), .d (nD m), .d (nD w4), .v (.ref tp), .no, .no, .no, .no, .no, .no] ∧ ExF fa H H' ∧ Fd H' fa ca (n0 + 8) ∧ H' tp = some (.lst xs) ∧ AtL K H' xs (T.map tieD))
        (et_and (et_d (ed_eqI (ed_var k1 rfl) ed_cI)) fun _ => et_d (ed_IB (ed_var k1 rfl) ed_cI)) (fun hb H5 e5 N hN => ?_) (fun hb H5 e5 => ⟨T, xs, X0, by omega, k1.mono e5, k2.trans (ExF.ex e5), (k3.ex e5).le (by omega), e5 _ _ k4, k5.mono e5⟩) fun σ5 H5 kk => ?_
      · rw [Bool.and_eq_true, decide_eq_true_eq, decide_eq_true_eq] at hb
        have hw0 : w4 = 0 := by have := hb.1; omega
        have hm2 : 2 < m := by have := hb.2; omega
        have S5 := k1.mono e5
        refine y_app (d := tieD (0, m - 1)) S5 rfl (e5 _ _ k4) (k5.mono e5) (by rw [k5.len, List.length_map]; omega) (ed_tup (ds := [nD 0, nD (m - 1)]) (es_cons ed_cI (es_one ((ed_II (ed_var S5 rfl) ed_cI).is (congrArg Dt.int (show (m : Int) - 1 = ((m - 1 : Nat) : Int) by omega))))) (Nat.le_of_ble_eq_true rfl)) fun v H6 eF tk hx6 ax6 S6 => hN _ _ ?_
        refine ⟨T ++ [(0, m - 1)], _, ⟨fun e he => ?_, ?_⟩, by rw [List.length_append]; show _ + 1 ≤ 6; omega, S6, (k2.trans (ExF.ex e5)).other htH eF, ((k3.ex e5).other eF (Ne.symm tpf) tpc).le (by omega), hx6, by rw [List.map_append]; exact ax6⟩
        · rcases List.mem_append.mp he with he | he
          · exact X0.lt e he
          · rw [List.mem_singleton] at he
            rw [he]
            exact ⟨by show 0 < m - 1; omega, by show m - 1 < m; omega⟩
        · rw [List.nodup_append]
          refine ⟨k7, by simp, fun a ha b hb' z => ?_⟩
          rw [List.mem_singleton] at hb'
          have := k8 a ha
          rw [z, hb'] at this
          have h3 := this.2.2 hw0
          simp only at h3
          omega
      · obtain ⟨T, xs, X, tl6, S5, e5, F5, h5, a5⟩ := kk
        refine z_asgM S5 (em_lst es_nil) fun fp fs σ6 H6 hfp e6 hf6 af6 S6 => ?_
        obtain rfl := af6.of_nil
        have fpf := ne_feed (o := .lst []) F5 hfp
        have fpc := ne_cells F5 hfp
        have hfH : H fp = none := fresh_backF F5 e5 hfp
        have ftp : fp ≠ tp := fun z => by rw [z, h5] at hfp; cases hfp
        refine q_for1 (tf_rangen (n := m) (es_one (ed_var S6 rfl)) (by omega) (fun i σ' H' => ∃ (F : List (List Nat)) (ys : List V), Sg K H' σ' [.v (.ref fa), .d (nD m), .d (nD w4), .v (.ref tp), .no, .no, .v (.ref fp), .no, .no, .no] ∧ ExF fa H H' ∧ Fd H' fa ca (n0 + 8 + i) ∧ H' tp = some (.lst xs) ∧ AtL K H' xs (T.map tieD) ∧ H' fp = some (.lst ys) ∧ AtL K H' ys (F.map rowD) ∧ F.length = i ∧ ∀ h, h < i → nx T h (F.getD h []))
          (fun H7 e7 => ⟨[], [], (S6.mono e7).less rfl fun i => ?_, (e5.trans (ExF.ex e6)).trans (ExF.ex e7), (F5.ex e6).ex e7, e7 _ _ (e6 _ _ h5), a5.mono (e6.trans e7), e7 _ _ hf6, .nil, rfl, fun h hh => by omega⟩) (fun i σ' H' hi k => ?_) fun σ' H' k => ?_)
        · match i with
          | 0 => rfl
          | 1 => rfl
          | 2 => rfl
          | 3 => rfl
          | 4 => trivial
          | 5 => trivial
          | 6 => rfl
          | 7 => trivial
          | 8 => trivial
          | 9 => trivial
          | n + 10 => trivial
        · obtain ⟨Fo, ys, q1, q2, q3, q4, q5, q6, q7, q8, q9⟩ := k
          have S7 := q1.setD (.int (i : Int)) 4
          refine z_asgM (ds := (sees T i).map nD) S7 ((em_cat (em_lcP (e1 := fun e : Nat × Nat => nD e.1) (e2 := fun e : Nat × Nat => nD e.2) T (fun e => decide (e.2 = i)) (fun e => nD e.1) (ev_varV S7 rfl) (sq_of q4) q5 (by omega) fun e v w H8 he e8 a1 a2 => ⟨?_, fun _ => ?_⟩) (fun H8 e8 => em_lcP (e1 := fun e : Nat × Nat => nD e.1) (e2 := fun e : Nat × Nat => nD e.2) T (fun e => decide (e.1 = i)) (fun e => nD e.2) (ev_varV (S7.mono e8) rfl) (sq_of (e8 _ _ q4)) (q5.mono e8) (by omega) fun e v w H9 he e9 a1 a2 => ⟨?_, fun _ => ?_⟩) ?_).is ?_) fun sp ss σ8 H8 hsp e8 hs8 as8 S8 => ?_
          · have S9 := (((S7.mono e8).wipe [8, 9]).setD a1 8).setD a2 9
            exact et_is (et_d (ed_eqI (ed_var S9 rfl) (ed_var S9 rfl))) (decide_eq_decide.mpr ⟨fun z => by omega, fun z => by omega⟩)
          · have S9 := (((S7.mono e8).wipe [8, 9]).setD a1 8).setD a2 9
            exact ed_var S9 rfl
          · have S9 := ((((S7.mono e8).mono e9).wipe [8, 9]).setD a1 8).setD a2 9
            exact et_is (et_d (ed_eqI (ed_var S9 rfl) (ed_var S9 rfl))) (decide_eq_decide.mpr ⟨fun z => by omega, fun z => by omega⟩)
          · have S9 := ((((S7.mono e8).mono e9).wipe [8, 9]).setD a1 8).setD a2 9
            exact ed_var S9 rfl
          · have l1 := List.length_filter_le (fun e : Nat × Nat => decide (e.2 = i)) T
            have l2 := List.length_filter_le (fun e : Nat × Nat => decide (e.1 = i)) T
            rw [List.length_map, List.length_map]
            omega
          · unfold sees
            rw [List.map_append, List.map_map, List.map_map]
            rfl
          · have F8 := q3.ex e8
            have spf := ne_feed (o := .lst []) q3 hsp
            refine yf_app (c := 1) (i := 6) (G := fun d => ∃ o, nx T i o ∧ d = rowD o) S8 F8 rfl (e8 _ _ q6) fpf fpc (q7.mono e8) (by rw [q7.len, List.length_map]; omega) (ef_le (ef_step S8 F8 (i := 7) rfl hs8 spf as8 (ef_le (ef_pickD (c1 := 0) (c2 := 1) (G := fun d => d = .int 1 ∨ d = .int (-1)) (GL := fun l => l = [.int 1, .int (-1)]) (efs_d fun H9 e9 => es_cons ed_cI (es_one (ed_neg ed_cI))) (fun ds g => by rw [g]; decide) (ef_draw (m := 2) S8 rfl (by decide) (by decide) fun H9 e9 => es_one ed_cI) fun ds d gl g2 => by
                obtain ⟨k, hk, rfl⟩ := g2
                subst gl
                refine ⟨k, rfl, ?_⟩
                have h01 : k = 0 ∨ k = 1 := by omega
                rcases h01 with rfl | rfl
                · exact ⟨_, rfl, .inl rfl⟩
                · exact ⟨_, rfl, .inr rfl⟩) (Nat.le_refl _) fun _ g => g)) (Nat.le_refl _) fun d g => by
                rcases g with rfl | rfl
                · exact ⟨_, .inl rfl, by unfold rowD; rw [List.map_take]⟩
                · exact ⟨_, .inr rfl, by unfold rowD; rw [List.map_take, List.map_reverse]⟩) (by show _ + 1 ≤ 1000000000; omega) fun d v H9 g ek F9 tk9 h9 a9 S9 => ?_
            obtain ⟨o, ho, rfl⟩ := g
            have ek' : ExF fa H H9 := fun b u hb hu => ek b u hb (fun z => by rw [z, hfH] at hu; cases hu) (e8 _ _ (q2 b u hb hu))
            refine ⟨Fo ++ [o], _, S9.less rfl fun i => ?_, ek', F9.le (by omega), ek _ _ tpf (Ne.symm ftp) (e8 _ _ q4), (q5.mono e8).tk tk9, h9, by rw [List.map_append]; exact a9, by rw [List.length_append, q8]; rfl, fun h hh => ?_⟩
            · match i with
              | 0 => rfl
              | 1 => rfl
              | 2 => rfl
              | 3 => rfl
              | 4 => trivial
              | 5 => trivial
              | 6 => rfl
              | 7 => trivial
              | 8 => trivial
              | 9 => trivial
              | n + 10 => trivial
            · by_cases hlt : h < i
              · rw [List.getD_eq_getElem?_getD, List.getElem?_append_left (by omega), ← List.getD_eq_getElem?_getD]
                exact q9 h hlt
              · have : h = i := by omega
                subst this
                rw [List.getD_eq_getElem?_getD, List.getElem?_append_right (by omega), q8, Nat.sub_self]
                exact ho
        · obtain ⟨Fo, ys, q1, q2, q3, q4, q5, q6, q7, q8, q9⟩ := k
          obtain ⟨w1, w2, w3, w4', w5, w6, w7⟩ := web_all X tl6 q8 q9
          have fat : ∀ {j : Nat}, j < m → (Fo.map rowD)[j]? = some (rowD (Fo.getD j [])) := fun {j} hj => by
            rw [List.getElem?_map, List.getD_eq_getElem?_getD, List.getElem?_eq_getElem (by omega)]
            rfl
          refine y_ret (d := eyD (webOf m Fo)) (D := { nx := fun _ H' => Q .non H', rt := Q }) ((ed_tupM (ds := (webOf m Fo).map rowD) ((em_lcR (n := m) (fun _ => true) (fun h => rowD ((Fo.getD h []).filter fun o => decide (h ∈ Fo.getD o []))) (es_one (ed_var q1 rfl)) (by omega) fun h v H9 hh e9 a9 => ⟨et_yes, fun _ => ?_⟩).is ?_))) fun v H9 e9 a => q _ v H9 ⟨webOf m Fo, rfl, ⟨fun h o k => by rw [w1]; exact w2 h o k, w6, by rw [w1]; exact m6, by rw [w1]; exact m2⟩, ⟨fun h o k => by rw [w1]; exact w2 h o k, w3, w4', fun h o k hh => w5 h o k (by rw [w1] at hh; exact hh)⟩, by rw [w1]; exact w7⟩ (q2.trans (ExF.ex e9)) ((q3.ex e9).le (by omega)) a
          · have S9 := ((q1.mono e9).wipe [4]).setD a9 4
            refine ed_tupM (em_lcT (enc := nD) (Fo.getD h []) (fun o => decide (h ∈ Fo.getD o [])) nD (ed_ixLst S9 rfl (e9 _ _ q6) (q7.mono e9) (ed_var S9 rfl) (atI_n (fat hh))) (by have := (nx_ok X (q9 h hh)).2.2.2.1; omega) fun o v H10 ho e10 a10 => ⟨?_, fun _ => ?_⟩)
            · have S10 := ((S9.mono e10).wipe [8]).setD a10 8
              have hom := (nx_ok X (q9 h hh)).2.2.1 o ho
              refine et_is (et_d (ed_inI (neg := false) (ss := (Fo.getD o []).map fun n : Nat => (n : Int)) (ed_var S10 rfl) ((ed_ixLst S10 rfl ((e9.trans e10) _ _ q6) (q7.mono (e9.trans e10)) (ed_var S10 rfl) (atI_n (fat hom))).is (rowD_ints _)))) ?_
              exact any_mem _ _
            · have S10 := ((S9.mono e10).wipe [8]).setD a10 8
              exact ed_var S10 rfl
          · unfold webOf
            rw [filter_yes, List.map_map]
            rfl
end
end K9
end
section
set_option maxHeartbeats 1000000
/-! K9Z: the law. -/
namespace K9
open PySem PySem.Spec PyProof.Rows L2 Evl K9M RZ
/-- what hues and posts keep: plain mathematics -/
structure Told : Prop where
  hues : ∀ (ey : List (List Nat)) (m : Nat), Wok ey → Web ey → 2 ≤ m → m ≤ 5 → (∀ h, (seen ey h).length < m) → SyOk (hueS ey m) ∧ LetS (hueS ey m) (eN 0) hueP ∧ LetC (hueS ey m) noneAlike ∧ (((List.range ey.length).map fun h => (seen ey h).length).sum ≤ 12 → Short (hueS ey m))
  posts : ∀ (ey : List (List Nat)), Wok ey → Web ey → SyOk (postS ey) ∧ LetS (postS ey) postT (eN 0) ∧ LetC (postS ey) posted ∧ (((List.range ey.length).map fun h => (seen ey h).length).sum ≤ 12 → Short (postS ey))
def spFeed (K : PySem.W.Frag) : Sp := fun vs H Q _ => ∃ (a : Addr) (ns : List Int), vs = [.ref a] ∧ SqL K H a (ns.map V.int) ∧ ∀ fa ca H', Ex H H' → H fa = none → Fd H' fa ca 0 → Q (.ref fa) H'
def spLaw (K : PySem.W.Frag) : Sp := fun vs H Q _ => ∃ (a : Addr) (ns : List Int), vs = [.ref a] ∧ SqL K H a (ns.map V.int) ∧ ∀ H', Q (.bl true) H'
abbrev s_l_feed : Stmt := top 79
theorem sc_l_feed : FnScope ["_law_script"] ["_law_script"] (defScope s_l_feed) := ⟨rfl, rfl, rfl, by decide +kernel, rfl, by decide +kernel, by decide +kernel⟩
abbrev s_law : Stmt := top 100
theorem sc_law : FnScope ["_law_script", "_law_feed_here", "_law_eyes", "_law_most", "_law_seen", "_law_way", "_law_told", "_law_system", "_law_goal", "_law_claim_here", "_law_shares"] ["_law_script"] (defScope s_law) := ⟨rfl, rfl, rfl, by decide +kernel, rfl, by decide +kernel, by decide +kernel⟩
section
variable {K : PySem.W.Frag} {σ : L2.St} {H : Hp} {te : TE} {ds : List Dt} {Ee : XK} {A : Prop}
def EvNd (K : PySem.W.Frag) (te : TE) (σ : L2.St) (H : Hp) (G : Dt → Prop) : Prop := ∀ H1, Ex H H1 → ∀ Q : VK, (∀ d v H2, G d → Ex H1 H2 → At K H2 v d → Q v H2) → te σ H1 Q
theorem en_max {ns : List Int} (h : EvM K te σ H (ns.map .int)) (hn : 0 < ns.length) : EvNd K (tCB (rMax K) (tCons te tNil)) σ H (fun d => ∃ m, m ∈ ns ∧ (∀ y, y ∈ ns → y ≤ m) ∧ d = .int m) := fun H1 e Q q => h H1 e _ fun p xs H2 hp e2 hx a =>
  ⟨p, ns, rfl, sq_of (by rw [hx, a.ints]), hn, fun m hm hall => q (.int m) _ H2 ⟨m, hm, hall, rfl⟩ e2 (.int m)⟩
theorem ef_nd {fa ca : Addr} {c : Nat} {G G2 : Dt → Prop} (h : ∀ H1, ExF fa H H1 → EvNd K te σ H1 G) (hG : ∀ d, G d → G2 d) : EvF K fa ca te σ H c G2 := fun H1 n e0 F hn Q q => h H1 e0 H1 (Ex.refl _) _ fun d v H2 g e a => q d v H2 (hG d g) (ExF.ex e) ((F.ex e).le (Nat.le_add_right _ _)) a
theorem zf_par3 {fa ca : Addr} {l : List Sl} {i j m n c : Nat} {ta : TA} {G : List Dt → Prop} {D : Ends} {tz : TS} (S : Sg K H σ l) (F : Fd H fa ca n) (h : EvFS K fa ca ta σ H c G) (hn : n + c ≤ BB) (hG : ∀ ds, G ds → ∃ a b d, ds = [a, b, d]) (k : ∀ a b d σ' H1, G [a, b, d] → ExF fa H H1 → Fd H1 fa ca (n + c) → Sg K H1 σ' (((l.set i (.d a)).set j (.d b)).set m (.d d)) → tz D σ' H1) : tSeq (tPar3 i j m ta) tz D σ H :=
  h H n ExF.refl F hn _ fun ds vs H1 g e F1 al => by
    obtain ⟨a, b, d, rfl⟩ := hG ds g
    obtain ⟨v1, r, rfl, a1, al⟩ := al.of_cons
    obtain ⟨v2, r, rfl, a2, al⟩ := al.of_cons
    obtain ⟨v3, r, rfl, a3, al⟩ := al.of_cons
    obtain rfl := al.of_nil
    exact ⟨v1, v2, v3, rfl, k a b d _ H1 g e F1 ((((S.tk (F.tk e)).setD a1 i).setD a2 j).setD a3 m)⟩
theorem zf_tup2 {fa ca : Addr} {l : List Sl} {i j n c : Nat} {G : Dt → Dt → Prop} {D : Ends} {tz : TS} (S : Sg K H σ l) (F : Fd H fa ca n) (h : EvF K fa ca te σ H c (fun d => ∃ d1 d2, d = .tup [d1, d2] ∧ G d1 d2)) (hn : n + c ≤ BB) (k : ∀ d1 d2 σ' H1, G d1 d2 → ExF fa H H1 → Fd H1 fa ca (n + c) → Sg K H1 σ' ((l.set i (.d d1)).set j (.d d2)) → tz D σ' H1) : tSeq (tAsg te (gTup K 2 (gCons (gName i) (gCons (gName j) gNil)))) tz D σ H :=
  h H n ExF.refl F hn _ fun d v H1 g e F1 a => by
    obtain ⟨d1, d2, rfl, g⟩ := g
    exact g_tup2 a fun x y ax ay => k d1 d2 _ H1 g e F1 (((S.tk (F.tk e)).setD ax i).setD ay j)
theorem y_par {l : List Sl} {i j : Nat} {ta : TA} {D : Ends} {d1 d2 : Dt} (S : Sg K H σ l) (h : EvS K ta σ H [d1, d2]) (k : ∀ σ' H1, Ex H H1 → Sg K H1 σ' ((l.set i (.d d1)).set j (.d d2)) → D.nx σ' H1) : tPar i j ta D σ H :=
  h H (Ex.refl _) _ fun vs H1 e al => by
    obtain ⟨v1, r, rfl, a1, al⟩ := al.of_cons
    obtain ⟨v2, r, rfl, a2, al⟩ := al.of_cons
    obtain rfl := al.of_nil
    exact ⟨v1, v2, rfl, k _ H1 e (((S.mono e).setD a1 i).setD a2 j)⟩
def EvTF (fa ca : Addr) (t : TT) (σ : L2.St) (H : Hp) (c : Nat) (PT : Bool → Prop) : Prop := ∀ H1 n, ExF fa H H1 → Fd H1 fa ca n → n + c ≤ BB → ∀ Q : Bool → Hp → Prop, (∀ b H2, PT b → ExF fa H1 H2 → Fd H2 fa ca (n + c) → Q b H2) → t σ H1 Q
theorem etf_t {fa ca : Addr} {t : TT} {c : Nat} {b : Bool} {PT : Bool → Prop} (h : ∀ H1, ExF fa H H1 → EvT t σ H1 b) (hb : PT b) : EvTF fa ca t σ H c PT := fun H1 n e0 F hn Q q => h H1 e0 H1 (Ex.refl _) _ fun H2 e => q b H2 hb (ExF.ex e) ((F.ex e).le (Nat.le_add_right _ _))
theorem etf_f {fa ca : Addr} {c : Nat} {G : Dt → Prop} {PT : Bool → Prop} (h : EvF K fa ca te σ H c G) (hG : ∀ d, G d → ∃ b, d = .bl b ∧ PT b) : EvTF fa ca (tTest te) σ H c PT := fun H1 n e0 F hn Q q => h H1 n e0 F hn _ fun d v H2 g e F2 a => by
  obtain ⟨b, rfl, pb⟩ := hG d g
  exact ⟨b, a.of_bl, q b H2 pb e F2⟩
theorem etf_and {fa ca : Addr} {t u : TT} {c1 c2 : Nat} {P1 PT : Bool → Prop} (h1 : EvTF fa ca t σ H c1 P1) (h2 : P1 true → EvTF fa ca u σ H c2 PT) (hf : P1 false → PT false) : EvTF fa ca (tAnd t u) σ H (c1 + c2) PT := fun H1 n e0 F hn Q q => h1 H1 n e0 F (by omega) _ fun b H2 pb e F2 => by
  cases b with
  | true => exact h2 pb H2 (n + c1) (e0.trans e) F2 (by omega) Q fun b' H3 pb' e3 F3 => q b' H3 pb' (e.trans e3) (by rw [← Nat.add_assoc]; exact F3)
  | false => exact q false H2 (hf pb) e (F2.le (by omega))
theorem zf_ifK {fa ca : Addr} {t : TT} {n c : Nat} {PT : Bool → Prop} {P : L2.St → Hp → Prop} {D : Ends} {tu tz : TS} (F : Fd H fa ca n) (h : EvTF fa ca t σ H c PT) (hn : n + c ≤ BB) (h1 : ∀ H1, PT true → ExF fa H H1 → Fd H1 fa ca (n + c) → ∀ N : L2.St → Hp → Prop, (∀ σ' H', P σ' H' → N σ' H') → tu { D with nx := N } σ H1) (h2 : ∀ H1, PT false → ExF fa H H1 → Fd H1 fa ca (n + c) → P σ H1) (k : ∀ σ' H', P σ' H' → tz D σ' H') : tSeq (tIfS t tu tNext) tz D σ H :=
  h H n ExF.refl F hn _ fun b H1 pb e F1 => by
    cases b with
    | true => exact h1 H1 pb e F1 (tz D) k
    | false => exact k _ _ (h2 H1 pb e F1)
def rInt1 : List V → Hp → VK → Prop := fun xs H Q => (∃ i, xs = [.int i] ∧ Q (.int i) H) ∨ ∃ k, xs = [.bl k] ∧ Q (.int (if k then 1 else 0)) H
theorem ef_int {fa ca : Addr} {c : Nat} {G G2 : Dt → Prop} (h : EvF K fa ca te σ H c G) (hG : ∀ d, G d → ∃ b, d = .bl b ∧ G2 (nD (if b = true then 1 else 0))) : EvF K fa ca (tCB rInt1 (tCons te tNil)) σ H c G2 := fun H1 n e0 F hn Q q => h H1 n e0 F hn _ fun d v H2 g e F2 a => by
  obtain ⟨b, rfl, pb⟩ := hG d g
  refine .inr ⟨b, by rw [a.of_bl], ?_⟩
  cases b with
  | true => exact q _ _ H2 pb e F2 (.int _)
  | false => exact q _ _ H2 pb e F2 (.int _)
/-- an operator of two ints -/
theorem ef_II {fa ca : Addr} {C : Int → Int → Prop} {g : Int → Int → Int} {ta tb : TE} {c1 c2 : Nat} {G1 G2 GG : Dt → Prop} (ha : EvF K fa ca ta σ H c1 G1) (hb : EvF K fa ca tb σ H c2 G2) (hG : ∀ d e, G1 d → G2 e → ∃ i j, d = .int i ∧ e = .int j ∧ C i j ∧ GG (.int (g i j))) : EvF K fa ca (tOp (rI C fun i j => .int (g i j)) ta tb) σ H (c1 + c2) GG :=
  ef_op ha hb fun d1 d2 v w H Q g1 g2 a b q => by
    obtain ⟨i, j, rfl, rfl, hc, hg⟩ := hG d1 d2 g1 g2
    rw [a.of_int, b.of_int]
    exact ⟨i, j, rfl, rfl, hc, q _ _ H hg (Ex.refl _) (.int _)⟩
theorem ef_I0 {fa ca : Addr} {g : Int → Int → Int} {ta tb : TE} {c1 c2 : Nat} {G1 G2 GG : Dt → Prop} (ha : EvF K fa ca ta σ H c1 G1) (hb : EvF K fa ca tb σ H c2 G2) (hG : ∀ d e, G1 d → G2 e → ∃ i j, d = .int i ∧ e = .int j ∧ GG (.int (g i j))) : EvF K fa ca (tOp (rI0 fun i j => .int (g i j)) ta tb) σ H (c1 + c2) GG :=
  ef_op ha hb fun d1 d2 v w H Q g1 g2 a b q => by
    obtain ⟨i, j, rfl, rfl, hg⟩ := hG d1 d2 g1 g2
    rw [a.of_int, b.of_int]
    exact ⟨i, j, rfl, rfl, q _ _ H hg (Ex.refl _) (.int _)⟩
theorem ef_B0 {fa ca : Addr} {g : Int → Int → Bool} {ta tb : TE} {c1 c2 : Nat} {G1 G2 GG : Dt → Prop} (ha : EvF K fa ca ta σ H c1 G1) (hb : EvF K fa ca tb σ H c2 G2) (hG : ∀ d e, G1 d → G2 e → ∃ i j, d = .int i ∧ e = .int j ∧ GG (.bl (g i j))) : EvF K fa ca (tOp (rI0 fun i j => .bl (g i j)) ta tb) σ H (c1 + c2) GG :=
  ef_op ha hb fun d1 d2 v w H Q g1 g2 a b q => by
    obtain ⟨i, j, rfl, rfl, hg⟩ := hG d1 d2 g1 g2
    rw [a.of_int, b.of_int]
    exact ⟨i, j, rfl, rfl, q _ _ H hg (Ex.refl _) (.bl _)⟩
theorem ef_max2 {fa ca : Addr} {x : Int} {c : Nat} {G G2 : Dt → Prop} (h : EvF K fa ca te σ H c G) (hG : ∀ d, G d → ∃ j, d = .int j ∧ G2 (.int (max x j))) : EvF K fa ca (tCB rMx2 (tCons (tC (.int x)) (tCons te tNil))) σ H c G2 := fun H1 n e0 F hn Q q => h H1 n e0 F hn _ fun d v H2 g e F2 a => by
  obtain ⟨j, rfl, hg⟩ := hG d g
  refine ⟨x, j, by rw [a.of_int], ?_⟩
  have k : (if j > x then j else x) = max x j := by
    rw [Int.max_def]
    split <;> split <;> omega
  rw [k]
  exact q _ _ H2 hg e F2 (.int _)
theorem en_let {ta : TA} (h : EvS K ta σ H ds) (hR : ∀ G, G = (fun d : Dt => (d = .bl true ∧ A) ∨ (d = .bl false ∧ ¬ A) ∨ d = .non) → RLe ds G) (hA : A) : EvNd K (tCall (spN K RLe) [] Ee ta) σ H (fun d => d = .bl true ∨ d = .non) := fun H1 e Q q => h H1 e _ fun vs H2 e2 al => by
  show spN K RLe (vs ++ []) H2 Q Ee
  rw [List.append_nil]
  refine ⟨ds, _, al, hR _ rfl, fun d v H3 g e3 a => q d v H3 ?_ (e2.trans e3) a⟩
  rcases g with ⟨rfl, _⟩ | ⟨rfl, hn⟩ | rfl
  · exact .inl rfl
  · exact absurd hA hn
  · exact .inr rfl
end
section
variable {P : Program} {w : World} {K : PySem.W.Frag} {mg : Str → Option Value} {base : Heap}
theorem ok_feed (D : Df K mg "_law_feed" s_l_feed ["_law_script"]) (B : Bi mg) : Ok P w K mg base CX0 1 "_law_feed" ["_law_script"] (spFeed K) := by
  obtain ⟨f, fd, hm, b, F0⟩ := D.ex
  refine ⟨f, fd, hm, F0.kp, b, F0.ok sc_l_feed (fun vs H Q E h => ?_) (fun cdv A outer s H vs Q E hr h => ?_)⟩
  · obtain ⟨a, ns, rfl, _⟩ := h
    rfl
  · obtain ⟨a, ns, rfl, hs, q⟩ := h
    refine ⟨_, (pss_one (ps_ret (pe_lst (pa_cons (pe_callTy call_list_of rfl B.list (by decide +kernel) (pa_cons (pe_slice sl_list (pv 0) po_none (po_some pe_int)) pa_nil)) (pa_cons pe_int (pa_cons pe_int pa_nil)))))), ?_⟩
    refine ⟨_, rfl, 63, rfl, a, _, rfl, hs, fun p1 hp1 => ⟨p1, _, rfl, .inl (sq_of upd_same), fun p2 hp2 => ?_⟩⟩
    refine ⟨by show 3 ≤ sizeLine; exact sz_of (by decide), fun p3 hp3 => ?_⟩
    have e1 : Ex H (L2.upd H p1 (.lst (cutV (ns.map V.int) none (some 63)))) := Ex.new hp1
    have e2 := e1.trans (Ex.new (o := .lst (cutV (ns.map V.int) none (some 63))) hp2)
    have e3 : Ex _ (L2.upd (L2.upd (L2.upd H p1 (.lst (cutV (ns.map V.int) none (some 63)))) p2 (.lst (cutV (ns.map V.int) none (some 63)))) p3 (.lst [.ref p2, .int 0, .int 0])) := Ex.new hp3
    have hc : ∃ cs : List Int, cutV (ns.map V.int) none (some 63) = cs.map V.int := by
      unfold cutV
      exact ⟨(ns.drop _).take _, by rw [List.map_take, List.map_drop]⟩
    obtain ⟨cs, hc⟩ := hc
    refine q p3 p2 _ (e2.trans e3) (fresh_back e2 hp3) ⟨cs, 0, 0, ⟨upd_same, ?_, Int.le_refl _⟩, Nat.le_refl _⟩
    rw [← hc]
    exact e3 _ _ upd_same
/-- where the law stands ahead of its asking -/
def Mid (K : PySem.W.Frag) (fa ca : Addr) (ey : List (List Nat)) (n : Nat) (w3 : Nat) (mo : Nat) (H0 : Hp) : L2.St → Hp → Prop := fun σ H => ∃ (S : Sy) (t p : K9M.E true) (cl : K9M.E false) (dg : Dt), SyW S ∧ S.ey = ey ∧ rng t = true ∧ rng p = true ∧ rng cl = true ∧ RGoal S cl dg ∧ (dg = .non ∨ (dg = goalD cl ∧ LetS S t p ∧ LetC S cl)) ∧
  Sg K H σ [.no, .v (.ref fa), .d (eyD ey), .d (nD mo), .no, .d (nD w3), .d (sumD t p), .d (sysD S), .d dg, .d (encE cl), .no] ∧ ExF fa H0 H ∧ Fd H fa ca n
theorem ok_law (TD : Told) (D : Df K mg "law" s_law ["_law_script"]) (B : Bi mg) (O_l_feed : Ok P w K mg base CX0 39 "_law_feed" ["_law_script"] (spFeed K)) (O_l_wide_eyes : Ok P w K mg base CX0 39 "_law_wide_eyes" ["_law_feed_here"] (spD K RWe)) (O_l_draw : Ok P w K mg base CX0 39 "_law_draw" ["_law_feed_here", "_law_many"] (spD K RDr))
    (O_l_any_system : Ok P w K mg base CX0 39 "_law_any_system" ["_law_feed_here", "_law_eyes", "_law_most"] (spD K RAy)) (O_hues_system : Ok P w K mg base CX0 39 "hues_system" ["eyes", "many"] (spF K RHs)) (O_posts_system : Ok P w K mg base CX0 39 "posts_system" ["eyes"] (spF K RPsy))
    (O_hues_sum : Ok P w K mg base CX0 39 "hues_sum" [] (spF K (RC0 (sumD (eN 0) hueP)))) (O_hues_settled : Ok P w K mg base CX0 39 "hues_settled" [] (spF K (RC0 (stlD noneAlike)))) (O_posts_sum : Ok P w K mg base CX0 39 "posts_sum" [] (spF K (RC0 (sumD postT (eN 0))))) (O_posts_settled : Ok P w K mg base CX0 39 "posts_settled" [] (spF K (RC0 (stlD posted))))
    (O_l_let : Ok P w K mg base CX0 39 "_law_let" ["_law_which", "_law_system", "_law_thing"] (spN K RLe)) (O_l_sums : Ok P w K mg base CX0 39 "_law_sums" ["_law_feed_here", "_law_told"] (spDM K RSm)) (O_l_run_right : Ok P w K mg base CX0 39 "_law_run_right" ["_law_feed_here", "_law_system", "_law_shares"] (spD K RRr)) (O_l_settled_right : Ok P w K mg base CX0 39 "_law_settled_right" ["_law_feed_here", "_law_system", "_law_goal", "_law_told"] (spD K RSr)) :
    ∃ f fd, mg "law" = some (.ref f) ∧ Fun K "law" "law" s_law f fd ∧ FnOk P w K mg base CX0 40 f fd ["_law_script"] (spLaw K) := by
  obtain ⟨f, fd, hm, b, F0⟩ := D.ex
  refine ⟨f, fd, hm, F0, F0.ok sc_law (fun vs H Q E h => ?_) (fun cdv A outer s H vs Q E hr h => ?_)⟩
  · obtain ⟨a, ns, rfl, _⟩ := h
    rfl
  · obtain ⟨a, ns, rfl, hs, q⟩ := h
    refine ⟨_, (pss_cons (ps_set (i := 1) sc_law.nd rfl (Or.inl rfl) (pe_ok O_l_feed hr rfl (pa_cons (pv 0) pa_nil)))
    (pss_cons (ps_set (i := 2) sc_law.nd rfl (Or.inl rfl) (pe_ok O_l_wide_eyes hr rfl (pa_cons (pv 1) pa_nil)))
    (pss_cons (ps_set (i := 3) sc_law.nd rfl (Or.inl rfl) (pe_callB (cr_max rfl) rfl B.max (by decide +kernel) (pa_cons (pe_lc (own := [("_law_seen", 4)]) (g := gName 4) (tt := tYes) rfl sc_law.nd (pi_tup (pv 2)) (blkOk_by (N := ["_law_script", "_law_feed_here", "_law_eyes", "_law_most", "_law_seen", "_law_way", "_law_told", "_law_system", "_law_goal", "_law_claim_here", "_law_shares"]) (sc := defScope s_law) (by decide +kernel)) (fun _ _ _ _ _ => (pg_name (i := 4) sc_law.nd rfl (Or.inl rfl))) (fun _ _ _ _ _ => pts_nil) (fun _ _ _ _ _ => (pe_callB (show CallR _ _ (rLn K) from call_len_seq) rfl B.len (by decide +kernel) (pa_cons (pv 4) pa_nil)))) pa_nil)))
    (pss_cons (ps_set (i := 5) sc_law.nd rfl (Or.inl rfl) (pe_ok O_l_draw hr rfl (pa_cons (pv 1) (pa_cons pe_int pa_nil))))
    (pss_cons (ps_set (i := 6) sc_law.nd rfl (Or.inl rfl) (pe_tup (pa_cons (pe_tup (pa_cons (pe_tup (pa_cons pe_str (pa_cons pe_int pa_nil))) (pa_cons (pe_tup (pa_cons pe_str (pa_cons pe_int pa_nil))) pa_nil))) pa_nil)))
    (pss_cons (ps_par3 (i := 7) (j := 8) (l := 9) (by rfl) sc_law.nd rfl rfl rfl (by decide) (by decide) (by decide) rfl rfl rfl (pa_cons (pe_ok O_l_any_system hr rfl (pa_cons (pv 1) (pa_cons (pv 2) (pa_cons (pv 3) pa_nil)))) (pa_cons pe_non (pa_cons (pe_tup (pa_cons pe_str pa_nil)) pa_nil))) (by rfl))
    (pss_cons (ps_if (PW.pt (pw_and (pt_cmpR op_eq (pv 5) pe_int (nomark _)) (pw_and1 (pt_cmpR op_lt (pv 3) (pe_op op_add pe_int (pe_callTy call_int1 rfl B.int (by decide +kernel) (pa_cons (pe_cmpR op_eq (pe_ok O_l_draw hr rfl (pa_cons (pv 1) (pa_cons pe_int pa_nil))) pe_int (nomark _)) pa_nil))) (nomark _))))) (pss_cons (ps_asg (pe_ok O_hues_system hr rfl (pa_cons (pv 2) (pa_cons (pe_callB (call_max2 rfl) rfl B.max (by decide +kernel) (pa_cons pe_int (pa_cons (pe_op op_add (pe_op op_add (pv 3) pe_int) (pe_op op_mul (pe_callTy call_int1 rfl B.int (by decide +kernel) (pa_cons (pe_cmpR op_lt (pv 3) pe_int (nomark _)) pa_nil)) (pe_ok O_l_draw hr rfl (pa_cons (pv 1) (pa_cons pe_int pa_nil))))) pa_nil))) pa_nil))) (pg_tup rfl (pgs_cons (pg_name (i := 7) sc_law.nd rfl (Or.inl rfl)) (pgs_cons (pg_name (i := 8) sc_law.nd rfl (Or.inl rfl)) pgs_nil))))
      (pss_one (ps_par (i := 6) (j := 9) (by rfl) sc_law.nd rfl rfl (by decide) rfl rfl (pa_cons (pe_ok0 O_hues_sum hr rfl) (pa_cons (pe_ix ix_tup (pe_ok0 O_hues_settled hr rfl) pe_int (fun _ _ => rfl)) pa_nil)) (by rfl)))) pss_nil)
    (pss_cons (ps_if (pt_cmpR op_eq (pv 5) pe_int (nomark _)) (pss_cons (ps_asg (pe_ok O_posts_system hr rfl (pa_cons (pv 2) pa_nil)) (pg_tup rfl (pgs_cons (pg_name (i := 7) sc_law.nd rfl (Or.inl rfl)) (pgs_cons (pg_name (i := 8) sc_law.nd rfl (Or.inl rfl)) pgs_nil))))
      (pss_one (ps_par (i := 6) (j := 9) (by rfl) sc_law.nd rfl rfl (by decide) rfl rfl (pa_cons (pe_ok0 O_posts_sum hr rfl) (pa_cons (pe_ix ix_tup (pe_ok0 O_posts_settled hr rfl) pe_int (fun _ _ => rfl)) pa_nil)) (by rfl)))) pss_nil)
    (pss_cons (ps_if (PW.pt (pw_and (pt_cmpR op_notN (pv 8) pe_non (nomark _)) (pw_and1 (pt_cmpR op_in_seq pe_bl (pe_lst (pa_cons (pe_ok O_l_let hr rfl (pa_cons pe_int (pa_cons (pv 7) (pa_cons (pv 6) pa_nil)))) (pa_cons (pe_ok O_l_let hr rfl (pa_cons pe_int (pa_cons (pv 7) (pa_cons (pe_tup (pa_cons (pv 9) pa_nil)) pa_nil)))) pa_nil))) (by rfl))))) (pss_one (ps_ret pe_bl)) pss_nil)
    (pss_cons (ps_for PassesOwn.never rfl (pi_list (pe_ok O_l_sums hr rfl (pa_cons (pv 1) (pa_cons (pe_ix ix_tup (pv 6) pe_int (fun _ _ => rfl)) pa_nil)))) (pg_name (i := 10) sc_law.nd rfl (Or.inl rfl)) (pss_one (ps_if ((PW.pt (pw_and (pt_truth (pe_ok O_l_let hr rfl (pa_cons pe_int (pa_cons (pv 7) (pa_cons (pv 10) pa_nil)))) (fun _ => rfl)) (pw_and1 (pt_not (pt_val (pe_ok O_l_run_right hr rfl (pa_cons (pv 1) (pa_cons (pv 7) (pa_cons (pv 10) pa_nil)))))))))) (pss_one (ps_ret pe_bl)) pss_nil)))
    (pss_cons (ps_if (pt_not (pt_val (pe_ok O_l_settled_right hr rfl (pa_cons (pv 1) (pa_cons (pv 7) (pa_cons (pv 8) (pa_cons (pv 9) pa_nil))))))) (pss_one (ps_ret pe_bl)) pss_nil)
    (pss_one (ps_ret pe_bl))))))))))))), ?_⟩
    refine ⟨_, rfl, a, ns, rfl, hs, fun fa ca H1 e1 hfa F1 => ?_⟩
    have S1 : Sg K H1 ((L2.start ["_law_script", "_law_feed_here", "_law_eyes", "_law_most", "_law_seen", "_law_way", "_law_told", "_law_system", "_law_goal", "_law_claim_here", "_law_shares"] [V.ref a]).set 1 (some (.ref fa))) [.v (.ref a), .v (.ref fa), .no, .no, .no, .no, .no, .no, .no, .no, .no] :=
      .v _ (.v _ (.no _ (.no _ (.no _ (.no _ (.no _ (.no _ (.no _ (.no _ (.no _ .nil))))))))))
    show tSeq _ _ _ ((L2.start ["_law_script", "_law_feed_here", "_law_eyes", "_law_most", "_law_seen", "_law_way", "_law_told", "_law_system", "_law_goal", "_law_claim_here", "_law_shares"] [V.ref a]).set 1 (some (.ref fa))) H1
    generalize ((L2.start ["_law_script", "_law_feed_here", "_law_eyes", "_law_most", "_law_seen", "_law_way", "_law_told", "_law_system", "_law_goal", "_law_claim_here", "_law_shares"] [V.ref a]).set 1 (some (.ref fa))) = σ1 at S1 ⊢
    refine zf_asg (c := 20) S1 F1 (ef_le (ef_call (c1 := 0) (c2 := 20) (Ga := fun l => l = []) S1 (i := 1) rfl (efs_d fun H2 e2 => es_nil) fun ds e => ⟨e, rfl, rfl⟩) (by omega) fun _ g => g) (by decide) fun d σ2 H2 g e2 F2 S2 => ?_
    obtain ⟨ey, rfl, W, Wb, s12⟩ := g
    -- the most that a hand sees
    have most : EvF K fa ca (tCB (rMax K) (tCons (tLc (iTup K (tVar 2)) (gName 4) tYes (tCB (rLn K) (tCons (tVar 4) tNil)) [4]) tNil)) σ2 H2 0 (fun d => ∃ mo : Nat, mo ≤ 6 ∧ (∀ h, (seen ey h).length ≤ mo) ∧ d = nD mo) :=
      ef_nd (fun H3 e3 => en_max (ns := ey.map fun r => ((r.length : Nat) : Int)) ((em_lcT (enc := rowD) ey (fun _ => true) (fun r => nD r.length) (ed_var (FdS F2 S2 e3) (i := 2) rfl) (by have := W.sm; omega) fun r v H4 hr e4 a4 => ⟨et_yes, fun _ => (ed_len (ds := r.map nD) (ed_var ((((FdS F2 S2 e3).mono e4).wipe [4]).setD a4 4) (i := 4) rfl)).is (by rw [List.length_map])⟩).is (by rw [filter_yes, List.map_map] <;> rfl)) (by rw [List.length_map]; have := W.two; omega)) fun d g => by
        obtain ⟨m, hm, hall, rfl⟩ := g
        obtain ⟨r, hr, rfl⟩ := List.mem_map.mp hm
        refine ⟨r.length, ?_, fun h => ?_, rfl⟩
        · obtain ⟨j, hj⟩ := List.getElem?_of_mem hr
          have := W.few j
          have e9 : seen ey j = r := by
            show ey.getD j [] = r
            rw [List.getD_eq_getElem?_getD, hj]
            rfl
          rw [e9] at this
          exact this
        · by_cases hh : h < ey.length
          · have := hall _ (List.mem_map.mpr ⟨seen ey h, by
              show ey.getD h [] ∈ ey
              rw [List.getD_eq_getElem?_getD, List.getElem?_eq_getElem hh]
              exact List.getElem_mem hh, rfl⟩)
            omega
          · have : seen ey h = [] := by
              show ey.getD h [] = []
              rw [List.getD_eq_getElem?_getD, List.getElem?_eq_none (by omega)]
              rfl
            rw [this]
            exact Nat.zero_le _
    refine zf_asg (c := 0) S2 F2 most (by decide) fun d σ3 H3 g e3 F3 S3 => ?_
    obtain ⟨mo, mo6, mall, rfl⟩ := g
    refine zf_asg (c := 1) (G := GDr 3) S3 F3 (ef_draw (m := 3) S3 rfl (by decide) (by decide) fun H6 e6 => es_one ed_cI) (by decide) fun d σ4 H4 g e4 F4 S4 => ?_
    obtain ⟨w3, hw3, rfl⟩ := g
    refine z_asg S4 (ed_tup (ds := [.tup [encE K9M.E.own, encE (eN 0)]]) (es_one (ed_tup (ds := [encE K9M.E.own, encE (eN 0)]) (es_cons (ed_tup (ds := [.str "own", nD 0]) (es_cons ed_cS (es_one ed_cI)) (Nat.le_of_ble_eq_true rfl)) (es_one (ed_tup (ds := [.str "num", nD 0]) (es_cons ed_cS (es_one ed_cI)) (Nat.le_of_ble_eq_true rfl)))) (Nat.le_of_ble_eq_true rfl))) (Nat.le_of_ble_eq_true rfl)) fun σ5 H5 e5 S5 => ?_
    have F5 := F4.ex e5
    refine zf_par3 (c := 1700) (G := fun ds => ∃ S : Sy, SyOk S ∧ S.ey = ey ∧ ds = [sysD S, .non, encE K9M.E.yes]) S5 F5 (efs_le (efs_cons (c1 := 1700) (c2 := 0) (ef_le (ef_call (c1 := 0) (c2 := 1700) S5 (i := 1) rfl (efs_d (ds := [eyD ey, nD mo]) fun H6 e6 => es_cons (ed_var (FdS F5 S5 e6) rfl) (es_one (ed_var (FdS F5 S5 e6) rfl))) fun ds e => ⟨ey, mo, W, e, rfl, rfl⟩) (by omega) fun _ g => g) (efs_d (ds := [.non, encE K9M.E.yes]) fun H6 e6 => es_cons ed_cN (es_one (ed_tup (ds := [.str "yes"]) (es_one ed_cS) (Nat.le_of_ble_eq_true rfl))))) (by omega) fun ds g => by
        obtain ⟨d, r, rfl, ⟨S, h1, h2, rfl⟩, rfl⟩ := g
        exact ⟨S, h1, h2, rfl⟩) (by decide) (fun ds g => by obtain ⟨S, _, _, rfl⟩ := g; exact ⟨_, _, _, rfl⟩) fun d1 d2 d3 σ6 H6 g e6 F6 S6 => ?_
    obtain ⟨Y0, ok0, ey0, hds⟩ := g
    injection hds with z1 hds
    injection hds with z2 hds
    injection hds with z3 _
    subst z1 z2 z3
    have SW0 : SyW Y0 := ⟨ok0, by rw [ey0]; exact Wb⟩
    refine zf_ifK (c := 1) (P := Mid K fa ca ey 1724 w3 mo H1) F6 ((etf_and (c1 := 0) (c2 := 1) (PT := fun b => b = true → w3 = 0 ∧ mo < 4) (etf_t (PT := fun b => b = true → w3 = 0) (fun H7 e7 => et_d (ed_eqI (ed_var (FdS F6 S6 e7) rfl) ed_cI)) fun hb => by have := of_decide_eq_true hb; omega) (fun h0 => etf_f (G := fun d => ∃ b, d = .bl b ∧ (b = true → w3 = 0 ∧ mo < 4)) (ef_le (ef_B0 (c1 := 0) (c2 := 0 + 1) (G1 := fun d => d = nD mo) (G2 := fun d => ∃ k : Nat, k ≤ 4 ∧ d = nD k) (ef_d (fun H8 e8 => ed_var (FdS F6 S6 e8) rfl) rfl) (ef_I0 (c1 := 0) (c2 := 1) (G1 := fun d => d = .int 3) (G2 := fun d => ∃ k : Nat, k ≤ 1 ∧ d = nD k) (ef_d (fun _ _ => ed_cI) rfl) (ef_int (ef_eqI (ef_draw (m := 4) S6 (i := 1) rfl (by decide) (by decide) fun H8 e8 => es_one ed_cI) fun d g => by
        obtain ⟨k, _, rfl⟩ := g
        exact ⟨_, rfl⟩) fun d g => by
        obtain ⟨b, rfl⟩ := g
        exact ⟨b, rfl, if b = true then 1 else 0, by split <;> decide, rfl⟩) fun d e h1 h2 => by
        obtain ⟨k, hk, rfl⟩ := h2
        subst h1
        exact ⟨3, (k : Int), rfl, rfl, 3 + k, by omega, congrArg Dt.int (show (3 : Int) + (k : Int) = ((3 + k : Nat) : Int) by omega)⟩) fun d e h1 h2 => by
        obtain ⟨k, hk, rfl⟩ := h2
        subst h1
        exact ⟨_, _, rfl, rfl, _, rfl, fun hb => ⟨h0 rfl, by have := of_decide_eq_true hb; omega⟩⟩) (by decide) fun _ g => g) fun d g => g) fun _ z => nomatch z)) (by decide) (fun H7 pt e7 F7 N hN => ?_) (fun H7 _ e7 F7 => ?_) fun σ8 H8 m8 => ?_
    · obtain ⟨hw0, hmo4⟩ := pt rfl
      have S7 := S6.tk (F6.tk e7)
      refine zf_tup2 (c := 1) (G := fun a b => ∃ m : Nat, 2 ≤ m ∧ m ≤ 5 ∧ mo < m ∧ a = sysD (hueS ey m) ∧ b = goalD noneAlike) S7 F7 (ef_callF (R := RHs) (c := 1) (efs_le (efs_cons (c1 := 0) (G1 := fun d => d = eyD ey) (ef_d (fun H8 e8 => ed_var (FdS F7 S7 e8) (i := 2) rfl) rfl) (efs_cons (c1 := 1) (c2 := 0) (G1 := fun d => ∃ m : Nat, 2 ≤ m ∧ m ≤ 5 ∧ mo < m ∧ d = nD m) (ef_max2 (G := fun d => ∃ k : Nat, k ≤ 5 ∧ mo < k ∧ d = nD k) (ef_le (ef_I0 (c1 := 0) (c2 := 0 + 1) (G1 := fun d => d = nD (mo + 1)) (G2 := fun d => ∃ k : Nat, mo + 1 + k ≤ 5 ∧ d = nD k) (ef_d (fun H8 e8 => (ed_II (ed_var (FdS F7 S7 e8) (i := 3) rfl) ed_cI).is rfl) rfl) (ef_II (c1 := 0) (c2 := 1) (G1 := fun d => ∃ x : Nat, (x = 1 ∧ mo < 3 ∨ x = 0) ∧ d = nD x) (G2 := GDr 2) (ef_int (G := fun d => d = .bl (decide ((mo : Int) < 3))) (ef_d (fun H8 e8 => ed_IB (ed_var (FdS F7 S7 e8) (i := 3) rfl) ed_cI) rfl) fun d g => ⟨_, g, if decide ((mo : Int) < 3) = true then 1 else 0, by
            by_cases h : decide ((mo : Int) < 3) = true
            · rw [if_pos h]
              have := of_decide_eq_true h
              exact .inl ⟨rfl, by omega⟩
            · rw [if_neg h]
              exact .inr rfl, rfl⟩) (ef_draw (m := 2) S7 (i := 1) rfl (by decide) (by decide) fun H8 e8 => es_one ed_cI) fun d e h1 h2 => by
            obtain ⟨x, hx, rfl⟩ := h1
            obtain ⟨k, hk, rfl⟩ := h2
            refine ⟨(x : Int), (k : Int), rfl, rfl, .inr ⟨by omega, by omega⟩, x * k, ?_, congrArg Dt.int (Int.natCast_mul _ _).symm⟩
            rcases hx with ⟨rfl, hx⟩ | rfl <;> omega) fun d e h1 h2 => by
            obtain ⟨k, hk, rfl⟩ := h2
            subst h1
            exact ⟨_, _, rfl, rfl, mo + 1 + k, hk, by omega, congrArg Dt.int (Int.natCast_add _ _).symm⟩) (by decide) fun _ g => g) fun d g => by
            obtain ⟨k, hk, hmk, rfl⟩ := g
            exact ⟨(k : Int), rfl, max 2 k, by omega, by omega, by omega, congrArg Dt.int (by omega)⟩) efs_nil)) (by decide) fun _ g => g) fun ds g => by
          obtain ⟨d1, r1, rfl, rfl, d2, r2, rfl, ⟨m, h2, h5, hm, rfl⟩, rfl⟩ := g
          exact ⟨_, ⟨ey, m, W, h2, by omega, rfl, rfl⟩, _, _, rfl, m, h2, h5, hm, rfl, rfl⟩) (by decide) fun d1 d2 σ8 H8 g e8 F8 S8 => ?_
      obtain ⟨m, h2, h5, hm, rfl, rfl⟩ := g
      obtain ⟨okS, LS, LC, SHt⟩ := TD.hues ey m W Wb h2 h5 fun h => Nat.lt_of_le_of_lt (mall h) hm
      refine y_par S8 (es_cons (ed_call0 ⟨rfl, rfl⟩) (es_one (ed_ixc (j := 0) (ds := [encE noneAlike]) (ed_call0 ⟨rfl, rfl⟩) rfl))) fun σ9 H9 e9 S9 => hN _ _ ?_
      exact ⟨hueS ey m, eN 0, hueP, noneAlike, goalD noneAlike, ⟨okS, Wb⟩, rfl, rfl, rfl, rfl, .inr ⟨rfl, SHt s12⟩, .inr ⟨rfl, LS, LC⟩, S9.less rfl fun i => by
        match i with
        | 0 => trivial
        | 1 => rfl
        | 2 => rfl
        | 3 => rfl
        | 4 => trivial
        | 5 => rfl
        | 6 => rfl
        | 7 => rfl
        | 8 => rfl
        | 9 => rfl
        | 10 => trivial
        | n + 11 => trivial, ((((((e2.trans e3).trans e4).trans (ExF.ex e5)).trans e6).trans e7).trans e8).trans (ExF.ex e9), (F8.ex e9).le (by omega)⟩
    · exact ⟨Y0, K9M.E.own, eN 0, .yes, .non, SW0, ey0, rfl, rfl, rfl, .inl rfl, .inl rfl, (S6.tk (F6.tk e7)).less rfl fun i => by
        match i with
        | 0 => trivial
        | 1 => rfl
        | 2 => rfl
        | 3 => rfl
        | 4 => trivial
        | 5 => rfl
        | 6 => rfl
        | 7 => rfl
        | 8 => rfl
        | 9 => rfl
        | 10 => trivial
        | n + 11 => trivial, (((((e2.trans e3).trans e4).trans (ExF.ex e5)).trans e6).trans e7), F7.le (by omega)⟩
    · -- posts
      obtain ⟨Y, t, p, cl, dg, SW, hey, rt, rp, rc, hg, hd, S9, e9, F9⟩ := m8
      refine zf_ifK (c := 0) (P := Mid K fa ca ey 1724 w3 mo H1) F9 (etf_t (b := decide (w3 = 1)) (PT := fun _ => True) (fun H10 e10 => et_is (et_d (ed_eqI (ed_var (FdS F9 S9 e10) rfl) ed_cI)) (decide_eq_decide.mpr ⟨fun z => by omega, fun z => by omega⟩)) trivial) (by decide) (fun H10 _ e10 F10 N hN => ?_) (fun H10 _ e10 F10 => ⟨Y, t, p, cl, dg, SW, hey, rt, rp, rc, hg, hd, S9.tk (F9.tk e10), e9.trans e10, F10⟩) fun σ11 H11 m11 => ?_
      · have S10 := S9.tk (F9.tk e10)
        obtain ⟨okS, LS, LC, SHt⟩ := TD.posts ey W Wb
        refine z_tup2 S10 (ed_call (es_one (ed_var S10 (i := 2) rfl)) ⟨ey, W, rfl, rfl⟩) fun σ12 H12 e12 S12 => ?_
        refine y_par S12 (es_cons (ed_call0 ⟨rfl, rfl⟩) (es_one (ed_ixc (j := 0) (ds := [encE posted]) (ed_call0 ⟨rfl, rfl⟩) rfl))) fun σ13 H13 e13 S13 => hN _ _ ?_
        exact ⟨postS ey, postT, eN 0, posted, goalD posted, ⟨okS, Wb⟩, rfl, rfl, rfl, rfl, .inr ⟨rfl, SHt s12⟩, .inr ⟨rfl, LS, LC⟩, S13.less rfl fun i => by
          match i with
          | 0 => trivial
          | 1 => rfl
          | 2 => rfl
          | 3 => rfl
          | 4 => trivial
          | 5 => rfl
          | 6 => rfl
          | 7 => rfl
          | 8 => rfl
          | 9 => rfl
          | 10 => trivial
          | n + 11 => trivial, (e9.trans e10).trans (ExF.ex (e12.trans e13)), (F10.ex (e12.trans e13)).le (by omega)⟩
      · obtain ⟨Y, t, p, cl, dg, SW, hey, rt, rp, rc, hg, hd, S11, e11, F11⟩ := m11
        -- the told ones are let by
        refine z_no' (et_is (et_and (a := !isNon dg) (b := false) (et_d (ed_notN (ed_var S11 (i := 8) rfl))) fun hb => ?_) (Bool.and_false _)) fun H12 e12 => ?_
        · rcases hd with rfl | ⟨rfl, LS, LC⟩
          · cases hb
          · exact et_d (K := K) (fun H12 e12 Q12 q12 => by
              have S12 := S11.mono e12
              refine (en_let (A := LetS Y t p) (ds := [.int 0, sysD Y, sumD t p]) (es_cons ed_cI (es_cons (ed_var S12 (i := 7) rfl) (es_one (ed_var S12 (i := 6) rfl)))) (fun G hG => ⟨Y, _, SW.ok, .inl ⟨t, p, rt, rp, rfl, rfl⟩, hG⟩) LS) H12 (Ex.refl _) _ fun d v H13 g e13 a13 => ?_
              have S13 := S12.mono e13
              refine (en_let (A := LetC Y cl) (ds := [.int 1, sysD Y, stlD cl]) (es_cons ed_cI (es_cons (ed_var S13 (i := 7) rfl) (es_one (ed_tup (ds := [encE cl]) (es_one (ed_var S13 (i := 9) rfl)) (Nat.le_of_ble_eq_true rfl))))) (fun G hG => ⟨Y, _, SW.ok, .inr ⟨cl, rc, rfl, rfl⟩, hG⟩) LC) H13 (Ex.refl _) _ fun d' v' H14 g' e14 a14 => ?_
              refine ⟨by show 2 ≤ sizeLine; exact sz_of (by decide), fun r hr => ⟨r, [v, v'], rfl, .inl (sq_of upd_same), rfl, ?_, ?_⟩⟩
              · rcases g with rfl | rfl <;> rcases g' with rfl | rfl <;> (first | (rw [a13.of_bl]) | (rw [a13.of_non])) <;> (first | (rw [a14.of_bl]) | (rw [a14.of_non])) <;> rfl
              · have hin : inV (.bl false) [v, v'] = false := by
                  rcases g with rfl | rfl <;> rcases g' with rfl | rfl <;> (first | (rw [a13.of_bl]) | (rw [a13.of_non])) <;> (first | (rw [a14.of_bl]) | (rw [a14.of_non])) <;> rfl
                rw [hin]
                exact q12 (.bl false) _ ((e13.trans e14).trans (Ex.new hr)) (.bl false))
        · have S12 := S11.mono e12
          have F12 := F11.ex e12
          refine ⟨_, S12.val (i := 1) rfl, ?_⟩
          refine (es_one (ed_ixc (j := 0) (ds := [shD t p]) (ed_var S12 (i := 6) rfl) rfl)) H12 (Ex.refl _) _ fun vs H13 e13 al => ?_
          have F13 := F12.ex e13
          have S13 := S12.mono e13
          show spDM K RSm ((V.ref fa :: vs) ++ []) H13 _ _
          rw [List.append_nil]
          refine ⟨fa, ca, vs, [shD t p], 1724, 801, GSu, 100, rfl, al, F13, ⟨t, p, rt, rp, rfl, rfl, rfl, rfl⟩, by decide, fun es r xs H14 ge ne e14 F14 hr14 hx14 ax14 => ?_⟩
          have rf := ne_feed (o := .lst []) F13 hr14
          have xl : xs.length ≤ 100 := by rw [ax14.len]; exact ne
          have e014 := ((e11.trans (ExF.ex e12)).trans (ExF.ex e13)).trans e14
          have SS := S13.tk (F13.tk e14)
          refine ⟨r, rfl, ⟨xs, sq_of hx14⟩, for_list (xs := xs) (fun i σ' H' => Sg K H' σ' [.no, .v (.ref fa), .no, .no, .no, .no, .no, .d (sysD Y), .d dg, .d (encE cl), .no] ∧ ExF fa H14 H' ∧ Fd H' fa ca (1724 + 801 + 300010 * i)) ⟨SS.less rfl fun i => ?_, ExF.refl, F14⟩ (fun i σ' H' _ k => sq_of (k.2.1 _ _ rf hx14)) (fun i x σ' H' hi k => ?_) fun σ' H' k => ?_⟩
          · match i with
            | 0 => trivial
            | 1 => rfl
            | 2 => trivial
            | 3 => trivial
            | 4 => trivial
            | 5 => trivial
            | 6 => trivial
            | 7 => rfl
            | 8 => rfl
            | 9 => rfl
            | 10 => trivial
            | n + 11 => trivial
          · obtain ⟨k1, k2, k3⟩ := k
            obtain ⟨d, hd1, ad⟩ := ax14.at hi
            have hi100 := (List.getElem?_eq_some_iff.mp hi).1
            obtain ⟨t', p', rt', rp', rfl⟩ := ge d (List.mem_of_getElem? hd1)
            have S15 := k1.setD (ad.tk (F14.tk k2)) 10
            have keep : ∀ {H16 : Hp}, ExF fa H' H16 → Fd H16 fa ca (1724 + 801 + 300010 * (i + 1)) → Sg K H16 (σ'.set 10 (some x)) [.no, .v (.ref fa), .no, .no, .no, .no, .no, .d (sysD Y), .d dg, .d (encE cl), .d (sumD t' p')] → _ := fun {H16} e16 F16 S16 => (⟨S16.less rfl fun i => by
              match i with
              | 0 => trivial
              | 1 => rfl
              | 2 => trivial
              | 3 => trivial
              | 4 => trivial
              | 5 => trivial
              | 6 => trivial
              | 7 => rfl
              | 8 => rfl
              | 9 => rfl
              | 10 => trivial
              | n + 11 => trivial, k2.trans e16, F16⟩ : Sg K H16 (σ'.set 10 (some x)) [.no, .v (.ref fa), .no, .no, .no, .no, .no, .d (sysD Y), .d dg, .d (encE cl), .no] ∧ ExF fa H14 H16 ∧ Fd H16 fa ca (1724 + 801 + 300010 * (i + 1)))
            refine go_let (A := LetS Y t' p') (ds := [.int 0, sysD Y, sumD t' p']) (es_cons ed_cI (es_cons (ed_var S15 (i := 7) rfl) (es_one (ed_var S15 (i := 10) rfl)))) (fun G hG => ⟨Y, _, SW.ok, .inl ⟨t', p', rt', rp', rfl, rfl⟩, hG⟩) (fun L H16 e16 => ?_) fun H16 e16 => keep (ExF.ex e16) ((k3.ex e16).le (by omega)) (S15.mono e16)
            have F16 := k3.ex e16
            have S16 := S15.mono e16
            refine (ef_call (Ee := E0) (c1 := 0) (c2 := 300010) (G := fun d => d = .bl true) S16 (i := 1) rfl (efs_d (ds := [sysD Y, sumD t' p']) fun H17 e17 => es_cons (ed_var (FdS F16 S16 e17) (i := 7) rfl) (es_one (ed_var (FdS F16 S16 e17) (i := 10) rfl))) fun ds e => ⟨Y, t', p', SW, rt', rp', L, e, rfl, rfl⟩) H16 _ ExF.refl F16 (by show 1724 + 801 + 300010 * i + (0 + 300010) ≤ 1000000000; omega) _ fun d v H17 g e17 F17 a17 => ?_
            subst g
            exact ⟨true, a17.of_bl, keep ((ExF.ex e16).trans e17) (F17.le (by omega)) (S16.tk (F16.tk e17))⟩
          · obtain ⟨k1, k2, k3⟩ := k
            have k3' : Fd H' fa ca 40000000 := k3.le (by omega)
            refine (ef_call (Ee := E0) (c1 := 0) (c2 := 3 * 1300) (G := fun d => d = .bl true) k1 (i := 1) rfl (efs_d (ds := [sysD Y, dg, encE cl]) fun H17 e17 => es_cons (ed_var (FdS k3' k1 e17) (i := 7) rfl) (es_cons (ed_var (FdS k3' k1 e17) (i := 8) rfl) (es_one (ed_var (FdS k3' k1 e17) (i := 9) rfl)))) fun ds e => ⟨Y, cl, dg, SW, rc, hg, e, rfl, rfl⟩) H' _ ExF.refl k3' (by decide) _ fun d v H17 g e17 F17 a17 => ?_
            subst g
            exact ⟨true, a17.of_bl, q _⟩
end
end K9
end
section
/-! K9A: hues and posts keep what they are told to keep. -/
namespace K9M
theorem nodup_le : ∀ {l m : List Nat}, l.Nodup → (∀ x ∈ l, x ∈ m) → l.length ≤ m.length
  | [], m, _, _ => Nat.zero_le _
  | a :: l, m, h, k => by
    obtain ⟨h1, h2⟩ := List.nodup_cons.mp h
    have ha := k a List.mem_cons_self
    have ih := nodup_le (l := l) (m := m.erase a) h2 fun x hx => by
      have hne : x ≠ a := fun z => h1 (by rw [← z]; exact hx)
      exact (List.mem_erase_of_ne hne).mpr (k x (List.mem_cons_of_mem _ hx))
    rw [List.length_erase_of_mem ha] at ih
    have : 0 < m.length := List.length_pos_of_mem ha
    rw [List.length_cons]
    omega
/-- the neighbours' boxes -/
def nb (ey : List (List Nat)) (st : List Nat) (h : Nat) : List Nat := (seen ey h).map fun o => st.getD o 0
theorem taken_val {ey : List (List Nat)} {st : List Nat} {h k o : Nat} : (val ey st h (takenE k) o != 0) = decide (k ∉ nb ey st h) := by
  unfold takenE nb
  simp only [val]
  rw [b2n_eq]
  refine decide_eq_decide.mpr ?_
  rw [List.length_eq_zero_iff, List.filter_eq_nil_iff]
  constructor
  · intro hh hm
    obtain ⟨p, hp, e⟩ := List.mem_map.mp hm
    have := hh p hp
    rw [b2n_eq] at this
    exact this (decide_eq_true e)
  · intro hh p hp z
    rw [b2n_eq] at z
    exact hh (List.mem_map.mpr ⟨p, hp, of_decide_eq_true z⟩)
/-- what least_free says -/
theorem lfS_val {ey : List (List Nat)} {st : List Nat} {h : Nat} {m : Nat} (hm : 2 ≤ m) : ∀ i, i ≤ m - 1 → (val ey st h (lfS m i) 0 ∉ nb ey st h ∧ val ey st h (lfS m i) 0 < m) ∨ (val ey st h (lfS m i) 0 = m - 1 ∧ ∀ k, m - 1 - i ≤ k → k < m - 1 → k ∈ nb ey st h)
  | 0, _ => .inr ⟨rfl, fun k h1 h2 => by omega⟩
  | i + 1, hi => by
    have ih := lfS_val (ey := ey) (st := st) (h := h) hm i (by omega)
    show (((if (val ey st h (takenE (m - 2 - i)) 0 != 0) = true then m - 2 - i else val ey st h (lfS m i) 0) ∉ nb ey st h) ∧ (if (val ey st h (takenE (m - 2 - i)) 0 != 0) = true then m - 2 - i else val ey st h (lfS m i) 0) < m) ∨ ((if (val ey st h (takenE (m - 2 - i)) 0 != 0) = true then m - 2 - i else val ey st h (lfS m i) 0) = m - 1 ∧ _)
    rw [taken_val]
    by_cases hk : m - 2 - i ∈ nb ey st h
    · rw [if_neg (by simpa using hk)]
      rcases ih with ih | ⟨ih1, ih2⟩
      · exact .inl ih
      · refine .inr ⟨ih1, fun k h1 h2 => ?_⟩
        by_cases e : k = m - 2 - i
        · rw [e]; exact hk
        · exact ih2 k (by omega) h2
    · rw [if_pos (by simpa using hk)]
      exact .inl ⟨hk, by omega⟩
theorem lf_free {ey : List (List Nat)} {st : List Nat} {h : Nat} {m : Nat} (hm : 2 ≤ m) (hd : (seen ey h).length < m) : val ey st h (lfS m (m - 1)) 0 ∉ nb ey st h ∧ val ey st h (lfS m (m - 1)) 0 < m := by
  rcases lfS_val (ey := ey) (st := st) (h := h) hm (m - 1) (Nat.le_refl _) with k | ⟨k1, k2⟩
  · exact k
  · refine ⟨fun z => ?_, by omega⟩
    rw [k1] at z
    have := nodup_le (l := List.range m) (m := nb ey st h) List.nodup_range fun x hx => by
      have hx' := List.mem_range.mp hx
      by_cases e : x = m - 1
      · rw [e]; exact z
      · exact k2 x (by omega) (by omega)
    rw [List.length_range] at this
    unfold nb at this
    rw [List.length_map] at this
    omega
/-! ### hues -/
def alk (st : List Nat) (h o : Nat) : Nat := if st.getD o 0 = st.getD h 0 then 1 else 0
theorem hueP_val {ey : List (List Nat)} {st : List Nat} {h o : Nat} : val ey st h hueP o = alk st h o := by
  show (if (b2n (decide (st.getD o 0 = st.getD h 0)) != 0) = true then 1 else 0) = alk st h o
  rw [b2n_eq]
  unfold alk
  by_cases e : st.getD o 0 = st.getD h 0
  · rw [if_pos (decide_eq_true e), if_pos e]
  · rw [if_neg (by rw [decide_eq_false e]; decide), if_neg e]
def cnt (ey : List (List Nat)) (st : List Nat) (h : Nat) : Nat := ((seen ey h).map fun o => alk st h o).sum
theorem hue_share {ey : List (List Nat)} {st : List Nat} {h : Nat} : share ey (eN 0) hueP st h = cnt ey st h := by
  unfold share cnt
  show 0 + _ = _
  rw [Nat.zero_add]
  congr 1
  exact List.map_congr_left fun o _ => hueP_val
theorem alike_val {ey : List (List Nat)} {st : List Nat} {h o : Nat} : val ey st h alike o = ((seen ey h).filter fun p => decide (st.getD p 0 = st.getD h 0)).length := by
  show ((seen ey h).filter fun p => b2n (decide (st.getD p 0 = st.getD h 0)) != 0).length = _
  congr 1
  exact List.filter_congr fun p _ => b2n_eq
theorem sum_filter (st : List Nat) (h : Nat) : ∀ l : List Nat, (l.map fun o => alk st h o).sum = (l.filter fun p => decide (st.getD p 0 = st.getD h 0)).length
  | [] => rfl
  | a :: l => by
    have ih := sum_filter st h l
    rw [List.map_cons, List.sum_cons, ih, List.filter_cons]
    unfold alk
    by_cases e : st.getD a 0 = st.getD h 0
    · rw [if_pos e, if_pos (decide_eq_true e), List.length_cons, Nat.add_comm]
    · rw [if_neg e, if_neg (by rw [decide_eq_false e]; decide), Nat.zero_add]
theorem alike_cnt {ey : List (List Nat)} {st : List Nat} {h o : Nat} : val ey st h alike o = cnt ey st h := by
  rw [alike_val]
  unfold cnt
  rw [sum_filter]
theorem hue_rdy {ey : List (List Nat)} {m : Nat} {st : List Nat} {h : Nat} : rdy (hueS ey m) st h = decide (0 < cnt ey st h) := by
  unfold rdy rul hueS
  simp only [List.find?_cons, List.find?_nil]
  have e : hol ey st h (.blw (eN 0) alike) 0 = decide (0 < cnt ey st h) := by
    show (b2n (decide (0 < val ey st h alike 0)) != 0) = _
    rw [b2n_eq, alike_cnt]
  rw [e]
  cases decide (0 < cnt ey st h) <;> rfl
theorem hue_newv {ey : List (List Nat)} {m : Nat} {st : List Nat} {h : Nat} (r : rdy (hueS ey m) st h = true) : newv (hueS ey m) st h = val ey st h (lfS m (m - 1)) 0 % m := by
  rw [hue_rdy] at r
  unfold newv rul hueS
  simp only [List.find?_cons, List.find?_nil]
  have e : hol ey st h (.blw (eN 0) alike) 0 = true := by
    show (b2n (decide (0 < val ey st h alike 0)) != 0) = true
    rw [b2n_eq, alike_cnt]
    exact r
  rw [e]
theorem sum_map_le' (f g : Nat → Nat) : ∀ l : List Nat, (∀ x ∈ l, f x ≤ g x) → (l.map f).sum ≤ (l.map g).sum
  | [], _ => Nat.le_refl _
  | a :: l, h => by
    have h1 := h a List.mem_cons_self
    have h2 := sum_map_le' f g l fun x hx => h x (List.mem_cons_of_mem _ hx)
    rw [List.map_cons, List.map_cons, List.sum_cons, List.sum_cons]
    omega
theorem sum_zero (f : Nat → Nat) : ∀ l : List Nat, (∀ x ∈ l, f x = 0) → (l.map f).sum = 0
  | [], _ => rfl
  | a :: l, h => by
    rw [List.map_cons, List.sum_cons, h a List.mem_cons_self, sum_zero f l fun x hx => h x (List.mem_cons_of_mem _ hx)]
theorem hue_falls {ey : List (List Nat)} (Wb : Web ey) {m : Nat} (hm : 2 ≤ m) {st : List Nat} (hs : st.length = ey.length) {h : Nat} (hh : h < ey.length) (hd : (seen ey h).length < m) (r : rdy (hueS ey m) st h = true) :
    cnt ey (act (hueS ey m) st h) h + ((seenBy ey h).map fun g => cnt ey (act (hueS ey m) st h) g).sum < cnt ey st h + ((seenBy ey h).map fun g => cnt ey st g).sum := by
  obtain ⟨f1, f2⟩ := lf_free (st := st) hm hd
  have ev : newv (hueS ey m) st h = val ey st h (lfS m (m - 1)) 0 := by rw [hue_newv r, Nat.mod_eq_of_lt f2]
  unfold act
  rw [ev]
  generalize val ey st h (lfS m (m - 1)) 0 = v at f1
  have c0 : 0 < cnt ey st h := by
    rw [hue_rdy] at r
    exact of_decide_eq_true r
  have z : cnt ey (st.set h v) h = 0 := by
    unfold cnt
    refine sum_zero _ _ fun o ho => ?_
    have hne : h ≠ o := fun e => Wb.self h (by rw [← e] at ho; exact ho)
    unfold alk
    rw [getD_set_ne hne, getD_set_self (by omega)]
    exact if_neg fun e => f1 (List.mem_map.mpr ⟨o, ho, e⟩)
  have le : ((seenBy ey h).map fun g => cnt ey (st.set h v) g).sum ≤ ((seenBy ey h).map fun g => cnt ey st g).sum := by
    refine sum_map_le' _ _ _ fun g hg => ?_
    have hgs := mem_seenBy.mp hg
    have hgn : g < ey.length := seen_lt hgs
    have hgh : g ∈ seen ey h := Wb.sym g h hgs hgn
    have hne : h ≠ g := fun e => Wb.self h (by rw [← e] at hgh; exact hgh)
    unfold cnt
    refine sum_map_le' _ _ _ fun o ho => ?_
    unfold alk
    rw [getD_set_ne hne]
    by_cases e : h = o
    · subst e
      rw [getD_set_self (by omega), if_neg fun e => f1 (List.mem_map.mpr ⟨g, hgh, e.symm⟩)]
      exact Nat.zero_le _
    · rw [getD_set_ne e]
      exact Nat.le_refl _
  omega
theorem noneAlike_hol {ey : List (List Nat)} {st : List Nat} {h : Nat} : hol ey st h noneAlike 0 = decide (cnt ey st h = 0) := by
  show (b2n (decide (val ey st h alike 0 = 0)) != 0) = _
  rw [b2n_eq, alike_cnt]
theorem cnt_le (ey : List (List Nat)) (st : List Nat) (h : Nat) : cnt ey st h ≤ (seen ey h).length := by
  unfold cnt
  rw [sum_filter]
  exact List.length_filter_le _ _
/-- the bound of the least free term's parts -/
theorem lfS_fit {m : Nat} (hm : m ≤ 99) : ∀ i, deep (lfS m i) ≤ i + 5 ∧ okL false (lfS m i) = true ∧ rng (lfS m i) = true
  | 0 => ⟨by simp only [lfS, deep]; omega, rfl, by simp only [lfS, rng, decide_eq_true_eq]; omega⟩
  | i + 1 => by
    obtain ⟨h1, h2, h3⟩ := lfS_fit hm i
    refine ⟨?_, ?_, ?_⟩
    · simp only [lfS, takenE, deep]
      omega
    · simp only [lfS, takenE, okL, h2, Bool.not_false, Bool.and_self]
    · simp only [lfS, takenE, rng, h3, Bool.and_true, Bool.true_and, Bool.and_eq_true, decide_eq_true_eq]
      omega
end K9M
namespace K9
open K9M
theorem hues_told (ey : List (List Nat)) (m : Nat) (W : Wok ey) (Wb : Web ey) (h2 : 2 ≤ m) (h5 : m ≤ 5) (hd : ∀ h, (seen ey h).length < m) : SyOk (hueS ey m) ∧ LetS (hueS ey m) (eN 0) hueP ∧ LetC (hueS ey m) noneAlike ∧ (((List.range ey.length).map fun h => (seen ey h).length).sum ≤ 12 → Short (hueS ey m)) := by
  have ok : SyOk (hueS ey m) := ⟨W, by show 1 ≤ m; omega, by show m ≤ 6; omega, (fun r hr => by
    rcases List.mem_cons.mp hr with rfl | hr
    · obtain ⟨a, b, c⟩ := lfS_fit (m := m) (by omega) (m - 1)
      exact ⟨⟨show deep (K9M.E.blw (eN 0) alike) ≤ 12 by decide, rfl, rfl⟩, ⟨by show deep (lfS m (m - 1)) ≤ 12; omega, b, c⟩⟩
    · exact nomatch hr), by show 1 ≤ 6; decide⟩
  have LS : LetS (hueS ey m) (eN 0) hueP := ⟨by decide, by decide, fun h hh st hst r => by
    have hs := filled_ln hst
    have := hue_falls Wb h2 hs hh (hd h) r
    show part ey (eN 0) hueP (act (hueS ey m) st h) (h :: seenBy ey h) < part ey (eN 0) hueP st (h :: seenBy ey h)
    unfold part
    rw [List.map_cons, List.sum_cons, List.map_cons, List.sum_cons, hue_share, hue_share]
    rw [List.map_congr_left fun g _ => hue_share (ey := ey) (st := act (hueS ey m) st h) (h := g), List.map_congr_left fun g _ => hue_share (ey := ey) (st := st) (h := g)]
    exact this⟩
  have LC : LetC (hueS ey m) noneAlike := ⟨by decide, fun h hh st hst r => by
    rw [hue_rdy] at r
    show hol ey st h noneAlike 0 = true
    rw [noneAlike_hol]
    exact decide_eq_true (by have := of_decide_eq_false r; omega)⟩
  refine ⟨ok, LS, LC, fun s12 => ⟨eN 0, hueP, rfl, rfl, LS, fun st X => ?_⟩⟩
  have e : total ey (eN 0) hueP st ≤ ((List.range ey.length).map fun h => (seen ey h).length).sum := sum_map_le' _ _ _ fun h _ => by
    rw [hue_share]
    exact cnt_le ey st h
  show total ey (eN 0) hueP st ≤ 79
  omega
end K9
end
section
/-! K9B: posts keep what they are told to keep. -/
namespace K9M
def pc (ey : List (List Nat)) (st : List Nat) (h : Nat) : Nat := ((seen ey h).filter fun o => decide (st.getD o 0 = 1)).length
theorem posts_val {ey : List (List Nat)} {st : List Nat} {h o : Nat} : val ey st h postsE o = pc ey st h := by
  show ((seen ey h).filter fun p => b2n (decide (st.getD p 0 = 1)) != 0).length = _
  unfold pc
  congr 1
  exact List.filter_congr fun p _ => b2n_eq
def pv (ey : List (List Nat)) (st : List Nat) (h : Nat) : Nat := if st.getD h 0 = 1 then 4 * pc ey st h else if pc ey st h = 0 then 1 else 0
theorem ite_b {b : Bool} {x y : Nat} : (if (b2n b != 0) = true then x else y) = if b = true then x else y := by
  rw [b2n_eq]
theorem postT_val {ey : List (List Nat)} {st : List Nat} {h o : Nat} : val ey st h postT o = pv ey st h := by
  show (if (b2n (decide (st.getD h 0 = 1)) != 0) = true then (val ey st h postsE o + val ey st h postsE o) + (val ey st h postsE o + val ey st h postsE o) else (if (b2n (decide (val ey st h postsE o = 0)) != 0) = true then 1 else 0)) = _
  rw [ite_b, ite_b, posts_val]
  unfold pv
  simp only [decide_eq_true_eq]
  split
  · omega
  · rfl
theorem post_share {ey : List (List Nat)} {st : List Nat} {h : Nat} : share ey postT (eN 0) st h = pv ey st h := by
  unfold share
  have z : ((seen ey h).map fun o => val ey st h (eN 0) o).sum = 0 := sum_zero _ _ fun o _ => rfl
  rw [postT_val, z]
  rfl
theorem leave_hol {ey : List (List Nat)} {st : List Nat} {h : Nat} : hol ey st h (.and atPost (.blw (eN 0) postsE)) 0 = (decide (st.getD h 0 = 1) && decide (0 < pc ey st h)) := by
  show (b2n ((b2n (decide (st.getD h 0 = 1)) != 0) && (b2n (decide (0 < val ey st h postsE 0)) != 0)) != 0) = _
  rw [b2n_eq, b2n_eq, b2n_eq, posts_val]
theorem enter_hol {ey : List (List Nat)} {st : List Nat} {h : Nat} : hol ey st h (.and (.not atPost) noPosts) 0 = (!decide (st.getD h 0 = 1) && decide (pc ey st h = 0)) := by
  show (b2n ((b2n (!(b2n (decide (st.getD h 0 = 1)) != 0)) != 0) && (b2n (decide (val ey st h postsE 0 = 0)) != 0)) != 0) = _
  rw [b2n_eq, b2n_eq, b2n_eq, b2n_eq, posts_val]
theorem posted_hol {ey : List (List Nat)} {st : List Nat} {h : Nat} : hol ey st h posted 0 = decide (st.getD h 0 = if pc ey st h = 0 then 1 else 0) := by
  show (b2n (decide (st.getD h 0 = (if (b2n (decide (val ey st h postsE 0 = 0)) != 0) = true then 1 else 0))) != 0) = _
  rw [b2n_eq, ite_b, posts_val]
  simp only [decide_eq_true_eq]
theorem post_rul {ey : List (List Nat)} {st : List Nat} {h : Nat} : rul (postS ey) st h = if st.getD h 0 = 1 ∧ 0 < pc ey st h then some (.and atPost (.blw (eN 0) postsE), eN 0) else if ¬ st.getD h 0 = 1 ∧ pc ey st h = 0 then some (.and (.not atPost) noPosts, eN 1) else none := by
  unfold rul postS
  simp only [List.find?_cons, List.find?_nil]
  rw [leave_hol, enter_hol]
  by_cases a : st.getD h 0 = 1
  · by_cases b : 0 < pc ey st h
    · rw [if_pos ⟨a, b⟩, decide_eq_true a, decide_eq_true b]
      rfl
    · rw [if_neg fun z => b z.2, if_neg fun z => z.1 a, decide_eq_true a, decide_eq_false b]
      rfl
  · by_cases b : pc ey st h = 0
    · rw [if_neg fun z => a z.1, if_pos ⟨a, b⟩, decide_eq_false a, decide_eq_true b]
      rfl
    · rw [if_neg fun z => a z.1, if_neg fun z => b z.2, decide_eq_false a, decide_eq_false b]
      rfl
theorem sum_drop (f g : Nat → Nat) (a k : Nat) : ∀ l : List Nat, a ∈ l → (∀ x ∈ l, f x ≤ g x + 1) → f a + k ≤ g a → (l.map f).sum + k + 1 ≤ (l.map g).sum + l.length
  | [], h, _, _ => nomatch h
  | b :: l, h, h1, h2 => by
    have le : ∀ l : List Nat, (∀ x ∈ l, f x ≤ g x + 1) → (l.map f).sum ≤ (l.map g).sum + l.length := by
      intro l
      induction l with
      | nil => intro _; exact Nat.zero_le _
      | cons y l ih =>
        intro h
        have h3 := h y List.mem_cons_self
        have h4 := ih fun x hx => h x (List.mem_cons_of_mem _ hx)
        rw [List.map_cons, List.map_cons, List.sum_cons, List.sum_cons, List.length_cons]
        omega
    rw [List.map_cons, List.map_cons, List.sum_cons, List.sum_cons, List.length_cons]
    by_cases e : a = b
    · subst e
      have := le l fun x hx => h1 x (List.mem_cons_of_mem _ hx)
      omega
    · have hm : a ∈ l := by
        rcases List.mem_cons.mp h with z | z
        · exact absurd z e
        · exact z
      have := sum_drop f g a k l hm (fun x hx => h1 x (List.mem_cons_of_mem _ hx)) h2
      have := h1 b List.mem_cons_self
      omega
/-- a box of one hand turned: the posts that another sees -/
theorem pc_set {ey : List (List Nat)} (Wb : Web ey) {st : List Nat} {h g v : Nat} (hs : h < st.length) (hg : h ∈ seen ey g) : pc ey (st.set h v) g + (if st.getD h 0 = 1 then 1 else 0) = pc ey st g + (if v = 1 then 1 else 0) := by
  unfold pc
  have nd := Wb.nd g
  generalize seen ey g = l at nd hg
  induction l with
  | nil => cases hg
  | cons a l ih =>
    obtain ⟨n1, n2⟩ := List.nodup_cons.mp nd
    rw [List.filter_cons, List.filter_cons]
    by_cases e : h = a
    · subst e
      have far : l.filter (fun o => decide ((st.set h v).getD o 0 = 1)) = l.filter fun o => decide (st.getD o 0 = 1) := List.filter_congr fun o ho => by
        rw [getD_set_ne fun z => n1 (by rw [z]; exact ho)]
      rw [far, getD_set_self hs]
      by_cases a1 : v = 1 <;> by_cases a2 : st.getD h 0 = 1 <;> simp only [a1, a2, decide_true, decide_false, if_true, if_false, Bool.false_eq_true, List.length_cons] <;> simp_all
    · have hl : h ∈ l := by
        rcases List.mem_cons.mp hg with z | z
        · exact absurd z e
        · exact z
      have := ih n2 hl
      rw [getD_set_ne e]
      split
      · rw [List.length_cons, List.length_cons]
        omega
      · exact this
theorem pc_self {ey : List (List Nat)} (Wb : Web ey) {st : List Nat} {h v : Nat} : pc ey (st.set h v) h = pc ey st h := by
  unfold pc
  congr 1
  exact List.filter_congr fun o ho => by
    rw [getD_set_ne fun z => Wb.self h (by rw [← z] at ho; exact ho)]
theorem post_falls {ey : List (List Nat)} (Wb : Web ey) (h6 : ∀ h, (seenBy ey h).length ≤ 6) {st : List Nat} (hs : st.length = ey.length) {h : Nat} (hh : h < ey.length) (r : rdy (postS ey) st h = true) :
    pv ey (act (postS ey) st h) h + ((seenBy ey h).map fun g => pv ey (act (postS ey) st h) g).sum < pv ey st h + ((seenBy ey h).map fun g => pv ey st g).sum := by
  have hl : h < st.length := by omega
  unfold act newv
  unfold rdy at r
  rw [post_rul] at r ⊢
  have nb : ∀ g ∈ seenBy ey h, h ∈ seen ey g ∧ g ∈ seen ey h ∧ h ≠ g := fun g hg => by
    have hgs := mem_seenBy.mp hg
    have hgh : g ∈ seen ey h := Wb.sym g h hgs (seen_lt hgs)
    exact ⟨hgs, hgh, fun e => Wb.self h (by rw [← e] at hgh; exact hgh)⟩
  by_cases a : st.getD h 0 = 1 ∧ 0 < pc ey st h
  · rw [if_pos a]
    show pv ey (st.set h (0 % 2)) h + ((seenBy ey h).map fun g => pv ey (st.set h (0 % 2)) g).sum < pv ey st h + ((seenBy ey h).map fun g => pv ey st g).sum
    have e0 : (0 % 2 : Nat) = 0 := rfl
    rw [e0]
    have p0 : pv ey (st.set h 0) h = 0 := by
      unfold pv
      rw [getD_set_self hl, pc_self Wb, if_neg (by decide), if_neg (by omega)]
    have p1 : pv ey st h = 4 * pc ey st h := by
      unfold pv
      rw [if_pos a.1]
    have le : ∀ g ∈ seenBy ey h, pv ey (st.set h 0) g ≤ pv ey st g + 1 := fun g hg => by
      obtain ⟨n1, _, n3⟩ := nb g hg
      have := pc_set Wb (v := 0) hl n1
      rw [if_pos a.1, if_neg (by decide)] at this
      unfold pv
      rw [getD_set_ne n3]
      split
      · omega
      · split <;> split <;> omega
    obtain ⟨g, hg⟩ := List.exists_mem_of_length_pos a.2
    obtain ⟨hg1, hg2⟩ := List.mem_filter.mp hg
    have hg3 := of_decide_eq_true hg2
    have hgm : g ∈ seenBy ey h := mem_seenBy.mpr (Wb.sym h g hg1 hh)
    have d := sum_drop (fun g => pv ey (st.set h 0) g) (fun g => pv ey st g) g 4 (seenBy ey h) hgm le (by
      obtain ⟨n1, _, n3⟩ := nb g hgm
      have := pc_set Wb (v := 0) hl n1
      rw [if_pos a.1, if_neg (by decide)] at this
      show pv ey (st.set h 0) g + 4 ≤ pv ey st g
      unfold pv
      rw [getD_set_ne n3, if_pos hg3, if_pos hg3]
      omega)
    have := h6 h
    have := a.2
    rw [p0, p1]
    omega
  · rw [if_neg a] at r ⊢
    by_cases b : ¬ st.getD h 0 = 1 ∧ pc ey st h = 0
    · rw [if_pos b]
      show pv ey (st.set h (1 % 2)) h + ((seenBy ey h).map fun g => pv ey (st.set h (1 % 2)) g).sum < pv ey st h + ((seenBy ey h).map fun g => pv ey st g).sum
      have e0 : (1 % 2 : Nat) = 1 := rfl
      rw [e0]
      have p0 : pv ey (st.set h 1) h = 0 := by
        unfold pv
        rw [getD_set_self hl, pc_self Wb, if_pos rfl, b.2]
      have p1 : pv ey st h = 1 := by
        unfold pv
        rw [if_neg b.1, if_pos b.2]
      have le : ((seenBy ey h).map fun g => pv ey (st.set h 1) g).sum ≤ ((seenBy ey h).map fun g => pv ey st g).sum := sum_map_le' _ _ _ fun g hg => by
        obtain ⟨n1, n2, n3⟩ := nb g hg
        have hg1 : ¬ st.getD g 0 = 1 := fun z => by
          have : g ∈ (seen ey h).filter fun o => decide (st.getD o 0 = 1) := List.mem_filter.mpr ⟨n2, decide_eq_true z⟩
          have hz : (seen ey h).filter (fun o => decide (st.getD o 0 = 1)) = [] := List.length_eq_zero_iff.mp b.2
          rw [hz] at this
          cases this
        have := pc_set Wb (v := 1) hl n1
        rw [if_neg b.1, if_pos rfl] at this
        show pv ey (st.set h 1) g ≤ _
        unfold pv
        rw [getD_set_ne n3, if_neg hg1, if_neg hg1, if_neg (by omega)]
        exact Nat.zero_le _
      rw [p0, p1]
      omega
    · rw [if_neg b] at r
      cases r
theorem pv_le (ey : List (List Nat)) (st : List Nat) (h : Nat) : pv ey st h ≤ 4 * (seen ey h).length + 1 := by
  have : pc ey st h ≤ (seen ey h).length := List.length_filter_le _ _
  unfold pv
  split
  · omega
  · split <;> omega
theorem sum_lin (f : Nat → Nat) : ∀ l : List Nat, (l.map fun h => 4 * f h + 1).sum = 4 * (l.map f).sum + l.length
  | [] => rfl
  | a :: l => by
    have := sum_lin f l
    rw [List.map_cons, List.map_cons, List.sum_cons, List.sum_cons, List.length_cons]
    omega
end K9M
namespace K9
open K9M
theorem posts_told (ey : List (List Nat)) (W : Wok ey) (Wb : Web ey) : SyOk (postS ey) ∧ LetS (postS ey) postT (eN 0) ∧ LetC (postS ey) posted ∧ (((List.range ey.length).map fun h => (seen ey h).length).sum ≤ 12 → Short (postS ey)) := by
  have ok : SyOk (postS ey) := ⟨W, by show 1 ≤ 2; decide, by show 2 ≤ 6; decide, (fun r hr => by
    rcases List.mem_cons.mp hr with rfl | hr
    · exact ⟨⟨by decide, by decide, by decide⟩, ⟨by decide, by decide, by decide⟩⟩
    · rcases List.mem_cons.mp hr with rfl | hr
      · exact ⟨⟨by decide, by decide, by decide⟩, ⟨by decide, by decide, by decide⟩⟩
      · exact nomatch hr), by show 2 ≤ 6; decide⟩
  have LS : LetS (postS ey) postT (eN 0) := ⟨by decide, by decide, fun h hh st hst r => by
    have hs := filled_ln hst
    have := post_falls Wb (fun h => seenBy_len W) hs hh r
    show part ey postT (eN 0) (act (postS ey) st h) (h :: seenBy ey h) < part ey postT (eN 0) st (h :: seenBy ey h)
    unfold part
    rw [List.map_cons, List.sum_cons, List.map_cons, List.sum_cons, post_share, post_share]
    rw [List.map_congr_left fun g _ => post_share (ey := ey) (st := act (postS ey) st h) (h := g), List.map_congr_left fun g _ => post_share (ey := ey) (st := st) (h := g)]
    exact this⟩
  have LC : LetC (postS ey) posted := ⟨by decide, fun h hh st hst r => by
    have hb := (filled_ok (m := 2) (n := ey.length) _ _ (nought_ok (by decide)) st hst).2 h
    unfold rdy at r
    rw [post_rul] at r
    show hol ey st h posted 0 = true
    rw [posted_hol]
    refine decide_eq_true ?_
    by_cases a : st.getD h 0 = 1 ∧ 0 < pc ey st h
    · rw [if_pos a] at r
      cases r
    · rw [if_neg a] at r
      by_cases b : ¬ st.getD h 0 = 1 ∧ pc ey st h = 0
      · rw [if_pos b] at r
        cases r
      · split
        · rename_i z
          exact Classical.byContradiction fun y => b ⟨y, z⟩
        · rename_i z
          have : ¬ st.getD h 0 = 1 := fun y => a ⟨y, by omega⟩
          omega⟩
  refine ⟨ok, LS, LC, fun s12 => ⟨postT, eN 0, by decide, by decide, LS, fun st X => ?_⟩⟩
  have e : total ey postT (eN 0) st ≤ ((List.range ey.length).map fun h => 4 * (seen ey h).length + 1).sum := sum_map_le' _ _ _ fun h _ => by
    rw [post_share]
    exact pv_le ey st h
  rw [sum_lin, List.length_range] at e
  have := W.sm
  show total ey postT (eN 0) st ≤ 79
  omega
theorem told : Told := ⟨fun ey m W Wb h2 h5 hd => hues_told ey m W Wb h2 h5 hd, fun ey W Wb => posts_told ey W Wb⟩
end K9
end
section
set_option maxHeartbeats 4000000
/-! K9E: the joining. -/
namespace K9
open PySem PySem.Spec PyProof.Rows L2 Evl K9M RZ
structure AllT (K : PySem.W.Frag) (w : World) (mg : Str → Option Value) (C fI NPa TMa fN fT C0 : Addr) (mc : Value) : Prop where
  bi : Bi mg
  si : SiT K mg C fI
  sm : SiM K C fI
  tm : TmT K w mg
  lk : LkT K mg
  fl : FlT K mg
  mkk : MkT K mg
  re : ReT K mg C0 mc
  np : ErT K mg "NoPaper" NPa fN
  tmy : ErT K mg "TooMany" TMa fT
  ex : ExT K NPa TMa
  ini : ∃ fdN fdT, Fun K "__init__" "NoPaper.__init__" s_NoPaper_init fN fdN ∧ Binds K fdN ["self", "word", "number"] [] ∧ Fun K "__init__" "TooMany.__init__" s_TooMany_init fT fdT ∧ Binds K fdT ["self", "word"] []
  d_value_at : Df K mg "value_at" s_value_at ["eyes", "stand", "hand", "term"]
  d_holds_at : Df K mg "holds_at" s_holds_at ["eyes", "stand", "hand", "claim"]
  d_value_by : Df K mg "value_by" s_value_by ["eyes", "stand", "hand", "other", "inner"]
  d_is_whole : Df K mg "is_whole" s_is_whole ["thing"]
  d_seen_by : Df K mg "seen_by" s_seen_by ["eyes", "hand"]
  d_bounds_of : Df K mg "bounds_of" s_bounds_of ["form", "boxes"]
  d_forms_behind : Df K mg "forms_behind" s_forms_behind ["form", "word"]
  d_parts_by : Df K mg "parts_by" s_parts_by ["form", "thing"]
  d_may_stand : Df K mg "may_stand" s_may_stand ["word", "looked"]
  d_fits : Df K mg "fits" s_fits ["boxes", "form", "thing", "looked"]
  d_is_term : Df K mg "is_term" s_is_term ["sizes", "thing"]
  d_is_claim : Df K mg "is_claim" s_is_claim ["sizes", "thing"]
  d_is_inner : Df K mg "is_inner" s_is_inner ["sizes", "thing"]
  d_rule_at : Df K mg "rule_at" s_rule_at ["system", "stand", "hand"]
  d_ready_hands : Df K mg "ready_hands" s_ready_hands ["system", "stand"]
  d_boxes_behind : Df K mg "boxes_behind" s_boxes_behind ["system", "stand", "hand"]
  d_ask_acting : Df K mg "ask_acting" s_ask_acting ["system", "stand", "hands"]
  d_acted : Df K mg "acted" s_acted ["system", "stand", "hands"]
  d_has_word : Df K mg "has_word" s_has_word ["thing", "words"]
  d_is_pair : Df K mg "is_pair" s_is_pair ["sizes", "thing"]
  d_is_shares : Df K mg "is_shares" s_is_shares ["sizes", "thing"]
  d_is_sum : Df K mg "is_sum" s_is_sum ["system", "thing"]
  d_is_settled : Df K mg "is_settled" s_is_settled ["system", "thing"]
  d_share_at : Df K mg "share_at" s_share_at ["system", "shares", "stand", "hand"]
  d_sum_at : Df K mg "sum_at" s_sum_at ["system", "shares", "stand"]
  d_around_hand : Df K mg "around_hand" s_around_hand ["system", "shares", "hand"]
  d_fillings_of : Df K mg "fillings_of" s_fillings_of ["system", "hands"]
  d_all_boxes : Df K mg "all_boxes" s_all_boxes ["sizes"]
  d_filled_stands : Df K mg "filled_stands" s_filled_stands ["system", "stand", "hands"]
  d_nought_stand : Df K mg "nought_stand" s_nought_stand ["system"]
  d_part_sum : Df K mg "part_sum" s_part_sum ["system", "shares", "stand", "hands"]
  d_falls_there : Df K mg "falls_there" s_falls_there ["system", "shares", "stand", "hand", "hands"]
  d_ask_sum : Df K mg "ask_sum" s_ask_sum ["system", "shares", "hand"]
  d_lets_sum : Df K mg "lets_sum" s_lets_sum ["system", "thing"]
  d_ask_settled : Df K mg "ask_settled" s_ask_settled ["system", "claim", "hand"]
  d_lets_settled : Df K mg "lets_settled" s_lets_settled ["system", "thing"]
  d_least_free : Df K mg "least_free" s_least_free ["many"]
  d_hues_system : Df K mg "hues_system" s_hues_system ["eyes", "many"]
  d_posts_system : Df K mg "posts_system" s_posts_system ["eyes"]
  d_hues_sum : Df K mg "hues_sum" s_hues_sum []
  d_hues_settled : Df K mg "hues_settled" s_hues_settled []
  d_posts_sum : Df K mg "posts_sum" s_posts_sum []
  d_posts_settled : Df K mg "posts_settled" s_posts_settled []
  d_l_feed : Df K mg "_law_feed" s_l_feed ["_law_script"]
  d_l_draw : Df K mg "_law_draw" s_l_draw ["_law_feed_here", "_law_many"]
  d_l_wide_eyes : Df K mg "_law_wide_eyes" s_l_wide_eyes ["_law_feed_here"]
  d_l_leaf : Df K mg "_law_leaf" s_l_leaf ["_law_feed_here", "_law_sizes", "_law_inner"]
  d_l_term : Df K mg "_law_term" s_l_term ["_law_feed_here", "_law_sizes", "_law_deep", "_law_inner"]
  d_l_claim : Df K mg "_law_claim" s_l_claim ["_law_feed_here", "_law_sizes", "_law_deep", "_law_inner"]
  d_l_value : Df K mg "_law_value" s_l_value ["_law_system", "_law_stand_here", "_law_hand", "_law_other", "_law_term_here"]
  d_l_holds : Df K mg "_law_holds" s_l_holds ["_law_system", "_law_stand_here", "_law_hand", "_law_other", "_law_claim_here"]
  d_l_rule_at : Df K mg "_law_rule_at" s_l_rule_at ["_law_system", "_law_stand_here", "_law_hand"]
  d_l_ready : Df K mg "_law_ready" s_l_ready ["_law_system", "_law_stand_here"]
  d_l_behind : Df K mg "_law_behind" s_l_behind ["_law_system", "_law_stand_here", "_law_hands"]
  d_l_right : Df K mg "_law_right" s_l_right ["_law_system", "_law_goal", "_law_stand_here"]
  d_l_let : Df K mg "_law_let" s_l_let ["_law_which", "_law_system", "_law_thing"]
  d_l_share : Df K mg "_law_share" s_l_share ["_law_system", "_law_shares", "_law_stand_here", "_law_hand"]
  d_l_total : Df K mg "_law_total" s_l_total ["_law_system", "_law_shares", "_law_stand_here"]
  d_l_any_system : Df K mg "_law_any_system" s_l_any_system ["_law_feed_here", "_law_eyes", "_law_most"]
  d_l_sums : Df K mg "_law_sums" s_l_sums ["_law_feed_here", "_law_told"]
  d_l_stand : Df K mg "_law_stand" s_l_stand ["_law_feed_here", "_law_system"]
  d_l_run_right : Df K mg "_law_run_right" s_l_run_right ["_law_feed_here", "_law_system", "_law_shares"]
  d_l_ends_right : Df K mg "_law_ends_right" s_l_ends_right ["_law_feed_here", "_law_system", "_law_goal", "_law_claim_here"]
  d_l_settled_right : Df K mg "_law_settled_right" s_l_settled_right ["_law_feed_here", "_law_system", "_law_goal", "_law_told"]
  d_law : Df K mg "law" s_law ["_law_script"]
theorem all_ok {P : Program} {w : World} {K : PySem.W.Frag} {mg : Str → Option Value} {base : Heap} {C fI NPa TMa fN fT C0 : Addr} {mc : Value} (A : AllT K w mg C fI NPa TMa fN fT C0 mc) : ∃ f fd, mg "law" = some (.ref f) ∧ Fun K "law" "law" s_law f fd ∧ FnOk P w K mg base CX0 40 f fd ["_law_script"] (spLaw K) := by
  obtain ⟨fdN, fdT, hN, bN, hT, bT⟩ := A.ini
  have B := A.bi
  have IN : FnOk P w K mg base CX0 1 fN fdN ["self", "word", "number"] (spEI NPa 2) := ok_npI hN A.re A.np
  have IT : FnOk P w K mg base CX0 1 fT fdT ["self", "word"] (spEI TMa 1) := ok_tmI hT A.re A.tmy
  have va : Ok P w K mg base CX0 29 "value_at" _ _ := ok_value_at A.d_value_at A.sm A.si B
  have ha : Ok P w K mg base CX0 29 "holds_at" _ _ := ok_holds_at A.d_holds_at A.sm A.si B
  have vb : Ok P w K mg base CX0 29 "value_by" _ _ := ok_value_by A.d_value_by A.sm A.si B
  have wh : Ok P w K mg base CX0 1 "is_whole" _ _ := ok_is_whole A.d_is_whole B
  have sb : Ok P w K mg base CX0 1 "seen_by" _ _ := ok_seen_by A.d_seen_by B
  have bo : Ok P w K mg base CX0 1 "bounds_of" _ _ := ok_bounds_of A.d_bounds_of A.tm
  have fb : Ok P w K mg base CX0 1 "forms_behind" _ _ := ok_forms_behind A.d_forms_behind A.tm
  have pb : Ok P w K mg base CX0 2 "parts_by" _ _ := ok_parts_by A.d_parts_by B fb
  have ms : Ok P w K mg base CX0 1 "may_stand" _ _ := ok_may_stand A.d_may_stand A.tm
  have fi : Ok P w K mg base CX0 3 "fits" _ _ := ok_fits A.d_fits B A.tm pb (ms.mono (by decide)) (bo.mono (by decide)) (wh.mono (by decide))
  have it : Ok P w K mg base CX0 4 "is_term" _ _ := ok_is_term A.d_is_term B fi
  have ic : Ok P w K mg base CX0 4 "is_claim" _ _ := ok_is_claim A.d_is_claim B fi
  have ii : Ok P w K mg base CX0 5 "is_inner" _ _ := ok_is_inner A.d_is_inner it
  have ra : Ok P w K mg base CX0 30 "rule_at" _ _ := ok_rule_at A.d_rule_at B ha
  have rh : Ok P w K mg base CX0 31 "ready_hands" _ _ := ok_ready_hands A.d_ready_hands B ra
  have bb : Ok P w K mg base CX0 31 "boxes_behind" _ _ := ok_boxes_behind A.d_boxes_behind B ra (va.mono (by decide))
  have aa : Ok P w K mg base CX0 32 "ask_acting" _ _ := ok_ask_acting A.d_ask_acting B rh (wh.mono (by decide))
  have ac : Ok P w K mg base CX0 33 "acted" _ _ := ok_acted A.d_acted B aa (bb.mono (by decide))
  have hw : Ok P w K mg base CX0 13 "has_word" _ _ := ok_has_word A.d_has_word B 12
  have pr : Ok P w K mg base CX0 14 "is_pair" _ _ := ok_is_pair A.d_is_pair (ii.mono (by decide)) hw
  have sh : Ok P w K mg base CX0 15 "is_shares" _ _ := ok_is_shares A.d_is_shares B (it.mono (by decide)) pr
  have su : Ok P w K mg base CX0 16 "is_sum" _ _ := ok_is_sum A.d_is_sum B sh
  have ist : Ok P w K mg base CX0 16 "is_settled" _ _ := ok_is_settled A.d_is_settled B (ic.mono (by decide))
  have sa : Ok P w K mg base CX0 30 "share_at" _ _ := ok_share_at A.d_share_at B va vb
  have sum : Ok P w K mg base CX0 31 "sum_at" _ _ := ok_sum_at A.d_sum_at B sa
  have ar : Ok P w K mg base CX0 14 "around_hand" _ _ := ok_around_hand A.d_around_hand B A.lk (sb.mono (by decide)) hw
  have fo : Ok P w K mg base CX0 1 "fillings_of" _ _ := ok_fillings_of A.d_fillings_of B
  have ab : Ok P w K mg base CX0 1 "all_boxes" _ _ := ok_all_boxes A.d_all_boxes B
  have fs : Ok P w K mg base CX0 2 "filled_stands" _ _ := ok_filled_stands A.d_filled_stands B ab
  have ns : Ok P w K mg base CX0 1 "nought_stand" _ _ := ok_nought_stand A.d_nought_stand B
  have ps : Ok P w K mg base CX0 31 "part_sum" _ _ := ok_part_sum A.d_part_sum B sa
  have ft : Ok P w K mg base CX0 34 "falls_there" _ _ := ok_falls_there A.d_falls_there B ac (ps.mono (by decide))
  have as : Ok P w K mg base (L2.CX P w) 35 "ask_sum" _ _ := ok_ask_sum A.d_ask_sum B A.fl A.np A.tmy IN bN IT bT (ar.mono (by decide)) (fo.mono (by decide)) (sb.mono (by decide)) (fs.mono (by decide)) (ns.mono (by decide)) (ra.mono (by decide)) ft
  have at_ : Ok P w K mg base (L2.CX P w) 35 "ask_settled" _ _ := ok_ask_settled A.d_ask_settled B A.fl A.np A.tmy IN bN IT bT (fo.mono (by decide)) (fs.mono (by decide)) (ns.mono (by decide)) (ra.mono (by decide)) (ha.mono (by decide))
  have ls : Ok P w K mg base (L2.CX P w) 36 "lets_sum" _ _ := ok_lets_sum A.d_lets_sum B A.np IN bN (su.mono (by decide)) as
  have lt : Ok P w K mg base (L2.CX P w) 36 "lets_settled" _ _ := ok_lets_settled A.d_lets_settled B A.np IN bN (ist.mono (by decide)) at_
  have lv := ok_lv (P := P) (w := w) (base := base) A.d_l_value A.d_l_holds B 12
  have lr : Ok P w K mg base CX0 14 "_law_rule_at" _ _ := ok_law_rule_at A.d_l_rule_at B lv.2
  have ly : Ok P w K mg base CX0 15 "_law_ready" _ _ := ok_law_ready A.d_l_ready B lr
  have lb : Ok P w K mg base CX0 15 "_law_behind" _ _ := ok_law_behind A.d_l_behind B lr (lv.1.mono (by decide))
  have lg : Ok P w K mg base CX0 14 "_law_right" _ _ := ok_law_right A.d_l_right B lv.2
  have lsh : Ok P w K mg base CX0 14 "_law_share" _ _ := ok_law_share A.d_l_share B lv.1
  have lto : Ok P w K mg base CX0 15 "_law_total" _ _ := ok_law_total A.d_l_total B lsh
  have le : Ok P w K mg base CX0 37 "_law_let" _ _ := ok_law_let A.d_l_let B A.np A.tmy A.ex ls lt
  have lf : Ok P w K mg base CX0 1 "least_free" _ _ := ok_least_free A.d_least_free B A.mkk
  have hs : Ok P w K mg base CX0 2 "hues_system" _ _ := ok_hues_system A.d_hues_system B A.mkk lf
  have psy : Ok P w K mg base CX0 2 "posts_system" _ _ := ok_posts_system A.d_posts_system B A.mkk
  have dr : Ok P w K mg base CX0 1 "_law_draw" _ _ := ok_draw A.d_l_draw B
  have le1 : Ok P w K mg base CX0 2 "_law_leaf" _ _ := ok_leaf A.d_l_leaf B dr
  have tc := ok_tc (P := P) (w := w) (base := base) A.d_l_term A.d_l_claim B dr le1 1
  have sd : Ok P w K mg base CX0 2 "_law_stand" _ _ := ok_stand A.d_l_stand B dr
  have rr : Ok P w K mg base CX0 32 "_law_run_right" _ _ := ok_run_right A.d_l_run_right B (dr.mono (by decide)) (sd.mono (by decide)) (lto.mono (by decide)) sum (ly.mono (by decide)) (lb.mono (by decide))
  have er : Ok P w K mg base CX0 32 "_law_ends_right" _ _ := ok_ends_right A.d_l_ends_right B (dr.mono (by decide)) (sd.mono (by decide)) (ly.mono (by decide)) (lb.mono (by decide)) (lv.2.mono (by decide)) (lg.mono (by decide))
  have sr : Ok P w K mg base CX0 38 "_law_settled_right" _ _ := ok_settled_right A.d_l_settled_right B (tc.2.mono (by decide)) le (er.mono (by decide))
  have ay : Ok P w K mg base CX0 38 "_law_any_system" _ _ := ok_any_system A.d_l_any_system B (dr.mono (by decide)) (tc.1.mono (by decide)) (tc.2.mono (by decide))
  have sms : Ok P w K mg base CX0 38 "_law_sums" _ _ := ok_sums A.d_l_sums B (dr.mono (by decide)) (tc.1.mono (by decide))
  have we : Ok P w K mg base CX0 2 "_law_wide_eyes" _ _ := ok_wide_eyes A.d_l_wide_eyes B dr
  have fe : Ok P w K mg base CX0 1 "_law_feed" _ _ := ok_feed A.d_l_feed B
  exact ok_law told A.d_law B (fe.mono (by decide)) (we.mono (by decide)) (dr.mono (by decide)) (ay.mono (by decide)) (hs.mono (by decide)) (psy.mono (by decide)) ((ok_hues_sum A.d_hues_sum A.mkk).mono (by decide)) ((ok_hues_settled A.d_hues_settled A.mkk).mono (by decide)) ((ok_posts_sum A.d_posts_sum A.mkk).mono (by decide)) ((ok_posts_settled A.d_posts_settled A.mkk).mono (by decide)) (le.mono (by decide)) (sms.mono (by decide)) (rr.mono (by decide)) (sr.mono (by decide))
end K9
end
section
set_option maxHeartbeats 4000000
/-! K9HA: checks of the module's data, for the head. -/
namespace K9
open PySem PySem.Spec PyProof.Rows L2 Evl K9M RZ
/-- what the value stands for at K, by name -/
def vOf : Value → V
  | .none => .non
  | .bool b => .bl b
  | .int i _ => .int i
  | .str s _ => .str s
  | .ref a => .ref a
  | _ => .non
mutual
def ckD (K : PySem.W.Frag) : Value → Dt → Bool
  | .none, .non => true
  | .bool b, .bl c => b == c
  | .int i _, .int j => decide (i = j)
  | .str s _, .str t => decide (s = t)
  | .ref a, .tup ds => (match K.lookup a with
    | some ⟨.type c, _, .seq its _, _⟩ => decide (c = "tuple") && (decide (its.size ≤ sizeLine) && ckL K its.toList ds)
    | _ => false)
  | _, _ => false
def ckL (K : PySem.W.Frag) : List Value → List Dt → Bool
  | [], [] => true
  | u :: us, d :: ds => ckD K u d && ckL K us ds
  | _, _ => false
end
mutual
theorem ckD_ok {K : PySem.W.Frag} : ∀ {u : Value} {d : Dt}, ckD K u d = true → ∃ v, RelV v u ∧ ∀ H, At K H v d
  | u, .non, h => by
    cases u with
    | none => exact ⟨.non, rfl, fun H => .non⟩
    | _ => exact absurd h (by simp [ckD])
  | u, .bl c, h => by
    cases u with
    | bool b =>
      have e : b = c := by simpa [ckD] using h
      subst e
      exact ⟨.bl b, He.relB_ok (by simp [He.relB]), fun H => .bl b⟩
    | _ => exact absurd h (by simp [ckD])
  | u, .int j, h => by
    cases u with
    | int i t =>
      have e : i = j := by simpa [ckD] using h
      subst e
      exact ⟨.int i, He.relB_ok (by simp [He.relB]), fun H => .int i⟩
    | _ => exact absurd h (by simp [ckD])
  | u, .str j, h => by
    cases u with
    | str i t =>
      have e : i = j := by simpa [ckD] using h
      subst e
      exact ⟨.str i, He.relB_ok (by simp [He.relB]), fun H => .str i⟩
    | _ => exact absurd h (by simp [ckD])
  | u, .tup ds, h => by
    cases u with
    | ref a =>
      unfold ckD at h
      cases q : K.lookup a with
      | none =>
        rw [q] at h
        cases h
      | some o =>
        obtain ⟨oc, od, dt, osl⟩ := o
        rw [q] at h
        cases oc with
        | type c =>
          cases dt with
          | seq its n =>
            obtain ⟨h1, h2⟩ := He.ba (show (decide (c = "tuple") && (decide (its.size ≤ sizeLine) && ckL K its.toList ds)) = true from h)
            obtain ⟨h3, h4⟩ := He.ba h2
            obtain ⟨vs, r, l⟩ := ckL_ok h4
            exact ⟨.ref a, rfl, fun H => .tup (.inr ⟨_, its, n, q, congrArg Value.type (of_decide_eq_true h1), rfl, of_decide_eq_true h3, r⟩) (l H)⟩
          | _ => cases h
        | _ => cases dt <;> cases h
    | _ => exact absurd h (by simp [ckD])
theorem ckL_ok {K : PySem.W.Frag} : ∀ {us : List Value} {ds : List Dt}, ckL K us ds = true → ∃ vs, Vals vs us ∧ ∀ H, AtL K H vs ds
  | [], [], _ => ⟨[], .nil, fun H => .nil⟩
  | [], _ :: _, h => absurd h (by simp [ckL])
  | _ :: _, [], h => absurd h (by simp [ckL])
  | u :: us, d :: ds, h => by
    unfold ckL at h
    obtain ⟨h1, h2⟩ := He.ba h
    obtain ⟨v, r, a⟩ := ckD_ok h1
    obtain ⟨vs, rs, as⟩ := ckL_ok h2
    exact ⟨v :: vs, .cons r rs, fun H => .cons (a H) (as H)⟩
end
/-- a global stands for a datum -/
def ckG (K : PySem.W.Frag) (x : Str) (d : Dt) : Bool := match PySem.W.nsIn K mainGlobals x with
  | some (some u) => ckD K u d
  | _ => false
end K9
end
section
set_option maxHeartbeats 4000000
/-! K9HB: the head's lists (printed by headgen.py). -/
namespace K9
open PySem PySem.Spec PyProof.Rows L2 Evl K9M RZ
def dd_value_at : He.DefD := ⟨("value_at", none), "value_at", "value_at", defArgs s_value_at, defBody s_value_at, defScope s_value_at, [], []⟩
def dd_holds_at : He.DefD := ⟨("holds_at", none), "holds_at", "holds_at", defArgs s_holds_at, defBody s_holds_at, defScope s_holds_at, [], []⟩
def dd_value_by : He.DefD := ⟨("value_by", none), "value_by", "value_by", defArgs s_value_by, defBody s_value_by, defScope s_value_by, [], []⟩
def dd_is_whole : He.DefD := ⟨("is_whole", none), "is_whole", "is_whole", defArgs s_is_whole, defBody s_is_whole, defScope s_is_whole, [], []⟩
def dd_seen_by : He.DefD := ⟨("seen_by", none), "seen_by", "seen_by", defArgs s_seen_by, defBody s_seen_by, defScope s_seen_by, [], []⟩
def dd_bounds_of : He.DefD := ⟨("bounds_of", none), "bounds_of", "bounds_of", defArgs s_bounds_of, defBody s_bounds_of, defScope s_bounds_of, [], []⟩
def dd_forms_behind : He.DefD := ⟨("forms_behind", none), "forms_behind", "forms_behind", defArgs s_forms_behind, defBody s_forms_behind, defScope s_forms_behind, [], []⟩
def dd_parts_by : He.DefD := ⟨("parts_by", none), "parts_by", "parts_by", defArgs s_parts_by, defBody s_parts_by, defScope s_parts_by, [], []⟩
def dd_may_stand : He.DefD := ⟨("may_stand", none), "may_stand", "may_stand", defArgs s_may_stand, defBody s_may_stand, defScope s_may_stand, [], []⟩
def dd_fits : He.DefD := ⟨("fits", none), "fits", "fits", defArgs s_fits, defBody s_fits, defScope s_fits, [], []⟩
def dd_is_term : He.DefD := ⟨("is_term", none), "is_term", "is_term", defArgs s_is_term, defBody s_is_term, defScope s_is_term, [], []⟩
def dd_is_claim : He.DefD := ⟨("is_claim", none), "is_claim", "is_claim", defArgs s_is_claim, defBody s_is_claim, defScope s_is_claim, [], []⟩
def dd_is_inner : He.DefD := ⟨("is_inner", none), "is_inner", "is_inner", defArgs s_is_inner, defBody s_is_inner, defScope s_is_inner, [], []⟩
def dd_rule_at : He.DefD := ⟨("rule_at", none), "rule_at", "rule_at", defArgs s_rule_at, defBody s_rule_at, defScope s_rule_at, [], []⟩
def dd_ready_hands : He.DefD := ⟨("ready_hands", none), "ready_hands", "ready_hands", defArgs s_ready_hands, defBody s_ready_hands, defScope s_ready_hands, [], []⟩
def dd_boxes_behind : He.DefD := ⟨("boxes_behind", none), "boxes_behind", "boxes_behind", defArgs s_boxes_behind, defBody s_boxes_behind, defScope s_boxes_behind, [], []⟩
def dd_ask_acting : He.DefD := ⟨("ask_acting", none), "ask_acting", "ask_acting", defArgs s_ask_acting, defBody s_ask_acting, defScope s_ask_acting, [], []⟩
def dd_acted : He.DefD := ⟨("acted", none), "acted", "acted", defArgs s_acted, defBody s_acted, defScope s_acted, [], []⟩
def dd_has_word : He.DefD := ⟨("has_word", none), "has_word", "has_word", defArgs s_has_word, defBody s_has_word, defScope s_has_word, [], []⟩
def dd_is_pair : He.DefD := ⟨("is_pair", none), "is_pair", "is_pair", defArgs s_is_pair, defBody s_is_pair, defScope s_is_pair, [], []⟩
def dd_is_shares : He.DefD := ⟨("is_shares", none), "is_shares", "is_shares", defArgs s_is_shares, defBody s_is_shares, defScope s_is_shares, [], []⟩
def dd_is_sum : He.DefD := ⟨("is_sum", none), "is_sum", "is_sum", defArgs s_is_sum, defBody s_is_sum, defScope s_is_sum, [], []⟩
def dd_is_settled : He.DefD := ⟨("is_settled", none), "is_settled", "is_settled", defArgs s_is_settled, defBody s_is_settled, defScope s_is_settled, [], []⟩
def dd_share_at : He.DefD := ⟨("share_at", none), "share_at", "share_at", defArgs s_share_at, defBody s_share_at, defScope s_share_at, [], []⟩
def dd_sum_at : He.DefD := ⟨("sum_at", none), "sum_at", "sum_at", defArgs s_sum_at, defBody s_sum_at, defScope s_sum_at, [], []⟩
def dd_around_hand : He.DefD := ⟨("around_hand", none), "around_hand", "around_hand", defArgs s_around_hand, defBody s_around_hand, defScope s_around_hand, [], []⟩
def dd_fillings_of : He.DefD := ⟨("fillings_of", none), "fillings_of", "fillings_of", defArgs s_fillings_of, defBody s_fillings_of, defScope s_fillings_of, [], []⟩
def dd_all_boxes : He.DefD := ⟨("all_boxes", none), "all_boxes", "all_boxes", defArgs s_all_boxes, defBody s_all_boxes, defScope s_all_boxes, [], []⟩
def dd_filled_stands : He.DefD := ⟨("filled_stands", none), "filled_stands", "filled_stands", defArgs s_filled_stands, defBody s_filled_stands, defScope s_filled_stands, [], []⟩
def dd_nought_stand : He.DefD := ⟨("nought_stand", none), "nought_stand", "nought_stand", defArgs s_nought_stand, defBody s_nought_stand, defScope s_nought_stand, [], []⟩
def dd_part_sum : He.DefD := ⟨("part_sum", none), "part_sum", "part_sum", defArgs s_part_sum, defBody s_part_sum, defScope s_part_sum, [], []⟩
def dd_falls_there : He.DefD := ⟨("falls_there", none), "falls_there", "falls_there", defArgs s_falls_there, defBody s_falls_there, defScope s_falls_there, [], []⟩
def dd_ask_sum : He.DefD := ⟨("ask_sum", none), "ask_sum", "ask_sum", defArgs s_ask_sum, defBody s_ask_sum, defScope s_ask_sum, [], []⟩
def dd_lets_sum : He.DefD := ⟨("lets_sum", none), "lets_sum", "lets_sum", defArgs s_lets_sum, defBody s_lets_sum, defScope s_lets_sum, [], []⟩
def dd_ask_settled : He.DefD := ⟨("ask_settled", none), "ask_settled", "ask_settled", defArgs s_ask_settled, defBody s_ask_settled, defScope s_ask_settled, [], []⟩
def dd_lets_settled : He.DefD := ⟨("lets_settled", none), "lets_settled", "lets_settled", defArgs s_lets_settled, defBody s_lets_settled, defScope s_lets_settled, [], []⟩
def dd_least_free : He.DefD := ⟨("least_free", none), "least_free", "least_free", defArgs s_least_free, defBody s_least_free, defScope s_least_free, [], []⟩
def dd_hues_system : He.DefD := ⟨("hues_system", none), "hues_system", "hues_system", defArgs s_hues_system, defBody s_hues_system, defScope s_hues_system, [], []⟩
def dd_posts_system : He.DefD := ⟨("posts_system", none), "posts_system", "posts_system", defArgs s_posts_system, defBody s_posts_system, defScope s_posts_system, [], []⟩
def dd_hues_sum : He.DefD := ⟨("hues_sum", none), "hues_sum", "hues_sum", defArgs s_hues_sum, defBody s_hues_sum, defScope s_hues_sum, [], []⟩
def dd_hues_settled : He.DefD := ⟨("hues_settled", none), "hues_settled", "hues_settled", defArgs s_hues_settled, defBody s_hues_settled, defScope s_hues_settled, [], []⟩
def dd_posts_sum : He.DefD := ⟨("posts_sum", none), "posts_sum", "posts_sum", defArgs s_posts_sum, defBody s_posts_sum, defScope s_posts_sum, [], []⟩
def dd_posts_settled : He.DefD := ⟨("posts_settled", none), "posts_settled", "posts_settled", defArgs s_posts_settled, defBody s_posts_settled, defScope s_posts_settled, [], []⟩
def dd_l_feed : He.DefD := ⟨("_law_feed", none), "_law_feed", "_law_feed", defArgs s_l_feed, defBody s_l_feed, defScope s_l_feed, [], []⟩
def dd_l_draw : He.DefD := ⟨("_law_draw", none), "_law_draw", "_law_draw", defArgs s_l_draw, defBody s_l_draw, defScope s_l_draw, [], []⟩
def dd_l_wide_eyes : He.DefD := ⟨("_law_wide_eyes", none), "_law_wide_eyes", "_law_wide_eyes", defArgs s_l_wide_eyes, defBody s_l_wide_eyes, defScope s_l_wide_eyes, [], []⟩
def dd_l_leaf : He.DefD := ⟨("_law_leaf", none), "_law_leaf", "_law_leaf", defArgs s_l_leaf, defBody s_l_leaf, defScope s_l_leaf, [], []⟩
def dd_l_term : He.DefD := ⟨("_law_term", none), "_law_term", "_law_term", defArgs s_l_term, defBody s_l_term, defScope s_l_term, [], []⟩
def dd_l_claim : He.DefD := ⟨("_law_claim", none), "_law_claim", "_law_claim", defArgs s_l_claim, defBody s_l_claim, defScope s_l_claim, [], []⟩
def dd_l_value : He.DefD := ⟨("_law_value", none), "_law_value", "_law_value", defArgs s_l_value, defBody s_l_value, defScope s_l_value, [], []⟩
def dd_l_holds : He.DefD := ⟨("_law_holds", none), "_law_holds", "_law_holds", defArgs s_l_holds, defBody s_l_holds, defScope s_l_holds, [], []⟩
def dd_l_rule_at : He.DefD := ⟨("_law_rule_at", none), "_law_rule_at", "_law_rule_at", defArgs s_l_rule_at, defBody s_l_rule_at, defScope s_l_rule_at, [], []⟩
def dd_l_ready : He.DefD := ⟨("_law_ready", none), "_law_ready", "_law_ready", defArgs s_l_ready, defBody s_l_ready, defScope s_l_ready, [], []⟩
def dd_l_behind : He.DefD := ⟨("_law_behind", none), "_law_behind", "_law_behind", defArgs s_l_behind, defBody s_l_behind, defScope s_l_behind, [], []⟩
def dd_l_right : He.DefD := ⟨("_law_right", none), "_law_right", "_law_right", defArgs s_l_right, defBody s_l_right, defScope s_l_right, [], []⟩
def dd_l_let : He.DefD := ⟨("_law_let", none), "_law_let", "_law_let", defArgs s_l_let, defBody s_l_let, defScope s_l_let, [], []⟩
def dd_l_share : He.DefD := ⟨("_law_share", none), "_law_share", "_law_share", defArgs s_l_share, defBody s_l_share, defScope s_l_share, [], []⟩
def dd_l_total : He.DefD := ⟨("_law_total", none), "_law_total", "_law_total", defArgs s_l_total, defBody s_l_total, defScope s_l_total, [], []⟩
def dd_l_any_system : He.DefD := ⟨("_law_any_system", none), "_law_any_system", "_law_any_system", defArgs s_l_any_system, defBody s_l_any_system, defScope s_l_any_system, [], []⟩
def dd_l_sums : He.DefD := ⟨("_law_sums", none), "_law_sums", "_law_sums", defArgs s_l_sums, defBody s_l_sums, defScope s_l_sums, [], []⟩
def dd_l_stand : He.DefD := ⟨("_law_stand", none), "_law_stand", "_law_stand", defArgs s_l_stand, defBody s_l_stand, defScope s_l_stand, [], []⟩
def dd_l_run_right : He.DefD := ⟨("_law_run_right", none), "_law_run_right", "_law_run_right", defArgs s_l_run_right, defBody s_l_run_right, defScope s_l_run_right, [], []⟩
def dd_l_ends_right : He.DefD := ⟨("_law_ends_right", none), "_law_ends_right", "_law_ends_right", defArgs s_l_ends_right, defBody s_l_ends_right, defScope s_l_ends_right, [], []⟩
def dd_l_settled_right : He.DefD := ⟨("_law_settled_right", none), "_law_settled_right", "_law_settled_right", defArgs s_l_settled_right, defBody s_l_settled_right, defScope s_l_settled_right, [], []⟩
def dd_law : He.DefD := ⟨("law", none), "law", "law", defArgs s_law, defBody s_law, defScope s_law, [], []⟩
def dd_Sight_over_others : He.DefD := ⟨("Sight", some "over_others"), "over_others", "Sight.over_others", defArgs s_over, defBody s_over, defScope s_over, [], []⟩
def dd_Sight_plain : He.DefD := ⟨("Sight", some "plain"), "plain", "Sight.plain", defArgs s_Sight_plain, defBody s_Sight_plain, defScope s_Sight_plain, [], []⟩
def dd_Sight_by_eye : He.DefD := ⟨("Sight", some "by_eye"), "by_eye", "Sight.by_eye", defArgs s_Sight_by_eye, defBody s_Sight_by_eye, defScope s_Sight_by_eye, [], []⟩
def dd_Sight_reckoned : He.DefD := ⟨("Sight", some "reckoned"), "reckoned", "Sight.reckoned", defArgs s_Sight_reckoned, defBody s_Sight_reckoned, defScope s_Sight_reckoned, [], []⟩
def dd_Sight_number_at : He.DefD := ⟨("Sight", some "number_at"), "number_at", "Sight.number_at", defArgs s_Sight_number_at, defBody s_Sight_number_at, defScope s_Sight_number_at, [], []⟩
def dd_Sight_is_so : He.DefD := ⟨("Sight", some "is_so"), "is_so", "Sight.is_so", defArgs s_Sight_is_so, defBody s_Sight_is_so, defScope s_Sight_is_so, [], []⟩
def dd_Sight_init : He.DefD := ⟨("Sight", some "__init__"), "__init__", "Sight.__init__", defArgs s_init, defBody s_init, defScope s_init, [], []⟩
def dd_NoPaper_init : He.DefD := ⟨("NoPaper", some "__init__"), "__init__", "NoPaper.__init__", defArgs s_NoPaper_init, defBody s_NoPaper_init, defScope s_NoPaper_init, [], []⟩
def dd_TooMany_init : He.DefD := ⟨("TooMany", some "__init__"), "__init__", "TooMany.__init__", defArgs s_TooMany_init, defBody s_TooMany_init, defScope s_TooMany_init, [], []⟩
def fn : List He.DefD := [dd_value_at, dd_holds_at, dd_value_by, dd_is_whole, dd_seen_by, dd_bounds_of, dd_forms_behind, dd_parts_by, dd_may_stand, dd_fits, dd_is_term, dd_is_claim, dd_is_inner, dd_rule_at, dd_ready_hands, dd_boxes_behind, dd_ask_acting, dd_acted, dd_has_word, dd_is_pair, dd_is_shares, dd_is_sum, dd_is_settled, dd_share_at, dd_sum_at, dd_around_hand, dd_fillings_of, dd_all_boxes, dd_filled_stands, dd_nought_stand, dd_part_sum, dd_falls_there, dd_ask_sum, dd_lets_sum, dd_ask_settled, dd_lets_settled, dd_least_free, dd_hues_system, dd_posts_system, dd_hues_sum, dd_hues_settled, dd_posts_sum, dd_posts_settled, dd_l_feed, dd_l_draw, dd_l_wide_eyes, dd_l_leaf, dd_l_term, dd_l_claim, dd_l_value, dd_l_holds, dd_l_rule_at, dd_l_ready, dd_l_behind, dd_l_right, dd_l_let, dd_l_share, dd_l_total, dd_l_any_system, dd_l_sums, dd_l_stand, dd_l_run_right, dd_l_ends_right, dd_l_settled_right, dd_law, dd_Sight_over_others, dd_Sight_plain, dd_Sight_by_eye, dd_Sight_reckoned, dd_Sight_number_at, dd_Sight_is_so, dd_Sight_init, dd_NoPaper_init, dd_TooMany_init]
def fa : List He.Fa := [.glo "value_at", .glo "holds_at", .glo "value_by", .glo "is_whole", .glo "seen_by", .glo "bounds_of", .glo "forms_behind", .glo "parts_by", .glo "may_stand", .glo "fits", .glo "is_term", .glo "is_claim", .glo "is_inner", .glo "rule_at", .glo "ready_hands", .glo "boxes_behind", .glo "ask_acting", .glo "acted", .glo "has_word", .glo "is_pair", .glo "is_shares", .glo "is_sum", .glo "is_settled", .glo "share_at", .glo "sum_at", .glo "around_hand", .glo "fillings_of", .glo "all_boxes", .glo "filled_stands", .glo "nought_stand", .glo "part_sum", .glo "falls_there", .glo "ask_sum", .glo "lets_sum", .glo "ask_settled", .glo "lets_settled", .glo "least_free", .glo "hues_system", .glo "posts_system", .glo "hues_sum", .glo "hues_settled", .glo "posts_sum", .glo "posts_settled", .glo "_law_feed", .glo "_law_draw", .glo "_law_wide_eyes", .glo "_law_leaf", .glo "_law_term", .glo "_law_claim", .glo "_law_value", .glo "_law_holds", .glo "_law_rule_at", .glo "_law_ready", .glo "_law_behind", .glo "_law_right", .glo "_law_let", .glo "_law_share", .glo "_law_total", .glo "_law_any_system", .glo "_law_sums", .glo "_law_stand", .glo "_law_run_right", .glo "_law_ends_right", .glo "_law_settled_right", .glo "law", .glo "Sight", .glo "NoPaper", .glo "TooMany", .glo "RightError", .glo "TERM", .glo "CLAIM", .free "len", .free "sum", .free "any", .free "all", .free "min", .free "max", .free "tuple", .free "list", .free "int", .free "str", .free "bool", .free "set", .free "range", .free "zip", .free "enumerate", .free "sorted", .free "isinstance", .free "repr", .cls "Sight", .mkr "Sight", .noat "Sight" "eyes_told", .noat "Sight" "stand_told", .noat "Sight" "own_hand", .noat "Sight" "looked_at", .meth "Sight" "over_others", .meth "Sight" "plain", .meth "Sight" "by_eye", .meth "Sight" "reckoned", .meth "Sight" "number_at", .meth "Sight" "is_so", .exm "NoPaper" "NoPaper" true, .exm "TooMany" "NoPaper" false, .exm "TooMany" "TooMany" true, .noat "NoPaper" "word", .noat "NoPaper" "number", .noat "TooMany" "word", .noat "TooMany" "number"]
end K9
end
section
set_option maxHeartbeats 4000000
/-! K9HC: the module's data from checks. -/
namespace K9
open PySem PySem.Spec PyProof.Rows L2 Evl K9M RZ
theorem ckG_ok {K : PySem.W.Frag} {h : Heap} {mg : Str → Option Value} (X : K.In h) (G : h.Ns mainGlobals mg) {x : Str} {d : Dt} (c : ckG K x d = true) : Gd K mg x d := by
  unfold ckG at c
  cases q : PySem.W.nsIn K mainGlobals x with
  | none =>
    rw [q] at c
    cases c
  | some o =>
    cases o with
    | none =>
      rw [q] at c
      cases c
    | some u =>
      rw [q] at c
      obtain ⟨v, r, a⟩ := ckD_ok c
      exact ⟨⟨u, v, PySem.W.mg_of X G q, r, a⟩⟩
def gds : List (Str × Dt) := [("MOST_IN_ONE", .int 60), ("MOST_DEEP", .int 12), ("MOST_NUMBER", .int 99), ("MOST_EYE", .int 5), ("MOST_REST", .int 12), ("LOOKS", .tup [.str "least", .str "most", .str "many"]), ("LOOKING", .tup [.str "eye", .str "least", .str "most", .str "many"]), ("MOST_FILLINGS", .int 4096), ("NOUGHT", encE (eN 0)), ("UNIT", encE (eN 1)), ("OWN", encE (K9M.E.own)), ("ITS", encE (K9M.E.its)), ("LIKE_OWN", encE likeOwn), ("ALIKE", encE alike), ("NONE_ALIKE", encE noneAlike), ("POSTS", encE postsE), ("NO_POSTS", encE noPosts), ("AT_POST", encE atPost), ("POSTED", encE posted)]
def exG (K : PySem.W.Frag) : Bool := gds.all fun p => ckG K p.1 p.2
theorem gd_of {K : PySem.W.Frag} {h : Heap} {mg : Str → Option Value} (X : K.In h) (G : h.Ns mainGlobals mg) (c : exG K = true) (i : Nat) {x : Str} {d : Dt} (e : gds[i]? = some (x, d)) : Gd K mg x d :=
  ckG_ok X G (List.all_eq_true.mp c (x, d) (List.mem_of_getElem? e))
theorem mk_of {K : PySem.W.Frag} {h : Heap} {mg : Str → Option Value} (X : K.In h) (G : h.Ns mainGlobals mg) (c : exG K = true) : LkT K mg ∧ FlT K mg ∧ MkT K mg :=
  ⟨⟨gd_of X G c 6 rfl⟩, ⟨gd_of X G c 7 rfl⟩, ⟨gd_of X G c 8 rfl, gd_of X G c 9 rfl, gd_of X G c 10 rfl, gd_of X G c 11 rfl, gd_of X G c 12 rfl, gd_of X G c 13 rfl, gd_of X G c 14 rfl, gd_of X G c 15 rfl, gd_of X G c 16 rfl, gd_of X G c 17 rfl, gd_of X G c 18 rfl⟩⟩
end K9
end
section
set_option maxHeartbeats 4000000
/-! K9HD: the tables of forms. -/
namespace K9
open PySem PySem.Spec PyProof.Rows L2 Evl K9M RZ
def ckN (K : PySem.W.Frag) (a : Addr) (s : Str) (d : Dt) : Bool := match PySem.W.nsIn K a s with
  | some (some u) => ckD K u d
  | _ => false
theorem ckN_ok {K : PySem.W.Frag} {a : Addr} {s : Str} {d : Dt} (c : ckN K a s d = true) : ∃ u v, PySem.W.nsIn K a s = some (some u) ∧ RelV v u ∧ ∀ H, At K H v d := by
  unfold ckN at c
  cases q : PySem.W.nsIn K a s with
  | none =>
    rw [q] at c
    cases c
  | some o =>
    cases o with
    | none =>
      rw [q] at c
      cases c
    | some u =>
      rw [q] at c
      obtain ⟨v, r, b⟩ := ckD_ok c
      exact ⟨u, v, rfl, r, b⟩
abbrev e0 : E true := .me
abbrev c0 : E false := .yes
def reT : List (E true) := [.num 0, .own, .eye 0, .me, .plus e0 e0, .less e0 e0, .rest e0 0, .least e0, .most e0, .many c0, .ite c0 e0 e0, .its, .it]
def reF : List (E false) := [.yes, .like e0 e0, .blw e0 e0, .not c0, .and c0 c0, .or c0 c0]
def exT (K : PySem.W.Frag) : Bool := (reT.all fun e => ckN K (He.ga K "TERM") (wrd e) (formsD e)) && reF.all fun e => ckN K (He.ga K "CLAIM") (wrd e) (formsD e)
theorem exT_t {K : PySem.W.Frag} (c : exT K = true) (e : E true) : ∃ u v, PySem.W.nsIn K (He.ga K "TERM") (wrd e) = some (some u) ∧ RelV v u ∧ ∀ H, At K H v (formsD e) := by
  have h := List.all_eq_true.mp (He.ba c).1
  have g : ∀ r ∈ reT, wrd e = wrd r → formsD e = formsD r → ∃ u v, PySem.W.nsIn K (He.ga K "TERM") (wrd e) = some (some u) ∧ RelV v u ∧ ∀ H, At K H v (formsD e) := fun r hr h1 h2 => by
    rw [h1, h2]
    exact ckN_ok (h r hr)
  cases e <;> first
    | exact g (reT[0]) (by simp [reT]) rfl rfl
    | exact g (reT[1]) (by simp [reT]) rfl rfl
    | exact g (reT[2]) (by simp [reT]) rfl rfl
    | exact g (reT[3]) (by simp [reT]) rfl rfl
    | exact g (reT[4]) (by simp [reT]) rfl rfl
    | exact g (reT[5]) (by simp [reT]) rfl rfl
    | exact g (reT[6]) (by simp [reT]) rfl rfl
    | exact g (reT[7]) (by simp [reT]) rfl rfl
    | exact g (reT[8]) (by simp [reT]) rfl rfl
    | exact g (reT[9]) (by simp [reT]) rfl rfl
    | exact g (reT[10]) (by simp [reT]) rfl rfl
    | exact g (reT[11]) (by simp [reT]) rfl rfl
    | exact g (reT[12]) (by simp [reT]) rfl rfl
theorem exT_f {K : PySem.W.Frag} (c : exT K = true) (e : E false) : ∃ u v, PySem.W.nsIn K (He.ga K "CLAIM") (wrd e) = some (some u) ∧ RelV v u ∧ ∀ H, At K H v (formsD e) := by
  have h := List.all_eq_true.mp (He.ba c).2
  have g : ∀ r ∈ reF, wrd e = wrd r → formsD e = formsD r → ∃ u v, PySem.W.nsIn K (He.ga K "CLAIM") (wrd e) = some (some u) ∧ RelV v u ∧ ∀ H, At K H v (formsD e) := fun r hr h1 h2 => by
    rw [h1, h2]
    exact ckN_ok (h r hr)
  cases e <;> first
    | exact g (reF[0]) (by simp [reF]) rfl rfl
    | exact g (reF[1]) (by simp [reF]) rfl rfl
    | exact g (reF[2]) (by simp [reF]) rfl rfl
    | exact g (reF[3]) (by simp [reF]) rfl rfl
    | exact g (reF[4]) (by simp [reF]) rfl rfl
    | exact g (reF[5]) (by simp [reF]) rfl rfl
end K9
end
section
set_option maxHeartbeats 4000000
/-! K9HE: the classes of errors. -/
namespace K9
open PySem PySem.Spec PySem.W PyProof.Rows L2 Evl K9M RZ
def oexB (K : PySem.W.Frag) (C : Addr) : Bool := (match K.lookup C with
  | some ⟨.type "type", _, .cls cd, sl⟩ => (match cd.mro, sl.toList with
    | .ref C' :: bm, [_, _, _, _, some (.builtin n), _] => C' == C && n == "ValueError.__new__" && !cd.hasDel && cd.hasDict && PySem.HandSPX.refsVE bm
    | _, _ => false)
  | _ => false)
  && (He.eqO (PySem.W.findIn K (.ref C) "__setattr__") (some (some (.builtin "object.__setattr__"))) && (decide (PySem.W.subIn K (.ref C) (.type "BaseException") = some true) && (decide (PySem.W.typeIn K (.ref C) = some (.type "type")) && PySem.W.keepIn K (.ref C))))
theorem oexB_ok {K : PySem.W.Frag} {C : Addr} (h : oexB K C = true) : OexC K C := by
  obtain ⟨q, h2⟩ := He.ba h
  obtain ⟨h3, h4⟩ := He.ba h2
  obtain ⟨h5, h6⟩ := He.ba h4
  obtain ⟨h7, h8⟩ := He.ba h6
  refine ⟨?_, He.eqO_ok h3, of_decide_eq_true h5, of_decide_eq_true h7, h8⟩
  split at q
  · rename_i dd cd sl ho
    split at q
    · rename_i C' bm k0 k1 k2 k3 n k5 hm hs
      simp only [Bool.and_eq_true, beq_iff_eq, Bool.not_eq_true'] at q
      obtain ⟨⟨⟨⟨rfl, rfl⟩, hdel⟩, hdc⟩, ht⟩ := q
      obtain ⟨nm, bs, mro, ns, qn, hd, sn, sub, ab, col, del⟩ := cd
      dsimp only at hm hdel hdc
      subst hm hdel hdc
      have hsl : sl = #[k0, k1, k2, k3, some (.builtin "ValueError.__new__"), k5] := by
        obtain ⟨l⟩ := sl
        simp only at hs
        rw [hs]
      subst hsl
      exact ⟨_, _, _, _, bm, _, _, _, _, _, _, _, _, _, _, ho, ht⟩
    · cases q
  · cases q
end K9
end
section
set_option maxHeartbeats 4000000
/-! K9HF: the base class of errors; the further checks as one. -/
namespace K9
open PySem PySem.Spec PySem.W PyProof.Rows L2 Evl K9M RZ
def reB (K : PySem.W.Frag) (C : Addr) : Bool := PySem.W.readsIn K C (.type "type") && (decide (PySem.W.specialIn K (.ref C) "__getattribute__" = some (some (.builtin "type.__getattribute__"))) && (match PySem.W.findCls K (.ref C) (.type "type") "__init__" with
  | some (.val (.builtin n)) => n == "ValueError.__init__"
  | _ => false))
theorem reB_ok {K : PySem.W.Frag} {mg : Str → Option Value} {C : Addr} (g : mg "RightError" = some (.ref C)) (h : reB K C = true) : ReT K mg C (.type "type") := by
  obtain ⟨h1, h2⟩ := He.ba h
  obtain ⟨h3, h4⟩ := He.ba h2
  refine ⟨g, ⟨h1, of_decide_eq_true h3⟩, ?_⟩
  split at h4
  · rename_i n q
    rw [q, beq_iff_eq.mp h4]
  · cases h4
def erB (K : PySem.W.Frag) (x : Str) : Bool := oexB K (He.ga K x) && (He.eqO (PySem.W.findIn K (.ref (He.ga K x)) "__init__") (some (some (.ref (He.ma K (He.ga K x) "__init__")))) && decide (PySem.W.typeIn K (.ref (He.ma K (He.ga K x) "__init__")) = some (.type "function")))
theorem erB_ok {K : PySem.W.Frag} {mg : Str → Option Value} {x : Str} (g : mg x = some (.ref (He.ga K x))) (h : erB K x = true) (n1 : NoAttr K (He.ga K x) "word") (n2 : NoAttr K (He.ga K x) "number") : ErT K mg x (He.ga K x) (He.ma K (He.ga K x) "__init__") := by
  obtain ⟨h1, h2⟩ := He.ba h
  obtain ⟨h3, h4⟩ := He.ba h2
  exact ⟨g, oexB_ok h1, He.eqO_ok h3, of_decide_eq_true h4, n1, n2⟩
def ex (K : PySem.W.Frag) : Bool := exG K && (exT K && (reB K (He.ga K "RightError") && (erB K "NoPaper" && erB K "TooMany")))
end K9
end
section
set_option maxHeartbeats 4000000
/-! K9HH: the module's facts from the run (printed by headend.py). -/
namespace K9
open PySem PySem.Spec PySem.W PyProof.Rows L2 Evl K9M RZ
theorem fun_of {K : PySem.W.Frag} {x qual : Str} {st : Stmt} {f : Addr} {fd : FuncData} (F : FunD K x qual (defArgs st) (defBody st) (defScope st) [] [] f fd) : Fun K x qual st f fd := by
  obtain ⟨oc, od, dV, kV, doc, pm, an, cdv, ct, osl, rfl, lk, hcd, hD, hK⟩ := F.ex
  rcases hD with ⟨_, rfl⟩ | ⟨e, _⟩
  · exact ⟨⟨oc, od, kV, doc, pm, an, cdv, ct, osl, rfl, lk, hcd⟩, F.kp⟩
  · exact absurd rfl e
abbrev BdT (x qual : Str) (st : Stmt) (ps : List Str) : Prop := ∀ (kV doc pm : Value) (an : Option Addr) (cdv ct : Value) (us : List Value), us.length = ps.length → bindArgs (PySem.W.fnOf x qual (defArgs st) (defBody st) (defScope st) .none kV doc pm an cdv ct) ⟨us, []⟩ = pure (ps.zip us)
section
variable {K : PySem.W.Frag} {h : Heap} {mg : Str → Option Value}
theorem df_of (X : K.In h) (G : h.Ns mainGlobals mg) (c : He.SaysD fa fn K) {x : Str} {st : Stmt} {ps : List Str} (i j : Nat) (e : fn[i]? = some ⟨(x, none), x, x, defArgs st, defBody st, defScope st, [], []⟩) (g : fa[j]? = some (.glo x)) (b : BdT x x st ps) : Df K mg x st ps := by
  obtain ⟨fd, F⟩ := c.def_ i e
  have F2 : Fun K x x st (He.ga K x) fd := fun_of F
  exact ⟨_, fd, He.glo_ok X G (c.fact j g), F2.binds b, F2⟩
theorem mo_of (c : He.SaysD fa fn K) {C m qual : Str} {st : Stmt} {ps : List Str} (i j : Nat) (e : fn[i]? = some ⟨(C, some m), m, qual, defArgs st, defBody st, defScope st, [], []⟩) (g : fa[j]? = some (.meth C m)) (b : BdT m qual st ps) : Mo K (He.ga K C) m qual st ps := by
  obtain ⟨fd, F⟩ := c.def_ i e
  have F2 : Fun K m qual st (He.ma K (He.ga K C) m) fd := fun_of F
  exact ⟨_, fd, He.meth_ok (c.fact j g), F2.binds b, F2⟩
theorem in_of (c : He.SaysD fa fn K) {C m qual : Str} {st : Stmt} {ps : List Str} (i : Nat) (e : fn[i]? = some ⟨(C, some m), m, qual, defArgs st, defBody st, defScope st, [], []⟩) (b : BdT m qual st ps) : ∃ fd, Fun K m qual st (He.ma K (He.ga K C) m) fd ∧ Binds K fd ps [] := by
  obtain ⟨fd, F⟩ := c.def_ i e
  have F2 : Fun K m qual st (He.ma K (He.ga K C) m) fd := fun_of F
  exact ⟨fd, F2, F2.binds b⟩
end
theorem bd_value_at : BdT "value_at" "value_at" s_value_at ["eyes", "stand", "hand", "term"] := (fun _ _ _ _ _ _ us hl => match us, hl with | [_, _, _, _], _ => rfl)
theorem bd_holds_at : BdT "holds_at" "holds_at" s_holds_at ["eyes", "stand", "hand", "claim"] := (fun _ _ _ _ _ _ us hl => match us, hl with | [_, _, _, _], _ => rfl)
theorem bd_value_by : BdT "value_by" "value_by" s_value_by ["eyes", "stand", "hand", "other", "inner"] := (fun _ _ _ _ _ _ us hl => match us, hl with | [_, _, _, _, _], _ => rfl)
theorem bd_is_whole : BdT "is_whole" "is_whole" s_is_whole ["thing"] := (fun _ _ _ _ _ _ us hl => match us, hl with | [_], _ => rfl)
theorem bd_seen_by : BdT "seen_by" "seen_by" s_seen_by ["eyes", "hand"] := (fun _ _ _ _ _ _ us hl => match us, hl with | [_, _], _ => rfl)
theorem bd_bounds_of : BdT "bounds_of" "bounds_of" s_bounds_of ["form", "boxes"] := (fun _ _ _ _ _ _ us hl => match us, hl with | [_, _], _ => rfl)
theorem bd_forms_behind : BdT "forms_behind" "forms_behind" s_forms_behind ["form", "word"] := (fun _ _ _ _ _ _ us hl => match us, hl with | [_, _], _ => rfl)
theorem bd_parts_by : BdT "parts_by" "parts_by" s_parts_by ["form", "thing"] := (fun _ _ _ _ _ _ us hl => match us, hl with | [_, _], _ => rfl)
theorem bd_may_stand : BdT "may_stand" "may_stand" s_may_stand ["word", "looked"] := (fun _ _ _ _ _ _ us hl => match us, hl with | [_, _], _ => rfl)
theorem bd_fits : BdT "fits" "fits" s_fits ["boxes", "form", "thing", "looked"] := (fun _ _ _ _ _ _ us hl => match us, hl with | [_, _, _, _], _ => rfl)
theorem bd_is_term : BdT "is_term" "is_term" s_is_term ["sizes", "thing"] := (fun _ _ _ _ _ _ us hl => match us, hl with | [_, _], _ => rfl)
theorem bd_is_claim : BdT "is_claim" "is_claim" s_is_claim ["sizes", "thing"] := (fun _ _ _ _ _ _ us hl => match us, hl with | [_, _], _ => rfl)
theorem bd_is_inner : BdT "is_inner" "is_inner" s_is_inner ["sizes", "thing"] := (fun _ _ _ _ _ _ us hl => match us, hl with | [_, _], _ => rfl)
theorem bd_rule_at : BdT "rule_at" "rule_at" s_rule_at ["system", "stand", "hand"] := (fun _ _ _ _ _ _ us hl => match us, hl with | [_, _, _], _ => rfl)
theorem bd_ready_hands : BdT "ready_hands" "ready_hands" s_ready_hands ["system", "stand"] := (fun _ _ _ _ _ _ us hl => match us, hl with | [_, _], _ => rfl)
theorem bd_boxes_behind : BdT "boxes_behind" "boxes_behind" s_boxes_behind ["system", "stand", "hand"] := (fun _ _ _ _ _ _ us hl => match us, hl with | [_, _, _], _ => rfl)
theorem bd_ask_acting : BdT "ask_acting" "ask_acting" s_ask_acting ["system", "stand", "hands"] := (fun _ _ _ _ _ _ us hl => match us, hl with | [_, _, _], _ => rfl)
theorem bd_acted : BdT "acted" "acted" s_acted ["system", "stand", "hands"] := (fun _ _ _ _ _ _ us hl => match us, hl with | [_, _, _], _ => rfl)
theorem bd_has_word : BdT "has_word" "has_word" s_has_word ["thing", "words"] := (fun _ _ _ _ _ _ us hl => match us, hl with | [_, _], _ => rfl)
theorem bd_is_pair : BdT "is_pair" "is_pair" s_is_pair ["sizes", "thing"] := (fun _ _ _ _ _ _ us hl => match us, hl with | [_, _], _ => rfl)
theorem bd_is_shares : BdT "is_shares" "is_shares" s_is_shares ["sizes", "thing"] := (fun _ _ _ _ _ _ us hl => match us, hl with | [_, _], _ => rfl)
theorem bd_is_sum : BdT "is_sum" "is_sum" s_is_sum ["system", "thing"] := (fun _ _ _ _ _ _ us hl => match us, hl with | [_, _], _ => rfl)
theorem bd_is_settled : BdT "is_settled" "is_settled" s_is_settled ["system", "thing"] := (fun _ _ _ _ _ _ us hl => match us, hl with | [_, _], _ => rfl)
theorem bd_share_at : BdT "share_at" "share_at" s_share_at ["system", "shares", "stand", "hand"] := (fun _ _ _ _ _ _ us hl => match us, hl with | [_, _, _, _], _ => rfl)
theorem bd_sum_at : BdT "sum_at" "sum_at" s_sum_at ["system", "shares", "stand"] := (fun _ _ _ _ _ _ us hl => match us, hl with | [_, _, _], _ => rfl)
theorem bd_around_hand : BdT "around_hand" "around_hand" s_around_hand ["system", "shares", "hand"] := (fun _ _ _ _ _ _ us hl => match us, hl with | [_, _, _], _ => rfl)
theorem bd_fillings_of : BdT "fillings_of" "fillings_of" s_fillings_of ["system", "hands"] := (fun _ _ _ _ _ _ us hl => match us, hl with | [_, _], _ => rfl)
theorem bd_all_boxes : BdT "all_boxes" "all_boxes" s_all_boxes ["sizes"] := (fun _ _ _ _ _ _ us hl => match us, hl with | [_], _ => rfl)
theorem bd_filled_stands : BdT "filled_stands" "filled_stands" s_filled_stands ["system", "stand", "hands"] := (fun _ _ _ _ _ _ us hl => match us, hl with | [_, _, _], _ => rfl)
theorem bd_nought_stand : BdT "nought_stand" "nought_stand" s_nought_stand ["system"] := (fun _ _ _ _ _ _ us hl => match us, hl with | [_], _ => rfl)
theorem bd_part_sum : BdT "part_sum" "part_sum" s_part_sum ["system", "shares", "stand", "hands"] := (fun _ _ _ _ _ _ us hl => match us, hl with | [_, _, _, _], _ => rfl)
theorem bd_falls_there : BdT "falls_there" "falls_there" s_falls_there ["system", "shares", "stand", "hand", "hands"] := (fun _ _ _ _ _ _ us hl => match us, hl with | [_, _, _, _, _], _ => rfl)
theorem bd_ask_sum : BdT "ask_sum" "ask_sum" s_ask_sum ["system", "shares", "hand"] := (fun _ _ _ _ _ _ us hl => match us, hl with | [_, _, _], _ => rfl)
theorem bd_lets_sum : BdT "lets_sum" "lets_sum" s_lets_sum ["system", "thing"] := (fun _ _ _ _ _ _ us hl => match us, hl with | [_, _], _ => rfl)
theorem bd_ask_settled : BdT "ask_settled" "ask_settled" s_ask_settled ["system", "claim", "hand"] := (fun _ _ _ _ _ _ us hl => match us, hl with | [_, _, _], _ => rfl)
theorem bd_lets_settled : BdT "lets_settled" "lets_settled" s_lets_settled ["system", "thing"] := (fun _ _ _ _ _ _ us hl => match us, hl with | [_, _], _ => rfl)
theorem bd_least_free : BdT "least_free" "least_free" s_least_free ["many"] := (fun _ _ _ _ _ _ us hl => match us, hl with | [_], _ => rfl)
theorem bd_hues_system : BdT "hues_system" "hues_system" s_hues_system ["eyes", "many"] := (fun _ _ _ _ _ _ us hl => match us, hl with | [_, _], _ => rfl)
theorem bd_posts_system : BdT "posts_system" "posts_system" s_posts_system ["eyes"] := (fun _ _ _ _ _ _ us hl => match us, hl with | [_], _ => rfl)
theorem bd_hues_sum : BdT "hues_sum" "hues_sum" s_hues_sum [] := (fun _ _ _ _ _ _ us hl => match us, hl with | [], _ => rfl)
theorem bd_hues_settled : BdT "hues_settled" "hues_settled" s_hues_settled [] := (fun _ _ _ _ _ _ us hl => match us, hl with | [], _ => rfl)
theorem bd_posts_sum : BdT "posts_sum" "posts_sum" s_posts_sum [] := (fun _ _ _ _ _ _ us hl => match us, hl with | [], _ => rfl)
theorem bd_posts_settled : BdT "posts_settled" "posts_settled" s_posts_settled [] := (fun _ _ _ _ _ _ us hl => match us, hl with | [], _ => rfl)
theorem bd_l_feed : BdT "_law_feed" "_law_feed" s_l_feed ["_law_script"] := (fun _ _ _ _ _ _ us hl => match us, hl with | [_], _ => rfl)
theorem bd_l_draw : BdT "_law_draw" "_law_draw" s_l_draw ["_law_feed_here", "_law_many"] := (fun _ _ _ _ _ _ us hl => match us, hl with | [_, _], _ => rfl)
theorem bd_l_wide_eyes : BdT "_law_wide_eyes" "_law_wide_eyes" s_l_wide_eyes ["_law_feed_here"] := (fun _ _ _ _ _ _ us hl => match us, hl with | [_], _ => rfl)
theorem bd_l_leaf : BdT "_law_leaf" "_law_leaf" s_l_leaf ["_law_feed_here", "_law_sizes", "_law_inner"] := (fun _ _ _ _ _ _ us hl => match us, hl with | [_, _, _], _ => rfl)
theorem bd_l_term : BdT "_law_term" "_law_term" s_l_term ["_law_feed_here", "_law_sizes", "_law_deep", "_law_inner"] := (fun _ _ _ _ _ _ us hl => match us, hl with | [_, _, _, _], _ => rfl)
theorem bd_l_claim : BdT "_law_claim" "_law_claim" s_l_claim ["_law_feed_here", "_law_sizes", "_law_deep", "_law_inner"] := (fun _ _ _ _ _ _ us hl => match us, hl with | [_, _, _, _], _ => rfl)
theorem bd_l_value : BdT "_law_value" "_law_value" s_l_value ["_law_system", "_law_stand_here", "_law_hand", "_law_other", "_law_term_here"] := (fun _ _ _ _ _ _ us hl => match us, hl with | [_, _, _, _, _], _ => rfl)
theorem bd_l_holds : BdT "_law_holds" "_law_holds" s_l_holds ["_law_system", "_law_stand_here", "_law_hand", "_law_other", "_law_claim_here"] := (fun _ _ _ _ _ _ us hl => match us, hl with | [_, _, _, _, _], _ => rfl)
theorem bd_l_rule_at : BdT "_law_rule_at" "_law_rule_at" s_l_rule_at ["_law_system", "_law_stand_here", "_law_hand"] := (fun _ _ _ _ _ _ us hl => match us, hl with | [_, _, _], _ => rfl)
theorem bd_l_ready : BdT "_law_ready" "_law_ready" s_l_ready ["_law_system", "_law_stand_here"] := (fun _ _ _ _ _ _ us hl => match us, hl with | [_, _], _ => rfl)
theorem bd_l_behind : BdT "_law_behind" "_law_behind" s_l_behind ["_law_system", "_law_stand_here", "_law_hands"] := (fun _ _ _ _ _ _ us hl => match us, hl with | [_, _, _], _ => rfl)
theorem bd_l_right : BdT "_law_right" "_law_right" s_l_right ["_law_system", "_law_goal", "_law_stand_here"] := (fun _ _ _ _ _ _ us hl => match us, hl with | [_, _, _], _ => rfl)
theorem bd_l_let : BdT "_law_let" "_law_let" s_l_let ["_law_which", "_law_system", "_law_thing"] := (fun _ _ _ _ _ _ us hl => match us, hl with | [_, _, _], _ => rfl)
theorem bd_l_share : BdT "_law_share" "_law_share" s_l_share ["_law_system", "_law_shares", "_law_stand_here", "_law_hand"] := (fun _ _ _ _ _ _ us hl => match us, hl with | [_, _, _, _], _ => rfl)
theorem bd_l_total : BdT "_law_total" "_law_total" s_l_total ["_law_system", "_law_shares", "_law_stand_here"] := (fun _ _ _ _ _ _ us hl => match us, hl with | [_, _, _], _ => rfl)
theorem bd_l_any_system : BdT "_law_any_system" "_law_any_system" s_l_any_system ["_law_feed_here", "_law_eyes", "_law_most"] := (fun _ _ _ _ _ _ us hl => match us, hl with | [_, _, _], _ => rfl)
theorem bd_l_sums : BdT "_law_sums" "_law_sums" s_l_sums ["_law_feed_here", "_law_told"] := (fun _ _ _ _ _ _ us hl => match us, hl with | [_, _], _ => rfl)
theorem bd_l_stand : BdT "_law_stand" "_law_stand" s_l_stand ["_law_feed_here", "_law_system"] := (fun _ _ _ _ _ _ us hl => match us, hl with | [_, _], _ => rfl)
theorem bd_l_run_right : BdT "_law_run_right" "_law_run_right" s_l_run_right ["_law_feed_here", "_law_system", "_law_shares"] := (fun _ _ _ _ _ _ us hl => match us, hl with | [_, _, _], _ => rfl)
theorem bd_l_ends_right : BdT "_law_ends_right" "_law_ends_right" s_l_ends_right ["_law_feed_here", "_law_system", "_law_goal", "_law_claim_here"] := (fun _ _ _ _ _ _ us hl => match us, hl with | [_, _, _, _], _ => rfl)
theorem bd_l_settled_right : BdT "_law_settled_right" "_law_settled_right" s_l_settled_right ["_law_feed_here", "_law_system", "_law_goal", "_law_told"] := (fun _ _ _ _ _ _ us hl => match us, hl with | [_, _, _, _], _ => rfl)
theorem bd_law : BdT "law" "law" s_law ["_law_script"] := (fun _ _ _ _ _ _ us hl => match us, hl with | [_], _ => rfl)
theorem bd_Sight_over_others : BdT "over_others" "Sight.over_others" s_over ["self"] := (fun _ _ _ _ _ _ us hl => match us, hl with | [_], _ => rfl)
theorem bd_Sight_plain : BdT "plain" "Sight.plain" s_Sight_plain ["self", "term"] := (fun _ _ _ _ _ _ us hl => match us, hl with | [_, _], _ => rfl)
theorem bd_Sight_by_eye : BdT "by_eye" "Sight.by_eye" s_Sight_by_eye ["self", "place", "box"] := (fun _ _ _ _ _ _ us hl => match us, hl with | [_, _, _], _ => rfl)
theorem bd_Sight_reckoned : BdT "reckoned" "Sight.reckoned" s_Sight_reckoned ["self", "term"] := (fun _ _ _ _ _ _ us hl => match us, hl with | [_, _], _ => rfl)
theorem bd_Sight_number_at : BdT "number_at" "Sight.number_at" s_Sight_number_at ["self", "term"] := (fun _ _ _ _ _ _ us hl => match us, hl with | [_, _], _ => rfl)
theorem bd_Sight_is_so : BdT "is_so" "Sight.is_so" s_Sight_is_so ["self", "claim"] := (fun _ _ _ _ _ _ us hl => match us, hl with | [_, _], _ => rfl)
theorem bd_Sight_init : BdT "__init__" "Sight.__init__" s_init ["self", "eyes", "stand", "hand", "other"] := (fun _ _ _ _ _ _ us hl => match us, hl with | [_, _, _, _, _], _ => rfl)
theorem bd_NoPaper_init : BdT "__init__" "NoPaper.__init__" s_NoPaper_init ["self", "word", "number"] := (fun _ _ _ _ _ _ us hl => match us, hl with | [_, _, _], _ => rfl)
theorem bd_TooMany_init : BdT "__init__" "TooMany.__init__" s_TooMany_init ["self", "word"] := (fun _ _ _ _ _ _ us hl => match us, hl with | [_, _], _ => rfl)
section
variable {K : PySem.W.Frag} {w : World} {h : Heap} {mg : Str → Option Value} {ts : List He.Tab}
abbrev tbs : List He.Tab := [(fun K => He.ga K "TERM", ["num", "own", "eye", "me", "plus", "less", "rest", "least", "most", "many", "if", "its", "it"]), (fun K => He.ga K "CLAIM", ["yes", "like", "below", "not", "and", "or"])]
theorem bi_of (X : K.In h) (G : h.Ns mainGlobals mg) (c : He.SaysD fa fn K) : Bi mg :=
  ⟨He.free_ok X G (c.fact 71 rfl), He.free_ok X G (c.fact 72 rfl), He.free_ok X G (c.fact 73 rfl), He.free_ok X G (c.fact 74 rfl), He.free_ok X G (c.fact 75 rfl), He.free_ok X G (c.fact 76 rfl), He.free_ok X G (c.fact 77 rfl), He.free_ok X G (c.fact 78 rfl), He.free_ok X G (c.fact 79 rfl), He.free_ok X G (c.fact 80 rfl), He.free_ok X G (c.fact 81 rfl), He.free_ok X G (c.fact 82 rfl), He.free_ok X G (c.fact 83 rfl), He.free_ok X G (c.fact 84 rfl), He.free_ok X G (c.fact 85 rfl), He.free_ok X G (c.fact 86 rfl), He.free_ok X G (c.fact 87 rfl), He.free_ok X G (c.fact 88 rfl)⟩
theorem sit_of (X : K.In h) (G : h.Ns mainGlobals mg) (c : He.SaysD fa fn K) : SiT K mg (He.ga K "Sight") (He.ma K (He.ga K "Sight") "__init__") :=
  ⟨He.cls_ok (c.fact 89 rfl), He.noat_ok (c.fact 91 rfl), He.noat_ok (c.fact 92 rfl), He.noat_ok (c.fact 93 rfl), He.noat_ok (c.fact 94 rfl), He.mkr_ok (c.fact 90 rfl), He.glo_ok X G (c.fact 65 rfl)⟩
theorem sim_of (c : He.SaysD fa fn K) : SiM K (He.ga K "Sight") (He.ma K (He.ga K "Sight") "__init__") :=
  ⟨in_of c 71 rfl bd_Sight_init, mo_of c 65 95 rfl rfl bd_Sight_over_others, mo_of c 66 96 rfl rfl bd_Sight_plain, mo_of c 67 97 rfl rfl bd_Sight_by_eye, mo_of c 68 98 rfl rfl bd_Sight_reckoned, mo_of c 69 99 rfl rfl bd_Sight_number_at, mo_of c 70 100 rfl rfl bd_Sight_is_so⟩
theorem allT_of (X : K.In h) (G : h.Ns mainGlobals mg) (ct : He.SaysT fa fn tbs w K) (cx : ex K = true) : AllT K w mg (He.ga K "Sight") (He.ma K (He.ga K "Sight") "__init__") (He.ga K "NoPaper") (He.ga K "TooMany") (He.ma K (He.ga K "NoPaper") "__init__") (He.ma K (He.ga K "TooMany") "__init__") (He.ga K "RightError") (.type "type") := by
  have d : He.SaysD fa fn K := ct.d
  obtain ⟨cG, m1⟩ := He.ba cx
  obtain ⟨cT, m2⟩ := He.ba m1
  obtain ⟨cR, m3⟩ := He.ba m2
  obtain ⟨cN, cM⟩ := He.ba m3
  obtain ⟨mk1, mk2, mk3⟩ := mk_of X G cG
  have tt : TabD K w mg "TERM" true := by
    obtain ⟨es, n, hd⟩ := ct.tab 0 rfl
    exact ⟨_, es, n, He.glo_ok X G (d.fact 69 rfl), hd, exT_t cT⟩
  have tc : TabD K w mg "CLAIM" false := by
    obtain ⟨es, n, hd⟩ := ct.tab 1 rfl
    exact ⟨_, es, n, He.glo_ok X G (d.fact 70 rfl), hd, exT_f cT⟩
  obtain ⟨fdN, hN, bN⟩ := in_of d 72 rfl bd_NoPaper_init
  obtain ⟨fdT, hT, bT⟩ := in_of d 73 rfl bd_TooMany_init
  exact {
    bi := bi_of X G d
    si := sit_of X G d
    sm := sim_of d
    tm := ⟨gd_of X G cG 0 rfl, gd_of X G cG 1 rfl, gd_of X G cG 2 rfl, gd_of X G cG 3 rfl, gd_of X G cG 4 rfl, gd_of X G cG 5 rfl, tt, tc⟩
    lk := mk1
    fl := mk2
    mkk := mk3
    re := reB_ok (He.glo_ok X G (d.fact 68 rfl)) cR
    np := erB_ok (He.glo_ok X G (d.fact 66 rfl)) cN (He.noat_ok (d.fact 104 rfl)) (He.noat_ok (d.fact 105 rfl))
    tmy := erB_ok (He.glo_ok X G (d.fact 67 rfl)) cM (He.noat_ok (d.fact 106 rfl)) (He.noat_ok (d.fact 107 rfl))
    ex := ⟨He.exm_ok (d.fact 101 rfl), He.exm_ok (d.fact 102 rfl), He.exm_ok (d.fact 103 rfl)⟩
    ini := ⟨fdN, fdT, hN, bN, hT, bT⟩
    d_value_at := df_of X G d 0 0 rfl rfl bd_value_at
    d_holds_at := df_of X G d 1 1 rfl rfl bd_holds_at
    d_value_by := df_of X G d 2 2 rfl rfl bd_value_by
    d_is_whole := df_of X G d 3 3 rfl rfl bd_is_whole
    d_seen_by := df_of X G d 4 4 rfl rfl bd_seen_by
    d_bounds_of := df_of X G d 5 5 rfl rfl bd_bounds_of
    d_forms_behind := df_of X G d 6 6 rfl rfl bd_forms_behind
    d_parts_by := df_of X G d 7 7 rfl rfl bd_parts_by
    d_may_stand := df_of X G d 8 8 rfl rfl bd_may_stand
    d_fits := df_of X G d 9 9 rfl rfl bd_fits
    d_is_term := df_of X G d 10 10 rfl rfl bd_is_term
    d_is_claim := df_of X G d 11 11 rfl rfl bd_is_claim
    d_is_inner := df_of X G d 12 12 rfl rfl bd_is_inner
    d_rule_at := df_of X G d 13 13 rfl rfl bd_rule_at
    d_ready_hands := df_of X G d 14 14 rfl rfl bd_ready_hands
    d_boxes_behind := df_of X G d 15 15 rfl rfl bd_boxes_behind
    d_ask_acting := df_of X G d 16 16 rfl rfl bd_ask_acting
    d_acted := df_of X G d 17 17 rfl rfl bd_acted
    d_has_word := df_of X G d 18 18 rfl rfl bd_has_word
    d_is_pair := df_of X G d 19 19 rfl rfl bd_is_pair
    d_is_shares := df_of X G d 20 20 rfl rfl bd_is_shares
    d_is_sum := df_of X G d 21 21 rfl rfl bd_is_sum
    d_is_settled := df_of X G d 22 22 rfl rfl bd_is_settled
    d_share_at := df_of X G d 23 23 rfl rfl bd_share_at
    d_sum_at := df_of X G d 24 24 rfl rfl bd_sum_at
    d_around_hand := df_of X G d 25 25 rfl rfl bd_around_hand
    d_fillings_of := df_of X G d 26 26 rfl rfl bd_fillings_of
    d_all_boxes := df_of X G d 27 27 rfl rfl bd_all_boxes
    d_filled_stands := df_of X G d 28 28 rfl rfl bd_filled_stands
    d_nought_stand := df_of X G d 29 29 rfl rfl bd_nought_stand
    d_part_sum := df_of X G d 30 30 rfl rfl bd_part_sum
    d_falls_there := df_of X G d 31 31 rfl rfl bd_falls_there
    d_ask_sum := df_of X G d 32 32 rfl rfl bd_ask_sum
    d_lets_sum := df_of X G d 33 33 rfl rfl bd_lets_sum
    d_ask_settled := df_of X G d 34 34 rfl rfl bd_ask_settled
    d_lets_settled := df_of X G d 35 35 rfl rfl bd_lets_settled
    d_least_free := df_of X G d 36 36 rfl rfl bd_least_free
    d_hues_system := df_of X G d 37 37 rfl rfl bd_hues_system
    d_posts_system := df_of X G d 38 38 rfl rfl bd_posts_system
    d_hues_sum := df_of X G d 39 39 rfl rfl bd_hues_sum
    d_hues_settled := df_of X G d 40 40 rfl rfl bd_hues_settled
    d_posts_sum := df_of X G d 41 41 rfl rfl bd_posts_sum
    d_posts_settled := df_of X G d 42 42 rfl rfl bd_posts_settled
    d_l_feed := df_of X G d 43 43 rfl rfl bd_l_feed
    d_l_draw := df_of X G d 44 44 rfl rfl bd_l_draw
    d_l_wide_eyes := df_of X G d 45 45 rfl rfl bd_l_wide_eyes
    d_l_leaf := df_of X G d 46 46 rfl rfl bd_l_leaf
    d_l_term := df_of X G d 47 47 rfl rfl bd_l_term
    d_l_claim := df_of X G d 48 48 rfl rfl bd_l_claim
    d_l_value := df_of X G d 49 49 rfl rfl bd_l_value
    d_l_holds := df_of X G d 50 50 rfl rfl bd_l_holds
    d_l_rule_at := df_of X G d 51 51 rfl rfl bd_l_rule_at
    d_l_ready := df_of X G d 52 52 rfl rfl bd_l_ready
    d_l_behind := df_of X G d 53 53 rfl rfl bd_l_behind
    d_l_right := df_of X G d 54 54 rfl rfl bd_l_right
    d_l_let := df_of X G d 55 55 rfl rfl bd_l_let
    d_l_share := df_of X G d 56 56 rfl rfl bd_l_share
    d_l_total := df_of X G d 57 57 rfl rfl bd_l_total
    d_l_any_system := df_of X G d 58 58 rfl rfl bd_l_any_system
    d_l_sums := df_of X G d 59 59 rfl rfl bd_l_sums
    d_l_stand := df_of X G d 60 60 rfl rfl bd_l_stand
    d_l_run_right := df_of X G d 61 61 rfl rfl bd_l_run_right
    d_l_ends_right := df_of X G d 62 62 rfl rfl bd_l_ends_right
    d_l_settled_right := df_of X G d 63 63 rfl rfl bd_l_settled_right
    d_law := df_of X G d 64 64 rfl rfl bd_law }
end
end K9
end
section
set_option maxHeartbeats 0
/-! K9HG: the head's run. -/
namespace K9
open PySem PySem.Spec PyProof.Rows L2
def nm0 : List PySem.Str := ["RightError", "NoStep", "NoPaper", "TooMany", "Sight", "value_at", "holds_at", "value_by", "is_whole", "seen_by", "MOST_IN_ONE", "MOST_DEEP", "MOST_NUMBER", "MOST_EYE", "MOST_REST", "LOOKS", "TERM", "CLAIM", "bounds_of", "forms_behind"]
def nm1 : List PySem.Str := ["parts_by", "may_stand", "fits", "is_term", "is_claim", "is_inner", "rule_at", "ready_hands", "boxes_behind", "ask_acting", "acted", "LOOKING", "has_word", "is_pair", "is_shares", "is_sum", "is_settled", "share_at", "sum_at", "MOST_FILLINGS"]
def nm2 : List PySem.Str := ["around_hand", "fillings_of", "all_boxes", "filled_stands", "nought_stand", "part_sum", "falls_there", "ask_sum", "lets_sum", "ask_settled", "lets_settled", "NOUGHT", "UNIT", "OWN", "ITS", "LIKE_OWN", "ALIKE", "NONE_ALIKE", "POSTS", "NO_POSTS"]
def nm3 : List PySem.Str := ["AT_POST", "POSTED", "least_free", "hues_system", "posts_system", "hues_sum", "hues_settled", "posts_sum", "posts_settled", "_law_feed", "_law_draw", "_law_wide_eyes", "_law_leaf", "_law_term", "_law_claim", "_law_value", "_law_holds", "_law_rule_at", "_law_ready", "_law_behind"]
def nm4 : List PySem.Str := ["_law_right", "_law_let", "_law_share", "_law_total", "_law_any_system", "_law_sums", "_law_stand", "_law_run_right", "_law_ends_right", "_law_settled_right"]
def names : List PySem.Str := nm0 ++ nm1 ++ nm2 ++ nm3 ++ nm4
abbrev R : PySem.W.OpenRow := PySem.W.OpenLaw.row PySem.Challenge.rw_selfrights_k94_whole_sums_on_any_web
/-- what an object leads on to: items, a function's code, a class's table and line -/
def onTo (o : Obj) : List Addr := match o.data with
  | .seq its _ => its.toList.flatMap He.refV
  | .dict es _ => es.toList.flatMap fun e => He.refV e.val
  | .func fd => He.refV fd.code
  | .cls cd => cd.ns :: cd.mro.flatMap He.refV
  | _ => []
def onAll (g : Addr → Option Obj) (as : List Addr) : List Addr := as.flatMap fun a => match g a with
  | some o => onTo o
  | none => []
/-- .. in so many steps (twice met stands twice: it costs less than looking) -/
def comes (g : Addr → Option Obj) : Nat → List Addr → List Addr
  | 0, as => as
  | n + 1, as => as ++ comes g n (onAll g as)
/-- what the module's names lead to, and the statics' table (a class's attributes are looked for there too) -/
def kOf (g : Addr → Option Obj) : PySem.W.Frag := He.frG g (cStatics :: comes g 4 [mainGlobals])
def obK (g : Addr → Option Obj) : He.AlX := (He.obsT fa fn tbs (kOf g), ex (kOf g))
def hk : PySem.W.Hook where
  α := He.AlX
  obs := fun s => obK s.heap.get?
  val := fun w => He.valX fn tbs w
  says := fun w h => ∃ K : PySem.W.Frag, K.In h ∧ (He.SaysT fa fn tbs w K ∧ ex K = true)
  of := fun _ _ e => ⟨_, He.frG_in, congrArg (fun z : He.AlX => z.1) e, congrArg (fun z : He.AlX => z.2) e⟩
  keeps := fun w h1 h2 ⟨K, kin, c1, c2⟩ kp => ⟨K, PySem.W.Frag.In.keeps kin kp, c1, c2⟩
def ob (s : PySem.W.SharedT) : He.AlX := obK (HandSHeadRun.getT s)
theorem ob_eq (s : PySem.W.SharedT) : ob s = hk.obs s.abs := by
  show obK (HandSHeadRun.getT s) = obK s.abs.heap.get?
  rw [show HandSHeadRun.getT s = s.abs.heap.get? from funext fun a => HandSHeadRun.getT_eq s a]
abbrev Pp (w : World) : Prop := HandSHeadRun.RunEq R (PySem.W.view R.prog [100]) hk ob 5000 names w
theorem run0 (w : World) : Pp (w.withFollow "special-get-raises" false) := by
  intro os
  kernel_rfl
theorem run1 (w : World) : Pp (w.withFollow "special-get-raises" true) := by
  intro os
  kernel_rfl
theorem run (w : World) : Pp w := PySem.W.byRow2 "special-get-raises" (P := Pp) run0 run1 w
end K9
end
section
set_option maxHeartbeats 0
/-! K9HI: the end. -/
namespace K9
open PySem PySem.Spec PyProof.Rows L2
theorem lawFacts {P : Program} {w : World} {K : PySem.W.Frag} {h : Heap} {mg : Str → Option Value} {f : Addr} (X : K.In h) (G : h.Ns mainGlobals mg) (hfa : mg ("law" : Str) = some (.ref f)) (ct : He.SaysT fa fn tbs w K) (cx : ex K = true) :
    ∃ fd : FuncData, (∀ (s : Shared) (v : Value), BindsTo s fd ⟨[v], []⟩ [("_law_script", v)]) ∧ ∀ base : Heap, K.In base → base.Ns mainGlobals mg → FnOk P w K mg base CX0 40 f fd ["_law_script"] (spLaw K) := by
  have A := allT_of X G ct cx
  obtain ⟨fd, F⟩ := ct.d.def_ 64 (d := dd_law) rfl
  have F2 : Fun K "law" "law" s_law (He.ga K "law") fd := fun_of F
  have e := hfa.symm.trans (He.glo_ok X G (ct.d.fact 64 (f := .glo "law") rfl))
  cases e
  have b := FunD.bindsA (ps := ["_law_script"]) F bd_law
  refine ⟨fd, fun s v => b s [v] rfl, fun base _ _ => ?_⟩
  obtain ⟨f3, fd3, g3, F3, o3⟩ := all_ok (P := P) (base := base) A
  have z := hfa.symm.trans g3
  cases z
  obtain ⟨_, _, _, _, _, _, _, _, _, _, l2, _⟩ := F2.ex
  obtain ⟨_, _, _, _, _, _, _, _, _, _, l3, _⟩ := F3.ex
  have y := l2.symm.trans l3
  cases y
  exact o3
end K9
open PySem PySem.W PySem.Calls PyProof.Rows
theorem PySem.Challenge.cw_selfrights_k94_whole_sums_on_any_web_holds : PySem.Challenge.rw_selfrights_k94_whole_sums_on_any_web.Holds := by
  w_on; o_law
  refine HandSHeadRun.head_any (r := OpenLaw.row PySem.Challenge.rw_selfrights_k94_whole_sums_on_any_web) (q := view (OpenLaw.row PySem.Challenge.rw_selfrights_k94_whole_sums_on_any_web).prog [100]) (H := K9.hk) (ob := K9.ob) (M := 5000) (loose := K9.names) (d := HandSHeadRun.topDef (OpenLaw.row PySem.Challenge.rw_selfrights_k94_whole_sums_on_any_web).prog 100) (kwd := []) K9.ob_eq
    (by kernel_rfl) (fun s => by kernel_rfl) K9.run (by kernel_rfl) (by kernel_rfl) (by kernel_rfl) (by rfl) (by first | assumption | decide +kernel) (by decide +kernel) ⟨rfl, rfl, rfl, rfl, rfl, by decide +kernel⟩ ?hw ?hc
  case hw => w_witness2
  case hc =>
    refine L2.walk_ofE (l := PySem.Challenge.rw_selfrights_k94_whole_sums_on_any_web) (n := 63) (k := 40) (x := "_law_script") (CX := L2.CX0) rfl (by decide) (by kernel_rfl) ⟨rfl, by decide, by decide⟩ ?F (fun _ _ _ _ z => z)
    intro w mg fa h Y G hmg0
    obtain ⟨K, KX, c1, c2⟩ := Y
    have hmg : mg ("law" : PySem.Str) = some (.ref fa) := by
      have e : (HandSHeadRun.topDef (OpenLaw.row PySem.Challenge.rw_selfrights_k94_whole_sums_on_any_web).prog 100).name = ("law" : PySem.Str) := by kernel_rfl
      rw [← e]
      exact hmg0
    obtain ⟨fd, hb, hF⟩ := K9.lawFacts (P := (PySem.Challenge.rw_selfrights_k94_whole_sums_on_any_web).prog) (w := w) KX G hmg c1 c2
    exact ⟨K, fd, K9.spLaw K, KX, hb, fun H a ns hl _ hS => ⟨a, ns, rfl, hS, fun _ => rfl⟩, hF⟩
end
