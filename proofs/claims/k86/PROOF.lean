import PyProof.Rows.All
import Wide.All
import OpenK.AllK
import Wide.FinOn
import HandS.ForMost
import HandS.ForExc
import HandS.FStr
import HandS.ReplaceList
import HandS.Replace
import HandS.IsInst
import HandS.Wide
import HandS.SortInts
import HandS.Conv
import HandS.TryMany
import HandS.DictTup
import HandS.TupLen
import HandS.Flow
import HandS.Style
import HandS.StrMore
import HandS.StrSplit
import HandS.Codes
import HandS.Small
import HandS.More
import HandS.RaiseMore
import HandS.ReplaceLit
import HandS.ReplaceDef
import HandS.Walk
import PySem.Challenge.RW_skeinwood_k86_shelves_written
set_option Elab.async false
set_option linter.all false
set_option maxRecDepth 100000
set_option maxHeartbeats 4000000

/-! Trees of pieces: the plain mathematics, no program in sight. -/
namespace Sk

inductive Tr where
  | lf (l : List Nat)
  | fk (a b : Tr)
  deriving DecidableEq

namespace Tr
def txt : Tr → List Nat
  | lf l => l
  | fk a b => a.txt ++ b.txt
def sg : Tr → Nat
  | lf l => l.length
  | fk a b => a.sg + b.sg
def en : Tr → Nat
  | lf l => l.count 10
  | fk a b => a.en + b.en
def lv : Tr → Nat
  | lf _ => 1
  | fk a b => a.lv + b.lv
def ht : Tr → Nat
  | lf _ => 0
  | fk a b => 1 + max a.ht b.ht
def fi : Tr → Tr
  | lf l => lf l
  | fk a _ => a.fi
def la : Tr → Tr
  | lf l => lf l
  | fk _ b => b.la
def sz : Tr → Nat
  | lf _ => 1
  | fk a b => 1 + a.sz + b.sz
end Tr
open Tr

def plainC (c : Nat) : Prop := (32 ≤ c ∧ c ≤ 126) ∨ c = 10
instance (c : Nat) : Decidable (plainC c) := by unfold plainC; infer_instance
def Plain (l : List Nat) : Prop := ∀ c ∈ l, plainC c
instance (l : List Nat) : Decidable (Plain l) := by unfold Plain; infer_instance

def mostSg : Nat := 1000000000000000000

def Ok : Tr → Prop
  | lf l => 1 ≤ l.length ∧ l.length ≤ 8 ∧ Plain l
  | fk a b => Ok a ∧ Ok b ∧ a.ht ≤ b.ht + 1 ∧ b.ht ≤ a.ht + 1 ∧ 8 < a.la.sg + b.fi.sg ∧ a.sg + b.sg ≤ mostSg

@[simp] theorem sg_txt : ∀ t : Tr, t.txt.length = t.sg
  | lf l => rfl
  | fk a b => by simp [Tr.txt, Tr.sg, sg_txt a, sg_txt b]
theorem en_txt : ∀ t : Tr, t.txt.count 10 = t.en
  | lf l => rfl
  | fk a b => by simp [Tr.txt, Tr.en, en_txt a, en_txt b]
theorem fi_leaf : ∀ t : Tr, ∃ l, t.fi = lf l
  | lf l => ⟨l, rfl⟩
  | fk a b => fi_leaf a
theorem la_leaf : ∀ t : Tr, ∃ l, t.la = lf l
  | lf l => ⟨l, rfl⟩
  | fk a b => la_leaf b
theorem Ok.fi : ∀ {t : Tr}, Ok t → Ok t.fi
  | lf l, h => h
  | fk a b, h => Ok.fi (t := a) h.1
theorem Ok.la : ∀ {t : Tr}, Ok t → Ok t.la
  | lf l, h => h
  | fk a b, h => Ok.la (t := b) h.2.1
theorem Ok.plain : ∀ {t : Tr}, Ok t → Plain t.txt
  | lf l, h => h.2.2
  | fk a b, h => by
    intro c hc
    rcases List.mem_append.mp hc with hc | hc
    · exact Ok.plain (t := a) h.1 c hc
    · exact Ok.plain (t := b) h.2.1 c hc
theorem Ok.pos : ∀ {t : Tr}, Ok t → 1 ≤ t.sg
  | lf l, h => h.1
  | fk a b, h => by have := Ok.pos (t := a) h.1; show 1 ≤ a.sg + b.sg; omega
theorem Ok.most : ∀ {t : Tr}, Ok t → t.sg ≤ mostSg
  | lf l, h => by have := h.2.1; show l.length ≤ mostSg; unfold mostSg; omega
  | fk a b, h => h.2.2.2.2.2
theorem fi_sg_le : ∀ t : Tr, t.fi.sg ≤ t.sg
  | lf l => Nat.le_refl _
  | fk a b => by have := fi_sg_le a; show a.fi.sg ≤ a.sg + b.sg; omega
theorem la_sg_le : ∀ t : Tr, t.la.sg ≤ t.sg
  | lf l => Nat.le_refl _
  | fk a b => by have := la_sg_le b; show b.la.sg ≤ a.sg + b.sg; omega
theorem ht_lf {l : List Nat} : (lf l).ht = 0 := rfl
theorem ht_fk {a b : Tr} : (fk a b).ht = 1 + max a.ht b.ht := rfl
theorem ht_pos {t : Tr} (h : t.ht ≠ 0) : ∃ a b, t = fk a b := by
  cases t with
  | lf l => exact absurd rfl h
  | fk a b => exact ⟨a, b, rfl⟩
theorem ht_zero {t : Tr} (h : t.ht = 0) : ∃ l, t = lf l := by
  cases t with
  | lf l => exact ⟨l, rfl⟩
  | fk a b => rw [ht_fk] at h; omega
theorem fi_fi : ∀ t : Tr, t.fi.fi = t.fi
  | lf l => rfl
  | fk a b => fi_fi a
theorem la_la : ∀ t : Tr, t.la.la = t.la
  | lf l => rfl
  | fk a b => la_la b

/-! ### the functions of stage 6 -/
def turnedR (a b : Tr) : Tr := match b with
  | fk inner outer => if inner.ht ≤ outer.ht then fk (fk a inner) outer else match inner with
    | fk l r => fk (fk a l) (fk r outer)
    | lf _ => fk a b
  | lf _ => fk a b
def turnedL (a b : Tr) : Tr := match a with
  | fk outer inner => if inner.ht ≤ outer.ht then fk outer (fk inner b) else match inner with
    | fk l r => fk (fk outer l) (fk r b)
    | lf _ => fk a b
  | lf _ => fk a b
def levelled (a b : Tr) : Tr :=
  if a.ht + 1 < b.ht then turnedR a b else if b.ht + 1 < a.ht then turnedL a b else fk a b
/-- how many forks are asked for -/
def clev (a b : Tr) : Nat := if a.ht + 1 < b.ht then 3 else if b.ht + 1 < a.ht then 3 else 1

def linkedF : Nat → Tr → Tr → Tr
  | 0, a, b => fk a b
  | n + 1, a, b =>
    if b.ht + 1 < a.ht then match a with
      | fk f l => levelled f (linkedF n l b)
      | lf _ => fk a b
    else if a.ht + 1 < b.ht then match b with
      | fk f l => levelled (linkedF n a f) l
      | lf _ => fk a b
    else fk a b
def linked (a b : Tr) : Tr := linkedF (a.ht + b.ht) a b
def clinkF : Nat → Tr → Tr → Nat
  | 0, _, _ => 1
  | n + 1, a, b =>
    if b.ht + 1 < a.ht then match a with
      | fk f l => clinkF n l b + clev f (linkedF n l b)
      | lf _ => 1
    else if a.ht + 1 < b.ht then match b with
      | fk f l => clinkF n a f + clev (linkedF n a f) l
      | lf _ => 1
    else 1
def clink (a b : Tr) : Nat := clinkF (a.ht + b.ht) a b

theorem linkedF_L {n : Nat} {f l b : Tr} (e : b.ht + 1 < (fk f l).ht) : linkedF (n + 1) (fk f l) b = levelled f (linkedF n l b) := by
  show (if b.ht + 1 < (fk f l).ht then _ else _) = _
  exact if_pos e
theorem clinkF_L {n : Nat} {f l b : Tr} (e : b.ht + 1 < (fk f l).ht) : clinkF (n + 1) (fk f l) b = clinkF n l b + clev f (linkedF n l b) := by
  show (if b.ht + 1 < (fk f l).ht then _ else _) = _
  exact if_pos e
theorem linkedF_R {n : Nat} {a f l : Tr} (e : a.ht + 1 < (fk f l).ht) : linkedF (n + 1) a (fk f l) = levelled (linkedF n a f) l := by
  rw [linkedF.eq_def]
  simp only
  rw [if_neg (by omega), if_pos e]
theorem clinkF_R {n : Nat} {a f l : Tr} (e : a.ht + 1 < (fk f l).ht) : clinkF (n + 1) a (fk f l) = clinkF n a f + clev (linkedF n a f) l := by
  rw [clinkF.eq_def]
  simp only
  rw [if_neg (by omega), if_pos e]
theorem linkedF_M {n : Nat} {a b : Tr} (e1 : ¬ b.ht + 1 < a.ht) (e2 : ¬ a.ht + 1 < b.ht) : linkedF n a b = fk a b := by
  cases n with
  | zero => rfl
  | succ n => rw [linkedF.eq_def]; simp only; rw [if_neg e1, if_neg e2]
theorem clinkF_M {n : Nat} {a b : Tr} (e1 : ¬ b.ht + 1 < a.ht) (e2 : ¬ a.ht + 1 < b.ht) : clinkF n a b = 1 := by
  cases n with
  | zero => rfl
  | succ n => rw [clinkF.eq_def]; simp only; rw [if_neg e1, if_neg e2]
theorem linkedF_more : ∀ (n m : Nat) (a b : Tr), a.ht + b.ht ≤ n → a.ht + b.ht ≤ m → linkedF n a b = linkedF m a b ∧ clinkF n a b = clinkF m a b := by
  intro n
  induction n with
  | zero =>
    intro m a b h1 h2
    have e1 : ¬ b.ht + 1 < a.ht := by omega
    have e2 : ¬ a.ht + 1 < b.ht := by omega
    rw [linkedF_M e1 e2, linkedF_M e1 e2, clinkF_M e1 e2, clinkF_M e1 e2]
    exact ⟨rfl, rfl⟩
  | succ n ih =>
    intro m a b h1 h2
    by_cases e1 : b.ht + 1 < a.ht
    · cases m with
      | zero => omega
      | succ m =>
        cases a with
        | lf l => rw [ht_lf] at e1; omega
        | fk f l =>
          have k : (fk f l).ht = 1 + max f.ht l.ht := rfl
          have := ih m l b (by omega) (by omega)
          rw [linkedF_L e1, linkedF_L e1, clinkF_L e1, clinkF_L e1, this.1, this.2]
          exact ⟨rfl, rfl⟩
    · by_cases e2 : a.ht + 1 < b.ht
      · cases m with
        | zero => omega
        | succ m =>
          cases b with
          | lf l => rw [ht_lf] at e2; omega
          | fk f l =>
            have k : (fk f l).ht = 1 + max f.ht l.ht := rfl
            have := ih m a f (by omega) (by omega)
            rw [linkedF_R e2, linkedF_R e2, clinkF_R e2, clinkF_R e2, this.1, this.2]
            exact ⟨rfl, rfl⟩
      · rw [linkedF_M e1 e2, linkedF_M e1 e2, clinkF_M e1 e2, clinkF_M e1 e2]
        exact ⟨rfl, rfl⟩

theorem linked_left {f l b : Tr} (h : b.ht + 1 < (fk f l).ht) : linked (fk f l) b = levelled f (linked l b) ∧ clink (fk f l) b = clink l b + clev f (linked l b) := by
  unfold linked clink
  have e : (fk f l).ht = 1 + max f.ht l.ht := rfl
  obtain ⟨m, hm⟩ : ∃ m, (fk f l).ht + b.ht = m + 1 := ⟨(fk f l).ht + b.ht - 1, by omega⟩
  have := linkedF_more m (l.ht + b.ht) l b (by omega) (Nat.le_refl _)
  rw [hm, linkedF_L h, clinkF_L h, this.1, this.2]
  exact ⟨rfl, rfl⟩
theorem linked_right {a f l : Tr} (h : a.ht + 1 < (fk f l).ht) : linked a (fk f l) = levelled (linked a f) l ∧ clink a (fk f l) = clink a f + clev (linked a f) l := by
  unfold linked clink
  have e : (fk f l).ht = 1 + max f.ht l.ht := rfl
  obtain ⟨m, hm⟩ : ∃ m, a.ht + (fk f l).ht = m + 1 := ⟨a.ht + (fk f l).ht - 1, by omega⟩
  have := linkedF_more m (a.ht + f.ht) a f (by omega) (Nat.le_refl _)
  rw [hm, linkedF_R h, clinkF_R h, this.1, this.2]
  exact ⟨rfl, rfl⟩
theorem linked_mid {a b : Tr} (h1 : ¬ b.ht + 1 < a.ht) (h2 : ¬ a.ht + 1 < b.ht) : linked a b = fk a b ∧ clink a b = 1 :=
  ⟨linkedF_M h1 h2, clinkF_M h1 h2⟩
theorem turnedR_hi {a inner outer : Tr} (h : inner.ht ≤ outer.ht) : turnedR a (fk inner outer) = fk (fk a inner) outer := by simp [turnedR, h]
theorem turnedR_lo {a l r outer : Tr} (h : ¬ (fk l r).ht ≤ outer.ht) : turnedR a (fk (fk l r) outer) = fk (fk a l) (fk r outer) := by simp [turnedR, h]
theorem turnedL_hi {b inner outer : Tr} (h : inner.ht ≤ outer.ht) : turnedL (fk outer inner) b = fk outer (fk inner b) := by simp [turnedL, h]
theorem turnedL_lo {b l r outer : Tr} (h : ¬ (fk l r).ht ≤ outer.ht) : turnedL (fk outer (fk l r)) b = fk (fk outer l) (fk r b) := by simp [turnedL, h]

/-- what is needed of two texts that are put together -/
structure Jn (a b : Tr) : Prop where
  oa : Ok a
  ob : Ok b
  cl : 8 < a.la.sg + b.fi.sg
  sg : a.sg + b.sg ≤ mostSg

theorem fkOk {a b : Tr} (j : Jn a b) (h1 : a.ht ≤ b.ht + 1) (h2 : b.ht ≤ a.ht + 1) : Ok (fk a b) := ⟨j.oa, j.ob, h1, h2, j.cl, j.sg⟩

structure LevOk (a b t : Tr) (lo hi : Nat) : Prop where
  ok : Ok t
  tx : t.txt = a.txt ++ b.txt
  fi : t.fi = a.fi
  la : t.la = b.la
  lo : lo ≤ t.ht
  hi : t.ht ≤ hi
theorem LevOk.sg {a b t : Tr} {lo hi : Nat} (h : LevOk a b t lo hi) : t.sg = a.sg + b.sg := by
  rw [← sg_txt t, h.tx, List.length_append, sg_txt, sg_txt]

theorem levelled_ok {a b : Tr} (j : Jn a b) (h1 : a.ht ≤ b.ht + 2) (h2 : b.ht ≤ a.ht + 2) : LevOk a b (levelled a b) (max a.ht b.ht) (max a.ht b.ht + 1) := by
  obtain ⟨oa, ob, cl, sg⟩ := j
  unfold levelled
  by_cases e1 : a.ht + 1 < b.ht
  · rw [if_pos e1]
    cases b with
    | lf l => rw [ht_lf] at e1; omega
    | fk inner outer =>
      obtain ⟨oi, oo, l1, l2, c2, s2⟩ := id ob
      have eb : (fk inner outer).ht = 1 + max inner.ht outer.ht := rfl
      have es : (fk inner outer).sg = inner.sg + outer.sg := rfl
      have ef : (fk inner outer).fi = inner.fi := rfl
      rw [ef] at cl
      by_cases e2 : inner.ht ≤ outer.ht
      · rw [turnedR_hi e2]
        have k1 : (fk a inner).ht = 1 + max a.ht inner.ht := rfl
        have k2 : (fk (fk a inner) outer).ht = 1 + max (fk a inner).ht outer.ht := rfl
        refine ⟨⟨⟨oa, oi, ?_, ?_, cl, ?_⟩, oo, ?_, ?_, c2, ?_⟩, ?_, rfl, rfl, ?_, ?_⟩
        all_goals first | omega | skip
        · show a.sg + inner.sg + outer.sg ≤ mostSg; omega
        · show (a.txt ++ inner.txt) ++ outer.txt = a.txt ++ (inner.txt ++ outer.txt)
          rw [List.append_assoc]
      · cases inner with
        | lf l => rw [ht_lf] at e2; omega
        | fk l r =>
          rw [turnedR_lo e2]
          obtain ⟨ol, or_, m1, m2, c3, s3⟩ := id oi
          have ei : (fk l r).ht = 1 + max l.ht r.ht := rfl
          have ei' : (fk l r).sg = l.sg + r.sg := rfl
          have ef' : (fk l r).fi = l.fi := rfl
          have el' : (fk l r).la = r.la := rfl
          rw [ef'] at cl
          rw [el'] at c2
          have k1 : (fk a l).ht = 1 + max a.ht l.ht := rfl
          have k2 : (fk r outer).ht = 1 + max r.ht outer.ht := rfl
          have k3 : (fk (fk a l) (fk r outer)).ht = 1 + max (fk a l).ht (fk r outer).ht := rfl
          refine ⟨⟨⟨oa, ol, ?_, ?_, cl, ?_⟩, ⟨or_, oo, ?_, ?_, c2, ?_⟩, ?_, ?_, c3, ?_⟩, ?_, rfl, rfl, ?_, ?_⟩
          all_goals first | omega | skip
          · show a.sg + l.sg + (r.sg + outer.sg) ≤ mostSg; omega
          · show (a.txt ++ l.txt) ++ (r.txt ++ outer.txt) = a.txt ++ ((l.txt ++ r.txt) ++ outer.txt)
            simp only [List.append_assoc]
  · rw [if_neg e1]
    by_cases e3 : b.ht + 1 < a.ht
    · rw [if_pos e3]
      cases a with
      | lf l => rw [ht_lf] at e3; omega
      | fk outer inner =>
        obtain ⟨oo, oi, l1, l2, c2, s2⟩ := id oa
        have eb : (fk outer inner).ht = 1 + max outer.ht inner.ht := rfl
        have es : (fk outer inner).sg = outer.sg + inner.sg := rfl
        have ef : (fk outer inner).la = inner.la := rfl
        rw [ef] at cl
        by_cases e2 : inner.ht ≤ outer.ht
        · rw [turnedL_hi e2]
          have k1 : (fk inner b).ht = 1 + max inner.ht b.ht := rfl
          have k2 : (fk outer (fk inner b)).ht = 1 + max outer.ht (fk inner b).ht := rfl
          refine ⟨⟨oo, ⟨oi, ob, ?_, ?_, cl, ?_⟩, ?_, ?_, c2, ?_⟩, ?_, rfl, rfl, ?_, ?_⟩
          all_goals first | omega | skip
          · show outer.sg + (inner.sg + b.sg) ≤ mostSg; omega
          · show outer.txt ++ (inner.txt ++ b.txt) = (outer.txt ++ inner.txt) ++ b.txt
            rw [List.append_assoc]
        · cases inner with
          | lf l => rw [ht_lf] at e2; omega
          | fk l r =>
            rw [turnedL_lo e2]
            obtain ⟨ol, or_, m1, m2, c3, s3⟩ := id oi
            have ei : (fk l r).ht = 1 + max l.ht r.ht := rfl
            have ei' : (fk l r).sg = l.sg + r.sg := rfl
            have ef' : (fk l r).fi = l.fi := rfl
            have el' : (fk l r).la = r.la := rfl
            rw [el'] at cl
            rw [ef'] at c2
            have k1 : (fk outer l).ht = 1 + max outer.ht l.ht := rfl
            have k2 : (fk r b).ht = 1 + max r.ht b.ht := rfl
            have k3 : (fk (fk outer l) (fk r b)).ht = 1 + max (fk outer l).ht (fk r b).ht := rfl
            refine ⟨⟨⟨oo, ol, ?_, ?_, c2, ?_⟩, ⟨or_, ob, ?_, ?_, cl, ?_⟩, ?_, ?_, c3, ?_⟩, ?_, rfl, rfl, ?_, ?_⟩
            all_goals first | omega | skip
            · show outer.sg + l.sg + (r.sg + b.sg) ≤ mostSg; omega
            · show (outer.txt ++ l.txt) ++ (r.txt ++ b.txt) = (outer.txt ++ (l.txt ++ r.txt)) ++ b.txt
              simp only [List.append_assoc]
    · rw [if_neg e3]
      have k : (fk a b).ht = 1 + max a.ht b.ht := rfl
      exact ⟨⟨oa, ob, by omega, by omega, cl, sg⟩, rfl, rfl, rfl, by omega, by omega⟩

theorem levelled_mid {a b : Tr} (h1 : a.ht ≤ b.ht + 1) (h2 : b.ht ≤ a.ht + 1) : levelled a b = fk a b := by
  unfold levelled
  rw [if_neg (by omega), if_neg (by omega)]
theorem linked_ok : ∀ (n : Nat) {a b : Tr}, a.ht + b.ht ≤ n → Jn a b → LevOk a b (linked a b) (max a.ht b.ht) (max a.ht b.ht + 1) := by
  intro n
  induction n with
  | zero =>
    intro a b hn j
    rw [(linked_mid (a := a) (b := b) (by omega) (by omega)).1]
    have k : (fk a b).ht = 1 + max a.ht b.ht := rfl
    exact ⟨⟨j.oa, j.ob, by omega, by omega, j.cl, j.sg⟩, rfl, rfl, rfl, by omega, by omega⟩
  | succ n ih =>
    intro a b hn j
    by_cases e1 : b.ht + 1 < a.ht
    · cases a with
      | lf l => rw [ht_lf] at e1; omega
      | fk f l =>
        obtain ⟨of, ol, l1, l2, c2, s2⟩ := j.oa
        have ea : (fk f l).ht = 1 + max f.ht l.ht := rfl
        have es : (fk f l).sg = f.sg + l.sg := rfl
        have sg := j.sg
        rw [(linked_left e1).1]
        have r := ih (a := l) (b := b) (by omega) ⟨ol, j.ob, j.cl, by omega⟩
        have rs := r.sg
        have lo := r.lo
        have hi := r.hi
        have q := levelled_ok (a := f) (b := linked l b) ⟨of, r.ok, by rw [r.fi]; exact c2, by omega⟩ (by omega) (by omega)
        have qlo := q.lo
        have qhi := q.hi
        refine ⟨q.ok, by rw [q.tx, r.tx]; exact (List.append_assoc _ _ _).symm, q.fi, q.la.trans r.la, ?_, by omega⟩
        by_cases x : (linked l b).ht ≤ f.ht + 1
        · have k : (fk f (linked l b)).ht = 1 + max f.ht (linked l b).ht := rfl
          rw [levelled_mid (by omega) x]; omega
        · omega
    · by_cases e2 : a.ht + 1 < b.ht
      · cases b with
        | lf l => rw [ht_lf] at e2; omega
        | fk f l =>
          obtain ⟨of, ol, l1, l2, c2, s2⟩ := j.ob
          have ea : (fk f l).ht = 1 + max f.ht l.ht := rfl
          have es : (fk f l).sg = f.sg + l.sg := rfl
          have sg := j.sg
          rw [(linked_right e2).1]
          have r := ih (a := a) (b := f) (by omega) ⟨j.oa, of, j.cl, by omega⟩
          have rs := r.sg
          have lo := r.lo
          have hi := r.hi
          have q := levelled_ok (a := linked a f) (b := l) ⟨r.ok, ol, by rw [r.la]; exact c2, by omega⟩ (by omega) (by omega)
          have qlo := q.lo
          have qhi := q.hi
          refine ⟨q.ok, by rw [q.tx, r.tx]; exact List.append_assoc _ _ _, q.fi.trans r.fi, q.la, ?_, by omega⟩
          by_cases x : (linked a f).ht ≤ l.ht + 1
          · have k : (fk (linked a f) l).ht = 1 + max (linked a f).ht l.ht := rfl
            rw [levelled_mid x (by omega)]; omega
          · omega
      · rw [(linked_mid (a := a) (b := b) e1 e2).1]
        have k : (fk a b).ht = 1 + max a.ht b.ht := rfl
        exact ⟨⟨j.oa, j.ob, by omega, by omega, j.cl, j.sg⟩, rfl, rfl, rfl, by omega, by omega⟩
theorem Jn.linked {a b : Tr} (j : Jn a b) : LevOk a b (linked a b) (max a.ht b.ht) (max a.ht b.ht + 1) := linked_ok _ (Nat.le_refl _) j
end Sk

/-! Steps of a reading, each with what follows as its last premise; the shelf in the heap. -/
namespace Sk
open PySem PySem.Spec PyProof.Rows L2

/-! ### exceptions of our own classes -/
section
variable {X : Cx} {C : Addr} {x : Str} {p pos : Pos}
/-- X(), an own class of ValueError's without an __init__ -/
theorem pmk_own0 {bmB : List Value} {B newId initId : String} (F : ExcBaseFacts B newId initId bmB) (q : PySem.W.excIn X.K C bmB newId = true) (gC : X.mg x = some (.ref C)) (kC : PySem.W.keepIn X.K (.ref C) = true)
    (r : Raises X (.ref C)) (hg : Gl X x) (hdb : (x == ("__debug__" : Str)) = false := by decide) :
    PMk X (.Call (.Name x p) [] [] pos) (fun _ H Q => Q (.ref C) none H) := fun pins s σ H Q I h => by
  refine wpAny_Call_Name_kw (ld_glob I hg gC ?_ hdb)
  refine PySem.W.callWith_K0 I.kIn kC ?_
  obtain ⟨bm, N, nm, qn, bs, hdct, sn, sub, ab, col, dd, k0, k1, k2, k3, k5, mN, hC, hN, hni, T⟩ := exc_obj I.kIn q
  exact wpAny_call_exc_subT F T hC hN hni (fun h' e hm => mk_of I hm r h (I.hok.gone hm.new)) (Nat.zero_le _)
end
/-- what the text's top has made of an own error class -/
structure ExTx (K : PySem.W.Frag) (mg : Str → Option Value) (x : Str) (C : Addr) : Prop where
  g : mg x = some (.ref C)
  x : PySem.W.excIn K C [.type "ValueError", .type "Exception", .type "BaseException", .type "object"] "ValueError.__new__" = true
  k : PySem.W.keepIn K (.ref C) = true
  b : PySem.W.subIn K (.ref C) (.type "BaseException") = some true
  t : PySem.W.typeIn K (.ref C) = some (.type "type")
theorem ps_raise0 {X : Cx} {W : WX} {C : Addr} {x : Str} {p pos pos2 : Pos} (hc : X.calm = true) (T : ExTx X.K X.mg x C) (tk : Takes X W) (hg : Gl X x) (hdb : (x == ("__debug__" : Str)) = false := by decide) :
    PS X (.Raise (some (.Call (.Name x p) [] [] pos)) none pos2) (fun _ σ H => W (.ref C) none σ H) :=
  ps_raise hc tk (pmk_own0 PySem.F.excBase_ValueError T.x T.g T.k (raises_own T.b T.t) hg hdb)

/-! ### built-in names -/
theorem bt_len : bootBuiltins "len" = some (.builtin "len") := by first | exact PySem.boot_len | exact PyProof.Rows.boot_len | exact PySem.W.boot_len
theorem bt_max : bootBuiltins "max" = some (.builtin "max") := by first | exact PySem.boot_max | exact PyProof.Rows.boot_max | exact PySem.W.boot_max
theorem bt_min : bootBuiltins "min" = some (.builtin "min") := by first | exact PySem.boot_min | exact PyProof.Rows.boot_min | exact PySem.W.boot_min
theorem bt_range : bootBuiltins "range" = some (.type "range") := by first | exact PySem.boot_range | exact PyProof.Rows.boot_range | exact PySem.W.boot_range
theorem bt_isinstance : bootBuiltins "isinstance" = some (.builtin "isinstance") := by first | exact PySem.boot_isinstance | exact PyProof.Rows.boot_isinstance | exact PySem.W.boot_isinstance
theorem bt_all : bootBuiltins "all" = some (.builtin "all") := by first | exact PySem.boot_all | exact PyProof.Rows.boot_all | exact PySem.W.boot_all
theorem bt_any : bootBuiltins "any" = some (.builtin "any") := by first | exact PySem.boot_any | exact PyProof.Rows.boot_any | exact PySem.W.boot_any
theorem bt_sum : bootBuiltins "sum" = some (.builtin "sum") := by first | exact PySem.boot_sum | exact PyProof.Rows.boot_sum | exact PySem.W.boot_sum
theorem bt_sorted : bootBuiltins "sorted" = some (.builtin "sorted") := by first | exact PySem.boot_sorted | exact PyProof.Rows.boot_sorted | exact PySem.W.boot_sorted
theorem bt_list : bootBuiltins "list" = some (.type "list") := by first | exact PySem.boot_list | exact PyProof.Rows.boot_list | exact PySem.W.boot_list
theorem bt_dict : bootBuiltins "dict" = some (.type "dict") := by first | exact PySem.boot_dict | exact PyProof.Rows.boot_dict | exact PySem.W.boot_dict
theorem bt_str : bootBuiltins "str" = some (.type "str") := by first | exact PySem.boot_str | exact PyProof.Rows.boot_str | exact PySem.W.boot_str
theorem bt_int : bootBuiltins "int" = some (.type "int") := by first | exact PySem.boot_int | exact PyProof.Rows.boot_int | exact PySem.W.boot_int
theorem bt_zip : bootBuiltins "zip" = some (.type "zip") := by first | exact PySem.boot_zip | exact PyProof.Rows.boot_zip | exact PySem.W.boot_zip
theorem bt_enumerate : bootBuiltins "enumerate" = some (.type "enumerate") := by first | exact PySem.boot_enumerate | exact PyProof.Rows.boot_enumerate | exact PySem.W.boot_enumerate
theorem bt_reversed : bootBuiltins "reversed" = some (.type "reversed") := by first | exact PySem.boot_reversed | exact PyProof.Rows.boot_reversed | exact PySem.W.boot_reversed
theorem bt_abs : bootBuiltins "abs" = some (.builtin "abs") := by first | exact PySem.boot_abs | exact PyProof.Rows.boot_abs | exact PySem.W.boot_abs
theorem bt_tuple : bootBuiltins "tuple" = some (.type "tuple") := by first | exact PySem.boot_tuple | exact PyProof.Rows.boot_tuple | exact PySem.W.boot_tuple
theorem bt_bool : bootBuiltins "bool" = some (.type "bool") := by first | exact PySem.boot_bool | exact PyProof.Rows.boot_bool | exact PySem.W.boot_bool
/-! ### constants of the text -/
def KInt (mg : Str → Option Value) (x : Str) (i : Int) : Prop := ∃ t, mg x = some (.int i t)
def KStr (mg : Str → Option Value) (x : Str) (y : Str) : Prop := ∃ t, mg x = some (.str y t)
theorem pe_kint {X : Cx} {x : Str} {i : Int} {pos : Pos} (h : KInt X.mg x i) (g : Gl X x) (hd : (x == ("__debug__" : Str)) = false := by decide) : PE X (.Name x pos) (tC (.int i)) := by
  obtain ⟨t, e⟩ := h
  exact pe_glob (hd := hd) g e ⟨t, rfl⟩
theorem pe_kstr {X : Cx} {x : Str} {y : Str} {pos : Pos} (h : KStr X.mg x y) (g : Gl X x) (hd : (x == ("__debug__" : Str)) = false := by decide) : PE X (.Name x pos) (tC (.str y)) := by
  obtain ⟨t, e⟩ := h
  exact pe_glob (hd := hd) g e ⟨t, rfl⟩
/-! ### steps -/
section
variable {K : PySem.W.Frag} {σ : L2.St} {H H1 : Hp} {Q : VK} {D : Ends} {ta tb tc : TE} {t u : TS} {r r' : R2}
theorem w_var {i : Nat} {v : V} (h : σ[i]? = some (some v)) (k : Q v H) : tVar i σ H Q := ⟨v, h, k⟩
theorem w_c {v : V} (k : Q v H) : tC v σ H Q := k
theorem w_op (k : ta σ H fun x H1 => tb σ H1 fun y H2 => r x y H2 Q) : tOp r ta tb σ H Q := k
theorem w_un {r : V → Hp → VK → Prop} (k : ta σ H fun x H1 => r x H1 Q) : tUn r ta σ H Q := k
theorem w_chain (k : ta σ H fun x H1 => tb σ H1 fun y H2 => r x y H2 fun z H3 => ∃ k, z = .bl k ∧ (if k = true then tc σ H3 fun w H4 => r' y w H4 Q else Q (.bl false) H3)) : tChain r r' ta tb tc σ H Q := k
theorem w_rI0 {g : Int → Int → V} {i j : Int} (k : Q (g i j) H) : rI0 g (.int i) (.int j) H Q := ⟨i, j, rfl, rfl, k⟩
theorem w_rI {C : Int → Int → Prop} {g : Int → Int → V} {i j : Int} (c : C i j) (k : Q (g i j) H) : rI C g (.int i) (.int j) H Q := ⟨i, j, rfl, rfl, c, k⟩
theorem w_rU {g : Int → V} {i : Int} (k : Q (g i) H) : rU g (.int i) H Q := ⟨i, rfl, k⟩
theorem dI {i j : Int} : decide (V.int i = V.int j) = decide (i = j) := by
  by_cases h : i = j
  · subst h; simp
  · rw [decide_eq_false h, decide_eq_false (fun e => h (V.int.inj e))]
theorem dS {i j : Str} : decide (V.str i = V.str j) = decide (i = j) := by
  by_cases h : i = j
  · subst h; simp
  · rw [decide_eq_false h, decide_eq_false (fun e => h (V.str.inj e))]
theorem dB {i j : Bool} : decide (V.bl i = V.bl j) = decide (i = j) := by cases i <;> cases j <;> rfl
theorem w_eqI {i j : Int} (k : Q (.bl (decide (i = j))) H) : rEq (.int i) (.int j) H Q := ⟨rfl, by rw [dI]; exact k⟩
theorem w_eqS {i j : Str} (k : Q (.bl (decide (i = j))) H) : rEq (.str i) (.str j) H Q := ⟨rfl, by rw [dS]; exact k⟩
theorem w_eqB {i j : Bool} (k : Q (.bl (decide (i = j))) H) : rEq (.bl i) (.bl j) H Q := ⟨rfl, by rw [dB]; exact k⟩
theorem w_neI {i j : Int} (k : Q (.bl (decide (¬ i = j))) H) : rNe (.int i) (.int j) H Q := ⟨rfl, by rw [dI, ← decide_not]; exact k⟩
theorem w_neS {i j : Str} (k : Q (.bl (decide (¬ i = j))) H) : rNe (.str i) (.str j) H Q := ⟨rfl, by rw [dS, ← decide_not]; exact k⟩
theorem w_neB {i j : Bool} (k : Q (.bl (decide (¬ i = j))) H) : rNe (.bl i) (.bl j) H Q := ⟨rfl, by rw [dB, ← decide_not]; exact k⟩
theorem w_bl {R : Bool → Prop} {b : Bool} (k : R b) : ∃ c, V.bl b = .bl c ∧ R c := ⟨b, rfl, k⟩
theorem w_test {Q : Bool → Hp → Prop} {t : TE} (k : t σ H fun x H' => ∃ k, x = .bl k ∧ Q k H') : tTest t σ H Q := k
theorem w_tB {Q : Bool → Hp → Prop} {t : TE} (k : t σ H fun x H' => ∃ k, x = .bl k ∧ Q k H') : tB t σ H Q := k
theorem w_tAnd {Q : Bool → Hp → Prop} {t u : TT} (k : t σ H fun c H1 => if c = true then u σ H1 Q else Q false H1) : tAnd t u σ H Q := k
theorem w_tOr {Q : Bool → Hp → Prop} {t u : TT} (k : t σ H fun c H1 => if c = true then Q true H1 else u σ H1 Q) : tOr t u σ H Q := k
theorem w_tNot {Q : Bool → Hp → Prop} {t : TT} (k : t σ H fun c H1 => Q (!c) H1) : tNot t σ H Q := k
theorem w_tAndV (k : ta σ H fun x H1 => ∃ c, x = .bl c ∧ if c = true then tb σ H1 Q else Q (.bl false) H1) : tAndV ta tb σ H Q := k
theorem w_tOrV (k : ta σ H fun x H1 => ∃ c, x = .bl c ∧ if c = true then Q (.bl true) H1 else tb σ H1 Q) : tOrV ta tb σ H Q := k
theorem w_tNotV (k : ta σ H fun x H1 => ∃ c, x = .bl c ∧ Q (.bl (!c)) H1) : tNotV ta σ H Q := k
theorem w_tIf {c : TT} (k : c σ H fun b H1 => if b = true then ta σ H1 Q else tb σ H1 Q) : tIf c ta tb σ H Q := k
theorem w_seq (k : t { D with nx := u D } σ H) : tSeq t u D σ H := k
theorem w_next (k : D.nx σ H) : tNext D σ H := k
theorem w_drop (k : ta σ H fun _ H1 => D.nx σ H1) : tDrop ta D σ H := k
theorem w_ret (k : ta σ H D.rt) : tRet ta D σ H := k
theorem w_retN (k : D.rt .non H) : tRetN D σ H := k
theorem w_ifS {c : TT} (k : c σ H fun b H1 => if b = true then t D σ H1 else u D σ H1) : tIfS c t u D σ H := k
theorem w_asg {g : TG} (k : ta σ H fun x H1 => g x σ H1 D.nx) : tAsg ta g D σ H := k
theorem w_varx {i : Nat} (k : ∃ v, σ[i]? = some (some v) ∧ Q v H) : tVar i σ H Q := k
theorem w_for {wi : TI} {g : TG} (k : wi σ H fun J H1 => ∃ W : Nat → Nat → L2.St → Hp → Prop, (∃ m, W 0 m σ H1) ∧ ∀ i m σ H, W i m σ H →
  (J.stop i H ∧ D.nx σ H) ∨ (J.go i H ∧ ∃ N : L2.St → Hp → Prop, (∀ σ' H', N σ' H' → ∃ m', m' < m ∧ W (i + 1) m' σ' H') ∧ ∀ x H', J.yld i H x H' → g x σ H' fun σ2 H2 => t { D with nx := N, ct := N, bk := D.nx } σ2 H2)) : tFor wi g t D σ H := k
theorem w_rng3 {ts : TA} {R : It → Hp → Prop} (k : ts σ H fun vs H1 => ∃ (i j c : Int) (n : Nat), vs = [.int i, .int j, .int c] ∧ RgC i j c n ∧ R (Itc i c n) H1) : iRng3 ts σ H R := k
theorem w_rng1 {ts : TA} {R : It → Hp → Prop} (k : ts σ H fun vs H1 => ∃ j : Int, vs = [.int j] ∧ -(2 ^ 62) ≤ j ∧ j < 2 ^ 62 ∧ R (Itr 0 j.toNat) H1) : iRng1 ts σ H R := k
theorem w_rng2 {ts : TA} {R : It → Hp → Prop} (k : ts σ H fun vs H1 => ∃ i j : Int, vs = [.int i, .int j] ∧ (-(2 ^ 62) ≤ i ∧ i < 2 ^ 62 ∧ -(2 ^ 62) ≤ j ∧ j < 2 ^ 62) ∧ R (Itr i (j - i).toNat) H1) : iRng2 ts σ H R := k
theorem w_ilist {R : It → Hp → Prop} (k : ta σ H fun x H1 => ∃ a, x = .ref a ∧ (∃ xs, SqL K H1 a xs) ∧ R (Itl K a) H1) : iList K ta σ H R := k
theorem w_istr {R : It → Hp → Prop} (k : ta σ H fun v H1 => ∃ x, v = .str x ∧ R (Its x) H1) : iStr ta σ H R := k
theorem w_lc {wi : TI} {g : TG} {tt : TT} {vs : List Nat} (k : wi σ H fun J H1 => ∀ D, H1 D = none → ∃ W : Nat → Nat → Hp → Prop, (∃ m, W 0 m (upd H1 D (.lst []))) ∧ ∀ i m H, W i m H →
  (J.stop i H ∧ Q (.ref D) H) ∨ (J.go i H ∧ ∃ Nx : Hp → Prop, (∀ H', Nx H' → ∃ m', m' < m ∧ W (i + 1) m' H') ∧ ∀ x H', J.yld i H x H' → g x (wipe σ vs) H' fun σ2 H2 => wipe σ2 vs = wipe σ vs ∧ tt σ2 H2 fun b H3 =>
    if b = true then ta σ2 H3 fun y H4 => ∃ acc, H4 D = some (.lst acc) ∧ acc.length < sizeLine ∧ Nx (upd H4 D (.lst (acc ++ [y]))) else Nx H3)) : tLc wi g tt ta vs σ H Q := k
theorem w_sl {r : V → Option Int → Option Int → Hp → VK → Prop} {tl th : TO} (k : ta σ H fun x H1 => tl σ H1 fun l H2 => th σ H2 fun u H3 => r x l u H3 Q) : tSl r ta tl th σ H Q := k
theorem w_part {Q : Option Int → Hp → Prop} (k : ta σ H fun x H1 => ∃ i, x = .int i ∧ Q (some i) H1) : tPart ta σ H Q := k
theorem w_nop {Q : Option Int → Hp → Prop} (k : Q none H) : tNoPart σ H Q := k
theorem w_gname {i : Nat} {v : V} {Q : L2.St → Hp → Prop} (k : Q (σ.set i (some v)) H) : gName i v σ H Q := k
theorem w_yes {Q : Bool → Hp → Prop} (k : Q true H) : tYes σ H Q := k
theorem w_nil {Q : List V → Hp → Prop} (k : Q [] H) : tNil σ H Q := k
theorem w_cons {Q : List V → Hp → Prop} {ts : TA} (k : ta σ H fun x H1 => ts σ H1 fun xs H2 => Q (x :: xs) H2) : tCons ta ts σ H Q := k
theorem w_call {sp : Sp} {dvs : List V} {E : XK} {ts : TA} (k : ts σ H fun vs H1 => sp (vs ++ dvs) H1 Q E) : tCall sp dvs E ts σ H Q := k
theorem w_callS {sp : Sp} {E : L2.St → XK} {ts : TA} (k : ts σ H fun vs H1 => sp vs H1 Q (E σ)) : tCallS sp E ts σ H Q := k
theorem w_cb {ts : TA} {r : List V → Hp → VK → Prop} (k : ts σ H fun vs H1 => r vs H1 Q) : tCB r ts σ H Q := k
theorem w_meth {C : Addr} {m : Str} {sp : Sp} {dvs : List V} {E : XK} {ts : TA} (k : ta σ H fun x H1 => ∃ a dx fs, x = .ref a ∧ H1 a = some (.ins C dx fs) ∧ fs.lookup m = none ∧ ts σ H1 fun vs H2 => sp (x :: (vs ++ dvs)) H2 Q E) :
    tMeth C m sp dvs E ta ts σ H Q := k
theorem w_make {C : Addr} {sp : Sp} {dvs : List V} {E : XK} {ts : TA} (k : ts σ H fun vs H1 => ∀ x dx, H1 x = none → H1 dx = none → dx ≠ x → sp (.ref x :: (vs ++ dvs)) (upd (upd H1 dx (.own x)) x (.ins C dx [])) (fun v H2 => v = .non ∧ Q (.ref x) H2) E) : tMake C sp dvs E ts σ H Q := k
theorem w_fld {f : Str} (k : ta σ H fun x H1 => ∃ a C dx fs v, x = .ref a ∧ H1 a = some (.ins C dx fs) ∧ Cls K C ∧ NoAttr K C f ∧ fs.lookup f = some v ∧ Q v H1) : tFld K ta f σ H Q := k
theorem w_bm {T : String} {r : V → List V → Hp → VK → Prop} {ts : TA} (k : ta σ H fun x H1 => tyV K T x H1 ∧ ts σ H1 fun xs H2 => r x xs H2 Q) : tBM K T r ta ts σ H Q := k
theorem w_bm0 {T : String} {r : V → List V → Hp → VK → Prop} (k : ta σ H fun x H1 => tyV K T x H1 ∧ r x [] H1 Q) : tBM0 K T r ta σ H Q := k
theorem w_lst {ts : TA} (k : ts σ H fun xs H1 => xs.length ≤ sizeLine ∧ ∀ p, H1 p = none → Q (.ref p) (upd H1 p (.lst xs))) : tLst ts σ H Q := k
theorem w_tup {ts : TA} (k : ts σ H fun xs H1 => xs.length ≤ sizeLine ∧ ∀ p, H1 p = none → Q (.ref p) (upd H1 p (.tup xs))) : tTup ts σ H Q := k
/-- a new object is forgotten but for what it holds -/
theorem w_new {o : HO} {P : Addr → Hp → Prop} (k : ∀ p H', H p = none → Same H H' → H' p = some o → P p H') : ∀ p, H p = none → P p (upd H p o) :=
  fun p hp => k p _ hp (fun b o' e => by rw [upd_ne (ne_of_none e hp)]; exact e) upd_same
theorem w_mkl {xs : List V} {P : Addr → Hp → Prop} (l : xs.length ≤ sizeLine) (k : ∀ p H', H p = none → Same H H' → H' p = some (.lst xs) → P p H') : xs.length ≤ sizeLine ∧ ∀ p, H p = none → P p (upd H p (.lst xs)) := ⟨l, w_new k⟩
theorem w_mkt {xs : List V} {P : Addr → Hp → Prop} (l : xs.length ≤ sizeLine) (k : ∀ p H', H p = none → Same H H' → H' p = some (.tup xs) → P p H') : xs.length ≤ sizeLine ∧ ∀ p, H p = none → P p (upd H p (.tup xs)) := ⟨l, w_new k⟩
theorem w_ixl {p : Addr} {xs : List V} {i : Int} {v : V} (s : SqL K H p xs) (a : atI xs i = some v) (k : Q v H) : rIxL K (.ref p) (.int i) H Q := ⟨p, xs, i, v, rfl, rfl, s, a, k⟩
theorem w_ixt {p : Addr} {xs : List V} {i : Int} {v : V} (s : SqT K H p xs) (a : atI xs i = some v) (k : Q v H) : rIxT K (.ref p) (.int i) H Q := ⟨p, xs, i, v, rfl, rfl, s, a, k⟩
/-- a, b, .. = a tuple -/
theorem w_gtup {n : Nat} {g : TGs} {a : Addr} {xs : List V} {Q : L2.St → Hp → Prop} (s : SqT K H a xs) (l : xs.length = n) (k : g xs σ H Q) : gTup K n g (.ref a) σ H Q := ⟨a, xs, rfl, s, l, k⟩
theorem w_gcons {v : V} {vs : List V} {g : TG} {gs : TGs} {Q : L2.St → Hp → Prop} (k : g v σ H fun σ' H' => gs vs σ' H' Q) : gCons g gs (v :: vs) σ H Q := ⟨v, vs, rfl, k⟩
theorem w_gnil {Q : L2.St → Hp → Prop} (k : Q σ H) : gNil [] σ H Q := ⟨rfl, k⟩
end
theorem new_of {H : Hp} {p : Addr} {o : HO} (hp : H p = none) : ∃ H', upd H p o = H' ∧ Same H H' ∧ H' p = some o :=
  ⟨_, rfl, fun b o' e => by rw [upd_ne (ne_of_none e hp)]; exact e, upd_same⟩
theorem line_of {n : Nat} {xs : List V} (h : xs.length = n) (l : n ≤ 1000) : xs.length ≤ sizeLine := by rw [sizeLine_eq]; omega
theorem ite_d {p A B : Prop} [Decidable p] (h1 : p → A) (h2 : ¬ p → B) : if decide p = true then A else B := by
  by_cases h : p
  · rw [decide_eq_true h]; exact iteT (h1 h)
  · rw [decide_eq_false h]; exact iteF (h2 h)
theorem ite_n {p A B : Prop} [Decidable p] (h1 : ¬ p → A) (h2 : p → B) : if (!decide p) = true then A else B := by
  by_cases h : p
  · rw [decide_eq_true h]; exact iteF (h2 h)
  · rw [decide_eq_false h]; exact iteT (h1 h)
theorem ite_b {b : Bool} {A B : Prop} (h1 : b = true → A) (h2 : b = false → B) : if b = true then A else B := by
  cases b with
  | true => exact iteT (h1 rfl)
  | false => exact iteF (h2 rfl)

end Sk

namespace Sk
open PySem PySem.Spec PyProof.Rows L2

/-! ### the shelf: its trees, each once, parts first -/
abbrev sT (l : List Nat) : Str := ⟨l.toArray⟩
theorem sT_inj {l m : List Nat} (h : sT l = sT m) : l = m := by
  have := congrArg (fun x : Str => x.cps.toList) h
  simpa using this
theorem sT_len (l : List Nat) : (sT l).length = l.length := by simp [Str.length]
theorem sT_app (l m : List Nat) : sT l ++ sT m = sT (l ++ m) := by
  show Str.append _ _ = _
  unfold Str.append
  simp
def num (S : List Tr) (t : Tr) : Int := (S.idxOf t : Int) + 1
def Nm (S : List Tr) (n : Int) (t : Tr) : Prop := ∃ i : Nat, S[i]? = some t ∧ n = (i : Int) + 1
def Tx (S : List Tr) (n : Int) : Option Tr → Prop
  | none => n = 0
  | some t => Nm S n t
def inR (S : List Tr) (n : Int) : Prop := 0 ≤ n ∧ n ≤ (S.length : Int)
structure Good (S : List Tr) : Prop where
  nd : S.Nodup
  ok : ∀ t ∈ S, Ok t
  pr : ∀ (i : Nat) a b, S[i]? = some (.fk a b) → (∃ j, j < i ∧ S[j]? = some a) ∧ ∃ j, j < i ∧ S[j]? = some b
def put (S : List Tr) (t : Tr) : List Tr := if t ∈ S then S else S ++ [t]
abbrev Ext (S S' : List Tr) : Prop := S <+: S'

theorem getElem?_idxOf {S : List Tr} {t : Tr} (h : t ∈ S) : S[S.idxOf t]? = some t := by
  have := List.idxOf_lt_length_of_mem h
  rw [List.getElem?_eq_getElem this, List.getElem_idxOf]
theorem Nm.mem {S : List Tr} {n : Int} {t : Tr} (h : Nm S n t) : t ∈ S := by
  obtain ⟨i, e, _⟩ := h
  exact List.mem_of_getElem? e
theorem nd_same {S : List Tr} (g : S.Nodup) {i j : Nat} {t : Tr} (h : S[i]? = some t) (h' : S[j]? = some t) : i = j := nd_ix g h h'
theorem Nm.num {S : List Tr} {n : Int} {t : Tr} (h : Nm S n t) (g : S.Nodup) : n = num S t := by
  obtain ⟨i, e, rfl⟩ := h
  have := nd_same g e (getElem?_idxOf (List.mem_of_getElem? e))
  unfold Sk.num
  omega
theorem nm_num {S : List Tr} {t : Tr} (h : t ∈ S) : Nm S (num S t) t := ⟨S.idxOf t, getElem?_idxOf h, rfl⟩
theorem Nm.uni {S : List Tr} {n : Int} {t u : Tr} (h : Nm S n t) (h' : Nm S n u) : t = u := by
  obtain ⟨i, e, rfl⟩ := h
  obtain ⟨j, e', z⟩ := h'
  have : i = j := by omega
  subst this
  rw [e] at e'
  exact Option.some.inj e'
theorem Nm.pos {S : List Tr} {n : Int} {t : Tr} (h : Nm S n t) : 0 < n ∧ n ≤ S.length := by
  obtain ⟨i, e, rfl⟩ := h
  have := (List.getElem?_eq_some_iff.mp e).1
  omega
theorem Nm.of {S : List Tr} {n : Int} (h : 0 < n) (h' : n ≤ S.length) : ∃ t, Nm S n t := by
  have l : n.toNat - 1 < S.length := by omega
  exact ⟨S[n.toNat - 1], n.toNat - 1, List.getElem?_eq_getElem l, by omega⟩
theorem Tx.uni {S : List Tr} {n : Int} {o p : Option Tr} (h : Tx S n o) (h' : Tx S n p) : o = p := by
  cases o with
  | none => cases p with
    | none => rfl
    | some u => have := Nm.pos (show Nm S n u from h'); have : n = 0 := h; omega
  | some t => cases p with
    | none => have := Nm.pos (show Nm S n t from h); have : n = 0 := h'; omega
    | some u => rw [Nm.uni (show Nm S n t from h) h']
theorem Tx.inR {S : List Tr} {n : Int} {o : Option Tr} (h : Tx S n o) : Sk.inR S n := by
  cases o with
  | none => have : n = 0 := h; subst this; exact ⟨Int.le_refl _, by omega⟩
  | some t => have := Nm.pos (show Nm S n t from h); exact ⟨by omega, this.2⟩
theorem Tx.of {S : List Tr} {n : Int} (h : Sk.inR S n) : ∃ o, Tx S n o := by
  by_cases e : n = 0
  · exact ⟨none, e⟩
  · obtain ⟨t, h⟩ := Nm.of (S := S) (n := n) (by have := h.1; omega) h.2
    exact ⟨some t, h⟩
theorem Nm.ext {S S' : List Tr} {n : Int} {t : Tr} (e : Ext S S') (h : Nm S n t) : Nm S' n t := by
  obtain ⟨m, rfl⟩ := e
  obtain ⟨i, e, rfl⟩ := h
  exact ⟨i, by rw [List.getElem?_append_left (List.getElem?_eq_some_iff.mp e).1]; exact e, rfl⟩
theorem Tx.ext {S S' : List Tr} {n : Int} {o : Option Tr} (e : Ext S S') (h : Tx S n o) : Tx S' n o := by
  cases o with
  | none => exact h
  | some t => exact Nm.ext e h
theorem num_ext {S S' : List Tr} {t : Tr} (e : Ext S S') (h : t ∈ S) : num S' t = num S t := by
  obtain ⟨m, rfl⟩ := e
  unfold Sk.num
  rw [List.idxOf_append, if_pos h]
theorem put_mem {S : List Tr} {t : Tr} : t ∈ put S t := by
  unfold put
  split
  · assumption
  · simp
theorem put_ext {S : List Tr} {t : Tr} : Ext S (put S t) := by
  unfold put
  split
  · exact List.prefix_refl _
  · exact List.prefix_append _ _
theorem put_len {S : List Tr} {t : Tr} : (put S t).length ≤ S.length + 1 := by
  unfold put
  split
  · omega
  · simp
theorem put_in {S : List Tr} {t : Tr} (h : t ∈ S) : put S t = S := by unfold put; rw [if_pos h]
theorem put_new {S : List Tr} {t : Tr} (h : t ∉ S) : put S t = S ++ [t] := by unfold put; rw [if_neg h]
theorem Good.parts {S : List Tr} (g : Good S) {a b : Tr} (h : Tr.fk a b ∈ S) : a ∈ S ∧ b ∈ S := by
  obtain ⟨i, e⟩ := List.getElem?_of_mem h
  obtain ⟨⟨j, _, x⟩, ⟨k, _, y⟩⟩ := g.pr i a b e
  exact ⟨List.mem_of_getElem? x, List.mem_of_getElem? y⟩
theorem Good.fi {S : List Tr} (g : Good S) : ∀ {t : Tr}, t ∈ S → t.fi ∈ S
  | .lf l, h => h
  | .fk a b, h => Good.fi (t := a) g (g.parts h).1
theorem Good.la {S : List Tr} (g : Good S) : ∀ {t : Tr}, t ∈ S → t.la ∈ S
  | .lf l, h => h
  | .fk a b, h => Good.la (t := b) g (g.parts h).2
theorem good_nil : Good [] := ⟨List.nodup_nil, fun _ h => (nomatch h), fun i a b h => by simp at h⟩
theorem Good.put {S : List Tr} (g : Good S) {t : Tr} (o : Ok t) (p : ∀ a b, t = .fk a b → a ∈ S ∧ b ∈ S) : Good (put S t) := by
  by_cases h : t ∈ S
  · rw [put_in h]; exact g
  rw [put_new h]
  refine ⟨?_, fun u hu => ?_, fun i a b e => ?_⟩
  · rw [List.nodup_append]
    exact ⟨g.nd, by simp, fun a ha b hb => by
      rw [List.mem_singleton] at hb
      rintro rfl
      exact h (hb ▸ ha)⟩
  · rcases List.mem_append.mp hu with hu | hu
    · exact g.ok u hu
    · rw [List.mem_singleton] at hu; rw [hu]; exact o
  · by_cases l : i < S.length
    · rw [List.getElem?_append_left l] at e
      obtain ⟨⟨j, jl, x⟩, ⟨k, kl, y⟩⟩ := g.pr i a b e
      exact ⟨⟨j, jl, by rw [List.getElem?_append_left (by omega)]; exact x⟩, k, kl, by rw [List.getElem?_append_left (by omega)]; exact y⟩
    · have l2 : i < (S ++ [t]).length := (List.getElem?_eq_some_iff.mp e).1
      have l3 : i = S.length := by simp at l2; omega
      subst l3
      rw [List.getElem?_append_right (Nat.le_refl _)] at e
      simp at e
      obtain ⟨ha, hb⟩ := p a b e
      obtain ⟨j, x⟩ := List.getElem?_of_mem ha
      obtain ⟨k, y⟩ := List.getElem?_of_mem hb
      have jl := (List.getElem?_eq_some_iff.mp x).1
      have kl := (List.getElem?_eq_some_iff.mp y).1
      exact ⟨⟨j, jl, by rw [List.getElem?_append_left jl]; exact x⟩, k, kl, by rw [List.getElem?_append_left kl]; exact y⟩

/-! ### the pieces as Python has them -/
def key (S : List Tr) : Tr → List Key
  | .lf l => [.inr "leaf", .inr (sT l)]
  | .fk a b => [.inr "fork", .inl (num S a), .inl (num S b)]
def pvals (S : List Tr) (t : Tr) : List V := (key S t).map kV
def kvs (S : List Tr) : List (List Key × V) := S.map fun t => (key S t, .int (num S t))
theorem key_fk (S : List Tr) (a b : Tr) : key S (.fk a b) = [.inr "fork", .inl (num S a), .inl (num S b)] := rfl
theorem key_lf (S : List Tr) (l : List Nat) : key S (.lf l) = [.inr "leaf", .inr (sT l)] := rfl
theorem key_ext {S S' : List Tr} (g : Good S) (e : Ext S S') {t : Tr} (h : t ∈ S) : key S' t = key S t := by
  cases t with
  | lf l => rfl
  | fk a b =>
    obtain ⟨ha, hb⟩ := g.parts h
    rw [key_fk, key_fk, num_ext e ha, num_ext e hb]
theorem num_inj {S : List Tr} {t u : Tr} (h : t ∈ S) (h' : u ∈ S) (e : num S t = num S u) : t = u :=
  Nm.uni (nm_num h) (e ▸ nm_num h')
theorem leaf_ne_fork : ¬ (("leaf" : Str) = "fork") := by decide +kernel
/-- equal keys, equal trees: the parts of both on the shelf -/
theorem key_inj {S : List Tr} {t u : Tr} (h : ∀ a b, t = .fk a b → a ∈ S ∧ b ∈ S) (h' : ∀ a b, u = .fk a b → a ∈ S ∧ b ∈ S) (e : key S t = key S u) : t = u := by
  cases t with
  | lf l => cases u with
    | lf m =>
      unfold key at e
      injection e with _ e
      injection e with e _
      rw [sT_inj (Sum.inr.inj e)]
    | fk a b =>
      unfold key at e
      injection e with e _
      exact absurd (Sum.inr.inj e) leaf_ne_fork
  | fk a b => cases u with
    | lf m =>
      unfold key at e
      injection e with e _
      exact absurd (Sum.inr.inj e).symm leaf_ne_fork
    | fk c d =>
      obtain ⟨ha, hb⟩ := h a b rfl
      obtain ⟨hc, hd⟩ := h' c d rfl
      unfold key at e
      injection e with _ e
      injection e with e1 e
      injection e with e2 _
      rw [num_inj ha hc (Sum.inl.inj e1), num_inj hb hd (Sum.inl.inj e2)]
theorem valV_kvs_aux {S : List Tr} {t : Tr} (kt : ∀ a b, t = .fk a b → a ∈ S ∧ b ∈ S) : ∀ L : List Tr, (∀ u ∈ L, ∀ a b, u = .fk a b → a ∈ S ∧ b ∈ S) →
    valV (L.map fun u => (key S u, V.int (num S u))) (key S t) = if t ∈ L then some (.int (num S t)) else none
  | [], _ => rfl
  | u :: L, hL => by
    have ih := valV_kvs_aux kt L fun v hv => hL v (List.mem_cons_of_mem _ hv)
    unfold valV at ih ⊢
    rw [List.map_cons, List.find?_cons]
    by_cases e : key S u = key S t
    · have : u = t := key_inj (hL u List.mem_cons_self) kt e
      subst this
      simp
    · have ne : ¬ t = u := fun z => e (by rw [z])
      simp only [decide_eq_false e]
      rw [ih]
      simp [ne]
theorem valV_kvs {S : List Tr} (g : Good S) {t : Tr} (kt : ∀ a b, t = .fk a b → a ∈ S ∧ b ∈ S) : valV (kvs S) (key S t) = if t ∈ S then some (.int (num S t)) else none :=
  valV_kvs_aux kt S fun u hu a b e => by subst e; exact g.parts hu
theorem kvs_snoc {S : List Tr} (g : Good S) {t : Tr} (h : t ∉ S) (kt : ∀ a b, t = .fk a b → a ∈ S ∧ b ∈ S) : kvs (S ++ [t]) = kvs S ++ [(key S t, .int (S.length + 1))] := by
  have e : Ext S (S ++ [t]) := List.prefix_append _ _
  unfold kvs
  rw [List.map_append]
  congr 1
  · refine List.map_congr_left fun u hu => ?_
    rw [key_ext g e hu, num_ext e hu]
  · have k : key (S ++ [t]) t = key S t := by
      cases t with
      | lf l => rfl
      | fk a b =>
        obtain ⟨ha, hb⟩ := kt a b rfl
        rw [key_fk, key_fk, num_ext e ha, num_ext e hb]
    have z : num (S ++ [t]) t = S.length + 1 := by
      unfold num
      rw [List.idxOf_append, if_neg h]
      simp
    rw [List.map_cons, List.map_nil, k, z]

/-! ### the shelf in the heap -/
structure Cells where
  (a dx pc nb sg en lv ht fi la : Addr)
def Cells.all (c : Cells) : List Addr := [c.a, c.dx, c.pc, c.nb, c.sg, c.en, c.lv, c.ht, c.fi, c.la]
def flds (c : Cells) : List (Str × V) := [("pieces", .ref c.pc), ("numbers", .ref c.nb), ("told_signs", .ref c.sg), ("told_ends", .ref c.en), ("told_leaves", .ref c.lv), ("told_heights", .ref c.ht), ("firsts", .ref c.fi), ("lasts", .ref c.la)]
theorem fl_pieces (c : Cells) : (flds c).lookup ("pieces" : Str) = some (V.ref c.pc) := rfl
theorem fl_numbers (c : Cells) : (flds c).lookup ("numbers" : Str) = some (V.ref c.nb) := rfl
theorem fl_signs (c : Cells) : (flds c).lookup ("told_signs" : Str) = some (V.ref c.sg) := rfl
theorem fl_ends (c : Cells) : (flds c).lookup ("told_ends" : Str) = some (V.ref c.en) := rfl
theorem fl_leaves (c : Cells) : (flds c).lookup ("told_leaves" : Str) = some (V.ref c.lv) := rfl
theorem fl_heights (c : Cells) : (flds c).lookup ("told_heights" : Str) = some (V.ref c.ht) := rfl
theorem fl_firsts (c : Cells) : (flds c).lookup ("firsts" : Str) = some (V.ref c.fi) := rfl
theorem fl_lasts (c : Cells) : (flds c).lookup ("lasts" : Str) = some (V.ref c.la) := rfl
theorem fl_no {c : Cells} {m : Str} (h : (m == "pieces" || m == "numbers" || m == "told_signs" || m == "told_ends" || m == "told_leaves" || m == "told_heights" || m == "firsts" || m == "lasts") = false) : (flds c).lookup m = none := by
  simp only [Bool.or_eq_false_iff] at h
  obtain ⟨⟨⟨⟨⟨⟨⟨h1, h2⟩, h3⟩, h4⟩, h5⟩, h6⟩, h7⟩, h8⟩ := h
  unfold flds
  simp only [List.lookup, h1, h2, h3, h4, h5, h6, h7, h8]

def cap : Nat := 16000000
theorem cap_line : cap < sizeLine := by rw [sizeLine_eq]; decide
structure ShAt (C : Addr) (c : Cells) (H : Hp) (S : List Tr) : Prop where
  ob : H c.a = some (.ins C c.dx (flds c))
  ow : H c.dx = some (.own c.a)
  pc : ∃ rs : List Addr, H c.pc = some (.lst (.non :: rs.map V.ref)) ∧ rs.length = S.length ∧ ∀ (i : Nat) r t, rs[i]? = some r → S[i]? = some t → H r = some (.tup (pvals S t))
  nb : H c.nb = some (.dT (kvs S))
  sg : H c.sg = some (.lst (.int 0 :: S.map fun t => .int t.sg))
  en : H c.en = some (.lst (.int 0 :: S.map fun t => .int t.en))
  lv : H c.lv = some (.lst (.int 0 :: S.map fun t => .int t.lv))
  ht : H c.ht = some (.lst (.int (-1) :: S.map fun t => .int t.ht))
  fi : H c.fi = some (.lst (.int 0 :: S.map fun t => .int (num S t.fi)))
  la : H c.la = some (.lst (.int 0 :: S.map fun t => .int (num S t.la)))
  gd : Good S
  nd : c.all.Nodup
  cp : S.length ≤ cap
/-- all but the shelf's own cells stands -/
def Keep (c : Cells) (H H' : Hp) : Prop := ∀ b o, b ∉ c.all → H b = some o → H' b = some o
theorem Keep.refl (c : Cells) (H : Hp) : Keep c H H := fun _ _ _ h => h
theorem Keep.trans {c : Cells} {H H1 H2 : Hp} (x : Keep c H H1) (y : Keep c H1 H2) : Keep c H H2 := fun b o n h => y b o n (x b o n h)
theorem Keep.of {c : Cells} {H H' : Hp} (s : Same H H') : Keep c H H' := fun b o _ h => s b o h
theorem ShAt.same {C : Addr} {c : Cells} {H H' : Hp} {S : List Tr} (x : ShAt C c H S) (s : Same H H') : ShAt C c H' S :=
  ⟨s _ _ x.ob, s _ _ x.ow, let ⟨rs, h1, h2, h3⟩ := x.pc; ⟨rs, s _ _ h1, h2, fun i r t e1 e2 => s _ _ (h3 i r t e1 e2)⟩, s _ _ x.nb, s _ _ x.sg, s _ _ x.en, s _ _ x.lv, s _ _ x.ht, s _ _ x.fi, s _ _ x.la, x.gd, x.nd, x.cp⟩
theorem ShAt.apart {C : Addr} {c : Cells} {H : Hp} {S : List Tr} (x : ShAt C c H S) {p : Addr} (h : H p = none) : p ∉ c.all := by
  obtain ⟨rs, h1, _⟩ := x.pc
  have f : ∀ {b : Addr} {o : HO}, H b = some o → p ≠ b := fun e => (ne_of_none e h).symm
  simp only [Cells.all, List.mem_cons, List.not_mem_nil, or_false, not_or]
  exact ⟨f x.ob, f x.ow, f h1, f x.nb, f x.sg, f x.en, f x.lv, f x.ht, f x.fi, f x.la⟩
/-- what is no list of the kinds there is apart from the shelf -/
theorem ShAt.apart_tup {C : Addr} {c : Cells} {H : Hp} {S : List Tr} (x : ShAt C c H S) {p : Addr} {xs : List V} (h : H p = some (.tup xs)) : p ∉ c.all := by
  obtain ⟨rs, h1, _⟩ := x.pc
  simp only [Cells.all, List.mem_cons, List.not_mem_nil, or_false, not_or]
  exact ⟨ne_of h x.ob (by intro z; cases z), ne_of h x.ow (by intro z; cases z), ne_of h h1 (by intro z; cases z), ne_of h x.nb (by intro z; cases z), ne_of h x.sg (by intro z; cases z), ne_of h x.en (by intro z; cases z), ne_of h x.lv (by intro z; cases z), ne_of h x.ht (by intro z; cases z), ne_of h x.fi (by intro z; cases z), ne_of h x.la (by intro z; cases z)⟩
/-! reading the told lists -/
theorem atI_tx {S : List Tr} {n : Int} {o : Option Tr} {z : V} {f : Tr → V} (h : Tx S n o) : atI (z :: S.map f) n = some (match o with | none => z | some t => f t) := by
  cases o with
  | none =>
    have : n = 0 := h
    subst this
    exact at_of (j := 0) rfl rfl
  | some t =>
    obtain ⟨i, e, rfl⟩ := (show Nm S n t from h)
    exact at_of (j := i + 1) (by omega) (by rw [List.getElem?_cons_succ, List.getElem?_map, e]; rfl)
theorem atI_nm {S : List Tr} {n : Int} {t : Tr} {z : V} {f : Tr → V} (h : Nm S n t) : atI (z :: S.map f) n = some (f t) := atI_tx (o := some t) h
theorem piece_at {C : Addr} {c : Cells} {H : Hp} {S : List Tr} (x : ShAt C c H S) {n : Int} {t : Tr} (h : Nm S n t) : ∃ xs r, H c.pc = some (.lst xs) ∧ xs.length = S.length + 1 ∧ atI xs n = some (.ref r) ∧ H r = some (.tup (pvals S t)) := by
  obtain ⟨rs, h1, h2, h3⟩ := x.pc
  obtain ⟨i, e, rfl⟩ := h
  have il := (List.getElem?_eq_some_iff.mp e).1
  have er : rs[i]? = some (rs[i]'(by omega)) := List.getElem?_eq_getElem (by omega)
  exact ⟨_, rs[i]'(by omega), h1, by simp [h2], at_of (j := i + 1) (by omega) (by rw [List.getElem?_cons_succ, List.getElem?_map, er]; rfl), h3 i _ t er e⟩

theorem cne {c : Cells} (nd : c.all.Nodup) {i j : Nat} {x y : Addr} (hi : c.all[i]? = some x) (hj : c.all[j]? = some y) (h : i ≠ j) : x ≠ y := fun e => h (nd_ix nd hi (e ▸ hj))
theorem uc {c : Cells} (nd : c.all.Nodup) (i j : Nat) {x y : Addr} {o : HO} {H : Hp} {v : Option HO} (k : H x = v) (hi : c.all[i]? = some x := by rfl) (hj : c.all[j]? = some y := by rfl) (h : i ≠ j := by decide) : upd H y o x = v := (upd_ne (cne nd hi hj h)).trans k
/-- the cells stand apart -/
theorem Cells.nes {c : Cells} (nd : c.all.Nodup) : c.a ≠ c.pc ∧ c.a ≠ c.nb ∧ c.a ≠ c.sg ∧ c.a ≠ c.en ∧ c.a ≠ c.lv ∧ c.a ≠ c.ht ∧ c.a ≠ c.fi ∧ c.a ≠ c.la ∧ c.dx ≠ c.pc ∧ c.dx ≠ c.nb ∧ c.dx ≠ c.sg ∧ c.dx ≠ c.en ∧ c.dx ≠ c.lv ∧ c.dx ≠ c.ht ∧ c.dx ≠ c.fi ∧ c.dx ≠ c.la ∧ c.pc ≠ c.nb ∧ c.pc ≠ c.sg ∧ c.pc ≠ c.en ∧ c.pc ≠ c.lv ∧ c.pc ≠ c.ht ∧ c.pc ≠ c.fi ∧ c.pc ≠ c.la ∧ c.nb ≠ c.pc ∧ c.nb ≠ c.sg ∧ c.nb ≠ c.en ∧ c.nb ≠ c.lv ∧ c.nb ≠ c.ht ∧ c.nb ≠ c.fi ∧ c.nb ≠ c.la ∧ c.sg ≠ c.pc ∧ c.sg ≠ c.nb ∧ c.sg ≠ c.en ∧ c.sg ≠ c.lv ∧ c.sg ≠ c.ht ∧ c.sg ≠ c.fi ∧ c.sg ≠ c.la ∧ c.en ≠ c.pc ∧ c.en ≠ c.nb ∧ c.en ≠ c.sg ∧ c.en ≠ c.lv ∧ c.en ≠ c.ht ∧ c.en ≠ c.fi ∧ c.en ≠ c.la ∧ c.lv ≠ c.pc ∧ c.lv ≠ c.nb ∧ c.lv ≠ c.sg ∧ c.lv ≠ c.en ∧ c.lv ≠ c.ht ∧ c.lv ≠ c.fi ∧ c.lv ≠ c.la ∧ c.ht ≠ c.pc ∧ c.ht ≠ c.nb ∧ c.ht ≠ c.sg ∧ c.ht ≠ c.en ∧ c.ht ≠ c.lv ∧ c.ht ≠ c.fi ∧ c.ht ≠ c.la ∧ c.fi ≠ c.pc ∧ c.fi ≠ c.nb ∧ c.fi ≠ c.sg ∧ c.fi ≠ c.en ∧ c.fi ≠ c.lv ∧ c.fi ≠ c.ht ∧ c.fi ≠ c.la ∧ c.la ≠ c.pc ∧ c.la ≠ c.nb ∧ c.la ≠ c.sg ∧ c.la ≠ c.en ∧ c.la ≠ c.lv ∧ c.la ≠ c.ht ∧ c.la ≠ c.fi := ⟨cne nd (i := 0) (j := 2) rfl rfl (by decide), cne nd (i := 0) (j := 3) rfl rfl (by decide), cne nd (i := 0) (j := 4) rfl rfl (by decide), cne nd (i := 0) (j := 5) rfl rfl (by decide), cne nd (i := 0) (j := 6) rfl rfl (by decide), cne nd (i := 0) (j := 7) rfl rfl (by decide), cne nd (i := 0) (j := 8) rfl rfl (by decide), cne nd (i := 0) (j := 9) rfl rfl (by decide), cne nd (i := 1) (j := 2) rfl rfl (by decide), cne nd (i := 1) (j := 3) rfl rfl (by decide), cne nd (i := 1) (j := 4) rfl rfl (by decide), cne nd (i := 1) (j := 5) rfl rfl (by decide), cne nd (i := 1) (j := 6) rfl rfl (by decide), cne nd (i := 1) (j := 7) rfl rfl (by decide), cne nd (i := 1) (j := 8) rfl rfl (by decide), cne nd (i := 1) (j := 9) rfl rfl (by decide), cne nd (i := 2) (j := 3) rfl rfl (by decide), cne nd (i := 2) (j := 4) rfl rfl (by decide), cne nd (i := 2) (j := 5) rfl rfl (by decide), cne nd (i := 2) (j := 6) rfl rfl (by decide), cne nd (i := 2) (j := 7) rfl rfl (by decide), cne nd (i := 2) (j := 8) rfl rfl (by decide), cne nd (i := 2) (j := 9) rfl rfl (by decide), cne nd (i := 3) (j := 2) rfl rfl (by decide), cne nd (i := 3) (j := 4) rfl rfl (by decide), cne nd (i := 3) (j := 5) rfl rfl (by decide), cne nd (i := 3) (j := 6) rfl rfl (by decide), cne nd (i := 3) (j := 7) rfl rfl (by decide), cne nd (i := 3) (j := 8) rfl rfl (by decide), cne nd (i := 3) (j := 9) rfl rfl (by decide), cne nd (i := 4) (j := 2) rfl rfl (by decide), cne nd (i := 4) (j := 3) rfl rfl (by decide), cne nd (i := 4) (j := 5) rfl rfl (by decide), cne nd (i := 4) (j := 6) rfl rfl (by decide), cne nd (i := 4) (j := 7) rfl rfl (by decide), cne nd (i := 4) (j := 8) rfl rfl (by decide), cne nd (i := 4) (j := 9) rfl rfl (by decide), cne nd (i := 5) (j := 2) rfl rfl (by decide), cne nd (i := 5) (j := 3) rfl rfl (by decide), cne nd (i := 5) (j := 4) rfl rfl (by decide), cne nd (i := 5) (j := 6) rfl rfl (by decide), cne nd (i := 5) (j := 7) rfl rfl (by decide), cne nd (i := 5) (j := 8) rfl rfl (by decide), cne nd (i := 5) (j := 9) rfl rfl (by decide), cne nd (i := 6) (j := 2) rfl rfl (by decide), cne nd (i := 6) (j := 3) rfl rfl (by decide), cne nd (i := 6) (j := 4) rfl rfl (by decide), cne nd (i := 6) (j := 5) rfl rfl (by decide), cne nd (i := 6) (j := 7) rfl rfl (by decide), cne nd (i := 6) (j := 8) rfl rfl (by decide), cne nd (i := 6) (j := 9) rfl rfl (by decide), cne nd (i := 7) (j := 2) rfl rfl (by decide), cne nd (i := 7) (j := 3) rfl rfl (by decide), cne nd (i := 7) (j := 4) rfl rfl (by decide), cne nd (i := 7) (j := 5) rfl rfl (by decide), cne nd (i := 7) (j := 6) rfl rfl (by decide), cne nd (i := 7) (j := 8) rfl rfl (by decide), cne nd (i := 7) (j := 9) rfl rfl (by decide), cne nd (i := 8) (j := 2) rfl rfl (by decide), cne nd (i := 8) (j := 3) rfl rfl (by decide), cne nd (i := 8) (j := 4) rfl rfl (by decide), cne nd (i := 8) (j := 5) rfl rfl (by decide), cne nd (i := 8) (j := 6) rfl rfl (by decide), cne nd (i := 8) (j := 7) rfl rfl (by decide), cne nd (i := 8) (j := 9) rfl rfl (by decide), cne nd (i := 9) (j := 2) rfl rfl (by decide), cne nd (i := 9) (j := 3) rfl rfl (by decide), cne nd (i := 9) (j := 4) rfl rfl (by decide), cne nd (i := 9) (j := 5) rfl rfl (by decide), cne nd (i := 9) (j := 6) rfl rfl (by decide), cne nd (i := 9) (j := 7) rfl rfl (by decide), cne nd (i := 9) (j := 8) rfl rfl (by decide)⟩
def laidH (c : Cells) (H : Hp) (xs : List V) (S : List Tr) (t : Tr) (p : Addr) : Hp :=
  upd (upd (upd (upd (upd (upd H c.pc (.lst (xs ++ [.ref p]))) c.nb (.dT (putK (kvs S) (key S t) (.int (S.length + 1))))) c.sg (.lst ((.int 0 :: S.map fun t => .int t.sg) ++ [.int t.sg])))
    c.en (.lst ((.int 0 :: S.map fun t => .int t.en) ++ [.int t.en]))) c.lv (.lst ((.int 0 :: S.map fun t => .int t.lv) ++ [.int t.lv]))) c.ht (.lst ((.int (-1) :: S.map fun t => .int t.ht) ++ [.int t.ht]))
def lainH (c : Cells) (H : Hp) (xs : List V) (S : List Tr) (t : Tr) (p : Addr) (f l : Int) : Hp :=
  upd (upd (laidH c H xs S t p) c.fi (.lst ((.int 0 :: S.map fun t => .int (num S t.fi)) ++ [.int f]))) c.la (.lst ((.int 0 :: S.map fun t => .int (num S t.la)) ++ [.int l]))
theorem laid_at {c : Cells} {H : Hp} {xs : List V} {S : List Tr} {t : Tr} {p : Addr} (nd : c.all.Nodup) (i : Nat) {b : Addr} (hb : c.all[i]? = some b := by rfl) (hi : i ∉ [2, 3, 4, 5, 6, 7] := by decide) : laidH c H xs S t p b = H b := by
  simp only [List.mem_cons, List.not_mem_nil, or_false, not_or] at hi
  obtain ⟨h2, h3, h4, h5, h6, h7⟩ := hi
  unfold laidH
  rw [upd_ne (cne nd hb (j := 7) rfl h7), upd_ne (cne nd hb (j := 6) rfl h6), upd_ne (cne nd hb (j := 5) rfl h5), upd_ne (cne nd hb (j := 4) rfl h4), upd_ne (cne nd hb (j := 3) rfl h3), upd_ne (cne nd hb (j := 2) rfl h2)]
theorem lain_out {c : Cells} {H : Hp} {xs : List V} {S : List Tr} {t : Tr} {p : Addr} {f l : Int} {b : Addr} (h : b ∉ c.all) : lainH c H xs S t p f l b = H b := by
  simp only [Cells.all, List.mem_cons, List.not_mem_nil, or_false, not_or] at h
  obtain ⟨h0, h1, h2, h3, h4, h5, h6, h7, h8, h9⟩ := h
  unfold lainH laidH
  rw [upd_ne h9, upd_ne h8, upd_ne h7, upd_ne h6, upd_ne h5, upd_ne h4, upd_ne h3, upd_ne h2]
theorem num_last {S : List Tr} {t : Tr} (h : t ∉ S) : num (S ++ [t]) t = S.length + 1 := by
  unfold num
  rw [List.idxOf_append, if_neg h]
  simp
theorem lain_ok {C : Addr} {c : Cells} {H : Hp} {xs : List V} {S : List Tr} {t : Tr} {p : Addr} {f l : Int} (x : ShAt C c H S) (hx : H c.pc = some (.lst xs)) (hp : H p = some (.tup (pvals S t))) (o : Ok t) (h : t ∉ S)
    (kt : ∀ a b, t = .fk a b → a ∈ S ∧ b ∈ S) (cp : S.length < cap) (ef : f = num (S ++ [t]) t.fi) (el : l = num (S ++ [t]) t.la) : ShAt C c (lainH c H xs S t p f l) (S ++ [t]) ∧ Keep c H (lainH c H xs S t p f l) := by
  have N := Cells.nes x.nd
  have e : Ext S (S ++ [t]) := List.prefix_append _ _
  have g : Good (S ++ [t]) := by rw [← put_new h]; exact x.gd.put o kt
  have km : ∀ (z : V) (F : Tr → V), (z :: S.map F) ++ [F t] = z :: (S ++ [t]).map F := fun z F => by simp
  have pa := x.apart_tup hp
  refine ⟨⟨?_, ?_, ?_, ?_, ?_, ?_, ?_, ?_, ?_, ?_, g, x.nd, by rw [List.length_append]; show S.length + 1 ≤ cap; omega⟩, fun b o n e => by rw [lain_out n]; exact e⟩
  · unfold lainH laidH; simp only [upd_ne, upd_same, N, ne_eq, not_false_eq_true]; exact x.ob
  · unfold lainH laidH; simp only [upd_ne, upd_same, N, ne_eq, not_false_eq_true]; exact x.ow
  · obtain ⟨rs, h1, h2, h3⟩ := x.pc
    have ex : xs = .non :: rs.map V.ref := by rw [h1] at hx; injection hx with z; injection z with z; exact z.symm
    refine ⟨rs ++ [p], ?_, by simp [h2], fun i r u e1 e2 => ?_⟩
    · unfold lainH laidH; simp only [upd_ne, upd_same, N, ne_eq, not_false_eq_true]; rw [ex]; simp
    · by_cases hl : i < rs.length
      · rw [List.getElem?_append_left hl] at e1
        rw [List.getElem?_append_left (by omega)] at e2
        have q := h3 i r u e1 e2
        rw [lain_out (x.apart_tup q), q]
        unfold pvals
        rw [key_ext x.gd e (List.mem_of_getElem? e2)]
      · have l1 := (List.getElem?_eq_some_iff.mp e1).1
        have l2 : i = rs.length := by simp at l1; omega
        rw [List.getElem?_append_right (by omega)] at e1 e2
        rw [l2] at e1
        rw [l2, h2] at e2
        simp at e1 e2
        subst e1 e2
        rw [lain_out pa, hp]
        unfold pvals
        cases t with
        | lf m => rfl
        | fk a b =>
          obtain ⟨ha, hb⟩ := kt a b rfl
          rw [key_fk, key_fk, num_ext e ha, num_ext e hb]
  · unfold lainH laidH; simp only [upd_ne, upd_same, N, ne_eq, not_false_eq_true]
    rw [kvs_snoc x.gd h kt, putK_new _ (by rw [valV_kvs x.gd kt, if_neg h])]
  · unfold lainH laidH; simp only [upd_ne, upd_same, N, ne_eq, not_false_eq_true]; rw [km]
  · unfold lainH laidH; simp only [upd_ne, upd_same, N, ne_eq, not_false_eq_true]; rw [km]
  · unfold lainH laidH; simp only [upd_ne, upd_same, N, ne_eq, not_false_eq_true]; rw [km]
  · unfold lainH laidH; simp only [upd_ne, upd_same, N, ne_eq, not_false_eq_true]; rw [km]
  · unfold lainH laidH; simp only [upd_ne, upd_same, N, ne_eq, not_false_eq_true]
    rw [ef, ← km]
    congr 3
    rw [List.cons.injEq]
    exact ⟨rfl, List.map_congr_left fun u hu => by rw [num_ext e (x.gd.fi hu)]⟩
  · unfold lainH laidH; simp only [upd_ne, upd_same, N, ne_eq, not_false_eq_true]
    rw [el, ← km]
    congr 3
    rw [List.cons.injEq]
    exact ⟨rfl, List.map_congr_left fun u hu => by rw [num_ext e (x.gd.la hu)]⟩

/-! ### a shelf is made -/
theorem putF_new {f : Str} {v : V} {ks : List Str} : ∀ {fs : List (Str × V)}, fs.map (·.1) = ks → f ∉ ks → putF f v fs = fs ++ [(f, v)]
  | [], _, _ => rfl
  | (g, w) :: r, h, n => by
    subst h
    have ne : ¬ g = f := fun e => n (by rw [e]; simp)
    rw [putF, if_neg ne, putF_new (fs := r) rfl fun z => n (List.mem_cons_of_mem _ z)]
    rfl
theorem mkS {H : Hp} {p z : Addr} {o u : HO} {q : Addr} {w : HO} (hz : H z = none) (hp : q ≠ p) (h : H q = some w) : upd (upd H z o) p u q = some w := by
  rw [upd_ne hp, upd_ne (ne_of_none h hz)]; exact h
theorem mkN {H : Hp} {p z : Addr} {o u : HO} (hp : z ≠ p) : upd (upd H z o) p u z = some o := by
  rw [upd_ne hp]; exact upd_same

/-! ### signs joined -/
theorem sT_of (x : Str) : x = sT x.cps.toList := by cases x; simp
theorem sT_nil : ("" : Str) = sT [] := by decide +kernel
theorem glueL_signs : ∀ l : List Nat, StrLaws.glueL [] (l.map fun c => (⟨#[c]⟩ : Str)) = l
  | [] => rfl
  | c :: r => by
    show [] ++ ([c] ++ StrLaws.glueL [] (r.map fun c => (⟨#[c]⟩ : Str))) = c :: r
    rw [glueL_signs r]; rfl
theorem join_signs {l : List Nat} (h : l ≠ []) : Txt.join (sT []) (l.map fun c => (⟨#[c]⟩ : Str)) = sT l := by
  cases l with
  | nil => exact absurd rfl h
  | cons c r =>
    have e : (Txt.join (sT []) ((c :: r).map fun c => (⟨#[c]⟩ : Str))).cps.toList = c :: r := by
      show (Builtin.Str.glued (sT []) (⟨#[c]⟩ :: r.map fun c => (⟨#[c]⟩ : Str))).cps.toList = _
      rw [StrLaws.glued_list]
      show [c] ++ StrLaws.glueL [] (r.map fun c => (⟨#[c]⟩ : Str)) = c :: r
      rw [glueL_signs]; rfl
    rw [sT_of (Txt.join (sT []) ((c :: r).map fun c => (⟨#[c]⟩ : Str))), e]
theorem at_in {α : Type} {xs : List α} {i : Int} (h0 : 0 ≤ i) (h1 : i < xs.length) : ∃ v, v ∈ xs ∧ atI xs i = some v := by
  have l : i.toNat < xs.length := by omega
  refine ⟨xs[i.toNat], List.getElem_mem l, ?_⟩
  have := atI_nat (xs := xs) (j := i.toNat) (List.getElem?_eq_getElem l)
  rw [show ((i.toNat : Nat) : Int) = i by omega] at this
  exact this
def GoodL (x : Str) : Prop := x.cps.toList ≠ [] ∧ Plain x.cps.toList ∧ x.cps.toList.length ≤ 200
instance (x : Str) : Decidable (GoodL x) := by unfold GoodL; infer_instance

/-! ### how often a sign stands in a text -/
theorem count_skip {l : List Nat} {c : Nat} : ∀ (n a : Nat), (∀ k, a ≤ k → k < a + n → l[k]? ≠ some c) → (l.drop a).count c = (l.drop (a + n)).count c
  | 0, a, _ => rfl
  | n + 1, a, h => by
    have ih := count_skip n (a + 1) fun k h1 h2 => h k (by omega) (by omega)
    by_cases e : a < l.length
    · rw [List.drop_eq_getElem_cons e, List.count_cons]
      have : ¬ (l[a] == c) = true := fun z => h a (Nat.le_refl _) (by omega) (by rw [List.getElem?_eq_getElem e]; simpa using z)
      rw [if_neg this, ih]
      show _ + 0 = _
      rw [Nat.add_zero, Nat.add_assoc, Nat.add_comm 1 n]
    · rw [List.drop_eq_nil_of_le (by omega), List.drop_eq_nil_of_le (by omega)]
theorem at_one {l : List Nat} {c k : Nat} : StrLaws.At (sT l) (sT [c]) (sT l).length k ↔ l[k]? = some c := by
  constructor
  · intro h
    have q := StrLaws.at_take h
    have q : (l.drop k).take 1 = [c] := by simpa using q
    cases e : l.drop k with
    | nil => rw [e] at q; cases q
    | cons x r =>
      rw [e] at q
      have : l[k]? = (l.drop k)[0]? := by simp
      rw [this, e]
      have : [x] = [c] := q
      injection this with z _
      rw [z]; rfl
  · intro h
    refine StrLaws.take_at (by show 1 ≤ 1; omega) ?_
    have hk := (List.getElem?_eq_some_iff.mp h)
    obtain ⟨hl, e⟩ := hk
    show (l.drop k).take 1 = [c]
    rw [List.drop_eq_getElem_cons hl, e]; rfl
theorem chain_count {l : List Nat} {c : Nat} : ∀ (cuts : List Nat) (a f : Nat), StrLaws.ChainG (sT l) (sT [c]) (sT l).length a cuts f → (∀ k, f ≤ k → ¬ StrLaws.At (sT l) (sT [c]) (sT l).length k) → (l.drop a).count c = cuts.length
  | [], a, f, h, hn => by
    have e : f = a := h
    subst e
    have := count_skip (l := l) (c := c) l.length f fun k h1 _ z => hn k h1 (at_one.mpr z)
    rw [this, List.drop_eq_nil_of_le (by omega)]; rfl
  | d :: r, a, f, h, hn => by
    obtain ⟨h1, h2, h3, h4⟩ := h
    have ih := chain_count r (d + 1) f h4 hn
    have := count_skip (l := l) (c := c) (d - a) a fun k k1 k2 z => h3 k k1 (by omega) (at_one.mpr z)
    rw [this, show a + (d - a) = d by omega]
    obtain ⟨hl, e⟩ := List.getElem?_eq_some_iff.mp (at_one.mp h2)
    rw [List.drop_eq_getElem_cons hl, e, List.count_cons_self, ih]; rfl
theorem count_one (l : List Nat) (c : Nat) : Txt.count (sT l) (sT [c]) = (l.count c : Int) := by
  obtain ⟨f, h1, h2⟩ := StrLaws.occ_tight (sT l) (sT [c]) (by show 1 ≤ 1; omega)
  have := chain_count _ 0 f h1 h2
  unfold Txt.count
  rw [← this]; rfl
theorem sT_lf : ("\n" : Str) = sT [10] := by decide +kernel
end Sk

/-! Numbers of the laws' draws; frames by a list of addresses. -/
namespace Sk
open PySem PySem.Spec PyProof.Rows L2

/-- all but what stands at l is as it was -/
def KeepL (l : List Addr) (H H' : Hp) : Prop := ∀ b o, b ∉ l → H b = some o → H' b = some o
theorem KeepL.refl (l : List Addr) (H : Hp) : KeepL l H H := fun _ _ _ h => h
theorem KeepL.trans {l : List Addr} {H H1 H2 : Hp} (x : KeepL l H H1) (y : KeepL l H1 H2) : KeepL l H H2 := fun b o n h => y b o n (x b o n h)
theorem KeepL.mono {l m : List Addr} {H H' : Hp} (x : KeepL l H H') (s : ∀ b ∈ l, b ∈ m) : KeepL m H H' := fun b o n h => x b o (fun z => n (s b z)) h
theorem Same.keepL {H H' : Hp} (l : List Addr) (s : Same H H') : KeepL l H H' := fun b o _ h => s b o h
theorem Keep.keepL {c : Cells} {H H' : Hp} (k : Keep c H H') : KeepL c.all H H' := k
theorem KeepL.upd {H : Hp} {a : Addr} {o : HO} {l : List Addr} (h : a ∈ l) : KeepL l H (L2.upd H a o) := fun b u n e => by
  rw [upd_ne (by rintro rfl; exact n h)]; exact e
theorem ShAt.keepL {C : Addr} {c : Cells} {H H' : Hp} {S : List Tr} {l : List Addr} (x : ShAt C c H S) (k : KeepL l H H') (d : ∀ b ∈ l, b ∉ c.all) (t : ∀ b xs, H b = some (.tup xs) → H' b = some (.tup xs)) : ShAt C c H' S := by
  have m : ∀ b ∈ c.all, b ∉ l := fun b hb z => d b z hb
  have f : ∀ {b : Addr} {o : HO}, b ∈ c.all → H b = some o → H' b = some o := fun hb e => k _ _ (m _ hb) e
  refine ⟨f (by simp [Cells.all]) x.ob, f (by simp [Cells.all]) x.ow, ?_, f (by simp [Cells.all]) x.nb, f (by simp [Cells.all]) x.sg, f (by simp [Cells.all]) x.en, f (by simp [Cells.all]) x.lv, f (by simp [Cells.all]) x.ht, f (by simp [Cells.all]) x.fi, f (by simp [Cells.all]) x.la, x.gd, x.nd, x.cp⟩
  obtain ⟨rs, h1, h2, h3⟩ := x.pc
  exact ⟨rs, f (by simp [Cells.all]) h1, h2, fun i r t' e1 e2 => t _ _ (h3 i r t' e1 e2)⟩
theorem tup_upd {H : Hp} {a : Addr} {xs : List V} {o : HO} (h : H a = some (.lst xs)) : ∀ b ys, H b = some (.tup ys) → upd H a o b = some (.tup ys) := fun b ys e => by
  rw [upd_ne (ne_of e h (by intro z; cases z))]; exact e

theorem mulW_small {i j : Int} (h1 : -1180591620717411303424 < i) (h2 : i < 1180591620717411303424) (h3 : -1180591620717411303424 < j) (h4 : j < 1180591620717411303424) : CMulW i j :=
  wide_mul (a := 70) (b := 70) (by omega) (by omega) (by decide) (by decide) (by decide)
theorem divW_small {i j : Int} (h1 : 0 < j) (h2 : j < 1180591620717411303424) : CDivW i j := wide_div (b := 70) h1 (by omega) (by decide) (by decide)
theorem pow_sg : (10 : Int) ^ (Int.toNat 18) = 1000000000000000000 := by decide
theorem step_big {c r B : Int} {a b : Nat} (h0 : 0 ≤ c) (h1 : c < 2 ^ a) (h2 : 0 ≤ r) (h3 : r < B) (h4 : B ≤ 2 ^ b) : 0 ≤ c * B + r ∧ c * B + r < 2 ^ (a + b) := by
  have hB : 0 < B := by omega
  have e1 : 0 ≤ c * B := Int.mul_nonneg h0 (by omega)
  have e2 : (c + 1) * B ≤ 2 ^ a * 2 ^ b := Int.mul_le_mul (by omega) h4 (by omega) (by omega)
  have e3 : (c + 1) * B = c * B + B := by rw [Int.add_mul, Int.one_mul]
  rw [Int.pow_add]
  exact ⟨by omega, by omega⟩
theorem mulW_big {c B : Int} {a b : Nat} (h0 : 0 ≤ c) (h1 : c < 2 ^ a) (h2 : 0 ≤ B) (h4 : B < 2 ^ b) (ha : 0 < a) (hb : 0 < b) (h : a + b ≤ 1000000) : CMulW c B := by
  refine wide_mul (a := a) (b := b) ?_ ?_ ha hb h
  · have : (c.natAbs : Int) < ((2 ^ a : Nat) : Int) := by rw [Int.natAbs_of_nonneg h0]; push_cast; exact h1
    exact_mod_cast this
  · have : (B.natAbs : Int) < ((2 ^ b : Nat) : Int) := by rw [Int.natAbs_of_nonneg h2]; push_cast; exact h4
    exact_mod_cast this
/-- a rising range with a step -/
theorem rgC {i j c : Int} (hc : 0 < c) (hc2 : c < 1000) (h1 : 0 ≤ i) (h2 : i < 1000000) (h3 : 0 ≤ j) (h4 : j < 100000000) : ∃ n : Nat, RgC i j c n ∧ n ≤ j.toNat + 1 ∧ ∀ k : Nat, k < n → i + k * c < j := by
  have hr : Builtin.Range.rangeSize i j c = if i < j then (j - i - 1) / c + 1 else 0 := by
    unfold Builtin.Range.rangeSize
    rw [if_pos hc]
  have n0 : 0 ≤ Builtin.Range.rangeSize i j c := by
    rw [hr]; split
    · have := Int.ediv_nonneg (a := j - i - 1) (b := c) (by omega) (by omega); omega
    · omega
  have le : Builtin.Range.rangeSize i j c ≤ j + 1 := by
    rw [hr]; split
    · have := Int.ediv_le_self (a := j - i - 1) c (by omega); omega
    · omega
  refine ⟨(Builtin.Range.rangeSize i j c).toNat, ⟨by omega, by omega, ?_, by omega⟩, by omega, fun k hk => ?_⟩
  · unfold Builtin.Range.small
    simp only [Builtin.Range.rangeFitsLong, Bool.and_eq_true, Bool.or_eq_true, decide_eq_true_eq, beq_iff_eq, hc, if_true, gt_iff_lt]
    refine ⟨?_, ?_⟩ <;> first | omega | (repeat' constructor) <;> omega
  · have hk' : (k : Int) < Builtin.Range.rangeSize i j c := by omega
    rw [hr] at hk'
    split at hk'
    · have h5 : (k : Int) ≤ (j - i - 1) / c := by omega
      have := (Int.le_ediv_iff_mul_le hc).mp h5
      omega
    · omega
end Sk

/-! The end of a law's row: what the top leaves, with its great constants. -/
namespace Sk
open PySem PySem.Spec PyProof.Rows L2

theorem kint_loose {p : Program} {lv : List (Str × PySem.W.WData)} {mg : Str → Option Value} {h : Heap} (x : PySem.W.XL p lv mg h) {n : Str} {i : Int} (m : (n, PySem.W.WData.int i) ∈ lv) : KInt mg n i := by
  obtain ⟨v, e, r⟩ := x.2.val _ m
  cases r
  exact ⟨_, e⟩
theorem kint_of {K : PySem.W.Frag} {h : Heap} {mg : Str → Option Value} {n : Str} {i : Int} {t : Tok} (X : K.In h) (G : h.Ns mainGlobals mg) (e : PySem.W.nsIn K mainGlobals n = some (some (.int i t))) : KInt mg n i := ⟨t, PySem.W.mg_of X G e⟩
theorem kstr_of {K : PySem.W.Frag} {h : Heap} {mg : Str → Option Value} {n x : Str} {t : Tok} (X : K.In h) (G : h.Ns mainGlobals mg) (e : PySem.W.nsIn K mainGlobals n = some (some (.str x t))) : KStr mg n x := ⟨t, PySem.W.mg_of X G e⟩
/-- the law's call, where the promise is kept over any base; what is loose at the top is handed on -/
theorem walkX {l : PySem.W.OpenLaw} {k : Nat} {q : Program} {loose : List Str} {XP : (Str → Option Value) → Heap → Prop} {YP : World → Heap → Prop} {d : DefRec} {K : Params → PySem.W.Frag} {sp : PySem.W.Frag → Sp}
    (hn : l.most = some 63) (hdf : d.params.defaults = []) (hr : Room k callerA) (hY : ∀ (w : World) (h : Heap), YP w h → (K w.params).In h)
    (F : ∀ (w : World) (mg : Str → Option Value) (fa : Addr) (h : Heap), (K w.params).In h → h.Ns mainGlobals mg → XP mg h → mg d.name = some (.ref fa) →
      ∃ fd : FuncData, (∀ (s : Shared) (u : Value), BindsTo s fd ⟨[u], []⟩ [("script", u)]) ∧ ∀ base : Heap, (K w.params).In base → base.Ns mainGlobals mg → FnOk l.prog w (K w.params) mg base (L2.CX l.prog w) k fa fd ["script"] (sp (K w.params)))
    (hsp : ∀ (K : PySem.W.Frag) (H : Hp) (a : Addr) (ns : List Int), ns.length ≤ 63 → SqL K H a (ns.map V.int) → sp K [.ref a] H (fun v _ => v = .bl true) fun _ _ _ => False) :
    PySem.W.WalkO q loose XP YP l.row.toRowW d [] (fun f vs => PySem.call f vs) :=
  Att.attach_call hn hdf fun w s₀ s₁ mg mb fa o pm cd doc a vs ns G Y ho hd hcd hmg hobj hints hlen hg => by
    have KX := hY w _ Y
    obtain ⟨fd, hb, hF⟩ := F w mg fa _ KX G.T.g G.X hmg
    refine law_call KX G.T.g G.T.b G.T.builtins G.T.nolimit hg hobj hints ?_ hr hF hb (fun H _ hS => hsp _ H a ns hlen hS) fun H e s' hc => ?_
    · have := cap_line; unfold cap at this; omega
    · obtain ⟨_, _, _, _, _, _, _, _, _, _, _, _, z⟩ := hc
      exact z.elim
end Sk

namespace Sk
open PySem PySem.Spec PyProof.Rows L2
/-! one step of the walk: what has just one way -/
local macro_rules | `(tactic| walk_at "go1") => `(tactic| first
  | (with_reducible refine w_varx ?_; refine ⟨_, rfl, ?_⟩)
  | with_reducible refine w_op ?_
  | with_reducible refine w_c ?_
  | with_reducible refine w_rI0 ?_
  | with_reducible refine w_eqI ?_
  | with_reducible refine w_neI ?_
  | with_reducible refine w_bl ?_
  | with_reducible refine w_test ?_
  | with_reducible refine w_tB ?_
  | with_reducible refine w_tNot ?_
  | with_reducible refine w_tAnd ?_
  | with_reducible refine w_tOr ?_
  | with_reducible refine w_tIf ?_
  | with_reducible refine w_ret ?_
  | with_reducible refine w_drop ?_
  | with_reducible refine w_ifS ?_
  | with_reducible refine w_asg ?_
  | with_reducible refine w_nil ?_
  | with_reducible refine w_cons ?_
  | with_reducible refine w_call ?_
  | with_reducible refine w_cb ?_
  | with_reducible refine w_bm ?_
  | with_reducible refine w_bm0 ?_
  | with_reducible refine w_meth ?_
  | with_reducible refine w_fld ?_
  | with_reducible refine w_make ?_
  | with_reducible refine w_lst ?_
  | with_reducible refine w_tup ?_
  | with_reducible refine w_for ?_
  | with_reducible refine w_rng3 ?_
  | with_reducible refine w_rng1 ?_
  | with_reducible refine w_sl ?_
  | with_reducible refine w_part ?_
  | with_reducible refine w_nop ?_
  | with_reducible refine w_rng2 ?_
  | with_reducible refine w_ilist ?_
  | with_reducible refine w_istr ?_
  | with_reducible refine w_lc ?_
  | with_reducible refine w_chain ?_)
local macro_rules | `(tactic| walk_at "go") => `(tactic| repeat (walk_at "go1"))
local macro_rules | `(tactic| walk_at "st") => `(tactic| (with_reducible refine w_seq ?_; repeat (walk_at "go1")))
local macro_rules | `(tactic| walk_at "nx") => `(tactic| first | (with_reducible refine w_gname ?_; dsimp only) | dsimp only)
local macro_rules | `(tactic| walk_at "sk") => `(tactic| (with_reducible refine w_next ?_; dsimp only))
def top (i : Nat) : Stmt := PySem.Challenge.pw_skeinwood_k86_shelves_written.main.body.getD i (.Pass ⟨0, 0, 0, 0⟩)
abbrev s_is_plain : Stmt := top 9
abbrev s_ends_in : Stmt := top 10
abbrev s_Shelf___init__ : Stmt := inClass (top 14) 0
abbrev s_Shelf_want : Stmt := inClass (top 14) 1
abbrev s_Shelf_want_piece : Stmt := inClass (top 14) 2
abbrev s_Shelf_many : Stmt := inClass (top 14) 3
abbrev s_Shelf_piece : Stmt := inClass (top 14) 4
abbrev s_Shelf_signs : Stmt := inClass (top 14) 5
abbrev s_Shelf_ends : Stmt := inClass (top 14) 6
abbrev s_Shelf_leaves : Stmt := inClass (top 14) 7
abbrev s_Shelf_height : Stmt := inClass (top 14) 8
abbrev s_Shelf_laid : Stmt := inClass (top 14) 11
abbrev s_Shelf_leaf : Stmt := inClass (top 14) 12
abbrev s_Shelf_fork : Stmt := inClass (top 14) 13
abbrev s_Shelf_is_loose : Stmt := inClass (top 14) 14
abbrev s_written : Stmt := top 16
abbrev s_piece_row : Stmt := top 17
abbrev s_shelf_text : Stmt := top 18
abbrev s__law_mixed : Stmt := top 20
abbrev s__law_stream : Stmt := top 21
abbrev s__law_digit : Stmt := top 22
abbrev s__law_letters : Stmt := top 23
abbrev s__law_tree : Stmt := top 24
abbrev s__law_text : Stmt := top 25
abbrev s__law_long : Stmt := top 26
abbrev s__law_drawn_shelf : Stmt := top 27
abbrev s__law_written : Stmt := top 28
abbrev s__law_shelf_text : Stmt := top 29
abbrev s_law : Stmt := top 30
abbrev p_is_plain : List Str := ["thing"]
abbrev p_ends_in : List Str := ["plain"]
abbrev p_Shelf___init__ : List Str := ["self"]
abbrev p_Shelf_want : List Str := ["self", "text"]
abbrev p_Shelf_want_piece : List Str := ["self", "number"]
abbrev p_Shelf_many : List Str := ["self"]
abbrev p_Shelf_piece : List Str := ["self", "number"]
abbrev p_Shelf_signs : List Str := ["self", "text"]
abbrev p_Shelf_ends : List Str := ["self", "text"]
abbrev p_Shelf_leaves : List Str := ["self", "text"]
abbrev p_Shelf_height : List Str := ["self", "text"]
abbrev p_Shelf_laid : List Str := ["self", "piece", "signs", "ends", "leaves", "height"]
abbrev p_Shelf_leaf : List Str := ["self", "plain"]
abbrev p_Shelf_fork : List Str := ["self", "one", "other"]
abbrev p_Shelf_is_loose : List Str := ["self", "one", "other"]
abbrev p_written : List Str := ["plain"]
abbrev p_piece_row : List Str := ["piece"]
abbrev p_shelf_text : List Str := ["shelf"]
abbrev p__law_mixed : List Str := ["cell", "k"]
abbrev p__law_stream : List Str := ["script", "k"]
abbrev p__law_digit : List Str := ["row", "many"]
abbrev p__law_letters : List Str := ["row"]
abbrev p__law_tree : List Str := ["shelf", "row", "letters", "height", "last"]
abbrev p__law_text : List Str := ["shelf", "row", "most"]
abbrev p__law_long : List Str := ["shelf", "row"]
abbrev p__law_drawn_shelf : List Str := ["script"]
abbrev p__law_written : List Str := ["plain"]
abbrev p__law_shelf_text : List Str := ["shelf"]
abbrev p_law : List Str := ["script"]
structure Ad where
  C_Shelf : Addr
  C_Loose : Addr
  C_NoPiece : Addr
  C_NoText : Addr
  C_TooLong : Addr
  C_Unlevel : Addr
  f_is_plain : Addr
  d_is_plain : FuncData
  f_ends_in : Addr
  d_ends_in : FuncData
  f_Shelf___init__ : Addr
  d_Shelf___init__ : FuncData
  f_Shelf_want : Addr
  d_Shelf_want : FuncData
  f_Shelf_want_piece : Addr
  d_Shelf_want_piece : FuncData
  f_Shelf_many : Addr
  d_Shelf_many : FuncData
  f_Shelf_piece : Addr
  d_Shelf_piece : FuncData
  f_Shelf_signs : Addr
  d_Shelf_signs : FuncData
  f_Shelf_ends : Addr
  d_Shelf_ends : FuncData
  f_Shelf_leaves : Addr
  d_Shelf_leaves : FuncData
  f_Shelf_height : Addr
  d_Shelf_height : FuncData
  f_Shelf_laid : Addr
  d_Shelf_laid : FuncData
  f_Shelf_leaf : Addr
  d_Shelf_leaf : FuncData
  f_Shelf_fork : Addr
  d_Shelf_fork : FuncData
  f_Shelf_is_loose : Addr
  d_Shelf_is_loose : FuncData
  f_written : Addr
  d_written : FuncData
  f_piece_row : Addr
  d_piece_row : FuncData
  f_shelf_text : Addr
  d_shelf_text : FuncData
  f__law_mixed : Addr
  d__law_mixed : FuncData
  f__law_stream : Addr
  d__law_stream : FuncData
  f__law_digit : Addr
  d__law_digit : FuncData
  f__law_letters : Addr
  d__law_letters : FuncData
  f__law_tree : Addr
  d__law_tree : FuncData
  f__law_text : Addr
  d__law_text : FuncData
  f__law_long : Addr
  d__law_long : FuncData
  f__law_drawn_shelf : Addr
  d__law_drawn_shelf : FuncData
  f__law_written : Addr
  d__law_written : FuncData
  f__law_shelf_text : Addr
  d__law_shelf_text : FuncData
  f_law : Addr
  d_law : FuncData
structure Txt (K : PySem.W.Frag) (mg : Str → Option Value) (A : Ad) : Prop where
  cl_Shelf : Cls K A.C_Shelf
  mg_Shelf : mg "Shelf" = some (.ref A.C_Shelf)
  na_Shelf_pieces : NoAttr K A.C_Shelf "pieces"
  na_Shelf_numbers : NoAttr K A.C_Shelf "numbers"
  na_Shelf_told_signs : NoAttr K A.C_Shelf "told_signs"
  na_Shelf_told_ends : NoAttr K A.C_Shelf "told_ends"
  na_Shelf_told_leaves : NoAttr K A.C_Shelf "told_leaves"
  na_Shelf_told_heights : NoAttr K A.C_Shelf "told_heights"
  na_Shelf_firsts : NoAttr K A.C_Shelf "firsts"
  na_Shelf_lasts : NoAttr K A.C_Shelf "lasts"
  mk_Shelf : Mk K A.C_Shelf A.f_Shelf___init__
  ex_Loose : ExTx K mg "Loose" A.C_Loose
  ex_NoPiece : ExTx K mg "NoPiece" A.C_NoPiece
  ex_NoText : ExTx K mg "NoText" A.C_NoText
  ex_TooLong : ExTx K mg "TooLong" A.C_TooLong
  ex_Unlevel : ExTx K mg "Unlevel" A.C_Unlevel
  fn_is_plain : Fun K "is_plain" "is_plain" s_is_plain A.f_is_plain A.d_is_plain
  bi_is_plain : Binds K A.d_is_plain p_is_plain []
  mg_is_plain : mg "is_plain" = some (.ref A.f_is_plain)
  fn_ends_in : Fun K "ends_in" "ends_in" s_ends_in A.f_ends_in A.d_ends_in
  bi_ends_in : Binds K A.d_ends_in p_ends_in []
  mg_ends_in : mg "ends_in" = some (.ref A.f_ends_in)
  fn_Shelf___init__ : Fun K "__init__" "Shelf.__init__" s_Shelf___init__ A.f_Shelf___init__ A.d_Shelf___init__
  bi_Shelf___init__ : Binds K A.d_Shelf___init__ p_Shelf___init__ []
  fn_Shelf_want : Fun K "want" "Shelf.want" s_Shelf_want A.f_Shelf_want A.d_Shelf_want
  bi_Shelf_want : Binds K A.d_Shelf_want p_Shelf_want []
  me_Shelf_want : Meth K A.C_Shelf "want" A.f_Shelf_want
  fn_Shelf_want_piece : Fun K "want_piece" "Shelf.want_piece" s_Shelf_want_piece A.f_Shelf_want_piece A.d_Shelf_want_piece
  bi_Shelf_want_piece : Binds K A.d_Shelf_want_piece p_Shelf_want_piece []
  me_Shelf_want_piece : Meth K A.C_Shelf "want_piece" A.f_Shelf_want_piece
  fn_Shelf_many : Fun K "many" "Shelf.many" s_Shelf_many A.f_Shelf_many A.d_Shelf_many
  bi_Shelf_many : Binds K A.d_Shelf_many p_Shelf_many []
  me_Shelf_many : Meth K A.C_Shelf "many" A.f_Shelf_many
  fn_Shelf_piece : Fun K "piece" "Shelf.piece" s_Shelf_piece A.f_Shelf_piece A.d_Shelf_piece
  bi_Shelf_piece : Binds K A.d_Shelf_piece p_Shelf_piece []
  me_Shelf_piece : Meth K A.C_Shelf "piece" A.f_Shelf_piece
  fn_Shelf_signs : Fun K "signs" "Shelf.signs" s_Shelf_signs A.f_Shelf_signs A.d_Shelf_signs
  bi_Shelf_signs : Binds K A.d_Shelf_signs p_Shelf_signs []
  me_Shelf_signs : Meth K A.C_Shelf "signs" A.f_Shelf_signs
  fn_Shelf_ends : Fun K "ends" "Shelf.ends" s_Shelf_ends A.f_Shelf_ends A.d_Shelf_ends
  bi_Shelf_ends : Binds K A.d_Shelf_ends p_Shelf_ends []
  me_Shelf_ends : Meth K A.C_Shelf "ends" A.f_Shelf_ends
  fn_Shelf_leaves : Fun K "leaves" "Shelf.leaves" s_Shelf_leaves A.f_Shelf_leaves A.d_Shelf_leaves
  bi_Shelf_leaves : Binds K A.d_Shelf_leaves p_Shelf_leaves []
  me_Shelf_leaves : Meth K A.C_Shelf "leaves" A.f_Shelf_leaves
  fn_Shelf_height : Fun K "height" "Shelf.height" s_Shelf_height A.f_Shelf_height A.d_Shelf_height
  bi_Shelf_height : Binds K A.d_Shelf_height p_Shelf_height []
  me_Shelf_height : Meth K A.C_Shelf "height" A.f_Shelf_height
  fn_Shelf_laid : Fun K "laid" "Shelf.laid" s_Shelf_laid A.f_Shelf_laid A.d_Shelf_laid
  bi_Shelf_laid : Binds K A.d_Shelf_laid p_Shelf_laid []
  me_Shelf_laid : Meth K A.C_Shelf "laid" A.f_Shelf_laid
  fn_Shelf_leaf : Fun K "leaf" "Shelf.leaf" s_Shelf_leaf A.f_Shelf_leaf A.d_Shelf_leaf
  bi_Shelf_leaf : Binds K A.d_Shelf_leaf p_Shelf_leaf []
  me_Shelf_leaf : Meth K A.C_Shelf "leaf" A.f_Shelf_leaf
  fn_Shelf_fork : Fun K "fork" "Shelf.fork" s_Shelf_fork A.f_Shelf_fork A.d_Shelf_fork
  bi_Shelf_fork : Binds K A.d_Shelf_fork p_Shelf_fork []
  me_Shelf_fork : Meth K A.C_Shelf "fork" A.f_Shelf_fork
  fn_Shelf_is_loose : Fun K "is_loose" "Shelf.is_loose" s_Shelf_is_loose A.f_Shelf_is_loose A.d_Shelf_is_loose
  bi_Shelf_is_loose : Binds K A.d_Shelf_is_loose p_Shelf_is_loose []
  me_Shelf_is_loose : Meth K A.C_Shelf "is_loose" A.f_Shelf_is_loose
  fn_written : Fun K "written" "written" s_written A.f_written A.d_written
  bi_written : Binds K A.d_written p_written []
  mg_written : mg "written" = some (.ref A.f_written)
  fn_piece_row : Fun K "piece_row" "piece_row" s_piece_row A.f_piece_row A.d_piece_row
  bi_piece_row : Binds K A.d_piece_row p_piece_row []
  mg_piece_row : mg "piece_row" = some (.ref A.f_piece_row)
  fn_shelf_text : Fun K "shelf_text" "shelf_text" s_shelf_text A.f_shelf_text A.d_shelf_text
  bi_shelf_text : Binds K A.d_shelf_text p_shelf_text []
  mg_shelf_text : mg "shelf_text" = some (.ref A.f_shelf_text)
  fn__law_mixed : Fun K "_law_mixed" "_law_mixed" s__law_mixed A.f__law_mixed A.d__law_mixed
  bi__law_mixed : Binds K A.d__law_mixed p__law_mixed []
  mg__law_mixed : mg "_law_mixed" = some (.ref A.f__law_mixed)
  fn__law_stream : Fun K "_law_stream" "_law_stream" s__law_stream A.f__law_stream A.d__law_stream
  bi__law_stream : Binds K A.d__law_stream p__law_stream []
  mg__law_stream : mg "_law_stream" = some (.ref A.f__law_stream)
  fn__law_digit : Fun K "_law_digit" "_law_digit" s__law_digit A.f__law_digit A.d__law_digit
  bi__law_digit : Binds K A.d__law_digit p__law_digit []
  mg__law_digit : mg "_law_digit" = some (.ref A.f__law_digit)
  fn__law_letters : Fun K "_law_letters" "_law_letters" s__law_letters A.f__law_letters A.d__law_letters
  bi__law_letters : Binds K A.d__law_letters p__law_letters []
  mg__law_letters : mg "_law_letters" = some (.ref A.f__law_letters)
  fn__law_tree : Fun K "_law_tree" "_law_tree" s__law_tree A.f__law_tree A.d__law_tree
  bi__law_tree : Binds K A.d__law_tree p__law_tree []
  mg__law_tree : mg "_law_tree" = some (.ref A.f__law_tree)
  fn__law_text : Fun K "_law_text" "_law_text" s__law_text A.f__law_text A.d__law_text
  bi__law_text : Binds K A.d__law_text p__law_text []
  mg__law_text : mg "_law_text" = some (.ref A.f__law_text)
  fn__law_long : Fun K "_law_long" "_law_long" s__law_long A.f__law_long A.d__law_long
  bi__law_long : Binds K A.d__law_long p__law_long []
  mg__law_long : mg "_law_long" = some (.ref A.f__law_long)
  fn__law_drawn_shelf : Fun K "_law_drawn_shelf" "_law_drawn_shelf" s__law_drawn_shelf A.f__law_drawn_shelf A.d__law_drawn_shelf
  bi__law_drawn_shelf : Binds K A.d__law_drawn_shelf p__law_drawn_shelf []
  mg__law_drawn_shelf : mg "_law_drawn_shelf" = some (.ref A.f__law_drawn_shelf)
  fn__law_written : Fun K "_law_written" "_law_written" s__law_written A.f__law_written A.d__law_written
  bi__law_written : Binds K A.d__law_written p__law_written []
  mg__law_written : mg "_law_written" = some (.ref A.f__law_written)
  fn__law_shelf_text : Fun K "_law_shelf_text" "_law_shelf_text" s__law_shelf_text A.f__law_shelf_text A.d__law_shelf_text
  bi__law_shelf_text : Binds K A.d__law_shelf_text p__law_shelf_text []
  mg__law_shelf_text : mg "_law_shelf_text" = some (.ref A.f__law_shelf_text)
  fn_law : Fun K "law" "law" s_law A.f_law A.d_law
  bi_law : Binds K A.d_law p_law []
  mg_law : mg "law" = some (.ref A.f_law)
  k_MOST_IN_LEAF : KInt mg "MOST_IN_LEAF" 8
  k_MOST_SIGNS : KInt mg "MOST_SIGNS" 1000000000000000000
  z_len : mg "len" = none
  z_max : mg "max" = none
  z_min : mg "min" = none
  z_range : mg "range" = none
  z_isinstance : mg "isinstance" = none
  z_all : mg "all" = none
  z_sum : mg "sum" = none
  z_str : mg "str" = none
  z_int : mg "int" = none
/-! ### Shelf: the promises -/
section
variable {C : Addr}
/-- what is refused by its number -/
def eN (E : XK) (CN : Addr) (H : Hp) : Prop := E (.ref CN) none H
def spGet (C CN : Addr) (f : List Tr → Option Tr → V) : Sp := fun vs H Q E => ∃ c S n, vs = [.ref (Cells.a c), .int n] ∧ ShAt C c H S ∧ ((∃ o, Tx S n o ∧ Q (f S o) H) ∨ (¬ inR S n ∧ E (.ref CN) none H))
def gOne (S : List Tr) : Option Tr → V := fun _ => .non
def gSg (S : List Tr) : Option Tr → V | none => .int 0 | some t => .int t.sg
def gEn (S : List Tr) : Option Tr → V | none => .int 0 | some t => .int t.en
def gLv (S : List Tr) : Option Tr → V | none => .int 0 | some t => .int t.lv
def gHt (S : List Tr) : Option Tr → V | none => .int (-1) | some t => .int t.ht
def gFi (S : List Tr) : Option Tr → V | none => .int 0 | some t => .int (num S t.fi)
def gLa (S : List Tr) : Option Tr → V | none => .int 0 | some t => .int (num S t.la)
theorem c_get {CN : Addr} {f : List Tr → Option Tr → V} {c : Cells} {S : List Tr} {n : Int} {o : Option Tr} {H : Hp} {Q : VK} {E : XK} (s : ShAt C c H S) (h : Tx S n o) (k : Q (f S o) H) : spGet C CN f [.ref c.a, .int n] H Q E :=
  ⟨c, S, n, rfl, s, .inl ⟨o, h, k⟩⟩
theorem c_getN {CN : Addr} {f : List Tr → Option Tr → V} {c : Cells} {S : List Tr} {n : Int} {t : Tr} {H : Hp} {Q : VK} {E : XK} (s : ShAt C c H S) (h : Nm S n t) (k : Q (f S (some t)) H) : spGet C CN f [.ref c.a, .int n] H Q E := c_get s (o := some t) h k
/-- want_piece -/
def spWantP (C CN : Addr) : Sp := fun vs H Q E => ∃ c S n, vs = [.ref (Cells.a c), .int n] ∧ ShAt C c H S ∧ ((∃ t, Nm S n t ∧ Q .non H) ∨ ((∀ t, ¬ Nm S n t) ∧ E (.ref CN) none H))
def spMany (C : Addr) : Sp := fun vs H Q _ => ∃ c S, vs = [.ref (Cells.a c)] ∧ ShAt C c H S ∧ Q (.int S.length) H
def spPiece (C CN : Addr) : Sp := fun vs H Q E => ∃ c S n, vs = [.ref (Cells.a c), .int n] ∧ ShAt C c H S ∧ ((∃ t, Nm S n t ∧ ∀ r, H r = some (.tup (pvals S t)) → Q (.ref r) H) ∨ ((∀ t, ¬ Nm S n t) ∧ E (.ref CN) none H))
theorem c_many {c : Cells} {S : List Tr} {H : Hp} {Q : VK} {E : XK} (s : ShAt C c H S) (k : Q (.int S.length) H) : spMany C [.ref c.a] H Q E := ⟨c, S, rfl, s, k⟩
theorem c_piece {CN : Addr} {c : Cells} {S : List Tr} {n : Int} {t : Tr} {H : Hp} {Q : VK} {E : XK} (s : ShAt C c H S) (h : Nm S n t) (k : ∀ r, H r = some (.tup (pvals S t)) → Q (.ref r) H) : spPiece C CN [.ref c.a, .int n] H Q E := ⟨c, S, n, rfl, s, .inl ⟨t, h, k⟩⟩
theorem c_wantP {CN : Addr} {c : Cells} {S : List Tr} {n : Int} {t : Tr} {H : Hp} {Q : VK} {E : XK} (s : ShAt C c H S) (h : Nm S n t) (k : Q .non H) : spWantP C CN [.ref c.a, .int n] H Q E := ⟨c, S, n, rfl, s, .inl ⟨t, h, k⟩⟩
theorem not_nm {S : List Tr} {n : Int} (h : ∀ t, ¬ Nm S n t) : ¬ (0 < n ∧ n ≤ S.length) := fun z => let ⟨t, x⟩ := Nm.of z.1 z.2; h t x
end
section
variable {P : Program} {w : World} {K : PySem.W.Frag} {mg : Str → Option Value} {base : Heap} {A : Ad}

abbrev n_Shelf_want : List Str := ["self", "text"]
theorem sc_Shelf_want : FnScope n_Shelf_want p_Shelf_want (defScope s_Shelf_want) := ⟨rfl, rfl, rfl, by decide +kernel, rfl, by decide +kernel, by decide +kernel⟩
theorem ok_Shelf_want (T : Txt K mg A) : FnOk P w K mg base (L2.CX P w) 1 A.f_Shelf_want A.d_Shelf_want p_Shelf_want (spGet A.C_Shelf A.C_NoPiece gOne) := by
  refine T.fn_Shelf_want.okX sc_Shelf_want (fun vs H Q E h => ?_) (fun cdv B outer s H vs Q E hr h => ?_)
  · obtain ⟨c, S, n, rfl, _⟩ := h; rfl
  obtain ⟨c, S, n, rfl, hS, h⟩ := h
  refine ⟨_, (pss_one (ps_if (pt_not (pt_chain op_le op_lt pe_int (pv 1) (pe_callB call_len_seq (by rfl) T.z_len bt_len (pa_cons (pe_fld (pv 0) rfl) pa_nil)))) (pss_one (ps_raise0 rfl T.ex_NoPiece (takes_of rfl rfl rfl rfl) rfl)) pss_nil)), ?_⟩
  obtain ⟨rs, p1, p2, _⟩ := hS.pc
  have len : (V.non :: rs.map V.ref).length = S.length + 1 := by simp [p2]
  refine w_ifS (w_tNot (w_test (w_chain (w_c (w_var rfl (w_rI0 ⟨_, rfl, ite_d (fun h0 => ?_) (fun h0 => ?_)⟩))))))
  · refine w_cb (w_cons (w_fld (w_var rfl ⟨c.a, _, _, _, _, rfl, hS.ob, T.cl_Shelf, T.na_Shelf_pieces, fl_pieces c, w_nil ⟨_, _, rfl, .inl (SqL.of p1), w_rI0 ⟨_, rfl, ite_n (fun h1 => ?_) (fun h1 => ?_)⟩⟩⟩)))
    · rcases h with ⟨o, h, _⟩ | ⟨_, h⟩
      · have := Tx.inR h; rw [len] at h1; exact absurd (by have := this.2; omega) h1
      · exact h
    · rcases h with ⟨o, h, k⟩ | ⟨h, _⟩
      · exact k
      · rw [len] at h1; exact absurd ⟨h0, by omega⟩ h
  · refine ⟨_, rfl, iteT ?_⟩
    rcases h with ⟨o, h, _⟩ | ⟨_, h⟩
    · exact absurd (Tx.inR h).1 h0
    · exact h
abbrev n_Shelf_want_piece : List Str := ["self", "number"]
theorem sc_Shelf_want_piece : FnScope n_Shelf_want_piece p_Shelf_want_piece (defScope s_Shelf_want_piece) := ⟨rfl, rfl, rfl, by decide +kernel, rfl, by decide +kernel, by decide +kernel⟩
theorem ok_Shelf_want_piece (T : Txt K mg A) : FnOk P w K mg base (L2.CX P w) 1 A.f_Shelf_want_piece A.d_Shelf_want_piece p_Shelf_want_piece (spWantP A.C_Shelf A.C_NoPiece) := by
  refine T.fn_Shelf_want_piece.okX sc_Shelf_want_piece (fun vs H Q E h => ?_) (fun cdv B outer s H vs Q E hr h => ?_)
  · obtain ⟨c, S, n, rfl, _⟩ := h; rfl
  obtain ⟨c, S, n, rfl, hS, h⟩ := h
  refine ⟨_, (pss_one (ps_if (pt_not (pt_chain op_lt op_lt pe_int (pv 1) (pe_callB call_len_seq (by rfl) T.z_len bt_len (pa_cons (pe_fld (pv 0) rfl) pa_nil)))) (pss_one (ps_raise0 rfl T.ex_NoPiece (takes_of rfl rfl rfl rfl) rfl)) pss_nil)), ?_⟩
  obtain ⟨rs, p1, p2, _⟩ := hS.pc
  have len : (V.non :: rs.map V.ref).length = S.length + 1 := by simp [p2]
  refine w_ifS (w_tNot (w_test (w_chain (w_c (w_var rfl (w_rI0 ⟨_, rfl, ite_d (fun h0 => ?_) (fun h0 => ?_)⟩))))))
  · refine w_cb (w_cons (w_fld (w_var rfl ⟨c.a, _, _, _, _, rfl, hS.ob, T.cl_Shelf, T.na_Shelf_pieces, fl_pieces c, w_nil ⟨_, _, rfl, .inl (SqL.of p1), w_rI0 ⟨_, rfl, ite_n (fun h1 => ?_) (fun h1 => ?_)⟩⟩⟩)))
    · rcases h with ⟨o, h, _⟩ | ⟨_, h⟩
      · have := Nm.pos h; rw [len] at h1; exact absurd (by have := this.2; omega) h1
      · exact h
    · rcases h with ⟨o, h, k⟩ | ⟨h, _⟩
      · exact k
      · rw [len] at h1; exact absurd ⟨h0, by omega⟩ (not_nm h)
  · refine ⟨_, rfl, iteT ?_⟩
    rcases h with ⟨o, h, _⟩ | ⟨_, h⟩
    · exact absurd (Nm.pos h).1 h0
    · exact h

abbrev n_Shelf_many : List Str := ["self"]
theorem sc_Shelf_many : FnScope n_Shelf_many p_Shelf_many (defScope s_Shelf_many) := ⟨rfl, rfl, rfl, by decide +kernel, rfl, by decide +kernel, by decide +kernel⟩
theorem ok_Shelf_many (T : Txt K mg A) : FnOk P w K mg base (L2.CX P w) 1 A.f_Shelf_many A.d_Shelf_many p_Shelf_many (spMany A.C_Shelf) := by
  refine T.fn_Shelf_many.okX sc_Shelf_many (fun vs H Q E h => ?_) (fun cdv B outer s H vs Q E hr h => ?_)
  · obtain ⟨c, S, rfl, _⟩ := h; rfl
  obtain ⟨c, S, rfl, hS, h⟩ := h
  refine ⟨_, (pss_one (ps_ret (pe_op op_sub (pe_callB call_len_seq (by rfl) T.z_len bt_len (pa_cons (pe_fld (pv 0) rfl) pa_nil)) pe_int))), ?_⟩
  obtain ⟨rs, p1, p2, _⟩ := hS.pc
  have len : ((V.non :: rs.map V.ref).length : Int) - 1 = S.length := by simp [p2]
  refine w_ret (w_op (w_cb (w_cons (w_fld (w_var rfl ⟨c.a, _, _, _, _, rfl, hS.ob, T.cl_Shelf, T.na_Shelf_pieces, fl_pieces c, w_nil ⟨_, _, rfl, .inl (SqL.of p1), w_c (w_rI0 ?_)⟩⟩)))))
  rw [len]; exact h
abbrev n_Shelf_piece : List Str := ["self", "number"]
theorem sc_Shelf_piece : FnScope n_Shelf_piece p_Shelf_piece (defScope s_Shelf_piece) := ⟨rfl, rfl, rfl, by decide +kernel, rfl, by decide +kernel, by decide +kernel⟩
theorem ok_Shelf_piece (T : Txt K mg A) : FnOk P w K mg base (L2.CX P w) 2 A.f_Shelf_piece A.d_Shelf_piece p_Shelf_piece (spPiece A.C_Shelf A.C_NoPiece) := by
  refine T.fn_Shelf_piece.okX sc_Shelf_piece (fun vs H Q E h => ?_) (fun cdv B outer s H vs Q E hr h => ?_)
  · obtain ⟨c, S, n, rfl, _⟩ := h; rfl
  obtain ⟨c, S, n, rfl, hS, h⟩ := h
  refine ⟨_, (pss_cons (ps_expr (pe_meth (pv 0) T.cl_Shelf T.me_Shelf_want_piece (ok_Shelf_want_piece T) (hr.mono (by omega)) T.bi_Shelf_want_piece .nil (passes_call (takes_of rfl rfl rfl rfl) (fun _ _ _ _ h => h)) (pa_cons (pv 1) pa_nil)))
      (pss_one (ps_ret (pe_ix ix_list (pe_fld (pv 0) rfl) (pv 1) (fun _ _ => rfl))))), ?_⟩
  refine w_seq (w_drop (w_meth (w_var rfl ⟨c.a, c.dx, _, rfl, hS.ob, fl_no (by decide +kernel), w_cons (w_var rfl (w_nil ?_))⟩)))
  rcases h with ⟨t, h, k⟩ | ⟨h, k⟩
  · refine c_wantP hS h ?_
    obtain ⟨xs, r, p1, _, p3, p4⟩ := piece_at hS h
    exact w_ret (w_op (w_fld (w_var rfl ⟨c.a, _, _, _, _, rfl, hS.ob, T.cl_Shelf, T.na_Shelf_pieces, fl_pieces c, w_var rfl (w_ixl (SqL.of p1) p3 (k r p4))⟩)))
  · exact ⟨c, S, n, rfl, hS, .inr ⟨h, k⟩⟩
abbrev n_Shelf_signs : List Str := ["self", "text"]
theorem sc_Shelf_signs : FnScope n_Shelf_signs p_Shelf_signs (defScope s_Shelf_signs) := ⟨rfl, rfl, rfl, by decide +kernel, rfl, by decide +kernel, by decide +kernel⟩
theorem ok_Shelf_signs (T : Txt K mg A) : FnOk P w K mg base (L2.CX P w) 2 A.f_Shelf_signs A.d_Shelf_signs p_Shelf_signs (spGet A.C_Shelf A.C_NoPiece gSg) := by
  refine T.fn_Shelf_signs.okX sc_Shelf_signs (fun vs H Q E h => ?_) (fun cdv B outer s H vs Q E hr h => ?_)
  · obtain ⟨c, S, n, rfl, _⟩ := h; rfl
  obtain ⟨c, S, n, rfl, hS, h⟩ := h
  refine ⟨_, (pss_cons (ps_expr (pe_meth (pv 0) T.cl_Shelf T.me_Shelf_want (ok_Shelf_want T) (hr.mono (by omega)) T.bi_Shelf_want .nil (passes_call (takes_of rfl rfl rfl rfl) (fun _ _ _ _ h => h)) (pa_cons (pv 1) pa_nil)))
      (pss_one (ps_ret (pe_ix ix_list (pe_fld (pv 0) rfl) (pv 1) (fun _ _ => rfl))))), ?_⟩
  refine w_seq (w_drop (w_meth (w_var rfl ⟨c.a, c.dx, _, rfl, hS.ob, fl_no (by decide +kernel), w_cons (w_var rfl (w_nil ?_))⟩)))
  rcases h with ⟨o, h, k⟩ | ⟨h, k⟩
  · refine c_get hS h ?_
    refine w_ret (w_op (w_fld (w_var rfl ⟨c.a, _, _, _, _, rfl, hS.ob, T.cl_Shelf, T.na_Shelf_told_signs, fl_signs c, w_var rfl (w_ixl (SqL.of hS.sg) (atI_tx h) ?_)⟩)))
    cases o <;> exact k
  · exact ⟨c, S, n, rfl, hS, .inr ⟨h, k⟩⟩
abbrev n_Shelf_ends : List Str := ["self", "text"]
theorem sc_Shelf_ends : FnScope n_Shelf_ends p_Shelf_ends (defScope s_Shelf_ends) := ⟨rfl, rfl, rfl, by decide +kernel, rfl, by decide +kernel, by decide +kernel⟩
theorem ok_Shelf_ends (T : Txt K mg A) : FnOk P w K mg base (L2.CX P w) 2 A.f_Shelf_ends A.d_Shelf_ends p_Shelf_ends (spGet A.C_Shelf A.C_NoPiece gEn) := by
  refine T.fn_Shelf_ends.okX sc_Shelf_ends (fun vs H Q E h => ?_) (fun cdv B outer s H vs Q E hr h => ?_)
  · obtain ⟨c, S, n, rfl, _⟩ := h; rfl
  obtain ⟨c, S, n, rfl, hS, h⟩ := h
  refine ⟨_, (pss_cons (ps_expr (pe_meth (pv 0) T.cl_Shelf T.me_Shelf_want (ok_Shelf_want T) (hr.mono (by omega)) T.bi_Shelf_want .nil (passes_call (takes_of rfl rfl rfl rfl) (fun _ _ _ _ h => h)) (pa_cons (pv 1) pa_nil)))
      (pss_one (ps_ret (pe_ix ix_list (pe_fld (pv 0) rfl) (pv 1) (fun _ _ => rfl))))), ?_⟩
  refine w_seq (w_drop (w_meth (w_var rfl ⟨c.a, c.dx, _, rfl, hS.ob, fl_no (by decide +kernel), w_cons (w_var rfl (w_nil ?_))⟩)))
  rcases h with ⟨o, h, k⟩ | ⟨h, k⟩
  · refine c_get hS h ?_
    refine w_ret (w_op (w_fld (w_var rfl ⟨c.a, _, _, _, _, rfl, hS.ob, T.cl_Shelf, T.na_Shelf_told_ends, fl_ends c, w_var rfl (w_ixl (SqL.of hS.en) (atI_tx h) ?_)⟩)))
    cases o <;> exact k
  · exact ⟨c, S, n, rfl, hS, .inr ⟨h, k⟩⟩
abbrev n_Shelf_leaves : List Str := ["self", "text"]
theorem sc_Shelf_leaves : FnScope n_Shelf_leaves p_Shelf_leaves (defScope s_Shelf_leaves) := ⟨rfl, rfl, rfl, by decide +kernel, rfl, by decide +kernel, by decide +kernel⟩
theorem ok_Shelf_leaves (T : Txt K mg A) : FnOk P w K mg base (L2.CX P w) 2 A.f_Shelf_leaves A.d_Shelf_leaves p_Shelf_leaves (spGet A.C_Shelf A.C_NoPiece gLv) := by
  refine T.fn_Shelf_leaves.okX sc_Shelf_leaves (fun vs H Q E h => ?_) (fun cdv B outer s H vs Q E hr h => ?_)
  · obtain ⟨c, S, n, rfl, _⟩ := h; rfl
  obtain ⟨c, S, n, rfl, hS, h⟩ := h
  refine ⟨_, (pss_cons (ps_expr (pe_meth (pv 0) T.cl_Shelf T.me_Shelf_want (ok_Shelf_want T) (hr.mono (by omega)) T.bi_Shelf_want .nil (passes_call (takes_of rfl rfl rfl rfl) (fun _ _ _ _ h => h)) (pa_cons (pv 1) pa_nil)))
      (pss_one (ps_ret (pe_ix ix_list (pe_fld (pv 0) rfl) (pv 1) (fun _ _ => rfl))))), ?_⟩
  refine w_seq (w_drop (w_meth (w_var rfl ⟨c.a, c.dx, _, rfl, hS.ob, fl_no (by decide +kernel), w_cons (w_var rfl (w_nil ?_))⟩)))
  rcases h with ⟨o, h, k⟩ | ⟨h, k⟩
  · refine c_get hS h ?_
    refine w_ret (w_op (w_fld (w_var rfl ⟨c.a, _, _, _, _, rfl, hS.ob, T.cl_Shelf, T.na_Shelf_told_leaves, fl_leaves c, w_var rfl (w_ixl (SqL.of hS.lv) (atI_tx h) ?_)⟩)))
    cases o <;> exact k
  · exact ⟨c, S, n, rfl, hS, .inr ⟨h, k⟩⟩
abbrev n_Shelf_height : List Str := ["self", "text"]
theorem sc_Shelf_height : FnScope n_Shelf_height p_Shelf_height (defScope s_Shelf_height) := ⟨rfl, rfl, rfl, by decide +kernel, rfl, by decide +kernel, by decide +kernel⟩
theorem ok_Shelf_height (T : Txt K mg A) : FnOk P w K mg base (L2.CX P w) 2 A.f_Shelf_height A.d_Shelf_height p_Shelf_height (spGet A.C_Shelf A.C_NoPiece gHt) := by
  refine T.fn_Shelf_height.okX sc_Shelf_height (fun vs H Q E h => ?_) (fun cdv B outer s H vs Q E hr h => ?_)
  · obtain ⟨c, S, n, rfl, _⟩ := h; rfl
  obtain ⟨c, S, n, rfl, hS, h⟩ := h
  refine ⟨_, (pss_cons (ps_expr (pe_meth (pv 0) T.cl_Shelf T.me_Shelf_want (ok_Shelf_want T) (hr.mono (by omega)) T.bi_Shelf_want .nil (passes_call (takes_of rfl rfl rfl rfl) (fun _ _ _ _ h => h)) (pa_cons (pv 1) pa_nil)))
      (pss_one (ps_ret (pe_ix ix_list (pe_fld (pv 0) rfl) (pv 1) (fun _ _ => rfl))))), ?_⟩
  refine w_seq (w_drop (w_meth (w_var rfl ⟨c.a, c.dx, _, rfl, hS.ob, fl_no (by decide +kernel), w_cons (w_var rfl (w_nil ?_))⟩)))
  rcases h with ⟨o, h, k⟩ | ⟨h, k⟩
  · refine c_get hS h ?_
    refine w_ret (w_op (w_fld (w_var rfl ⟨c.a, _, _, _, _, rfl, hS.ob, T.cl_Shelf, T.na_Shelf_told_heights, fl_heights c, w_var rfl (w_ixl (SqL.of hS.ht) (atI_tx h) ?_)⟩)))
    cases o <;> exact k
  · exact ⟨c, S, n, rfl, hS, .inr ⟨h, k⟩⟩
end

/-! ### Shelf: laid, leaf, fork -/
theorem lt1 {a b : Nat} : ([a] : List Nat) < [b] ↔ a < b := by rw [List.cons_lt_cons_iff]; simp
theorem dlt1 {a b : Nat} : (!decide (([a] : List Nat) < [b])) = decide (b ≤ a) := by
  by_cases h : a < b
  · rw [decide_eq_true (lt1.mpr h), decide_eq_false (by omega)]; rfl
  · rw [decide_eq_false (fun z => h (lt1.mp z)), decide_eq_true (by omega)]; rfl
theorem one_sT {a b : Nat} : ((⟨#[a]⟩ : Str) = sT [b]) ↔ a = b := by
  constructor
  · intro h; have := sT_inj (l := [a]) (m := [b]) h; simpa using this
  · intro h; rw [h]
theorem sT_bl : (" " : Str) = sT [32] := by decide +kernel
theorem sT_ti : ("~" : Str) = sT [126] := by decide +kernel
theorem all_plain (l : List Nat) : (l.map fun c => decide (plainC c)).all id = decide (Plain l) := by
  by_cases h : Plain l
  · rw [decide_eq_true h, List.all_eq_true]
    intro b hb
    obtain ⟨c, hc, rfl⟩ := List.mem_map.mp hb
    simpa using h c hc
  · rw [decide_eq_false h, List.all_eq_false]
    have : ∃ c, c ∈ l ∧ ¬ plainC c := by
      refine Classical.byContradiction fun z => h fun c hc => ?_
      exact Classical.byContradiction fun y => z ⟨c, hc, y⟩
    obtain ⟨c, hc, hn⟩ := this
    exact ⟨_, List.mem_map.mpr ⟨c, hc, rfl⟩, by simpa using hn⟩
theorem take_snoc {α : Type} {l : List α} {i : Nat} {x : α} (h : l[i]? = some x) : l.take (i + 1) = l.take i ++ [x] := by
  obtain ⟨hl, e⟩ := List.getElem?_eq_some_iff.mp h
  rw [List.take_succ, h]; rfl
def spPlain (K : PySem.W.Frag) : Sp := fun vs H Q _ => ∃ v, vs = [v] ∧ ((∃ l : List Nat, v = .str (sT l) ∧ l.length ≤ cap ∧ ∀ H', Same H H' → Q (.bl (decide (Plain l))) H') ∨
  (∃ t, TyX K H v t ∧ PySem.W.kitOne K t (.type "str") = some false ∧ Q (.bl false) H))
theorem c_plain {K : PySem.W.Frag} {l : List Nat} {H : Hp} {Q : VK} {E : XK} (hl : l.length ≤ cap) (k : ∀ H', Same H H' → Q (.bl (decide (Plain l))) H') : spPlain K [.str (sT l)] H Q E := ⟨_, rfl, .inl ⟨l, rfl, hl, k⟩⟩
def spEnds : Sp := fun vs H Q _ => ∃ l : List Nat, vs = [.str (sT l)] ∧ Q (.int (l.count 10 : Nat)) H
theorem c_ends {l : List Nat} {H : Hp} {Q : VK} {E : XK} (k : Q (.int (l.count 10 : Nat)) H) : spEnds [.str (sT l)] H Q E := ⟨l, rfl, k⟩
section
variable {C : Addr}
def spLaid (C : Addr) : Sp := fun vs H Q _ => ∃ c S t p xs, vs = [.ref (Cells.a c), .ref p, .int (t : Tr).sg, .int t.en, .int t.lv, .int t.ht] ∧ ShAt C c H S ∧ H p = some (.tup (pvals S t)) ∧ S.length < cap ∧ H c.pc = some (.lst xs) ∧ Q (.int (S.length + 1)) (laidH c H xs S t p)
def spLeaf (C CT : Addr) : Sp := fun vs H Q E => ∃ c S l, vs = [.ref (Cells.a c), .str (sT l)] ∧ ShAt C c H S ∧ l.length ≤ cap ∧ ((Ok (.lf l) ∧ S.length < cap ∧ ∀ H', ShAt C c H' (put S (.lf l)) → Keep c H H' → Q (.int (num (put S (.lf l)) (.lf l))) H') ∨
  (¬ Ok (.lf l) ∧ ∀ H', Same H H' → E (.ref CT) none H'))
theorem c_leaf {CT : Addr} {c : Cells} {S : List Tr} {l : List Nat} {H : Hp} {Q : VK} {E : XK} (s : ShAt C c H S) (o : Ok (.lf l)) (h : S.length < cap) (k : ∀ H', ShAt C c H' (put S (.lf l)) → Keep c H H' → Q (.int (num (put S (.lf l)) (.lf l))) H') :
    spLeaf C CT [.ref c.a, .str (sT l)] H Q E := ⟨c, S, l, rfl, s, by have := o.2.1; unfold cap; omega, .inl ⟨o, h, k⟩⟩
def spLoose (C : Addr) : Sp := fun vs H Q _ => ∃ c S n m a b, vs = [.ref (Cells.a c), .int n, .int m] ∧ ShAt C c H S ∧ Nm S n a ∧ Nm S m b ∧ Q (.bl (decide (a.la.sg + b.fi.sg ≤ 8))) H
theorem c_loose {c : Cells} {S : List Tr} {n m : Int} {a b : Tr} {H : Hp} {Q : VK} {E : XK} (s : ShAt C c H S) (ha : Nm S n a) (hb : Nm S m b) (k : Q (.bl (decide (a.la.sg + b.fi.sg ≤ 8))) H) : spLoose C [.ref c.a, .int n, .int m] H Q E := ⟨c, S, n, m, a, b, rfl, s, ha, hb, k⟩
/-- what a fork of two numbers comes to -/
def spFork (C CN CL CU CT : Addr) : Sp := fun vs H Q E => ∃ c S n m, vs = [.ref (Cells.a c), .int n, .int m] ∧ ShAt C c H S ∧
  ((((∀ t, ¬ Nm S n t) ∨ (∀ t, ¬ Nm S m t)) ∧ E (.ref CN) none H) ∨ ∃ a b, Nm S n a ∧ Nm S m b ∧
    ((a.la.sg + b.fi.sg ≤ 8 ∧ E (.ref CL) none H) ∨
     (8 < a.la.sg + b.fi.sg ∧ (b.ht + 1 < a.ht ∨ a.ht + 1 < b.ht) ∧ ∀ H', Same H H' → E (.ref CU) none H') ∨
     (8 < a.la.sg + b.fi.sg ∧ a.ht ≤ b.ht + 1 ∧ b.ht ≤ a.ht + 1 ∧ mostSg < a.sg + b.sg ∧ ∀ H', Same H H' → E (.ref CT) none H') ∨
     (Ok (.fk a b) ∧ S.length < cap ∧ ∀ H', ShAt C c H' (put S (.fk a b)) → Keep c H H' → Q (.int (num (put S (.fk a b)) (.fk a b))) H')))
theorem c_fork {CN CL CU CT : Addr} {c : Cells} {S : List Tr} {n m : Int} {a b : Tr} {H : Hp} {Q : VK} {E : XK} (s : ShAt C c H S) (ha : Nm S n a) (hb : Nm S m b) (o : Ok (.fk a b)) (h : S.length < cap)
    (k : ∀ H', ShAt C c H' (put S (.fk a b)) → Keep c H H' → Q (.int (num (put S (.fk a b)) (.fk a b))) H') : spFork C CN CL CU CT [.ref c.a, .int n, .int m] H Q E :=
  ⟨c, S, n, m, rfl, s, .inr ⟨a, b, ha, hb, .inr (.inr (.inr ⟨o, h, k⟩))⟩⟩
def spShelf (C : Addr) : Sp := fun vs H Q _ => ∃ p dx, vs = [.ref p] ∧ H p = some (.ins C dx []) ∧ H dx = some (.own p) ∧ dx ≠ p ∧ ∀ c H', c.a = p → ShAt C c H' [] → (∀ b o, H b = some o → b ≠ p → H' b = some o) → (∀ b ∈ c.all, b = p ∨ b = dx ∨ H b = none) → Q .non H'
end
theorem c_new {C : Addr} {H1 : Hp} {R : Addr → Hp → Prop} {E : XK} (k : ∀ c H', ShAt C c H' [] → Same H1 H' → (∀ b ∈ c.all, H1 b = none) → R c.a H') :
    ∀ x dx, H1 x = none → H1 dx = none → dx ≠ x → spShelf C (.ref x :: ([] ++ [])) (upd (upd H1 dx (.own x)) x (.ins C dx [])) (fun v H2 => v = .non ∧ R x H2) E := by
  intro x dx hx hdx ne
  refine ⟨x, dx, rfl, upd_same, by rw [upd_ne ne]; exact upd_same, ne, fun c H' ea hS kp fresh => ⟨rfl, ?_⟩⟩
  rw [← ea]
  refine k c H' hS (fun b o e => kp b o ?_ (ne_of_none e hx)) fun b hb => ?_
  · rw [upd_ne (ne_of_none e hx), upd_ne (ne_of_none e hdx)]; exact e
  · rcases fresh b hb with e | e | e
    · rw [e]; exact hx
    · rw [e]; exact hdx
    · cases q : H1 b with
      | none => rfl
      | some o =>
        rw [upd_ne (ne_of_none q hx), upd_ne (ne_of_none q hdx), q] at e
        cases e
section
variable {P : Program} {w : World} {K : PySem.W.Frag} {mg : Str → Option Value} {base : Heap} {A : Ad}
abbrev n_is_plain : List Str := ["thing", "sign"]
theorem sc_is_plain : FnScope n_is_plain p_is_plain (defScope s_is_plain) := ⟨rfl, rfl, rfl, by decide +kernel, rfl, by decide +kernel, by decide +kernel⟩
theorem ok_is_plain (T : Txt K mg A) : FnOk P w K mg base (L2.CX P w) 1 A.f_is_plain A.d_is_plain p_is_plain (spPlain K) := by
  refine T.fn_is_plain.okX sc_is_plain (fun vs H Q E h => ?_) (fun cdv B outer s H vs Q E hr h => ?_)
  · obtain ⟨v, rfl, _⟩ := h; rfl
  obtain ⟨v, rfl, h⟩ := h
  refine ⟨_, (pss_cons (ps_if (pt_not (pt_val (pe_callB call_isi (by rfl) T.z_isinstance bt_isinstance (pa_cons (pv 0) (pa_cons (pe_bltn (v := .ty "str") (u := .type "str") (by rfl) T.z_str bt_str rfl) pa_nil))))) (pss_one (ps_ret pe_bl)) pss_nil)
      (pss_one (ps_ret (pe_callB (cr_all rfl) (by rfl) T.z_all bt_all (pa_cons (pe_lc (own := [("sign", 1)]) (g := gName 1) (tt := tYes) rfl sc_is_plain.nd (pi_str (pv 0)) (blkOk_by (own := [("sign", 1)]) (N := n_is_plain) (sc := defScope s_is_plain) (by decide +kernel)) (fun _ _ _ _ _ => (pg_name (i := 1) sc_is_plain.nd rfl (Or.inl rfl))) (fun _ _ _ _ _ => pts_nil) (fun _ _ _ _ _ => (pe_or (pe_chain op_le_str op_le_str pe_str (pv 1) pe_str) (pe_one (pe_cmpR op_eq (pv 1) pe_str (nomark _)))))) pa_nil))))), ?_⟩
  refine w_seq (w_ifS (w_tNot (w_tB (w_cb (w_cons (w_var rfl (w_cons (w_c (w_nil ?_)))))))))
  rcases h with ⟨l, rfl, hl, k⟩ | ⟨t, ty, e, k⟩
  · refine ⟨_, _, _, _, true, rfl, .ty _, .base (.str _), kit_ty (by decide +kernel), w_bl (iteF ?_)⟩
    refine w_next ?_
    dsimp only
    refine w_ret (w_cb (w_cons ?_))
    refine ⟨_, rfl, _, rfl, fun D hD => ?_⟩
    refine lc_it walk_str (fun i H' => Same H H' ∧ H' D = some (.lst ((l.take i).map fun c => .bl (decide (plainC c))))) ⟨fun b o e => by rw [upd_ne (ne_of_none e hD)]; exact e, upd_same⟩ (fun _ _ _ _ => trivial) ?_ ?_
    · rintro i x H1 H2 hi ⟨q1, q2⟩ ⟨rfl, c, hc, rfl⟩
      have hc : l[i]? = some c := by simpa using hc
      have hi : i < l.length := by simpa using hi
      have key : ∀ (b : Bool), b = decide (plainC c) → ∃ acc, H2 D = some (.lst acc) ∧ acc.length < sizeLine ∧ Same H (upd H2 D (.lst (acc ++ [V.bl b]))) ∧ (upd H2 D (.lst (acc ++ [V.bl b]))) D = some (.lst ((l.take (i + 1)).map fun c => V.bl (decide (plainC c)))) := fun b eb => by
        refine ⟨_, q2, ?_, fun d o e => ?_, ?_⟩
        · have := cap_line; simp; omega
        · rw [upd_ne (ne_of_none e hD)]; exact q1 d o e
        · rw [upd_same, take_snoc hc, eb]; simp
      refine w_gname ⟨rfl, ?_⟩
      refine w_yes (iteT ?_)
      refine w_tOrV (w_chain (w_c (w_var rfl ⟨_, _, rfl, rfl, _, rfl, ?_⟩)))
      rw [sT_bl]
      show (if (!decide (([c] : List Nat) < [32])) = true then _ else _)
      rw [dlt1]
      refine ite_d (fun h1 => ?_) fun h1 => ?_
      · refine w_c ⟨_, _, rfl, rfl, _, rfl, ?_⟩
        rw [sT_ti]
        show (if (!decide (([126] : List Nat) < [c])) = true then _ else _)
        rw [dlt1]
        refine ite_d (fun h2 => ?_) fun h2 => ?_
        · exact key true (by rw [decide_eq_true]; exact .inl ⟨h1, h2⟩)
        · refine w_op (w_var rfl (w_c (w_eqS (key _ ?_))))
          rw [sT_lf]
          refine decide_eq_decide.mpr ⟨fun z => .inr (one_sT.mp z), fun z => one_sT.mpr ?_⟩
          rcases z with z | z
          · exact absurd z.2 h2
          · exact z
      · refine ⟨_, rfl, iteF ?_⟩
        refine w_op (w_var rfl (w_c (w_eqS (key _ ?_))))
        rw [sT_lf]
        refine decide_eq_decide.mpr ⟨fun z => .inr (one_sT.mp z), fun z => one_sT.mpr ?_⟩
        rcases z with z | z
        · exact absurd z.1 h1
        · exact z
    · rintro H1 ⟨q1, q2⟩
      refine w_nil ⟨D, l.map fun c => decide (plainC c), rfl, ?_, ?_⟩
      · rw [List.map_map]
        have : l.take (sT l).cps.size = l := List.take_of_length_le (by simp)
        rw [this] at q2
        exact SqL.of q2
      · rw [all_plain]; exact k H1 q1
  · exact ⟨_, _, _, _, false, rfl, .ty _, ty, e, w_bl (iteT (w_ret (w_c k)))⟩
abbrev n_ends_in : List Str := ["plain"]
theorem sc_ends_in : FnScope n_ends_in p_ends_in (defScope s_ends_in) := ⟨rfl, rfl, rfl, by decide +kernel, rfl, by decide +kernel, by decide +kernel⟩
theorem ok_ends_in (T : Txt K mg A) : FnOk P w K mg base (L2.CX P w) 1 A.f_ends_in A.d_ends_in p_ends_in spEnds := by
  refine T.fn_ends_in.okX sc_ends_in (fun vs H Q E h => ?_) (fun cdv B outer s H vs Q E hr h => ?_)
  · obtain ⟨l, rfl, _⟩ := h; rfl
  obtain ⟨l, rfl, h⟩ := h
  refine ⟨_, (pss_one (ps_ret (pe_m1 PySem.F.slot_str_count PySem.F.type_str_count mt_count (pv 0) pe_str))), ?_⟩
  refine w_ret ⟨_, rfl, ⟨_, rfl⟩, _, _, rfl, rfl, ?_⟩
  rw [sT_lf, count_one]; exact h
abbrev n_Shelf_laid : List Str := ["self", "piece", "signs", "ends", "leaves", "height", "number"]
theorem sc_Shelf_laid : FnScope n_Shelf_laid p_Shelf_laid (defScope s_Shelf_laid) := ⟨rfl, rfl, rfl, by decide +kernel, rfl, by decide +kernel, by decide +kernel⟩
theorem ok_Shelf_laid (T : Txt K mg A) : FnOk P w K mg base (L2.CX P w) 1 A.f_Shelf_laid A.d_Shelf_laid p_Shelf_laid (spLaid A.C_Shelf) := by
  refine T.fn_Shelf_laid.okX sc_Shelf_laid (fun vs H Q E h => ?_) (fun cdv B outer s H vs Q E hr h => ?_)
  · obtain ⟨c, S, t, p, xs, rfl, _⟩ := h; rfl
  obtain ⟨c, S, t, p, xs, rfl, hS, hp, cp, hx, k⟩ := h
  have hu := hu_of hr
  refine ⟨_, (pss_cons (ps_set (i := 6) sc_Shelf_laid.nd rfl (Or.inl rfl) (pe_callB call_len_seq (by rfl) T.z_len bt_len (pa_cons (pe_fld (pv 0) rfl) pa_nil)))
      (pss_cons (ps_expr (pe_bm PySem.F.plainAttrs_list PySem.F.slot_list_append PySem.F.type_list_append mt_append (pe_fld (pv 0) rfl) (pa_cons (pv 1) pa_nil)))
      (pss_cons (ps_dput hu (pe_fld (pv 0) rfl) (pv 1) (pv 6) rfl)
      (pss_cons (ps_expr (pe_bm PySem.F.plainAttrs_list PySem.F.slot_list_append PySem.F.type_list_append mt_append (pe_fld (pv 0) rfl) (pa_cons (pv 2) pa_nil)))
      (pss_cons (ps_expr (pe_bm PySem.F.plainAttrs_list PySem.F.slot_list_append PySem.F.type_list_append mt_append (pe_fld (pv 0) rfl) (pa_cons (pv 3) pa_nil)))
      (pss_cons (ps_expr (pe_bm PySem.F.plainAttrs_list PySem.F.slot_list_append PySem.F.type_list_append mt_append (pe_fld (pv 0) rfl) (pa_cons (pv 4) pa_nil)))
      (pss_cons (ps_expr (pe_bm PySem.F.plainAttrs_list PySem.F.slot_list_append PySem.F.type_list_append mt_append (pe_fld (pv 0) rfl) (pa_cons (pv 5) pa_nil)))
      (pss_one (ps_ret (pv 6)))))))))), ?_⟩
  have nd := hS.nd
  have pp : p ≠ c.pc := ne_of hp hx (by intro z; cases z)
  have lx : xs.length = S.length + 1 := by
    obtain ⟨rs, h1, h2, _⟩ := hS.pc
    rw [h1] at hx; injection hx with z; injection z with z; rw [← z]; simp [h2]
  have ob := hS.ob
  have sz : S.length + 1 < sizeLine := by have := cap_line; omega
  have szm : ∀ (z : V) (F : Tr → V), (z :: S.map F).length < sizeLine := fun z F => by simp; omega
  have szk : (kvs S).length < sizeLine := by unfold kvs; simp; omega
  refine w_seq (w_asg (w_cb (w_cons (w_fld (w_var rfl ⟨c.a, _, _, _, _, rfl, ob, T.cl_Shelf, T.na_Shelf_pieces, fl_pieces c, w_nil ⟨_, _, rfl, .inl (SqL.of hx), w_gname ?_⟩⟩)))))
  rw [show ((xs.length : Nat) : Int) = (S.length : Int) + 1 from by omega]
  dsimp only
  refine w_seq ?_
  refine w_drop (w_bm (w_fld (w_var rfl ⟨c.a, _, _, _, _, rfl, ob, T.cl_Shelf, T.na_Shelf_pieces, fl_pieces c, .inl ⟨rfl, _, SqL.of hx⟩, w_cons (w_var rfl (w_nil ⟨c.pc, xs, _, rfl, rfl, hx, by omega, ?_⟩))⟩)))
  dsimp only
  refine w_seq ?_
  refine ⟨_, rfl, _, rfl, c.a, _, _, _, _, rfl, (uc nd 0 2 ob), T.cl_Shelf, T.na_Shelf_numbers, fl_numbers c, _, rfl, c.nb, _, rfl, DPut.t (uc nd 3 2 hS.nb) (by rw [upd_ne pp]; exact hp) szk, ?_⟩
  dsimp only
  refine w_seq ?_
  refine w_drop (w_bm (w_fld (w_var rfl ⟨c.a, _, _, _, _, rfl, (uc nd 0 3 (uc nd 0 2 ob)), T.cl_Shelf, T.na_Shelf_told_signs, fl_signs c, .inl ⟨rfl, _, SqL.of (uc nd 4 3 (uc nd 4 2 hS.sg))⟩, w_cons (w_var rfl (w_nil ⟨c.sg, _, _, rfl, rfl, (uc nd 4 3 (uc nd 4 2 hS.sg)), szm _ _, ?_⟩))⟩)))
  dsimp only
  refine w_seq ?_
  refine w_drop (w_bm (w_fld (w_var rfl ⟨c.a, _, _, _, _, rfl, (uc nd 0 4 (uc nd 0 3 (uc nd 0 2 ob))), T.cl_Shelf, T.na_Shelf_told_ends, fl_ends c, .inl ⟨rfl, _, SqL.of (uc nd 5 4 (uc nd 5 3 (uc nd 5 2 hS.en)))⟩, w_cons (w_var rfl (w_nil ⟨c.en, _, _, rfl, rfl, (uc nd 5 4 (uc nd 5 3 (uc nd 5 2 hS.en))), szm _ _, ?_⟩))⟩)))
  dsimp only
  refine w_seq ?_
  refine w_drop (w_bm (w_fld (w_var rfl ⟨c.a, _, _, _, _, rfl, (uc nd 0 5 (uc nd 0 4 (uc nd 0 3 (uc nd 0 2 ob)))), T.cl_Shelf, T.na_Shelf_told_leaves, fl_leaves c, .inl ⟨rfl, _, SqL.of (uc nd 6 5 (uc nd 6 4 (uc nd 6 3 (uc nd 6 2 hS.lv))))⟩, w_cons (w_var rfl (w_nil ⟨c.lv, _, _, rfl, rfl, (uc nd 6 5 (uc nd 6 4 (uc nd 6 3 (uc nd 6 2 hS.lv)))), szm _ _, ?_⟩))⟩)))
  dsimp only
  refine w_seq ?_
  refine w_drop (w_bm (w_fld (w_var rfl ⟨c.a, _, _, _, _, rfl, (uc nd 0 6 (uc nd 0 5 (uc nd 0 4 (uc nd 0 3 (uc nd 0 2 ob))))), T.cl_Shelf, T.na_Shelf_told_heights, fl_heights c, .inl ⟨rfl, _, SqL.of (uc nd 7 6 (uc nd 7 5 (uc nd 7 4 (uc nd 7 3 (uc nd 7 2 hS.ht)))))⟩, w_cons (w_var rfl (w_nil ⟨c.ht, _, _, rfl, rfl, (uc nd 7 6 (uc nd 7 5 (uc nd 7 4 (uc nd 7 3 (uc nd 7 2 hS.ht))))), szm _ _, ?_⟩))⟩)))
  dsimp only
  exact w_ret (w_var rfl k)
end

section
variable {P : Program} {w : World} {K : PySem.W.Frag} {mg : Str → Option Value} {base : Heap} {A : Ad}
theorem put_num_new {S : List Tr} {t : Tr} (h : t ∉ S) : num (put S t) t = S.length + 1 := by rw [put_new h, num_last h]
abbrev n_Shelf_leaf : List Str := ["self", "plain", "piece", "number"]
theorem sc_Shelf_leaf : FnScope n_Shelf_leaf p_Shelf_leaf (defScope s_Shelf_leaf) := ⟨rfl, rfl, rfl, by decide +kernel, rfl, by decide +kernel, by decide +kernel⟩
theorem ok_Shelf_leaf (T : Txt K mg A) : FnOk P w K mg base (L2.CX P w) 2 A.f_Shelf_leaf A.d_Shelf_leaf p_Shelf_leaf (spLeaf A.C_Shelf A.C_NoText) := by
  refine T.fn_Shelf_leaf.okX sc_Shelf_leaf (fun vs H Q E h => ?_) (fun cdv B outer s H vs Q E hr h => ?_)
  · obtain ⟨c, S, l, rfl, _⟩ := h; rfl
  obtain ⟨c, S, l, rfl, hS, hl, h⟩ := h
  have hu := hu_of hr
  refine ⟨_, (pss_cons (ps_if (PW.pt (pw_or (pt_not (pt_val (pe_call (ok_is_plain T) (hr.mono (by omega)) (by rfl) T.mg_is_plain T.fn_is_plain.kp T.bi_is_plain .nil (passes_call (takes_of rfl rfl rfl rfl) (fun _ _ _ _ h => h)) (pa_cons (pv 1) pa_nil)))) (pw_or1 (pt_not (pt_chain op_le op_le pe_int (pe_callB call_len_str (by rfl) T.z_len bt_len (pa_cons (pv 1) pa_nil)) (pe_kint T.k_MOST_IN_LEAF (by rfl))))))) (pss_one (ps_raise0 rfl T.ex_NoText (takes_of rfl rfl rfl rfl) rfl)) pss_nil)
      (pss_cons (ps_set (i := 2) sc_Shelf_leaf.nd rfl (Or.inl rfl) (pe_tup (pa_cons pe_str (pa_cons (pv 1) pa_nil))))
      (pss_cons (ps_if (pt_cmp (pc_din hu (pv 2) (pe_fld (pv 0) rfl))) (pss_one (ps_ret (pe_dget hu (pe_fld (pv 0) rfl) (pv 2) (fun _ _ => rfl)))) pss_nil)
      (pss_cons (ps_set (i := 3) sc_Shelf_leaf.nd rfl (Or.inl rfl) (pe_meth (pv 0) T.cl_Shelf T.me_Shelf_laid (ok_Shelf_laid T) (hr.mono (by omega)) T.bi_Shelf_laid .nil (passes_call (takes_of rfl rfl rfl rfl) (fun _ _ _ _ h => h)) (pa_cons (pv 2) (pa_cons (pe_callB call_len_str (by rfl) T.z_len bt_len (pa_cons (pv 1) pa_nil)) (pa_cons (pe_call (ok_ends_in T) (hr.mono (by omega)) (by rfl) T.mg_ends_in T.fn_ends_in.kp T.bi_ends_in .nil (passes_call (takes_of rfl rfl rfl rfl) (fun _ _ _ _ h => h)) (pa_cons (pv 1) pa_nil)) (pa_cons pe_int (pa_cons pe_int pa_nil)))))))
      (pss_cons (ps_expr (pe_bm PySem.F.plainAttrs_list PySem.F.slot_list_append PySem.F.type_list_append mt_append (pe_fld (pv 0) rfl) (pa_cons (pv 3) pa_nil)))
      (pss_cons (ps_expr (pe_bm PySem.F.plainAttrs_list PySem.F.slot_list_append PySem.F.type_list_append mt_append (pe_fld (pv 0) rfl) (pa_cons (pv 3) pa_nil)))
      (pss_one (ps_ret (pv 3))))))))), ?_⟩
  have lline : l.length ≤ sizeLine := by have := cap_line; omega
  refine w_seq ?_
  refine w_ifS (w_tOr (w_tNot (w_tB (w_call (w_cons (w_var rfl (w_nil (c_plain hl fun H1 s1 => w_bl (ite_n (fun hn => ?_) (fun hp => ?_))))))))))
  · refine iteT ?_
    rcases h with ⟨o, _⟩ | ⟨_, k⟩
    · exact absurd o.2.2 hn
    · exact k H1 s1
  refine w_tNot (w_test (w_chain (w_c (w_cb (w_cons (w_var rfl (w_nil ⟨_, rfl, (by rw [sT_len]; exact lline), w_rI0 ⟨_, rfl, ite_d (fun h1 => ?_) (fun h1 => ?_)⟩⟩)))))))
  rotate_left
  · refine ⟨_, rfl, iteT ?_⟩
    rcases h with ⟨o, _⟩ | ⟨_, k⟩
    · exact absurd (by rw [sT_len]; have := o.1; omega) h1
    · exact k H1 s1
  refine w_c (w_rI0 ⟨_, rfl, ite_n (fun h2 => ?_) (fun h2 => ?_)⟩)
  · rcases h with ⟨o, _⟩ | ⟨_, k⟩
    · exact absurd (by rw [sT_len]; have := o.2.1; omega) h2
    · exact k H1 s1
  rw [sT_len] at h1 h2
  have ok : Ok (.lf l) := ⟨by omega, by omega, hp⟩
  rcases h with ⟨_, hc, k⟩ | ⟨n, _⟩
  rotate_left
  · exact absurd ok n
  have hS1 := hS.same s1
  refine w_next ?_
  dsimp only
  refine w_seq ?_
  refine w_asg (w_tup (w_cons (w_c (w_cons (w_var rfl (w_nil (w_mkt (by show 2 ≤ sizeLine; rw [sizeLine_eq]; decide) fun p H2 np s2 hp2 => w_gname ?_)))))))
  dsimp only
  have hS2 := hS1.same s2
  have kt : ∀ a b, Tr.lf l = .fk a b → a ∈ S ∧ b ∈ S := fun _ _ z => nomatch z
  have hp2' : H2 p = some (.tup ((key S (.lf l)).map kV)) := hp2
  refine w_seq ?_
  refine ⟨_, rfl, _, rfl, c.a, _, _, _, _, rfl, hS2.ob, T.cl_Shelf, T.na_Shelf_numbers, fl_numbers c, c.nb, _, rfl, DGet.t (k := key S (.lf l)) hS2.nb hp2', _, rfl, ?_⟩
  rw [valV_kvs hS.gd kt]
  by_cases hm : Tr.lf l ∈ S
  · rw [if_pos hm]
    refine iteT (w_ret ?_)
    refine ⟨_, rfl, c.a, _, _, _, _, rfl, hS2.ob, T.cl_Shelf, T.na_Shelf_numbers, fl_numbers c, _, rfl, c.nb, V.int (num S (.lf l)), rfl, ?_, ?_⟩
    · have := DGet.t (k := key S (.lf l)) hS2.nb hp2'
      rw [valV_kvs hS.gd kt, if_pos hm] at this; exact this
    · have := k H2 (by rw [put_in hm]; exact hS2) (Keep.of (s1.trans s2))
      rw [put_in hm] at this; exact this
  rw [if_neg hm]
  refine iteF (w_next ?_)
  dsimp only
  obtain ⟨rs, q1, q2, q3⟩ := hS2.pc
  refine w_seq ?_
  refine w_asg (w_meth (w_var rfl ⟨c.a, c.dx, _, rfl, hS2.ob, fl_no (by decide +kernel), w_cons (w_var rfl (w_cons (w_cb (w_cons (w_var rfl (w_nil ⟨_, rfl, (by rw [sT_len]; exact lline), ?_⟩)))))) ⟩))
  rw [sT_len]
  refine w_cons (w_call (w_cons (w_var rfl (w_nil (c_ends (w_cons (w_c (w_cons (w_c (w_nil ?_))))))))))
  refine ⟨c, S, .lf l, p, _, rfl, hS2, hp2', hc, q1, w_gname ?_⟩
  dsimp only
  have nd := hS.nd
  have szm : ∀ (z : V) (F : Tr → V), (z :: S.map F).length < sizeLine := fun z F => by have := cap_line; simp; omega
  refine w_seq ?_
  refine w_drop (w_bm (w_fld (w_var rfl ⟨c.a, _, _, _, _, rfl, (laid_at nd 0).trans hS2.ob, T.cl_Shelf, T.na_Shelf_firsts, fl_firsts c, ?_⟩)))
  have hfi := (laid_at (xs := .non :: rs.map V.ref) (t := .lf l) (p := p) (S := S) nd 8).trans hS2.fi
  refine ⟨.inl ⟨rfl, _, SqL.of hfi⟩, w_cons (w_var rfl (w_nil ⟨c.fi, _, _, rfl, rfl, hfi, szm _ _, ?_⟩))⟩
  dsimp only
  refine w_seq ?_
  refine w_drop (w_bm (w_fld (w_var rfl ⟨c.a, _, _, _, _, rfl, uc nd 0 8 ((laid_at nd 0).trans hS2.ob), T.cl_Shelf, T.na_Shelf_lasts, fl_lasts c, ?_⟩)))
  have hla := (laid_at (xs := .non :: rs.map V.ref) (t := .lf l) (p := p) (S := S) nd 9).trans hS2.la
  refine ⟨.inl ⟨rfl, _, SqL.of (uc nd 9 8 hla)⟩, w_cons (w_var rfl (w_nil ⟨c.la, _, _, rfl, rfl, uc nd 9 8 hla, szm _ _, ?_⟩))⟩
  dsimp only
  refine w_ret (w_var rfl ?_)
  have en : (S.length : Int) + 1 = num (S ++ [Tr.lf l]) (.lf l) := (num_last hm).symm
  obtain ⟨x1, x2⟩ := lain_ok hS2 q1 hp2' ok hm kt hc (f := S.length + 1) (l := S.length + 1) en en
  have := k _ (by rw [put_new hm]; exact x1) ((Keep.of (s1.trans s2)).trans x2)
  rw [put_num_new hm] at this
  exact this
abbrev n_Shelf_is_loose : List Str := ["self", "one", "other"]
theorem sc_Shelf_is_loose : FnScope n_Shelf_is_loose p_Shelf_is_loose (defScope s_Shelf_is_loose) := ⟨rfl, rfl, rfl, by decide +kernel, rfl, by decide +kernel, by decide +kernel⟩
theorem ok_Shelf_is_loose (T : Txt K mg A) : FnOk P w K mg base (L2.CX P w) 1 A.f_Shelf_is_loose A.d_Shelf_is_loose p_Shelf_is_loose (spLoose A.C_Shelf) := by
  refine T.fn_Shelf_is_loose.okX sc_Shelf_is_loose (fun vs H Q E h => ?_) (fun cdv B outer s H vs Q E hr h => ?_)
  · obtain ⟨c, S, n, m, a, b, rfl, _⟩ := h; rfl
  obtain ⟨c, S, n, m, a, b, rfl, hS, ha, hb, k⟩ := h
  refine ⟨_, (pss_one (ps_ret (pe_cmpR op_le (pe_op op_add (pe_ix ix_list (pe_fld (pv 0) rfl) (pe_ix ix_list (pe_fld (pv 0) rfl) (pv 1) (fun _ _ => rfl)) (fun _ _ => rfl)) (pe_ix ix_list (pe_fld (pv 0) rfl) (pe_ix ix_list (pe_fld (pv 0) rfl) (pv 2) (fun _ _ => rfl)) (fun _ _ => rfl))) (pe_kint T.k_MOST_IN_LEAF (by rfl)) (nomark _)))), ?_⟩
  refine w_ret (w_op (w_op (w_op (w_fld (w_var rfl ⟨c.a, _, _, _, _, rfl, hS.ob, T.cl_Shelf, T.na_Shelf_told_signs, fl_signs c, w_op (w_fld (w_var rfl ⟨c.a, _, _, _, _, rfl, hS.ob, T.cl_Shelf, T.na_Shelf_lasts, fl_lasts c, w_var rfl (w_ixl (SqL.of hS.la) (atI_nm ha) (w_ixl (SqL.of hS.sg) (atI_nm (nm_num (hS.gd.la ha.mem))) ?_))⟩))⟩)))))
  refine w_op (w_fld (w_var rfl ⟨c.a, _, _, _, _, rfl, hS.ob, T.cl_Shelf, T.na_Shelf_told_signs, fl_signs c, w_op (w_fld (w_var rfl ⟨c.a, _, _, _, _, rfl, hS.ob, T.cl_Shelf, T.na_Shelf_firsts, fl_firsts c, w_var rfl (w_ixl (SqL.of hS.fi) (atI_nm hb) (w_ixl (SqL.of hS.sg) (atI_nm (nm_num (hS.gd.fi hb.mem))) (w_rI0 (w_c (w_rI0 ?_)))))⟩))⟩))
  rw [show decide ((a.la.sg : Int) + (b.fi.sg : Int) ≤ 8) = decide (a.la.sg + b.fi.sg ≤ 8) from decide_eq_decide.mpr (by omega)]
  exact k
theorem mem2 {x a b : Int} (h : x ∈ [a, b]) : x = a ∨ x = b := by simpa using h
abbrev n_Shelf_fork : List Str := ["self", "one", "other", "heights", "signs", "piece", "ends", "leaves", "number"]
theorem sc_Shelf_fork : FnScope n_Shelf_fork p_Shelf_fork (defScope s_Shelf_fork) := ⟨rfl, rfl, rfl, by decide +kernel, rfl, by decide +kernel, by decide +kernel⟩
theorem ok_Shelf_fork (T : Txt K mg A) : FnOk P w K mg base (L2.CX P w) 2 A.f_Shelf_fork A.d_Shelf_fork p_Shelf_fork (spFork A.C_Shelf A.C_NoPiece A.C_Loose A.C_Unlevel A.C_TooLong) := by
  refine T.fn_Shelf_fork.okX sc_Shelf_fork (fun vs H Q E h => ?_) (fun cdv B outer s H vs Q E hr h => ?_)
  · obtain ⟨c, S, n, m, rfl, _⟩ := h; rfl
  obtain ⟨c, S, n, m, rfl, hS, h⟩ := h
  have hu := hu_of hr
  refine ⟨_, (pss_cons (ps_expr (pe_meth (pv 0) T.cl_Shelf T.me_Shelf_want_piece (ok_Shelf_want_piece T) (hr.mono (by omega)) T.bi_Shelf_want_piece .nil (passes_call (takes_of rfl rfl rfl rfl) (fun _ _ _ _ h => h)) (pa_cons (pv 1) pa_nil)))
      (pss_cons (ps_expr (pe_meth (pv 0) T.cl_Shelf T.me_Shelf_want_piece (ok_Shelf_want_piece T) (hr.mono (by omega)) T.bi_Shelf_want_piece .nil (passes_call (takes_of rfl rfl rfl rfl) (fun _ _ _ _ h => h)) (pa_cons (pv 2) pa_nil)))
      (pss_cons (ps_if (pt_val (pe_meth (pv 0) T.cl_Shelf T.me_Shelf_is_loose (ok_Shelf_is_loose T) (hr.mono (by omega)) T.bi_Shelf_is_loose .nil (passes_call (takes_of rfl rfl rfl rfl) (fun _ _ _ _ h => h)) (pa_cons (pv 1) (pa_cons (pv 2) pa_nil)))) (pss_one (ps_raise0 rfl T.ex_Loose (takes_of rfl rfl rfl rfl) rfl)) pss_nil)
      (pss_cons (ps_set (i := 3) sc_Shelf_fork.nd rfl (Or.inl rfl) (pe_lst (pa_cons (pe_ix ix_list (pe_fld (pv 0) rfl) (pv 1) (fun _ _ => rfl)) (pa_cons (pe_ix ix_list (pe_fld (pv 0) rfl) (pv 2) (fun _ _ => rfl)) pa_nil))))
      (pss_cons (ps_if (pt_cmpR op_gt (pe_op op_sub (pe_callB (cr_max rfl) (by rfl) T.z_max bt_max (pa_cons (pv 3) pa_nil)) (pe_callB (cr_min rfl) (by rfl) T.z_min bt_min (pa_cons (pv 3) pa_nil))) pe_int (nomark _)) (pss_one (ps_raise0 rfl T.ex_Unlevel (takes_of rfl rfl rfl rfl) rfl)) pss_nil)
      (pss_cons (ps_set (i := 4) sc_Shelf_fork.nd rfl (Or.inl rfl) (pe_op op_add (pe_ix ix_list (pe_fld (pv 0) rfl) (pv 1) (fun _ _ => rfl)) (pe_ix ix_list (pe_fld (pv 0) rfl) (pv 2) (fun _ _ => rfl))))
      (pss_cons (ps_if (pt_cmpR op_gt (pv 4) (pe_kint T.k_MOST_SIGNS (by rfl)) (nomark _)) (pss_one (ps_raise0 rfl T.ex_TooLong (takes_of rfl rfl rfl rfl) rfl)) pss_nil)
      (pss_cons (ps_set (i := 5) sc_Shelf_fork.nd rfl (Or.inl rfl) (pe_tup (pa_cons pe_str (pa_cons (pv 1) (pa_cons (pv 2) pa_nil)))))
      (pss_cons (ps_if (pt_cmp (pc_din hu (pv 5) (pe_fld (pv 0) rfl))) (pss_one (ps_ret (pe_dget hu (pe_fld (pv 0) rfl) (pv 5) (fun _ _ => rfl)))) pss_nil)
      (pss_cons (ps_set (i := 6) sc_Shelf_fork.nd rfl (Or.inl rfl) (pe_op op_add (pe_ix ix_list (pe_fld (pv 0) rfl) (pv 1) (fun _ _ => rfl)) (pe_ix ix_list (pe_fld (pv 0) rfl) (pv 2) (fun _ _ => rfl))))
      (pss_cons (ps_set (i := 7) sc_Shelf_fork.nd rfl (Or.inl rfl) (pe_op op_add (pe_ix ix_list (pe_fld (pv 0) rfl) (pv 1) (fun _ _ => rfl)) (pe_ix ix_list (pe_fld (pv 0) rfl) (pv 2) (fun _ _ => rfl))))
      (pss_cons (ps_set (i := 8) sc_Shelf_fork.nd rfl (Or.inl rfl) (pe_meth (pv 0) T.cl_Shelf T.me_Shelf_laid (ok_Shelf_laid T) (hr.mono (by omega)) T.bi_Shelf_laid .nil (passes_call (takes_of rfl rfl rfl rfl) (fun _ _ _ _ h => h)) (pa_cons (pv 5) (pa_cons (pv 4) (pa_cons (pv 6) (pa_cons (pv 7) (pa_cons (pe_op op_add pe_int (pe_callB (cr_max rfl) (by rfl) T.z_max bt_max (pa_cons (pv 3) pa_nil))) pa_nil)))))))
      (pss_cons (ps_expr (pe_bm PySem.F.plainAttrs_list PySem.F.slot_list_append PySem.F.type_list_append mt_append (pe_fld (pv 0) rfl) (pa_cons (pe_ix ix_list (pe_fld (pv 0) rfl) (pv 1) (fun _ _ => rfl)) pa_nil)))
      (pss_cons (ps_expr (pe_bm PySem.F.plainAttrs_list PySem.F.slot_list_append PySem.F.type_list_append mt_append (pe_fld (pv 0) rfl) (pa_cons (pe_ix ix_list (pe_fld (pv 0) rfl) (pv 2) (fun _ _ => rfl)) pa_nil)))
      (pss_one (ps_ret (pv 8))))))))))))))))), ?_⟩
  have no : ∀ {x : Str}, (x == "pieces" || x == "numbers" || x == "told_signs" || x == "told_ends" || x == "told_leaves" || x == "told_heights" || x == "firsts" || x == "lasts") = false → (flds c).lookup x = none := fl_no
  refine w_seq ?_
  refine w_drop (w_meth (w_var rfl ⟨c.a, c.dx, _, rfl, hS.ob, fl_no (by decide +kernel), w_cons (w_var rfl (w_nil ?_))⟩))
  by_cases e1 : ∃ a, Nm S n a
  rotate_left
  · have e1 : ∀ t, ¬ Nm S n t := fun t z => e1 ⟨t, z⟩
    rcases h with ⟨_, h⟩ | ⟨a, _, ha, _⟩
    · exact ⟨c, S, n, rfl, hS, .inr ⟨e1, h⟩⟩
    · exact absurd ha (e1 a)
  obtain ⟨a, ha⟩ := e1
  refine c_wantP hS ha ?_
  dsimp only
  refine w_seq ?_
  refine w_drop (w_meth (w_var rfl ⟨c.a, c.dx, _, rfl, hS.ob, fl_no (by decide +kernel), w_cons (w_var rfl (w_nil ?_))⟩))
  by_cases e2 : ∃ a, Nm S m a
  rotate_left
  · have e2 : ∀ t, ¬ Nm S m t := fun t z => e2 ⟨t, z⟩
    rcases h with ⟨_, h⟩ | ⟨_, b, _, hb, _⟩
    · exact ⟨c, S, m, rfl, hS, .inr ⟨e2, h⟩⟩
    · exact absurd hb (e2 b)
  obtain ⟨b, hb⟩ := e2
  refine c_wantP hS hb ?_
  dsimp only
  rcases h with ⟨z, _⟩ | ⟨a', b', ha', hb', h⟩
  · rcases z with z | z
    · exact absurd ha (z a)
    · exact absurd hb (z b)
  have ea := ha'.uni ha
  have eb := hb'.uni hb
  subst ea eb
  refine w_seq ?_
  refine w_ifS (w_tB (w_meth (w_var rfl ⟨c.a, c.dx, _, rfl, hS.ob, fl_no (by decide +kernel), w_cons (w_var rfl (w_cons (w_var rfl (w_nil (c_loose hS ha hb (w_bl (ite_d (fun l1 => ?_) (fun l1 => ?_)))))))) ⟩)))
  · rcases h with ⟨_, h⟩ | ⟨z, _⟩ | ⟨z, _⟩ | ⟨o, _⟩
    · exact h
    · omega
    · omega
    · have := o.2.2.2.2.1; omega
  refine w_next ?_
  dsimp only
  have hh : ∀ {x : Int} {t : Tr}, Nm S x t → atI (V.int (-1) :: S.map fun t => V.int t.ht) x = some (.int t.ht) := fun z => atI_nm z
  refine w_seq ?_
  refine w_asg (w_lst (w_cons (w_op (w_fld (w_var rfl ⟨c.a, _, _, _, _, rfl, hS.ob, T.cl_Shelf, T.na_Shelf_told_heights, fl_heights c, w_var rfl (w_ixl (SqL.of hS.ht) (hh ha) ?_)⟩)))))
  refine w_cons (w_op (w_fld (w_var rfl ⟨c.a, _, _, _, _, rfl, hS.ob, T.cl_Shelf, T.na_Shelf_told_heights, fl_heights c, w_var rfl (w_ixl (SqL.of hS.ht) (hh hb) (w_nil (w_mkl (by show 2 ≤ sizeLine; rw [sizeLine_eq]; decide) fun hl H1 nh s1 hh1 => w_gname ?_)))⟩)))
  dsimp only
  have hS1 := hS.same s1
  have hq : SqL K H1 hl (([(a'.ht : Int), (b'.ht : Int)] : List Int).map V.int) := SqL.of hh1
  refine w_seq ?_
  refine w_ifS (w_test (w_op (w_op (w_cb (w_cons (w_var rfl (w_nil ⟨hl, _, rfl, hq, by simp, fun M hM hM2 => ?_⟩)))))))
  refine w_cb (w_cons (w_var rfl (w_nil ⟨hl, _, rfl, hq, by simp, fun N hN hN2 => w_rI0 (w_c (w_rI0 ⟨_, rfl, ?_⟩))⟩)))
  have M1 := hM2 a'.ht (by simp)
  have M2 := hM2 b'.ht (by simp)
  have N1 := hN2 a'.ht (by simp)
  have N2 := hN2 b'.ht (by simp)
  have M3 := mem2 hM
  have N3 := mem2 hN
  refine ite_d (fun l2 => ?_) (fun l2 => ?_)
  · rcases h with ⟨z, _⟩ | ⟨_, _, h⟩ | ⟨_, _, _, _⟩ | ⟨o, _⟩
    · exact absurd z l1
    · exact h H1 s1
    · omega
    · have := o.2.2.1; have := o.2.2.2.1; omega
  refine w_next ?_
  dsimp only
  refine w_seq ?_
  refine w_asg (w_op (w_op (w_fld (w_var rfl ⟨c.a, _, _, _, _, rfl, hS1.ob, T.cl_Shelf, T.na_Shelf_told_signs, fl_signs c, w_var rfl (w_ixl (SqL.of hS1.sg) (atI_nm ha) ?_)⟩))))
  refine w_op (w_fld (w_var rfl ⟨c.a, _, _, _, _, rfl, hS1.ob, T.cl_Shelf, T.na_Shelf_told_signs, fl_signs c, w_var rfl (w_ixl (SqL.of hS1.sg) (atI_nm hb) (w_rI0 (w_gname ?_)))⟩))
  dsimp only
  refine w_seq ?_
  refine w_ifS (w_test (w_op (w_var rfl (w_c (w_rI0 ⟨_, rfl, ite_d (fun l3 => ?_) (fun l3 => ?_)⟩)))))
  · rcases h with ⟨z, _⟩ | ⟨_, z, _⟩ | ⟨_, _, _, _, h⟩ | ⟨o, _⟩
    · exact absurd z l1
    · omega
    · exact h H1 s1
    · have := o.2.2.2.2.2; unfold mostSg at this; omega
  refine w_next ?_
  dsimp only
  rcases h with ⟨z, _⟩ | ⟨_, z, _⟩ | ⟨_, _, _, z, _⟩ | ⟨o, hc, k⟩
  · exact absurd z l1
  · omega
  · unfold mostSg at z; omega
  have en : n = num S a' := ha.num hS.gd.nd
  have em : m = num S b' := hb.num hS.gd.nd
  have kt : ∀ x y, Tr.fk a' b' = .fk x y → x ∈ S ∧ y ∈ S := fun x y z => by
    injection z with z1 z2
    subst z1 z2
    exact ⟨ha.mem, hb.mem⟩
  refine w_seq ?_
  refine w_asg (w_tup (w_cons (w_c (w_cons (w_var rfl (w_cons (w_var rfl (w_nil (w_mkt (by show 3 ≤ sizeLine; rw [sizeLine_eq]; decide) fun p H2 np s2 hp2 => w_gname ?_)))))))))
  dsimp only
  have hS2 := hS1.same s2
  have hp2' : H2 p = some (.tup ((key S (.fk a' b')).map kV)) := by
    rw [hp2, key_fk, en, em]; rfl
  refine w_seq ?_
  refine ⟨_, rfl, _, rfl, c.a, _, _, _, _, rfl, hS2.ob, T.cl_Shelf, T.na_Shelf_numbers, fl_numbers c, c.nb, _, rfl, DGet.t (k := key S (.fk a' b')) hS2.nb hp2', _, rfl, ?_⟩
  rw [valV_kvs hS.gd kt]
  by_cases hm : Tr.fk a' b' ∈ S
  · rw [if_pos hm]
    refine iteT (w_ret ?_)
    refine ⟨_, rfl, c.a, _, _, _, _, rfl, hS2.ob, T.cl_Shelf, T.na_Shelf_numbers, fl_numbers c, _, rfl, c.nb, V.int (num S (.fk a' b')), rfl, ?_, ?_⟩
    · have := DGet.t (k := key S (.fk a' b')) hS2.nb hp2'
      rw [valV_kvs hS.gd kt, if_pos hm] at this; exact this
    · have := k H2 (by rw [put_in hm]; exact hS2) (Keep.of (s1.trans s2))
      rw [put_in hm] at this; exact this
  rw [if_neg hm]
  refine iteF (w_next ?_)
  dsimp only
  refine w_seq ?_
  refine w_asg (w_op (w_op (w_fld (w_var rfl ⟨c.a, _, _, _, _, rfl, hS2.ob, T.cl_Shelf, T.na_Shelf_told_ends, fl_ends c, w_var rfl (w_ixl (SqL.of hS2.en) (atI_nm ha) ?_)⟩))))
  refine w_op (w_fld (w_var rfl ⟨c.a, _, _, _, _, rfl, hS2.ob, T.cl_Shelf, T.na_Shelf_told_ends, fl_ends c, w_var rfl (w_ixl (SqL.of hS2.en) (atI_nm hb) (w_rI0 (w_gname ?_)))⟩))
  dsimp only
  refine w_seq ?_
  refine w_asg (w_op (w_op (w_fld (w_var rfl ⟨c.a, _, _, _, _, rfl, hS2.ob, T.cl_Shelf, T.na_Shelf_told_leaves, fl_leaves c, w_var rfl (w_ixl (SqL.of hS2.lv) (atI_nm ha) ?_)⟩))))
  refine w_op (w_fld (w_var rfl ⟨c.a, _, _, _, _, rfl, hS2.ob, T.cl_Shelf, T.na_Shelf_told_leaves, fl_leaves c, w_var rfl (w_ixl (SqL.of hS2.lv) (atI_nm hb) (w_rI0 (w_gname ?_)))⟩))
  dsimp only
  obtain ⟨rs, q1, q2, q3⟩ := hS2.pc
  have hq2 : SqL K H2 hl (([(a'.ht : Int), (b'.ht : Int)] : List Int).map V.int) := SqL.of (s2 _ _ hh1)
  refine w_seq ?_
  refine w_asg (w_meth (w_var rfl ⟨c.a, c.dx, _, rfl, hS2.ob, fl_no (by decide +kernel), w_cons (w_var rfl (w_cons (w_var rfl (w_cons (w_var rfl (w_cons (w_var rfl ?_))))))) ⟩))
  refine w_cons (w_op (w_c (w_cb (w_cons (w_var rfl (w_nil ⟨hl, _, rfl, hq2, by simp, fun M' hM' hM2' => w_rI0 (w_nil ?_)⟩))))))
  have M1' := hM2' a'.ht (by simp)
  have M2' := hM2' b'.ht (by simp)
  have M3' := mem2 hM'
  have eht : (1 : Int) + M' = ((Tr.fk a' b').ht : Int) := by rw [Tr.ht]; omega
  have esg : (a'.sg : Int) + b'.sg = ((Tr.fk a' b').sg : Int) := by rw [Tr.sg]; omega
  have een : (a'.en : Int) + b'.en = ((Tr.fk a' b').en : Int) := by rw [Tr.en]; omega
  have elv : (a'.lv : Int) + b'.lv = ((Tr.fk a' b').lv : Int) := by rw [Tr.lv]; omega
  rw [eht, esg, een, elv]
  refine ⟨c, S, .fk a' b', p, _, rfl, hS2, hp2', hc, q1, w_gname ?_⟩
  dsimp only
  have nd := hS.nd
  have szm : ∀ (z : V) (F : Tr → V), (z :: S.map F).length < sizeLine := fun z F => by have := cap_line; simp; omega
  have hob := (laid_at (xs := .non :: rs.map V.ref) (t := .fk a' b') (p := p) (S := S) nd 0).trans hS2.ob
  have hfi := (laid_at (xs := .non :: rs.map V.ref) (t := .fk a' b') (p := p) (S := S) nd 8).trans hS2.fi
  have hla := (laid_at (xs := .non :: rs.map V.ref) (t := .fk a' b') (p := p) (S := S) nd 9).trans hS2.la
  refine w_seq ?_
  refine w_drop (w_bm (w_fld (w_var rfl ⟨c.a, _, _, _, _, rfl, hob, T.cl_Shelf, T.na_Shelf_firsts, fl_firsts c, .inl ⟨rfl, _, SqL.of hfi⟩, ?_⟩)))
  refine w_cons (w_op (w_fld (w_var rfl ⟨c.a, _, _, _, _, rfl, hob, T.cl_Shelf, T.na_Shelf_firsts, fl_firsts c, w_var rfl (w_ixl (SqL.of hfi) (atI_nm ha) (w_nil ⟨c.fi, _, _, rfl, rfl, hfi, szm _ _, ?_⟩))⟩)))
  dsimp only
  refine w_seq ?_
  refine w_drop (w_bm (w_fld (w_var rfl ⟨c.a, _, _, _, _, rfl, uc nd 0 8 hob, T.cl_Shelf, T.na_Shelf_lasts, fl_lasts c, .inl ⟨rfl, _, SqL.of (uc nd 9 8 hla)⟩, ?_⟩)))
  refine w_cons (w_op (w_fld (w_var rfl ⟨c.a, _, _, _, _, rfl, uc nd 0 8 hob, T.cl_Shelf, T.na_Shelf_lasts, fl_lasts c, w_var rfl (w_ixl (SqL.of (uc nd 9 8 hla)) (atI_nm hb) (w_nil ⟨c.la, _, _, rfl, rfl, uc nd 9 8 hla, szm _ _, ?_⟩))⟩)))
  dsimp only
  refine w_ret (w_var rfl ?_)
  have ex : Ext S (S ++ [Tr.fk a' b']) := List.prefix_append _ _
  obtain ⟨x1, x2⟩ := lain_ok hS2 q1 hp2' o hm kt hc (f := num S a'.fi) (l := num S b'.la) (num_ext ex (hS.gd.fi ha.mem)).symm (num_ext ex (hS.gd.la hb.mem)).symm
  have := k _ (by rw [put_new hm]; exact x1) ((Keep.of (s1.trans s2)).trans x2)
  rw [put_num_new hm] at this
  exact this
end

section
variable {P : Program} {w : World} {K : PySem.W.Frag} {mg : Str → Option Value} {base : Heap} {A : Ad}
abbrev n_Shelf___init__ : List Str := ["self"]
theorem sc_Shelf___init__ : FnScope n_Shelf___init__ p_Shelf___init__ (defScope s_Shelf___init__) := ⟨rfl, rfl, rfl, by decide +kernel, rfl, by decide +kernel, by decide +kernel⟩
theorem ok_Shelf___init__ (T : Txt K mg A) : FnOk P w K mg base (L2.CX P w) 1 A.f_Shelf___init__ A.d_Shelf___init__ p_Shelf___init__ (spShelf A.C_Shelf) := by
  refine T.fn_Shelf___init__.okX sc_Shelf___init__ (fun vs H Q E h => ?_) (fun cdv B outer s H vs Q E hr h => ?_)
  · obtain ⟨p, dx, rfl, _⟩ := h; rfl
  obtain ⟨p, dx, rfl, hp, hd, hne, k⟩ := h
  refine ⟨_, (pss_cons (ps_fld (pv 0) (pe_lst (pa_cons pe_non pa_nil)) rfl)
      (pss_cons (ps_fld (pv 0) pe_dnewT rfl)
      (pss_cons (ps_fld (pv 0) (pe_lst (pa_cons pe_int pa_nil)) rfl)
      (pss_cons (ps_fld (pv 0) (pe_lst (pa_cons pe_int pa_nil)) rfl)
      (pss_cons (ps_fld (pv 0) (pe_lst (pa_cons pe_int pa_nil)) rfl)
      (pss_cons (ps_fld (pv 0) (pe_lst (pa_cons (pe_un un_neg pe_int) pa_nil)) rfl)
      (pss_cons (ps_fld (pv 0) (pe_lst (pa_cons pe_int pa_nil)) rfl)
      (pss_one (ps_fld (pv 0) (pe_lst (pa_cons pe_int pa_nil)) rfl))))))))), ?_⟩
  have l1 : ∀ x : V, [x].length ≤ sizeLine := fun x => by show 1 ≤ sizeLine; rw [sizeLine_eq]; decide
  refine w_seq ?_
  refine w_lst (w_cons (w_c (w_nil ⟨l1 _, fun zpc npc => ?_⟩)))
  have ppc : zpc ≠ p := (ne_of_none hp npc).symm
  refine ⟨_, rfl, p, _, dx, _, rfl, (by rw [upd_ne ppc.symm]; exact hp), T.cl_Shelf, T.na_Shelf_pieces, (by show 0 < 1000; decide), ?_⟩
  rw [show putF "pieces" (V.ref zpc) ([] : List (Str × V)) = [(("pieces" : Str), V.ref zpc)] from putF_new (ks := ([] : List Str)) rfl (by decide +kernel)]
  generalize e0 : upd (upd H zpc (HO.lst [.non])) p (.ins A.C_Shelf dx [(("pieces" : Str), V.ref zpc)]) = H0
  have g0 : H0 p = some (.ins A.C_Shelf dx [(("pieces" : Str), V.ref zpc)]) := by rw [← e0]; exact upd_same
  have hd_0 : H0 dx = some (.own p) := by rw [← e0]; exact mkS npc hne hd
  have cpc_0 : H0 zpc = some (.lst [.non]) := by rw [← e0]; exact mkN ppc
  have fr0 : ∀ b o, H b = some o → b ≠ p → H0 b = some o := fun b o e nb => by rw [← e0]; exact mkS npc nb e
  have opc : H zpc = none := by cases e : H zpc with | none => rfl | some o => exact absurd (e.symm.trans npc) (by simp)
  dsimp only
  have ddxpc : dx ≠ zpc := ne_of_none hd npc
  refine w_seq ?_
  refine fun znb nnb => ?_
  have pnb : znb ≠ p := (ne_of_none g0 nnb).symm
  refine ⟨_, rfl, p, _, dx, _, rfl, (by rw [upd_ne pnb.symm]; exact g0), T.cl_Shelf, T.na_Shelf_numbers, (by show 1 < 1000; decide), ?_⟩
  rw [show putF "numbers" (V.ref znb) ([(("pieces" : Str), V.ref zpc)] : List (Str × V)) = [(("pieces" : Str), V.ref zpc), (("numbers" : Str), V.ref znb)] from putF_new (ks := (["pieces"] : List Str)) rfl (by decide +kernel)]
  generalize e1 : upd (upd H0 znb (HO.dT [])) p (.ins A.C_Shelf dx [(("pieces" : Str), V.ref zpc), (("numbers" : Str), V.ref znb)]) = H1
  have g1 : H1 p = some (.ins A.C_Shelf dx [(("pieces" : Str), V.ref zpc), (("numbers" : Str), V.ref znb)]) := by rw [← e1]; exact upd_same
  have hd_1 : H1 dx = some (.own p) := by rw [← e1]; exact mkS nnb hne hd_0
  have cpc_1 : H1 zpc = some (.lst [.non]) := by rw [← e1]; exact mkS nnb ppc cpc_0
  have cnb_1 : H1 znb = some (.dT []) := by rw [← e1]; exact mkN pnb
  have fr1 : ∀ b o, H b = some o → b ≠ p → H1 b = some o := fun b o e nb => by rw [← e1]; exact mkS nnb nb (fr0 b o e nb)
  have onb : H znb = none := by cases e : H znb with | none => rfl | some o => exact absurd ((fr0 _ o e (fun z => by rw [z, hp] at e; exact pnb z)).symm.trans nnb) (by simp)
  dsimp only
  have dpcnb : zpc ≠ znb := ne_of_none cpc_0 nnb
  have ddxnb : dx ≠ znb := ne_of_none hd_0 nnb
  refine w_seq ?_
  refine w_lst (w_cons (w_c (w_nil ⟨l1 _, fun zsg nsg => ?_⟩)))
  have psg : zsg ≠ p := (ne_of_none g1 nsg).symm
  refine ⟨_, rfl, p, _, dx, _, rfl, (by rw [upd_ne psg.symm]; exact g1), T.cl_Shelf, T.na_Shelf_told_signs, (by show 2 < 1000; decide), ?_⟩
  rw [show putF "told_signs" (V.ref zsg) ([(("pieces" : Str), V.ref zpc), (("numbers" : Str), V.ref znb)] : List (Str × V)) = [(("pieces" : Str), V.ref zpc), (("numbers" : Str), V.ref znb), (("told_signs" : Str), V.ref zsg)] from putF_new (ks := (["pieces", "numbers"] : List Str)) rfl (by decide +kernel)]
  generalize e2 : upd (upd H1 zsg (HO.lst [.int 0])) p (.ins A.C_Shelf dx [(("pieces" : Str), V.ref zpc), (("numbers" : Str), V.ref znb), (("told_signs" : Str), V.ref zsg)]) = H2
  have g2 : H2 p = some (.ins A.C_Shelf dx [(("pieces" : Str), V.ref zpc), (("numbers" : Str), V.ref znb), (("told_signs" : Str), V.ref zsg)]) := by rw [← e2]; exact upd_same
  have hd_2 : H2 dx = some (.own p) := by rw [← e2]; exact mkS nsg hne hd_1
  have cpc_2 : H2 zpc = some (.lst [.non]) := by rw [← e2]; exact mkS nsg ppc cpc_1
  have cnb_2 : H2 znb = some (.dT []) := by rw [← e2]; exact mkS nsg pnb cnb_1
  have csg_2 : H2 zsg = some (.lst [.int 0]) := by rw [← e2]; exact mkN psg
  have fr2 : ∀ b o, H b = some o → b ≠ p → H2 b = some o := fun b o e nb => by rw [← e2]; exact mkS nsg nb (fr1 b o e nb)
  have osg : H zsg = none := by cases e : H zsg with | none => rfl | some o => exact absurd ((fr1 _ o e (fun z => by rw [z, hp] at e; exact psg z)).symm.trans nsg) (by simp)
  dsimp only
  have dpcsg : zpc ≠ zsg := ne_of_none cpc_1 nsg
  have dnbsg : znb ≠ zsg := ne_of_none cnb_1 nsg
  have ddxsg : dx ≠ zsg := ne_of_none hd_1 nsg
  refine w_seq ?_
  refine w_lst (w_cons (w_c (w_nil ⟨l1 _, fun zen nen => ?_⟩)))
  have pen : zen ≠ p := (ne_of_none g2 nen).symm
  refine ⟨_, rfl, p, _, dx, _, rfl, (by rw [upd_ne pen.symm]; exact g2), T.cl_Shelf, T.na_Shelf_told_ends, (by show 3 < 1000; decide), ?_⟩
  rw [show putF "told_ends" (V.ref zen) ([(("pieces" : Str), V.ref zpc), (("numbers" : Str), V.ref znb), (("told_signs" : Str), V.ref zsg)] : List (Str × V)) = [(("pieces" : Str), V.ref zpc), (("numbers" : Str), V.ref znb), (("told_signs" : Str), V.ref zsg), (("told_ends" : Str), V.ref zen)] from putF_new (ks := (["pieces", "numbers", "told_signs"] : List Str)) rfl (by decide +kernel)]
  generalize e3 : upd (upd H2 zen (HO.lst [.int 0])) p (.ins A.C_Shelf dx [(("pieces" : Str), V.ref zpc), (("numbers" : Str), V.ref znb), (("told_signs" : Str), V.ref zsg), (("told_ends" : Str), V.ref zen)]) = H3
  have g3 : H3 p = some (.ins A.C_Shelf dx [(("pieces" : Str), V.ref zpc), (("numbers" : Str), V.ref znb), (("told_signs" : Str), V.ref zsg), (("told_ends" : Str), V.ref zen)]) := by rw [← e3]; exact upd_same
  have hd_3 : H3 dx = some (.own p) := by rw [← e3]; exact mkS nen hne hd_2
  have cpc_3 : H3 zpc = some (.lst [.non]) := by rw [← e3]; exact mkS nen ppc cpc_2
  have cnb_3 : H3 znb = some (.dT []) := by rw [← e3]; exact mkS nen pnb cnb_2
  have csg_3 : H3 zsg = some (.lst [.int 0]) := by rw [← e3]; exact mkS nen psg csg_2
  have cen_3 : H3 zen = some (.lst [.int 0]) := by rw [← e3]; exact mkN pen
  have fr3 : ∀ b o, H b = some o → b ≠ p → H3 b = some o := fun b o e nb => by rw [← e3]; exact mkS nen nb (fr2 b o e nb)
  have oen : H zen = none := by cases e : H zen with | none => rfl | some o => exact absurd ((fr2 _ o e (fun z => by rw [z, hp] at e; exact pen z)).symm.trans nen) (by simp)
  dsimp only
  have dpcen : zpc ≠ zen := ne_of_none cpc_2 nen
  have dnben : znb ≠ zen := ne_of_none cnb_2 nen
  have dsgen : zsg ≠ zen := ne_of_none csg_2 nen
  have ddxen : dx ≠ zen := ne_of_none hd_2 nen
  refine w_seq ?_
  refine w_lst (w_cons (w_c (w_nil ⟨l1 _, fun zlv nlv => ?_⟩)))
  have plv : zlv ≠ p := (ne_of_none g3 nlv).symm
  refine ⟨_, rfl, p, _, dx, _, rfl, (by rw [upd_ne plv.symm]; exact g3), T.cl_Shelf, T.na_Shelf_told_leaves, (by show 4 < 1000; decide), ?_⟩
  rw [show putF "told_leaves" (V.ref zlv) ([(("pieces" : Str), V.ref zpc), (("numbers" : Str), V.ref znb), (("told_signs" : Str), V.ref zsg), (("told_ends" : Str), V.ref zen)] : List (Str × V)) = [(("pieces" : Str), V.ref zpc), (("numbers" : Str), V.ref znb), (("told_signs" : Str), V.ref zsg), (("told_ends" : Str), V.ref zen), (("told_leaves" : Str), V.ref zlv)] from putF_new (ks := (["pieces", "numbers", "told_signs", "told_ends"] : List Str)) rfl (by decide +kernel)]
  generalize e4 : upd (upd H3 zlv (HO.lst [.int 0])) p (.ins A.C_Shelf dx [(("pieces" : Str), V.ref zpc), (("numbers" : Str), V.ref znb), (("told_signs" : Str), V.ref zsg), (("told_ends" : Str), V.ref zen), (("told_leaves" : Str), V.ref zlv)]) = H4
  have g4 : H4 p = some (.ins A.C_Shelf dx [(("pieces" : Str), V.ref zpc), (("numbers" : Str), V.ref znb), (("told_signs" : Str), V.ref zsg), (("told_ends" : Str), V.ref zen), (("told_leaves" : Str), V.ref zlv)]) := by rw [← e4]; exact upd_same
  have hd_4 : H4 dx = some (.own p) := by rw [← e4]; exact mkS nlv hne hd_3
  have cpc_4 : H4 zpc = some (.lst [.non]) := by rw [← e4]; exact mkS nlv ppc cpc_3
  have cnb_4 : H4 znb = some (.dT []) := by rw [← e4]; exact mkS nlv pnb cnb_3
  have csg_4 : H4 zsg = some (.lst [.int 0]) := by rw [← e4]; exact mkS nlv psg csg_3
  have cen_4 : H4 zen = some (.lst [.int 0]) := by rw [← e4]; exact mkS nlv pen cen_3
  have clv_4 : H4 zlv = some (.lst [.int 0]) := by rw [← e4]; exact mkN plv
  have fr4 : ∀ b o, H b = some o → b ≠ p → H4 b = some o := fun b o e nb => by rw [← e4]; exact mkS nlv nb (fr3 b o e nb)
  have olv : H zlv = none := by cases e : H zlv with | none => rfl | some o => exact absurd ((fr3 _ o e (fun z => by rw [z, hp] at e; exact plv z)).symm.trans nlv) (by simp)
  dsimp only
  have dpclv : zpc ≠ zlv := ne_of_none cpc_3 nlv
  have dnblv : znb ≠ zlv := ne_of_none cnb_3 nlv
  have dsglv : zsg ≠ zlv := ne_of_none csg_3 nlv
  have denlv : zen ≠ zlv := ne_of_none cen_3 nlv
  have ddxlv : dx ≠ zlv := ne_of_none hd_3 nlv
  refine w_seq ?_
  refine w_lst (w_cons (w_un (w_c (w_rU (w_nil ⟨l1 _, fun zht nht => ?_⟩)))))
  have pht : zht ≠ p := (ne_of_none g4 nht).symm
  refine ⟨_, rfl, p, _, dx, _, rfl, (by rw [upd_ne pht.symm]; exact g4), T.cl_Shelf, T.na_Shelf_told_heights, (by show 5 < 1000; decide), ?_⟩
  rw [show putF "told_heights" (V.ref zht) ([(("pieces" : Str), V.ref zpc), (("numbers" : Str), V.ref znb), (("told_signs" : Str), V.ref zsg), (("told_ends" : Str), V.ref zen), (("told_leaves" : Str), V.ref zlv)] : List (Str × V)) = [(("pieces" : Str), V.ref zpc), (("numbers" : Str), V.ref znb), (("told_signs" : Str), V.ref zsg), (("told_ends" : Str), V.ref zen), (("told_leaves" : Str), V.ref zlv), (("told_heights" : Str), V.ref zht)] from putF_new (ks := (["pieces", "numbers", "told_signs", "told_ends", "told_leaves"] : List Str)) rfl (by decide +kernel)]
  generalize e5 : upd (upd H4 zht (HO.lst [.int (-1)])) p (.ins A.C_Shelf dx [(("pieces" : Str), V.ref zpc), (("numbers" : Str), V.ref znb), (("told_signs" : Str), V.ref zsg), (("told_ends" : Str), V.ref zen), (("told_leaves" : Str), V.ref zlv), (("told_heights" : Str), V.ref zht)]) = H5
  have g5 : H5 p = some (.ins A.C_Shelf dx [(("pieces" : Str), V.ref zpc), (("numbers" : Str), V.ref znb), (("told_signs" : Str), V.ref zsg), (("told_ends" : Str), V.ref zen), (("told_leaves" : Str), V.ref zlv), (("told_heights" : Str), V.ref zht)]) := by rw [← e5]; exact upd_same
  have hd_5 : H5 dx = some (.own p) := by rw [← e5]; exact mkS nht hne hd_4
  have cpc_5 : H5 zpc = some (.lst [.non]) := by rw [← e5]; exact mkS nht ppc cpc_4
  have cnb_5 : H5 znb = some (.dT []) := by rw [← e5]; exact mkS nht pnb cnb_4
  have csg_5 : H5 zsg = some (.lst [.int 0]) := by rw [← e5]; exact mkS nht psg csg_4
  have cen_5 : H5 zen = some (.lst [.int 0]) := by rw [← e5]; exact mkS nht pen cen_4
  have clv_5 : H5 zlv = some (.lst [.int 0]) := by rw [← e5]; exact mkS nht plv clv_4
  have cht_5 : H5 zht = some (.lst [.int (-1)]) := by rw [← e5]; exact mkN pht
  have fr5 : ∀ b o, H b = some o → b ≠ p → H5 b = some o := fun b o e nb => by rw [← e5]; exact mkS nht nb (fr4 b o e nb)
  have oht : H zht = none := by cases e : H zht with | none => rfl | some o => exact absurd ((fr4 _ o e (fun z => by rw [z, hp] at e; exact pht z)).symm.trans nht) (by simp)
  dsimp only
  have dpcht : zpc ≠ zht := ne_of_none cpc_4 nht
  have dnbht : znb ≠ zht := ne_of_none cnb_4 nht
  have dsght : zsg ≠ zht := ne_of_none csg_4 nht
  have denht : zen ≠ zht := ne_of_none cen_4 nht
  have dlvht : zlv ≠ zht := ne_of_none clv_4 nht
  have ddxht : dx ≠ zht := ne_of_none hd_4 nht
  refine w_seq ?_
  refine w_lst (w_cons (w_c (w_nil ⟨l1 _, fun zfi nfi => ?_⟩)))
  have pfi : zfi ≠ p := (ne_of_none g5 nfi).symm
  refine ⟨_, rfl, p, _, dx, _, rfl, (by rw [upd_ne pfi.symm]; exact g5), T.cl_Shelf, T.na_Shelf_firsts, (by show 6 < 1000; decide), ?_⟩
  rw [show putF "firsts" (V.ref zfi) ([(("pieces" : Str), V.ref zpc), (("numbers" : Str), V.ref znb), (("told_signs" : Str), V.ref zsg), (("told_ends" : Str), V.ref zen), (("told_leaves" : Str), V.ref zlv), (("told_heights" : Str), V.ref zht)] : List (Str × V)) = [(("pieces" : Str), V.ref zpc), (("numbers" : Str), V.ref znb), (("told_signs" : Str), V.ref zsg), (("told_ends" : Str), V.ref zen), (("told_leaves" : Str), V.ref zlv), (("told_heights" : Str), V.ref zht), (("firsts" : Str), V.ref zfi)] from putF_new (ks := (["pieces", "numbers", "told_signs", "told_ends", "told_leaves", "told_heights"] : List Str)) rfl (by decide +kernel)]
  generalize e6 : upd (upd H5 zfi (HO.lst [.int 0])) p (.ins A.C_Shelf dx [(("pieces" : Str), V.ref zpc), (("numbers" : Str), V.ref znb), (("told_signs" : Str), V.ref zsg), (("told_ends" : Str), V.ref zen), (("told_leaves" : Str), V.ref zlv), (("told_heights" : Str), V.ref zht), (("firsts" : Str), V.ref zfi)]) = H6
  have g6 : H6 p = some (.ins A.C_Shelf dx [(("pieces" : Str), V.ref zpc), (("numbers" : Str), V.ref znb), (("told_signs" : Str), V.ref zsg), (("told_ends" : Str), V.ref zen), (("told_leaves" : Str), V.ref zlv), (("told_heights" : Str), V.ref zht), (("firsts" : Str), V.ref zfi)]) := by rw [← e6]; exact upd_same
  have hd_6 : H6 dx = some (.own p) := by rw [← e6]; exact mkS nfi hne hd_5
  have cpc_6 : H6 zpc = some (.lst [.non]) := by rw [← e6]; exact mkS nfi ppc cpc_5
  have cnb_6 : H6 znb = some (.dT []) := by rw [← e6]; exact mkS nfi pnb cnb_5
  have csg_6 : H6 zsg = some (.lst [.int 0]) := by rw [← e6]; exact mkS nfi psg csg_5
  have cen_6 : H6 zen = some (.lst [.int 0]) := by rw [← e6]; exact mkS nfi pen cen_5
  have clv_6 : H6 zlv = some (.lst [.int 0]) := by rw [← e6]; exact mkS nfi plv clv_5
  have cht_6 : H6 zht = some (.lst [.int (-1)]) := by rw [← e6]; exact mkS nfi pht cht_5
  have cfi_6 : H6 zfi = some (.lst [.int 0]) := by rw [← e6]; exact mkN pfi
  have fr6 : ∀ b o, H b = some o → b ≠ p → H6 b = some o := fun b o e nb => by rw [← e6]; exact mkS nfi nb (fr5 b o e nb)
  have ofi : H zfi = none := by cases e : H zfi with | none => rfl | some o => exact absurd ((fr5 _ o e (fun z => by rw [z, hp] at e; exact pfi z)).symm.trans nfi) (by simp)
  dsimp only
  have dpcfi : zpc ≠ zfi := ne_of_none cpc_5 nfi
  have dnbfi : znb ≠ zfi := ne_of_none cnb_5 nfi
  have dsgfi : zsg ≠ zfi := ne_of_none csg_5 nfi
  have denfi : zen ≠ zfi := ne_of_none cen_5 nfi
  have dlvfi : zlv ≠ zfi := ne_of_none clv_5 nfi
  have dhtfi : zht ≠ zfi := ne_of_none cht_5 nfi
  have ddxfi : dx ≠ zfi := ne_of_none hd_5 nfi
  refine w_lst (w_cons (w_c (w_nil ⟨l1 _, fun zla nla => ?_⟩)))
  have pla : zla ≠ p := (ne_of_none g6 nla).symm
  refine ⟨_, rfl, p, _, dx, _, rfl, (by rw [upd_ne pla.symm]; exact g6), T.cl_Shelf, T.na_Shelf_lasts, (by show 7 < 1000; decide), ?_⟩
  rw [show putF "lasts" (V.ref zla) ([(("pieces" : Str), V.ref zpc), (("numbers" : Str), V.ref znb), (("told_signs" : Str), V.ref zsg), (("told_ends" : Str), V.ref zen), (("told_leaves" : Str), V.ref zlv), (("told_heights" : Str), V.ref zht), (("firsts" : Str), V.ref zfi)] : List (Str × V)) = [(("pieces" : Str), V.ref zpc), (("numbers" : Str), V.ref znb), (("told_signs" : Str), V.ref zsg), (("told_ends" : Str), V.ref zen), (("told_leaves" : Str), V.ref zlv), (("told_heights" : Str), V.ref zht), (("firsts" : Str), V.ref zfi), (("lasts" : Str), V.ref zla)] from putF_new (ks := (["pieces", "numbers", "told_signs", "told_ends", "told_leaves", "told_heights", "firsts"] : List Str)) rfl (by decide +kernel)]
  generalize e7 : upd (upd H6 zla (HO.lst [.int 0])) p (.ins A.C_Shelf dx [(("pieces" : Str), V.ref zpc), (("numbers" : Str), V.ref znb), (("told_signs" : Str), V.ref zsg), (("told_ends" : Str), V.ref zen), (("told_leaves" : Str), V.ref zlv), (("told_heights" : Str), V.ref zht), (("firsts" : Str), V.ref zfi), (("lasts" : Str), V.ref zla)]) = H7
  have g7 : H7 p = some (.ins A.C_Shelf dx [(("pieces" : Str), V.ref zpc), (("numbers" : Str), V.ref znb), (("told_signs" : Str), V.ref zsg), (("told_ends" : Str), V.ref zen), (("told_leaves" : Str), V.ref zlv), (("told_heights" : Str), V.ref zht), (("firsts" : Str), V.ref zfi), (("lasts" : Str), V.ref zla)]) := by rw [← e7]; exact upd_same
  have hd_7 : H7 dx = some (.own p) := by rw [← e7]; exact mkS nla hne hd_6
  have cpc_7 : H7 zpc = some (.lst [.non]) := by rw [← e7]; exact mkS nla ppc cpc_6
  have cnb_7 : H7 znb = some (.dT []) := by rw [← e7]; exact mkS nla pnb cnb_6
  have csg_7 : H7 zsg = some (.lst [.int 0]) := by rw [← e7]; exact mkS nla psg csg_6
  have cen_7 : H7 zen = some (.lst [.int 0]) := by rw [← e7]; exact mkS nla pen cen_6
  have clv_7 : H7 zlv = some (.lst [.int 0]) := by rw [← e7]; exact mkS nla plv clv_6
  have cht_7 : H7 zht = some (.lst [.int (-1)]) := by rw [← e7]; exact mkS nla pht cht_6
  have cfi_7 : H7 zfi = some (.lst [.int 0]) := by rw [← e7]; exact mkS nla pfi cfi_6
  have cla_7 : H7 zla = some (.lst [.int 0]) := by rw [← e7]; exact mkN pla
  have fr7 : ∀ b o, H b = some o → b ≠ p → H7 b = some o := fun b o e nb => by rw [← e7]; exact mkS nla nb (fr6 b o e nb)
  have ola : H zla = none := by cases e : H zla with | none => rfl | some o => exact absurd ((fr6 _ o e (fun z => by rw [z, hp] at e; exact pla z)).symm.trans nla) (by simp)
  dsimp only
  have dpcla : zpc ≠ zla := ne_of_none cpc_6 nla
  have dnbla : znb ≠ zla := ne_of_none cnb_6 nla
  have dsgla : zsg ≠ zla := ne_of_none csg_6 nla
  have denla : zen ≠ zla := ne_of_none cen_6 nla
  have dlvla : zlv ≠ zla := ne_of_none clv_6 nla
  have dhtla : zht ≠ zla := ne_of_none cht_6 nla
  have dfila : zfi ≠ zla := ne_of_none cfi_6 nla
  have ddxla : dx ≠ zla := ne_of_none hd_6 nla
  refine k ⟨p, dx, zpc, znb, zsg, zen, zlv, zht, zfi, zla⟩ H7 rfl ⟨g7, hd_7, ⟨[], cpc_7, rfl, fun i r t e => by simp at e⟩, cnb_7, csg_7, cen_7, clv_7, cht_7, cfi_7, cla_7, good_nil, ?_, Nat.zero_le _⟩ fr7 ?_
  · simp only [Cells.all, List.nodup_cons, List.mem_cons, List.not_mem_nil, or_false, not_or, List.nodup_nil, not_false_eq_true, and_true]
    exact ⟨⟨hne.symm, ppc.symm, pnb.symm, psg.symm, pen.symm, plv.symm, pht.symm, pfi.symm, pla.symm⟩, ⟨ddxpc, ddxnb, ddxsg, ddxen, ddxlv, ddxht, ddxfi, ddxla⟩, ⟨dpcnb, dpcsg, dpcen, dpclv, dpcht, dpcfi, dpcla⟩, ⟨dnbsg, dnben, dnblv, dnbht, dnbfi, dnbla⟩, ⟨dsgen, dsglv, dsght, dsgfi, dsgla⟩, ⟨denlv, denht, denfi, denla⟩, ⟨dlvht, dlvfi, dlvla⟩, ⟨dhtfi, dhtla⟩, dfila⟩
  · intro b hb
    simp only [Cells.all, List.mem_cons, List.not_mem_nil, or_false] at hb
    rcases hb with e | e | e | e | e | e | e | e | e | e
    · exact .inl e
    · exact .inr (.inl e)
    all_goals (rw [e]; refine .inr (.inr ?_); assumption)
end

/-! ### the draws -/
def spMixed : Sp := fun vs H Q _ => ∃ x k : Int, vs = [.int x, .int k] ∧ 0 ≤ k ∧ k < 1000000 ∧ ∀ r : Int, 0 ≤ r → r < 2147483647 → Q (.int r) H
theorem c_mixed {x k : Int} {H : Hp} {Q : VK} {E : XK} (h1 : 0 ≤ k) (h2 : k < 1000000) (q : ∀ r : Int, 0 ≤ r → r < 2147483647 → Q (.int r) H) : spMixed [.int x, .int k] H Q E := ⟨x, k, rfl, h1, h2, q⟩
def spStream (K : PySem.W.Frag) : Sp := fun vs H Q _ => ∃ (a : Addr) (ns : List Int) (k : Int), vs = [.ref a, .int k] ∧ SqL K H a (ns.map V.int) ∧ ns.length ≤ 63 ∧ 0 ≤ k ∧ k < 1000 ∧ ∀ (H' : Hp) (p : Addr) (n : Int), Same H H' → H p = none → H' p = some (.lst [.int n]) → 0 ≤ n → Q (.ref p) H'
def spDigit : Sp := fun vs H Q _ => ∃ (r : Addr) (n m : Int), vs = [.ref r, .int m] ∧ H r = some (.lst [.int n]) ∧ 0 ≤ n ∧ 0 < m ∧ m < 1180591620717411303424 ∧ ∀ d n' : Int, 0 ≤ d → d < m → 0 ≤ n' → Q (.int d) (upd H r (.lst [.int n']))
theorem c_digit {r : Addr} {n m : Int} {H : Hp} {Q : VK} {E : XK} (h : H r = some (.lst [.int n])) (h0 : 0 ≤ n) (h1 : 0 < m) (h2 : m < 1180591620717411303424) (q : ∀ d n' : Int, 0 ≤ d → d < m → 0 ≤ n' → Q (.int d) (upd H r (.lst [.int n']))) : spDigit [.ref r, .int m] H Q E := ⟨r, n, m, rfl, h, h0, h1, h2, q⟩
section
variable {P : Program} {w : World} {K : PySem.W.Frag} {mg : Str → Option Value} {base : Heap} {A : Ad}
abbrev n__law_mixed : List Str := ["cell", "k", "stir"]
theorem sc__law_mixed : FnScope n__law_mixed p__law_mixed (defScope s__law_mixed) := ⟨rfl, rfl, rfl, by decide +kernel, rfl, by decide +kernel, by decide +kernel⟩
theorem ok__law_mixed (T : Txt K mg A) : FnOk P w K mg base (L2.CX P w) 1 A.f__law_mixed A.d__law_mixed p__law_mixed spMixed := by
  refine T.fn__law_mixed.okX sc__law_mixed (fun vs H Q E h => ?_) (fun cdv B outer s H vs Q E hr h => ?_)
  · obtain ⟨x, k, rfl, _⟩ := h; rfl
  obtain ⟨x, k, rfl, k0, k1, q⟩ := h
  refine ⟨_, (pss_cons (ps_set (i := 2) sc__law_mixed.nd rfl (Or.inl rfl) (pe_op op_mod (pe_op op_mulW (pe_op op_add (pe_op op_add (pe_op op_mod (pv 0) pe_int) (pe_op op_mulW pe_int (pv 1))) pe_int) pe_int) pe_int))
      (pss_one (ps_ret (pe_op op_mod (pe_op op_mulW (pe_op op_mod (pe_op op_mulW (pv 2) (pv 2)) pe_int) pe_int) pe_int)))), ?_⟩
  walk_at "st"
  refine w_rI (by decide) ?_
  walk_at "go"
  refine w_rI (mulW_small (by decide) (by decide) (by omega) (by omega)) ?_
  walk_at "go"
  refine w_rI (mulW_small (by omega) (by omega) (by decide) (by decide)) ?_
  walk_at "go"
  refine w_rI (by decide) ?_
  walk_at "nx"
  generalize e : ((x % 1000000007 + 7919 * k + _) * 48271) % 2147483647 = z
  have z0 : 0 ≤ z := by omega
  have z1 : z < 2147483647 := by omega
  walk_at "go"
  refine w_rI (mulW_small (by omega) (by omega) (by omega) (by omega)) ?_
  walk_at "go"
  refine w_rI (by decide) ?_
  walk_at "go"
  refine w_rI (mulW_small (by omega) (by omega) (by decide) (by decide)) ?_
  walk_at "go"
  refine w_rI (by decide) ?_
  exact q _ (by omega) (by omega)
abbrev n__law_digit : List Str := ["row", "many", "digit"]
theorem sc__law_digit : FnScope n__law_digit p__law_digit (defScope s__law_digit) := ⟨rfl, rfl, rfl, by decide +kernel, rfl, by decide +kernel, by decide +kernel⟩
theorem ok__law_digit (T : Txt K mg A) : FnOk P w K mg base (L2.CX P w) 1 A.f__law_digit A.d__law_digit p__law_digit spDigit := by
  refine T.fn__law_digit.okX sc__law_digit (fun vs H Q E h => ?_) (fun cdv B outer s H vs Q E hr h => ?_)
  · obtain ⟨r, n, m, rfl, _⟩ := h; rfl
  obtain ⟨r, n, m, rfl, h, h0, h1, h2, q⟩ := h
  refine ⟨_, (pss_cons (ps_set (i := 2) sc__law_digit.nd rfl (Or.inl rfl) (pe_op op_mod (pe_ix ix_list (pv 0) pe_int (fun _ _ => rfl)) (pv 1)))
      (pss_cons (ps_asg (pe_op op_fdivW (pe_ix ix_list (pv 0) pe_int (fun _ _ => rfl)) (pv 1)) (pg_sub (pv 0) pe_int set_list))
      (pss_one (ps_ret (pv 2))))), ?_⟩
  have a0 : atI [V.int n] 0 = some (.int n) := rfl
  walk_at "st"
  refine w_ixl (SqL.of h) a0 ?_
  walk_at "go"
  refine w_rI h1 ?_
  walk_at "nx"
  walk_at "st"
  refine w_ixl (SqL.of h) a0 ?_
  walk_at "go"
  refine w_rI (divW_small h1 h2) ?_
  refine ⟨_, rfl, r, _, 0, 0, rfl, rfl, h, rfl, ?_⟩
  dsimp only
  exact w_ret (w_var rfl (q _ _ (Int.emod_nonneg _ (by omega)) (Int.emod_lt_of_pos _ h1) (Int.ediv_nonneg h0 (by omega))))
abbrev n__law_stream : List Str := ["script", "k", "cell", "j", "found", "one"]
theorem sc__law_stream : FnScope n__law_stream p__law_stream (defScope s__law_stream) := ⟨rfl, rfl, rfl, by decide +kernel, rfl, by decide +kernel, by decide +kernel⟩
theorem ok__law_stream (T : Txt K mg A) : FnOk P w K mg base (L2.CX P w) 2 A.f__law_stream A.d__law_stream p__law_stream (spStream K) := by
  refine T.fn__law_stream.okX sc__law_stream (fun vs H Q E h => ?_) (fun cdv B outer s H vs Q E hr h => ?_)
  · obtain ⟨a, ns, k, rfl, _⟩ := h; rfl
  obtain ⟨a, ns, k, rfl, hs, hl, k0, k1, q⟩ := h
  refine ⟨_, (pss_cons (ps_set (i := 2) sc__law_stream.nd rfl (Or.inl rfl) pe_int)
      (pss_cons (ps_for (passes_of rfl) rfl (pi_range3 (by rfl) T.z_range (pa_cons (pv 1) (pa_cons (pe_callB call_len_seq (by rfl) T.z_len bt_len (pa_cons (pv 0) pa_nil)) (pa_cons pe_int pa_nil)))) (pg_name (i := 3) sc__law_stream.nd rfl (Or.inl rfl))
      (pss_one (ps_set (i := 2) sc__law_stream.nd rfl (Or.inl rfl) (pe_op op_add (pe_op op_mulW (pv 2) (pe_op op_pow pe_int pe_int)) (pe_op op_mod (pe_ix ix_list (pv 0) (pv 3) (fun _ _ => rfl)) (pe_op op_pow pe_int pe_int))))))
      (pss_cons (ps_if (pt_cmpR op_ge (pv 2) (pe_op op_pow pe_int pe_int) (nomark _)) (pss_one (ps_ret (pe_lst (pa_cons (pv 2) pa_nil)))) pss_nil)
      (pss_cons (ps_set (i := 2) sc__law_stream.nd rfl (Or.inl rfl) (pe_op op_add (pv 2) (pe_callB (cr_sum rfl) (by rfl) T.z_sum bt_sum (pa_cons (pe_lc (own := [("one", 5)]) (g := gName 5) (tt := tYes) rfl sc__law_stream.nd (pi_list (pv 0)) (blkOk_by (own := [("one", 5)]) (N := n__law_stream) (sc := defScope s__law_stream) (by decide +kernel)) (fun _ _ _ _ _ => (pg_name (i := 5) sc__law_stream.nd rfl (Or.inl rfl))) (fun _ _ _ _ _ => pts_nil) (fun _ _ _ _ _ => (pe_op op_mod (pv 5) (pe_op op_pow pe_int pe_int)))) pa_nil))))
      (pss_cons (ps_set (i := 4) sc__law_stream.nd rfl (Or.inl rfl) pe_int)
      (pss_cons (ps_for (passes_of rfl) rfl (pi_range1 (by rfl) T.z_range (pa_cons pe_int pa_nil)) (pg_name (i := 3) sc__law_stream.nd rfl (Or.inl rfl))
      (pss_one (ps_set (i := 4) sc__law_stream.nd rfl (Or.inl rfl) (pe_op op_add (pe_op op_mulW (pv 4) pe_int) (pe_call (ok__law_mixed T) (hr.mono (by omega)) (by rfl) T.mg__law_mixed T.fn__law_mixed.kp T.bi__law_mixed .nil (passes_call (takes_of rfl rfl rfl rfl) (fun _ _ _ _ h => h)) (pa_cons (pe_op op_add (pe_op op_add (pv 2) (pe_op op_mulW pe_int (pv 1))) (pe_callB call_len_seq (by rfl) T.z_len bt_len (pa_cons (pv 0) pa_nil))) (pa_cons (pv 3) pa_nil)))))))
      (pss_one (ps_ret (pe_lst (pa_cons (pe_op op_fdivW (pv 4) pe_int) pa_nil)))))))))), ?_⟩
  have ll : (ns.map V.int).length = ns.length := by simp
  have line : ∀ n : Int, [V.int n].length ≤ sizeLine := fun n => by show 1 ≤ sizeLine; rw [sizeLine_eq]; decide
  have p60 : (10 : Int) ^ (Int.toNat 60) = 1000000000000000000000000000000000000000000000000000000000000 := by decide +kernel
  have cp : CPow 10 60 := ⟨by decide, by decide, by decide⟩
  walk_at "st"
  walk_at "nx"
  obtain ⟨n, rg, rn, rk⟩ := rgC (i := k) (j := ns.length) (c := 5) (by decide) (by decide) k0 (by omega) (by omega) (by omega)
  walk_at "st"
  refine ⟨_, _, rfl, .inl hs, ?_⟩
  rw [ll]
  walk_at "go"
  refine ⟨_, _, _, n, rfl, rg, ?_⟩
  refine for_it walk_rangeC (fun i σ H' => ∃ (c : Int) (j : Option V), σ = [some (.ref a), some (.int k), some (.int c), j, none, none] ∧ H' = H ∧ 0 ≤ c ∧ c < 2 ^ (200 * i + 1)) ⟨0, _, rfl, rfl, by decide, by decide⟩ (fun _ _ _ _ _ => trivial) ?_ ?_
  · rintro i x σ H1 H2 hi ⟨c, j, rfl, rfl, c0, c1⟩ ⟨rfl, rfl⟩
    have hk := rk i hi
    have hx : (k + (i : Int) * 5).toNat < ns.length := by omega
    have at1 : atI (ns.map V.int) (k + (i : Int) * 5) = some (.int ns[(k + (i : Int) * 5).toNat]) := at_of (j := (k + (i : Int) * 5).toNat) (by omega) (by rw [List.getElem?_map, List.getElem?_eq_getElem hx]; rfl)
    refine w_gname ?_
    walk_at "go"
    refine w_rI cp ?_
    rw [p60]
    refine w_rI (mulW_big c0 c1 (by decide) (by decide : (1000000000000000000000000000000000000000000000000000000000000 : Int) < 2 ^ 200) (by omega) (by decide) (by omega)) ?_
    walk_at "go"
    refine w_ixl hs at1 ?_
    walk_at "go"
    refine w_rI cp ?_
    rw [p60]
    refine w_rI (by decide) (w_rI0 (w_gname ?_))
    obtain ⟨e1, e2⟩ := step_big (b := 200) c0 c1 (Int.emod_nonneg ns[(k + (i : Int) * 5).toNat] (by decide)) (Int.emod_lt_of_pos ns[(k + (i : Int) * 5).toNat] (by decide : (0 : Int) < 1000000000000000000000000000000000000000000000000000000000000)) (by decide)
    exact ⟨_, _, rfl, rfl, e1, by rw [show 200 * (i + 1) + 1 = 200 * i + 1 + 200 by omega]; exact e2⟩
  rintro σ H1 ⟨c, j, rfl, rfl, c0, c1⟩
  dsimp only
  walk_at "st"
  refine w_rI ⟨by decide, by decide, by decide⟩ ?_
  walk_at "go"
  refine ite_d (fun _ => ?_) (fun _ => ?_)
  · walk_at "go"
    refine w_mkl (line _) fun p H2 np s2 hp2 => q H2 p c s2 np hp2 c0
  walk_at "sk"
  walk_at "st"
  refine ⟨a, rfl, ⟨_, hs⟩, fun D hD => ?_⟩
  refine lc_it walk_list (fun i H' => Same H1 H' ∧ H' D = some (.lst ((ns.take i).map fun x => V.int (x % 1000000000000000000)))) ⟨fun b o e => by rw [upd_ne (ne_of_none e hD)]; exact e, upd_same⟩ (fun i H' _ z => z.1.seq hs) ?_ ?_
  · rintro i x H2 H3 hi ⟨s2, hD2⟩ ⟨rfl, hx⟩
    rw [List.getElem?_map] at hx
    have hi' : i < ns.length := by rw [ll] at hi; exact hi
    rw [List.getElem?_eq_getElem hi'] at hx
    cases hx
    refine w_gname ⟨rfl, w_yes (iteT ?_)⟩
    walk_at "go"
    refine w_rI ⟨by decide, by decide, by decide⟩ ?_
    rw [pow_sg]
    refine w_rI (by decide) ⟨_, hD2, ?_, fun b o e => ?_, ?_⟩
    · have := cap_line; unfold cap at this; simp; omega
    · rw [upd_ne (ne_of_none e hD)]; exact s2 b o e
    · rw [upd_same, take_snoc (List.getElem?_eq_getElem hi'), List.map_append]; rfl
  rintro H2 ⟨s2, hD2⟩
  walk_at "go"
  refine ⟨D, ns.map fun x => x % 1000000000000000000, rfl, ?_, ?_⟩
  · rw [ll, List.take_length] at hD2
    rw [List.map_map]; exact SqL.of hD2
  walk_at "go"
  walk_at "nx"
  generalize c + _ = c'
  walk_at "st"
  walk_at "nx"
  walk_at "st"
  refine ⟨30, rfl, by decide, by decide, ?_⟩
  have hs2 := s2.seq hs
  refine for_it walk_range (fun i σ H' => ∃ (f : Int) (j x : Option V), σ = [some (.ref a), some (.int k), some (.int c'), j, some (.int f), x] ∧ H' = H2 ∧ 0 ≤ f ∧ f < 2 ^ (31 * i + 1)) ⟨0, _, _, rfl, rfl, by decide, by decide⟩ (fun _ _ _ _ _ => trivial) ?_ ?_
  · rintro i x σ H3 H4 hi ⟨f, j, y, rfl, rfl, f0, f1⟩ ⟨rfl, rfl⟩
    have hi : i < 30 := hi
    refine w_gname ?_
    walk_at "go"
    refine w_rI (mulW_big f0 f1 (by decide) (by decide : (2147483647 : Int) < 2 ^ 31) (by omega) (by decide) (by omega)) ?_
    walk_at "go"
    refine w_rI (mulW_small (by decide) (by decide) (by omega) (by omega)) ?_
    walk_at "go"
    refine ⟨_, _, rfl, .inl hs2, ?_⟩
    walk_at "go"
    refine c_mixed (by omega) (by omega) fun r r0 r1 => w_rI0 (w_gname ?_)
    obtain ⟨e1, e2⟩ := step_big (b := 31) f0 f1 r0 r1 (by decide)
    exact ⟨_, _, _, rfl, rfl, e1, by rw [show 31 * (i + 1) + 1 = 31 * i + 1 + 31 by omega]; exact e2⟩
  rintro σ H3 ⟨f, j, y, rfl, rfl, f0, f1⟩
  dsimp only
  walk_at "go"
  refine w_rI (divW_small (by decide) (by decide)) ?_
  walk_at "go"
  refine w_mkl (line _) fun p H4 np s4 hp4 => q H4 p _ (s2.trans s4) ?_ hp4 (Int.ediv_nonneg f0 (by decide))
  cases e : H1 p with
  | none => rfl
  | some o => exact absurd ((s2 _ _ e).symm.trans np) (by simp)
end

/-! ### drawn trees -/
/-- behind a call: the shelf grown, the draws' row changed, all else as it was -/
structure Grown (C : Addr) (c : Cells) (r : Addr) (H H' : Hp) (S S' : List Tr) (n' : Int) (more : Nat) : Prop where
  sh : ShAt C c H' S'
  ex : Ext S S'
  len : S'.length ≤ S.length + more
  kp : KeepL (r :: c.all) H H'
  ro : H' r = some (.lst [.int n'])
  pos : 0 ≤ n'
def spLetters : Sp := fun vs H Q _ => ∃ (r : Addr) (n : Int), vs = [.ref r] ∧ H r = some (.lst [.int n]) ∧ 0 ≤ n ∧ ∀ (x : Str) (H' : Hp) (n' : Int), GoodL x → KeepL [r] H H' → H' r = some (.lst [.int n']) → 0 ≤ n' → Q (.str x) H'
def spTree (C : Addr) (N : Nat) : Sp := fun vs H Q _ => ∃ (c : Cells) (S : List Tr) (r : Addr) (n : Int) (x : Str) (h : Nat) (l : Nat), vs = [.ref c.a, .ref r, .str x, .int h, .int l] ∧ ShAt C c H S ∧ r ∉ c.all ∧ H r = some (.lst [.int n]) ∧ 0 ≤ n ∧
  GoodL x ∧ h < N ∧ h ≤ 10 ∧ 1 ≤ l ∧ l ≤ 8 ∧ S.length + 2 ^ (h + 1) ≤ cap ∧
  ∀ (H' : Hp) (S' : List Tr) (n' y : Int) (t : Tr) (p : Addr), Grown C c r H H' S S' n' (2 ^ (h + 1) - 1) → Nm S' y t → Ok t → t.ht = h → 8 < l + t.fi.sg → t.sg ≤ 8 * 2 ^ h → H p = none → H' p = some (.tup [.int y, .str (sT t.txt), .int t.la.sg]) → Q (.ref p) H'
theorem keepL_same {l : List Addr} {H H1 H2 : Hp} (x : KeepL l H H1) (y : Same H1 H2) : KeepL l H H2 := fun b o n e => y _ _ (x b o n e)
theorem keepL_free {l : List Addr} {H H1 : Hp} {p : Addr} (x : KeepL l H H1) (h : H1 p = none) (hl : p ∉ l) : H p = none := by
  cases e : H p with
  | none => rfl
  | some o => exact absurd ((x p o hl e).symm.trans h) (by simp)
theorem Grown.free {C : Addr} {c : Cells} {r : Addr} {H H' : Hp} {S S' : List Tr} {n' : Int} {m : Nat} (g : Grown C c r H H' S S' n' m) {p : Addr} (h : H' p = none) : H p = none :=
  keepL_free g.kp h fun z => by
    rcases List.mem_cons.mp z with e | e
    · rw [e, g.ro] at h; cases h
    · exact g.sh.apart h e
theorem Grown.refl {C : Addr} {c : Cells} {r : Addr} {H : Hp} {S : List Tr} {n : Int} (s : ShAt C c H S) (h : H r = some (.lst [.int n])) (h0 : 0 ≤ n) : Grown C c r H H S S n 0 := ⟨s, List.prefix_refl _, Nat.le_refl _, KeepL.refl _ _, h, h0⟩
theorem Grown.digit {C : Addr} {c : Cells} {r : Addr} {H H1 : Hp} {S S1 : List Tr} {n n' : Int} {m : Nat} (g : Grown C c r H H1 S S1 n m) (hr : r ∉ c.all) (h0 : 0 ≤ n') : Grown C c r H (upd H1 r (.lst [.int n'])) S S1 n' m :=
  ⟨g.sh.keepL (l := [r]) (KeepL.upd (by simp)) (fun b hb => by rw [List.mem_singleton] at hb; rw [hb]; exact hr) (tup_upd g.ro), g.ex, g.len, g.kp.trans (KeepL.upd (by simp)), upd_same, h0⟩
theorem Grown.same {C : Addr} {c : Cells} {r : Addr} {H H1 H2 : Hp} {S S1 : List Tr} {n : Int} {m : Nat} (g : Grown C c r H H1 S S1 n m) (s : Same H1 H2) : Grown C c r H H2 S S1 n m :=
  ⟨g.sh.same s, g.ex, g.len, keepL_same g.kp s, s _ _ g.ro, g.pos⟩
theorem Grown.trans {C : Addr} {c : Cells} {r : Addr} {H H1 H2 : Hp} {S S1 S2 : List Tr} {n n2 : Int} {m k : Nat} (g : Grown C c r H H1 S S1 n m) (h : Grown C c r H1 H2 S1 S2 n2 k) : Grown C c r H H2 S S2 n2 (m + k) :=
  ⟨h.sh, g.ex.trans h.ex, by have := g.len; have := h.len; omega, g.kp.trans h.kp, h.ro, h.pos⟩
theorem Grown.put {C : Addr} {c : Cells} {r : Addr} {H H1 H2 : Hp} {S S1 : List Tr} {n : Int} {m : Nat} {t : Tr} (g : Grown C c r H H1 S S1 n m) (hr : r ∉ c.all) (s : ShAt C c H2 (put S1 t)) (k : Keep c H1 H2) : Grown C c r H H2 S (put S1 t) n (m + 1) :=
  ⟨s, g.ex.trans put_ext, by have := g.len; have := put_len (S := S1) (t := t); omega, g.kp.trans (k.keepL.mono fun b hb => List.mem_cons_of_mem _ hb), k _ _ hr g.ro, g.pos⟩
section
variable {P : Program} {w : World} {K : PySem.W.Frag} {mg : Str → Option Value} {base : Heap} {A : Ad}
abbrev n__law_letters : List Str := ["row", "every", "some"]
theorem sc__law_letters : FnScope n__law_letters p__law_letters (defScope s__law_letters) := ⟨rfl, rfl, rfl, by decide +kernel, rfl, by decide +kernel, by decide +kernel⟩
theorem ok__law_letters (T : Txt K mg A) : FnOk P w K mg base (L2.CX P w) 2 A.f__law_letters A.d__law_letters p__law_letters spLetters := by
  refine T.fn__law_letters.okX sc__law_letters (fun vs H Q E h => ?_) (fun cdv B outer s H vs Q E hr h => ?_)
  · obtain ⟨r, n, rfl, _⟩ := h; rfl
  obtain ⟨r, n, rfl, h, h0, q⟩ := h
  refine ⟨_, (pss_cons (ps_set (i := 1) sc__law_letters.nd rfl (Or.inl rfl) pe_str)
      (pss_cons (ps_set (i := 1) sc__law_letters.nd rfl (Or.inl rfl) (pe_op op_add_str (pv 1) pe_str))
      (pss_cons (ps_set (i := 2) sc__law_letters.nd rfl (Or.inl rfl) (pe_lst (pa_cons pe_str (pa_cons pe_str (pa_cons pe_str (pa_cons (pv 1) (pa_cons pe_str pa_nil)))))))
      (pss_one (ps_ret (pe_ix ix_list (pv 2) (pe_call (ok__law_digit T) (hr.mono (by omega)) (by rfl) T.mg__law_digit T.fn__law_digit.kp T.bi__law_digit .nil (passes_call (takes_of rfl rfl rfl rfl) (fun _ _ _ _ h => h)) (pa_cons (pv 0) (pa_cons pe_int pa_nil))) (fun _ _ => rfl))))))), ?_⟩
  walk_at "st"
  walk_at "nx"
  walk_at "st"
  refine ⟨_, _, rfl, rfl, (by decide +kernel), ?_⟩
  walk_at "nx"
  walk_at "st"
  refine w_mkl (by show 5 ≤ sizeLine; rw [sizeLine_eq]; decide) fun p H1 np s1 hp => ?_
  walk_at "nx"
  walk_at "go"
  obtain ⟨L, hL, l5, all⟩ : ∃ L, H1 p = some (.lst L) ∧ L.length = 5 ∧ ∀ v ∈ L, ∃ x, v = V.str x ∧ GoodL x := ⟨_, hp, rfl, fun v hv => by
    simp only [List.mem_cons, List.not_mem_nil, or_false] at hv
    rcases hv with e | e | e | e | e
    all_goals exact ⟨_, e, by decide +kernel⟩⟩
  refine c_digit (s1 _ _ h) h0 (by decide) (by decide) fun d n' d0 d1 n0 => ?_
  obtain ⟨v, hv, ha⟩ := at_in (xs := L) d0 (by omega)
  obtain ⟨x, rfl, gx⟩ := all v hv
  refine w_ixl (SqL.of (by rw [upd_ne (ne_of_none h np).symm]; exact hL)) ha ?_
  exact q x _ n' gx (fun b o nb e => by
    rw [upd_ne (by rintro rfl; exact nb (by simp))]; exact s1 b o e) upd_same n0
abbrev n__law_tree : List Str := ["shelf", "row", "letters", "height", "last", "least", "many", "plain", "lower", "turn", "one", "other", "k"]
theorem sc__law_tree : FnScope n__law_tree p__law_tree (defScope s__law_tree) := ⟨rfl, rfl, rfl, by decide +kernel, rfl, by decide +kernel, by decide +kernel⟩
theorem sum_ones : ∀ L : List Nat, ((L.map fun c => (⟨#[c]⟩ : Str)).map (·.length)).sum = L.length
  | [] => rfl
  | c :: r => by
    rw [List.map_cons, List.map_cons, List.sum_cons, sum_ones r]
    show 1 + r.length = r.length + 1
    omega
theorem never_ok {f : Addr} {fd : FuncData} {ps : List Str} {k : Nat} {sp : Sp} (h : ∀ vs H Q E, ¬ sp vs H Q E) : FnOk P w K mg base (L2.CX P w) k f fd ps sp :=
  ⟨fun vs H Q E z => (h _ _ _ _ z).elim, fun _ _ _ _ _ _ _ _ _ _ _ _ _ z => (h _ _ _ _ z).elim⟩
theorem two_add {a b h : Nat} (ha : a + 1 ≤ h) (hb : b + 1 ≤ h) : (2 ^ (a + 1) - 1) + (2 ^ (b + 1) - 1) + 1 ≤ 2 ^ (h + 1) - 1 ∧ 2 ^ (a + 1) ≤ 2 ^ (h + 1) ∧ 2 ^ a + 2 ^ b ≤ 2 ^ h := by
  have e1 : 2 ^ (a + 1) ≤ 2 ^ h := Nat.pow_le_pow_right (by decide) ha
  have e2 : 2 ^ (b + 1) ≤ 2 ^ h := Nat.pow_le_pow_right (by decide) hb
  have e3 : 2 ^ (h + 1) = 2 ^ h + 2 ^ h := by rw [Nat.pow_succ]; omega
  have e4 : 2 ^ (a + 1) = 2 ^ a + 2 ^ a := by rw [Nat.pow_succ]; omega
  have e5 : 2 ^ (b + 1) = 2 ^ b + 2 ^ b := by rw [Nat.pow_succ]; omega
  have p1 : 0 < 2 ^ (a + 1) := Nat.pow_pos (by decide)
  have p2 : 0 < 2 ^ (b + 1) := Nat.pow_pos (by decide)
  omega
theorem ok__law_tree (T : Txt K mg A) : ∀ N, FnOk P w K mg base (L2.CX P w) (N + 4) A.f__law_tree A.d__law_tree p__law_tree (spTree A.C_Shelf N) := by
  intro N
  induction N with
  | zero => exact never_ok fun vs H Q E ⟨_, _, _, _, _, _, _, _, _, _, _, _, _, z, _⟩ => by omega
  | succ N ih =>
  refine T.fn__law_tree.okX sc__law_tree (fun vs H Q E h => ?_) (fun cdv B outer s H vs Q E hr h => ?_)
  · obtain ⟨c, S, r, n, x, h, l, rfl, _⟩ := h; rfl
  obtain ⟨c, S, r, n, x, h, l, rfl, hS, hrc, hn, n0, gx, hN, h10, l1, l8, cp, q⟩ := h
  refine ⟨_, (pss_cons (ps_if (pt_cmpR op_eq (pv 3) pe_int (nomark _)) (pss_cons (ps_set (i := 5) sc__law_tree.nd rfl (Or.inl rfl) (pe_callB (call_max2 rfl) (by rfl) T.z_max bt_max (pa_cons pe_int (pa_cons (pe_op op_sub pe_int (pv 4)) pa_nil))))
      (pss_cons (ps_set (i := 6) sc__law_tree.nd rfl (Or.inl rfl) (pe_op op_add (pv 5) (pe_call (ok__law_digit T) (hr.mono (by omega)) (by rfl) T.mg__law_digit T.fn__law_digit.kp T.bi__law_digit .nil (passes_call (takes_of rfl rfl rfl rfl) (fun _ _ _ _ h => h)) (pa_cons (pv 1) (pa_cons (pe_op op_sub pe_int (pv 5)) pa_nil)))))
      (pss_cons (ps_set (i := 7) sc__law_tree.nd rfl (Or.inl rfl) (pe_join pe_str (pe_lc (own := [("k", 12)]) (g := gName 12) (tt := tYes) rfl sc__law_tree.nd (pi_range1 (by rfl) T.z_range (pa_cons (pv 6) pa_nil)) (blkOk_by (own := [("k", 12)]) (N := n__law_tree) (sc := defScope s__law_tree) (by decide +kernel)) (fun _ _ _ _ _ => (pg_name (i := 12) sc__law_tree.nd rfl (Or.inl rfl))) (fun _ _ _ _ _ => pts_nil) (fun _ _ _ _ _ => (pe_ix ix_str (pv 2) (pe_call (ok__law_digit T) (hr.mono (by omega)) (by rfl) T.mg__law_digit T.fn__law_digit.kp T.bi__law_digit .nil passL (pa_cons (pv 1) (pa_cons (pe_callB call_len_str (by rfl) T.z_len bt_len (pa_cons (pv 2) pa_nil)) pa_nil))) (fun _ _ => rfl))))))
      (pss_one (ps_ret (pe_tup (pa_cons (pe_meth (pv 0) T.cl_Shelf T.me_Shelf_leaf (ok_Shelf_leaf T) (hr.mono (by omega)) T.bi_Shelf_leaf .nil (passes_call (takes_of rfl rfl rfl rfl) (fun _ _ _ _ h => h)) (pa_cons (pv 7) pa_nil)) (pa_cons (pv 7) (pa_cons (pv 6) pa_nil))))))))) pss_nil)
      (pss_cons (ps_set (i := 8) sc__law_tree.nd rfl (Or.inl rfl) (pe_op op_mulW (pe_ix ix_list (pe_lst (pa_cons pe_int (pa_cons pe_int (pa_cons pe_int pa_nil)))) (pe_call (ok__law_digit T) (hr.mono (by omega)) (by rfl) T.mg__law_digit T.fn__law_digit.kp T.bi__law_digit .nil (passes_call (takes_of rfl rfl rfl rfl) (fun _ _ _ _ h => h)) (pa_cons (pv 1) (pa_cons pe_int pa_nil))) (fun _ _ => rfl)) (pe_callTy call_int1 (by rfl) T.z_int bt_int (pa_cons (pe_cmpR op_gt (pv 3) pe_int (nomark _)) pa_nil))))
      (pss_cons (ps_set (i := 9) sc__law_tree.nd rfl (Or.inl rfl) (pe_call (ok__law_digit T) (hr.mono (by omega)) (by rfl) T.mg__law_digit T.fn__law_digit.kp T.bi__law_digit .nil (passes_call (takes_of rfl rfl rfl rfl) (fun _ _ _ _ h => h)) (pa_cons (pv 1) (pa_cons pe_int pa_nil))))
      (pss_cons (ps_set (i := 10) sc__law_tree.nd rfl (Or.inl rfl) (pe_call ih (hr.mono (by omega)) (by rfl) T.mg__law_tree T.fn__law_tree.kp T.bi__law_tree .nil (passes_call (takes_of rfl rfl rfl rfl) (fun _ _ _ _ h => h)) (pa_cons (pv 0) (pa_cons (pv 1) (pa_cons (pv 2) (pa_cons (pe_op op_sub (pe_op op_sub (pv 3) pe_int) (pe_op op_mulW (pv 8) (pv 9))) (pa_cons (pv 4) pa_nil)))))))
      (pss_cons (ps_set (i := 11) sc__law_tree.nd rfl (Or.inl rfl) (pe_call ih (hr.mono (by omega)) (by rfl) T.mg__law_tree T.fn__law_tree.kp T.bi__law_tree .nil (passes_call (takes_of rfl rfl rfl rfl) (fun _ _ _ _ h => h)) (pa_cons (pv 0) (pa_cons (pv 1) (pa_cons (pv 2) (pa_cons (pe_op op_sub (pe_op op_sub (pv 3) pe_int) (pe_op op_mulW (pv 8) (pe_op op_sub pe_int (pv 9)))) (pa_cons (pe_ix ix_tup (pv 10) pe_int (fun _ _ => rfl)) pa_nil)))))))
      (pss_one (ps_ret (pe_tup (pa_cons (pe_meth (pv 0) T.cl_Shelf T.me_Shelf_fork (ok_Shelf_fork T) (hr.mono (by omega)) T.bi_Shelf_fork .nil (passes_call (takes_of rfl rfl rfl rfl) (fun _ _ _ _ h => h)) (pa_cons (pe_ix ix_tup (pv 10) pe_int (fun _ _ => rfl)) (pa_cons (pe_ix ix_tup (pv 11) pe_int (fun _ _ => rfl)) pa_nil))) (pa_cons (pe_op op_add_str (pe_ix ix_tup (pv 10) pe_int (fun _ _ => rfl)) (pe_ix ix_tup (pv 11) pe_int (fun _ _ => rfl))) (pa_cons (pe_ix ix_tup (pv 11) pe_int (fun _ _ => rfl)) pa_nil))))))))))), ?_⟩
  have G0 := Grown.refl hS hn n0
  have xl : 1 ≤ x.cps.toList.length := by
    cases e : x.cps.toList with
    | nil => exact absurd e gx.1
    | cons a b => simp
  have xl2 : x.length ≤ sizeLine := by
    have := gx.2.2; have := cap_line; unfold cap at this
    have : x.length = x.cps.toList.length := by simp [Str.length]
    omega
  have xle : x.length = x.cps.toList.length := by simp [Str.length]
  walk_at "st"
  refine ite_d (fun hz => ?_) (fun hz => ?_)
  · have h0 : h = 0 := by omega
    subst h0
    walk_at "st"
    refine ⟨_, _, rfl, ?_⟩
    walk_at "nx"
    obtain ⟨le, hle, le1, le2, le3⟩ : ∃ le : Int, (if (9 - (l : Int)) > 1 then 9 - (l : Int) else 1) = le ∧ 1 ≤ le ∧ le ≤ 8 ∧ 8 < le + l := ⟨_, rfl, by split <;> omega, by split <;> omega, by split <;> omega⟩
    rw [hle]
    walk_at "st"
    refine c_digit hn n0 (by omega) (by omega) fun d n1 d0 d1 n10 => ?_
    have G1 := G0.digit hrc n10
    walk_at "go"
    walk_at "nx"
    obtain ⟨m, em⟩ : ∃ m : Nat, le + d = m := ⟨(le + d).toNat, by omega⟩
    rw [em]
    walk_at "st"
    refine ⟨⟨_, rfl⟩, ?_⟩
    walk_at "go"
    refine ⟨_, rfl, by omega, by omega, fun D hD => ?_⟩
    have Dr : D ≠ r := (ne_of_none G1.ro hD).symm
    have Dc : D ∉ c.all := G1.sh.apart hD
    refine lc_it walk_range (fun i H' => ∃ (L : List Nat) (n' : Int), Grown A.C_Shelf c r H H' S S n' 0 ∧ L.length = i ∧ Plain L ∧ H' D = some (.lst (L.map fun c => V.str ⟨#[c]⟩))) ⟨[], n1, G1.same (fun b o e => by rw [upd_ne (ne_of_none e hD)]; exact e), rfl, (fun _ z => nomatch z), upd_same⟩ (fun _ _ _ _ => trivial) ?_ ?_
    · rintro i y H1 H2 hi ⟨L, n', G, ll, pl, hDl⟩ ⟨rfl, rfl⟩
      refine w_gname ⟨rfl, w_yes (iteT ?_)⟩
      walk_at "go"
      refine ⟨_, rfl, xl2, ?_⟩
      walk_at "go"
      have := gx.2.2
      refine c_digit G.ro G.pos (by omega) (by omega) fun d2 n2 e0 e1 n20 => ?_
      obtain ⟨ch, hch, ha⟩ := at_in (xs := x.cps.toList) e0 (by omega)
      refine ⟨_, _, ch, rfl, rfl, xl2, ha, ?_⟩
      refine ⟨_, by rw [upd_ne Dr]; exact hDl, ?_, L ++ [ch], n2, ?_, by simp [ll], ?_, by rw [upd_same, List.map_append]; rfl⟩
      · have := cap_line; unfold cap at this
        have hi' : i < (m : Int).toNat := hi
        simp; omega
      · have G2 := G.digit hrc n20
        refine ⟨G2.sh.keepL (l := [D]) (KeepL.upd (by simp)) (fun b hb => by rw [List.mem_singleton] at hb; rw [hb]; exact Dc) (fun b ys e => ?_), G2.ex, G2.len, fun b o nb e => ?_, by rw [upd_ne Dr.symm]; exact G2.ro, n20⟩
        · rw [upd_ne (ne_of e (by rw [upd_ne Dr]; exact hDl) (by intro z; cases z))]; exact e
        · have e2 := G2.kp b o nb e
          rw [upd_ne ?_]; exact e2
          rintro rfl
          exact absurd (G0.kp b o nb e |>.symm.trans (G1.free hD)) (by simp)
      · intro c' hc'
        rcases List.mem_append.mp hc' with hc' | hc'
        · exact pl c' hc'
        · rw [List.mem_singleton] at hc'; rw [hc']; exact gx.2.1 ch hch
    · rintro H1 ⟨L, n', G, ll, pl, hDl⟩
      have ll : L.length = m := by rw [ll]; omega
      have Ln : L ≠ [] := by intro z; rw [z] at ll; simp at ll; omega
      refine ⟨_, D, L.map fun c => (⟨#[c]⟩ : Str), rfl, rfl, .inl (SqL.of (by rw [List.map_map]; exact hDl)), ?_, ?_⟩
      · rw [sum_ones, sT_nil, sT_len]; simp; omega
      rw [sT_nil, join_signs Ln]
      walk_at "nx"
      have ok : Ok (.lf L) := ⟨by omega, by omega, pl⟩
      have one2 : (2 : Nat) ^ (0 + 1) = 2 := rfl
      rw [one2] at cp
      walk_at "go"
      refine ⟨c.a, c.dx, _, rfl, G.sh.ob, fl_no (by decide +kernel), ?_⟩
      walk_at "go"
      refine c_leaf G.sh ok (by omega) fun H2 hS2 k2 => ?_
      have G2 := G.put hrc hS2 k2
      walk_at "go"
      refine w_mkt (by show 3 ≤ sizeLine; rw [sizeLine_eq]; decide) fun p H3 np s3 hp3 => ?_
      refine q H3 _ n' _ (.lf L) p (G2.same s3) (nm_num put_mem) ok rfl (by show 8 < l + L.length; omega) (by show L.length ≤ 8 * 1; omega) (G2.free np) ?_
      rw [hp3]
      show some (HO.tup [_, _, V.int m]) = some (HO.tup [_, _, V.int L.length])
      rw [ll]; rfl
  walk_at "sk"
  have hp0 : 0 < h := by omega
  walk_at "st"
  refine ⟨line_of rfl (by decide), fun p np => ?_⟩
  obtain ⟨H1, eH, s1, hp⟩ := new_of (o := .lst [.int 0, .int 0, .int 1]) np
  rw [eH]
  obtain ⟨L, hL, l3, all⟩ : ∃ L, H1 p = some (.lst L) ∧ L.length = 3 ∧ ∀ v ∈ L, ∃ z : Int, v = V.int z ∧ 0 ≤ z ∧ z ≤ 1 := ⟨_, hp, rfl, fun v hv => by
    simp only [List.mem_cons, List.not_mem_nil, or_false] at hv
    rcases hv with e | e | e
    all_goals exact ⟨_, e, by decide, by decide⟩⟩
  have G1 := G0.same s1
  walk_at "go"
  refine c_digit G1.ro G1.pos (by decide) (by decide) fun d n2 d0 d1 n20 => ?_
  obtain ⟨v, hv, ha⟩ := at_in (xs := L) d0 (by omega)
  obtain ⟨z, rfl, z0, z1⟩ := all v hv
  have G2 := G1.digit hrc n20
  refine w_ixl (SqL.of (by rw [upd_ne (ne_of_none hn np).symm]; exact hL)) ha ?_
  walk_at "go"
  refine .inr ⟨_, rfl, ?_⟩
  refine w_rI (mulW_small (by omega) (by omega) (by split <;> decide) (by split <;> decide)) ?_
  obtain ⟨lw, hlw, w0, w1, w2⟩ : ∃ lw : Int, z * (if decide ((1 : Int) < h) = true then 1 else 0) = lw ∧ 0 ≤ lw ∧ lw ≤ 1 ∧ (lw = 1 → 2 ≤ h) := by
    refine ⟨_, rfl, ?_⟩
    by_cases e : (1 : Int) < h
    · rw [if_pos (decide_eq_true e)]; omega
    · rw [if_neg (by simpa using e)]; omega
  rw [hlw]
  walk_at "nx"
  walk_at "st"
  refine c_digit G2.ro G2.pos (by decide) (by decide) fun tn n3 t0 t1 n30 => ?_
  have G3 := G2.digit hrc n30
  walk_at "nx"
  obtain ⟨a, b, ea, eb, ha1, hb1, hab, hba, hm⟩ : ∃ a b : Nat, ((h : Int) - 1 - lw * tn = a) ∧ ((h : Int) - 1 - lw * (1 - tn) = b) ∧ a + 1 ≤ h ∧ b + 1 ≤ h ∧ a ≤ b + 1 ∧ b ≤ a + 1 ∧ (a + 1 = h ∨ b + 1 = h) := by
    have e1 : lw = 0 ∨ lw = 1 := by omega
    have e2 : tn = 0 ∨ tn = 1 := by omega
    rcases e1 with rfl | rfl
    · exact ⟨h - 1, h - 1, by omega, by omega, by omega, by omega, by omega, by omega, by omega⟩
    · have := w2 rfl
      rcases e2 with rfl | rfl
      · exact ⟨h - 1, h - 2, by omega, by omega, by omega, by omega, by omega, by omega, by omega⟩
      · exact ⟨h - 2, h - 1, by omega, by omega, by omega, by omega, by omega, by omega, by omega⟩
  obtain ⟨tw1, tw2, tw3⟩ := two_add ha1 hb1
  have hp2 : 0 < 2 ^ (a + 1) := Nat.pow_pos (by decide)
  have hp3 : 0 < 2 ^ (b + 1) := Nat.pow_pos (by decide)
  have hph : 0 < 2 ^ (h + 1) := Nat.pow_pos (by decide)
  walk_at "st"
  refine w_rI (mulW_small (by omega) (by omega) (by omega) (by omega)) ?_
  walk_at "go"
  rw [ea]
  refine ⟨c, S, r, n3, x, a, l, rfl, G3.sh, hrc, G3.ro, n30, gx, by omega, by omega, l1, l8, by omega, fun H4 S4 n4 y4 t4 p4 G4 m4 o4 h4 f4 g4 np4 hp4 => ?_⟩
  have G4' := G3.trans G4
  have len4 := G4.len
  walk_at "nx"
  walk_at "st"
  refine w_rI (mulW_small (by omega) (by omega) (by omega) (by omega)) ?_
  walk_at "go"
  rw [eb]
  have a2 : atI [V.int y4, V.str (sT t4.txt), V.int t4.la.sg] 2 = some (.int t4.la.sg) := rfl
  refine w_ixt (SqT.of hp4) a2 ?_
  walk_at "go"
  have lo := o4.la
  have l4a : 1 ≤ t4.la.sg := lo.pos
  have l4b : t4.la.sg ≤ 8 := by
    obtain ⟨m, em⟩ := la_leaf t4
    rw [em] at lo ⊢
    exact lo.2.1
  refine ⟨c, S4, r, n4, x, b, t4.la.sg, rfl, G4.sh, hrc, G4.ro, G4.pos, gx, by omega, by omega, l4a, l4b, by omega, fun H5 S5 n5 y5 t5 p5 G5 m5 o5 h5 f5 g5 np5 hp5 => ?_⟩
  have G5' := G4'.trans G5
  have len5 := G5.len
  have pne : p4 ≠ r := fun e => by rw [e, G4.ro] at hp4; cases hp4
  have hp45 : H5 p4 = some (.tup [V.int y4, V.str (sT t4.txt), V.int t4.la.sg]) := G5.kp p4 _ (by
    rw [List.mem_cons, not_or]; exact ⟨pne, G4.sh.apart_tup hp4⟩) hp4
  have m45 := m4.ext G5.ex
  have e8 : (8 : Nat) * 2 ^ h ≤ 8192 := by
    have : 2 ^ h ≤ 2 ^ 10 := Nat.pow_le_pow_right (by decide) h10
    omega
  have sgs : t4.sg + t5.sg ≤ 8 * 2 ^ h := by omega
  have ok : Ok (.fk t4 t5) := ⟨o4, o5, by omega, by omega, f5, by unfold mostSg; omega⟩
  have i0 : atI [V.int y4, V.str (sT t4.txt), V.int t4.la.sg] 0 = some (.int y4) := rfl
  have i1 : atI [V.int y4, V.str (sT t4.txt), V.int t4.la.sg] 1 = some (.str (sT t4.txt)) := rfl
  have j0 : atI [V.int y5, V.str (sT t5.txt), V.int t5.la.sg] 0 = some (.int y5) := rfl
  have j1 : atI [V.int y5, V.str (sT t5.txt), V.int t5.la.sg] 1 = some (.str (sT t5.txt)) := rfl
  have j2 : atI [V.int y5, V.str (sT t5.txt), V.int t5.la.sg] 2 = some (.int t5.la.sg) := rfl
  walk_at "nx"
  walk_at "go"
  refine ⟨c.a, c.dx, _, rfl, G5.sh.ob, fl_no (by decide +kernel), ?_⟩
  walk_at "go"
  refine w_ixt (SqT.of hp45) i0 ?_
  walk_at "go"
  refine w_ixt (SqT.of hp5) j0 ?_
  walk_at "go"
  refine c_fork G5.sh m45 m5 ok (by omega) fun H6 hS6 k6 => ?_
  have G6 := G5'.put hrc hS6 k6
  have q45 : H6 p4 = some (.tup [V.int y4, V.str (sT t4.txt), V.int t4.la.sg]) := k6 _ _ (G4.sh.apart_tup hp4) hp45
  have q5 : H6 p5 = some (.tup [V.int y5, V.str (sT t5.txt), V.int t5.la.sg]) := k6 _ _ (G5.sh.apart_tup hp5) hp5
  walk_at "go"
  refine w_ixt (SqT.of q45) i1 ?_
  walk_at "go"
  refine w_ixt (SqT.of q5) j1 ?_
  refine ⟨_, _, rfl, rfl, ?_, ?_⟩
  · rw [sT_len, sT_len, sg_txt, sg_txt]; have := cap_line; unfold cap at this; omega
  walk_at "go"
  refine w_ixt (SqT.of q5) j2 ?_
  walk_at "go"
  refine w_mkt (by show 3 ≤ sizeLine; rw [sizeLine_eq]; decide) fun p7 H7 np7 s7 hp7 => ?_
  have G7 := G6.same s7
  refine q H7 _ n5 _ (.fk t4 t5) p7 ⟨G7.sh, G7.ex, by have := G7.len; omega, G7.kp, G7.ro, G7.pos⟩ (nm_num put_mem) ok (by rw [ht_fk]; omega) f4 (by show t4.sg + t5.sg ≤ _; exact sgs) (G6.free np7) ?_
  rw [hp7, sT_app]; rfl
end

/-! ### drawn texts -/
def oTxt : Option Tr → List Nat | none => [] | some t => t.txt
def dbl : Nat → Tr → Tr | 0, t => t | k + 1, t => .fk (dbl k t) (dbl k t)
theorem dbl_fi (t : Tr) : ∀ k, (dbl k t).fi = t.fi | 0 => rfl | k + 1 => dbl_fi t k
theorem dbl_la (t : Tr) : ∀ k, (dbl k t).la = t.la | 0 => rfl | k + 1 => dbl_la t k
theorem dbl_sg (t : Tr) : ∀ k, (dbl k t).sg = t.sg * 2 ^ k
  | 0 => by show t.sg = t.sg * 1; omega
  | k + 1 => by
    show (dbl k t).sg + (dbl k t).sg = _
    rw [dbl_sg t k, Nat.pow_succ, ← Nat.mul_assoc]; omega
def spText (C : Addr) : Sp := fun vs H Q _ => ∃ (c : Cells) (S : List Tr) (r : Addr) (n : Int) (m : Nat), vs = [.ref c.a, .ref r, .int m] ∧ ShAt C c H S ∧ r ∉ c.all ∧ H r = some (.lst [.int n]) ∧ 0 ≤ n ∧ m ≤ 8 ∧ S.length + 2 ^ (m + 1) ≤ cap ∧
  ∀ (H' : Hp) (S' : List Tr) (n' y : Int) (o : Option Tr) (p : Addr), Grown C c r H H' S S' n' (2 ^ (m + 1)) → Tx S' y o → (∀ t, o = some t → Ok t ∧ t.sg ≤ 8 * 2 ^ m) → H p = none → H' p = some (.tup [.int y, .str (sT (oTxt o))]) → Q (.ref p) H'
def spLong (C : Addr) : Sp := fun vs H Q _ => ∃ (c : Cells) (S : List Tr) (r : Addr) (n : Int), vs = [.ref c.a, .ref r] ∧ ShAt C c H S ∧ r ∉ c.all ∧ H r = some (.lst [.int n]) ∧ 0 ≤ n ∧ S.length + 100 ≤ cap ∧
  ∀ (H' : Hp) (S' : List Tr) (n' y : Int) (t : Tr) (k : Nat) (p : Addr), Grown C c r H H' S S' n' 100 → Nm S' y (dbl k t) → Ok (dbl k t) → t.sg ≤ 64 → k ≤ 60 → H p = none → H' p = some (.tup [.int y, .str (sT t.txt), .int (2 ^ k : Nat)]) → Q (.ref p) H'
theorem pow_le {a b : Nat} (h : a ≤ b) : 2 ^ a ≤ 2 ^ b := Nat.pow_le_pow_right (by decide) h
section
variable {P : Program} {w : World} {K : PySem.W.Frag} {mg : Str → Option Value} {base : Heap} {A : Ad}
theorem Grown.letters {C : Addr} {c : Cells} {r : Addr} {H H1 : Hp} {S : List Tr} {n n' : Int} (s : ShAt C c H S) (hr : r ∉ c.all) (h : H r = some (.lst [.int n])) (k : KeepL [r] H H1) (e : H1 r = some (.lst [.int n'])) (n0 : 0 ≤ n') : Grown C c r H H1 S S n' 0 :=
  ⟨s.keepL k (fun b hb => by rw [List.mem_singleton] at hb; rw [hb]; exact hr) (fun b xs z => k b _ (by rw [List.mem_singleton]; exact ne_of z h (by intro y; cases y)) z), List.prefix_refl _, Nat.le_refl _, k.mono fun b hb => by rw [List.mem_singleton] at hb; rw [hb]; exact List.mem_cons_self, e, n0⟩
abbrev n__law_text : List Str := ["shelf", "row", "most", "letters", "found"]
theorem sc__law_text : FnScope n__law_text p__law_text (defScope s__law_text) := ⟨rfl, rfl, rfl, by decide +kernel, rfl, by decide +kernel, by decide +kernel⟩
theorem ok__law_text (T : Txt K mg A) : FnOk P w K mg base (L2.CX P w) 15 A.f__law_text A.d__law_text p__law_text (spText A.C_Shelf) := by
  have G := ok__law_tree (P := P) (w := w) (base := base) T 10
  refine T.fn__law_text.okX sc__law_text (fun vs H Q E h => ?_) (fun cdv B outer s H vs Q E hr h => ?_)
  · obtain ⟨c, S, r, n, m, rfl, _⟩ := h; rfl
  obtain ⟨c, S, r, n, m, rfl, hS, hrc, hn, n0, m8, cp, q⟩ := h
  have hpm : 0 < 2 ^ (m + 1) := Nat.pow_pos (by decide)
  refine ⟨_, (pss_cons (ps_set (i := 3) sc__law_text.nd rfl (Or.inl rfl) (pe_call (ok__law_letters T) (hr.mono (by omega)) (by rfl) T.mg__law_letters T.fn__law_letters.kp T.bi__law_letters .nil (passes_call (takes_of rfl rfl rfl rfl) (fun _ _ _ _ h => h)) (pa_cons (pv 1) pa_nil)))
      (pss_cons (ps_if (pt_cmpR op_eq (pe_call (ok__law_digit T) (hr.mono (by omega)) (by rfl) T.mg__law_digit T.fn__law_digit.kp T.bi__law_digit .nil (passes_call (takes_of rfl rfl rfl rfl) (fun _ _ _ _ h => h)) (pa_cons (pv 1) (pa_cons pe_int pa_nil))) pe_int (nomark _)) (pss_one (ps_ret (pe_tup (pa_cons pe_int (pa_cons pe_str pa_nil))))) pss_nil)
      (pss_cons (ps_set (i := 4) sc__law_text.nd rfl (Or.inl rfl) (pe_call G (hr.mono (by omega)) (by rfl) T.mg__law_tree T.fn__law_tree.kp T.bi__law_tree .nil (passes_call (takes_of rfl rfl rfl rfl) (fun _ _ _ _ h => h)) (pa_cons (pv 0) (pa_cons (pv 1) (pa_cons (pv 3) (pa_cons (pe_call (ok__law_digit T) (hr.mono (by omega)) (by rfl) T.mg__law_digit T.fn__law_digit.kp T.bi__law_digit .nil (passes_call (takes_of rfl rfl rfl rfl) (fun _ _ _ _ h => h)) (pa_cons (pv 1) (pa_cons (pe_op op_add (pv 2) pe_int) pa_nil))) (pa_cons pe_int pa_nil)))))))
      (pss_one (ps_ret (pe_tup (pa_cons (pe_ix ix_tup (pv 4) pe_int (fun _ _ => rfl)) (pa_cons (pe_ix ix_tup (pv 4) pe_int (fun _ _ => rfl)) pa_nil)))))))), ?_⟩
  walk_at "st"
  refine ⟨r, n, rfl, hn, n0, fun x H1 n1 gx k1 e1 n10 => ?_⟩
  have G1 := Grown.letters hS hrc hn k1 e1 n10
  walk_at "nx"
  walk_at "st"
  refine c_digit e1 n10 (by decide) (by decide) fun d n2 d0 d1 n20 => ?_
  have G2 := G1.digit hrc n20
  walk_at "go"
  refine ite_d (fun _ => ?_) (fun _ => ?_)
  · walk_at "go"
    refine w_mkt (line_of (n := 2) rfl (by decide)) fun p H3 np s3 hp3 => ?_
    have G3 := G2.same s3
    exact q H3 S n2 0 none p ⟨G3.sh, G3.ex, by have := G3.len; exact Nat.le_trans this (Nat.add_le_add_left (Nat.zero_le _) _), G3.kp, G3.ro, G3.pos⟩ rfl (fun t z => nomatch z) (G2.free np) hp3
  walk_at "sk"
  walk_at "st"
  refine c_digit G2.ro n20 (by omega) (by omega) fun d n3 d0' d1' n30 => ?_
  have G3 := G2.digit hrc n30
  walk_at "go"
  obtain ⟨h, eh⟩ : ∃ h : Nat, d = h := ⟨d.toNat, by omega⟩
  subst eh
  have hh : h ≤ m := by omega
  have hpw : 2 ^ (h + 1) ≤ 2 ^ (m + 1) := pow_le (by omega)
  have hpw2 : 2 ^ h ≤ 2 ^ m := pow_le hh
  have hpos : 0 < 2 ^ (h + 1) := Nat.pow_pos (by decide)
  refine ⟨c, S, r, n3, x, h, 8, rfl, G3.sh, hrc, G3.ro, n30, gx, by omega, by omega, by decide, by decide, by omega, fun H4 S4 n4 y t p G4 m4 o4 h4 f4 g4 np4 hp4 => ?_⟩
  have G4' := G3.trans G4
  have i0 : atI [V.int y, V.str (sT t.txt), V.int t.la.sg] 0 = some (.int y) := rfl
  have i1 : atI [V.int y, V.str (sT t.txt), V.int t.la.sg] 1 = some (.str (sT t.txt)) := rfl
  walk_at "nx"
  walk_at "go"
  refine w_ixt (SqT.of hp4) i0 ?_
  walk_at "go"
  refine w_ixt (SqT.of hp4) i1 ?_
  walk_at "go"
  refine w_mkt (line_of (n := 2) rfl (by decide)) fun p5 H5 np5 s5 hp5 => ?_
  have G5 := G4'.same s5
  exact q H5 S4 n4 y (some t) p5 ⟨G5.sh, G5.ex, by have := G5.len; omega, G5.kp, G5.ro, G5.pos⟩ m4 (fun t' z => by cases z; exact ⟨o4, by omega⟩) (G4'.free np5) hp5
abbrev n__law_long : List Str := ["shelf", "row", "letters", "number", "plain", "last", "many", "turn"]
theorem sc__law_long : FnScope n__law_long p__law_long (defScope s__law_long) := ⟨rfl, rfl, rfl, by decide +kernel, rfl, by decide +kernel, by decide +kernel⟩
theorem ok__law_long (T : Txt K mg A) : FnOk P w K mg base (L2.CX P w) 15 A.f__law_long A.d__law_long p__law_long (spLong A.C_Shelf) := by
  have G := ok__law_tree (P := P) (w := w) (base := base) T 10
  refine T.fn__law_long.okX sc__law_long (fun vs H Q E h => ?_) (fun cdv B outer s H vs Q E hr h => ?_)
  · obtain ⟨c, S, r, n, rfl, _⟩ := h; rfl
  obtain ⟨c, S, r, n, rfl, hS, hrc, hn, n0, cp, q⟩ := h
  refine ⟨_, (pss_cons (ps_set (i := 2) sc__law_long.nd rfl (Or.inl rfl) (pe_call (ok__law_letters T) (hr.mono (by omega)) (by rfl) T.mg__law_letters T.fn__law_letters.kp T.bi__law_letters .nil (passes_call (takes_of rfl rfl rfl rfl) (fun _ _ _ _ h => h)) (pa_cons (pv 1) pa_nil)))
      (pss_cons (ps_asg (pe_call G (hr.mono (by omega)) (by rfl) T.mg__law_tree T.fn__law_tree.kp T.bi__law_tree .nil (passes_call (takes_of rfl rfl rfl rfl) (fun _ _ _ _ h => h)) (pa_cons (pv 0) (pa_cons (pv 1) (pa_cons (pv 2) (pa_cons (pe_call (ok__law_digit T) (hr.mono (by omega)) (by rfl) T.mg__law_digit T.fn__law_digit.kp T.bi__law_digit .nil (passes_call (takes_of rfl rfl rfl rfl) (fun _ _ _ _ h => h)) (pa_cons (pv 1) (pa_cons pe_int pa_nil))) (pa_cons pe_int pa_nil)))))) (pg_tup rfl (pgs_cons (pg_name (i := 3) sc__law_long.nd rfl (Or.inl rfl)) (pgs_cons (pg_name (i := 4) sc__law_long.nd rfl (Or.inl rfl)) (pgs_cons (pg_name (i := 5) sc__law_long.nd rfl (Or.inl rfl)) pgs_nil)))))
      (pss_cons (ps_set (i := 6) sc__law_long.nd rfl (Or.inl rfl) pe_int)
      (pss_cons (ps_for (passes_of rfl) rfl (pi_range1 (by rfl) T.z_range (pa_cons (pe_call (ok__law_digit T) (hr.mono (by omega)) (by rfl) T.mg__law_digit T.fn__law_digit.kp T.bi__law_digit .nil (passes_call (takes_of rfl rfl rfl rfl) (fun _ _ _ _ h => h)) (pa_cons (pv 1) (pa_cons pe_int pa_nil))) pa_nil)) (pg_name (i := 7) sc__law_long.nd rfl (Or.inl rfl))
      (pss_one (ps_if (pt_cmpR op_le (pe_op op_mulW (pe_op op_mulW (pe_callB call_len_str (by rfl) T.z_len bt_len (pa_cons (pv 4) pa_nil)) (pv 6)) pe_int) (pe_op op_pow pe_int pe_int) (nomark _)) (pss_cons (ps_set (i := 3) sc__law_long.nd rfl (Or.inl rfl) (pe_meth (pv 0) T.cl_Shelf T.me_Shelf_fork (ok_Shelf_fork T) (hr.mono (by omega)) T.bi_Shelf_fork .nil (passes_call (takes_of rfl rfl rfl rfl) (fun _ _ _ _ h => h)) (pa_cons (pv 3) (pa_cons (pv 3) pa_nil))))
      (pss_one (ps_set (i := 6) sc__law_long.nd rfl (Or.inl rfl) (pe_op op_mulW (pv 6) pe_int)))) pss_nil)))
      (pss_one (ps_ret (pe_tup (pa_cons (pv 3) (pa_cons (pv 4) (pa_cons (pv 6) pa_nil)))))))))), ?_⟩
  walk_at "st"
  refine ⟨r, n, rfl, hn, n0, fun x H1 n1 gx k1 e1 n10 => ?_⟩
  have G1 := Grown.letters hS hrc hn k1 e1 n10
  walk_at "nx"
  walk_at "st"
  refine c_digit e1 n10 (by decide) (by decide) fun d n2 d0 d1 n20 => ?_
  have G2 := G1.digit hrc n20
  walk_at "go"
  obtain ⟨h, eh⟩ : ∃ h : Nat, d = h := ⟨d.toNat, by omega⟩
  subst eh
  have hh : h ≤ 3 := by omega
  have hpw : 2 ^ (h + 1) ≤ 2 ^ (3 + 1) := pow_le (by omega)
  have hpw2 : 2 ^ h ≤ 2 ^ 3 := pow_le hh
  have hpos : 0 < 2 ^ (h + 1) := Nat.pow_pos (by decide)
  refine ⟨c, S, r, n2, x, h, 1, rfl, G2.sh, hrc, G2.ro, n20, gx, by omega, by omega, by decide, by decide, by omega, fun H4 S4 n4 y t p G4 m4 o4 h4 f4 g4 np4 hp4 => ?_⟩
  have G4' := G2.trans G4
  have len4 := G4.len
  refine w_gtup (SqT.of hp4) rfl (w_gcons (w_gname (w_gcons (w_gname (w_gcons (w_gname (w_gnil ?_)))))))
  dsimp only
  walk_at "st"
  walk_at "nx"
  walk_at "st"
  refine c_digit G4'.ro G4'.pos (by decide) (by decide) fun d5 n5 d50 d51 n50 => ?_
  have G5 := G4'.digit hrc n50
  walk_at "go"
  refine ⟨_, rfl, by omega, by omega, ?_⟩
  have sg1 : 1 ≤ t.sg := o4.pos
  refine for_it walk_range (fun i σ H' => ∃ (k M : Nat) (S' : List Tr) (y' : Int) (tn : Option V), σ = [some (.ref c.a), some (.ref r), some (.str x), some (.int y'), some (.str (sT t.txt)), some (.int t.la.sg), some (.int (M : Nat)), tn] ∧ M = 2 ^ k ∧ k ≤ i ∧ Grown A.C_Shelf c r H H' S S' n5 (15 + i) ∧ Nm S' y' (dbl k t) ∧ Ok (dbl k t))
    ⟨0, 1, S4, y, none, rfl, rfl, Nat.le_refl _, ⟨G5.sh, G5.ex, by have := G5.len; omega, G5.kp, G5.ro, G5.pos⟩, m4, o4⟩ (fun _ _ _ _ _ => trivial) ?_ ?_
  · rintro i z σ H6 H7 hi ⟨k, M, S6, y6, tn, rfl, hM, hk, G6, m6, o6⟩ ⟨rfl, rfl⟩
    have hi : i < d5.toNat := hi
    have len6 := G6.len
    have e60 : (2 : Nat) ^ 60 = 1152921504606846976 := by decide
    have pk : M ≤ 1152921504606846976 := by rw [hM, ← e60]; exact pow_le (by omega)
    have sgk := dbl_sg t k
    rw [← hM] at sgk
    have t64 : t.sg ≤ 64 := by omega
    refine w_gname ?_
    walk_at "go"
    refine ⟨_, rfl, by rw [sT_len, sg_txt]; have := cap_line; unfold cap at this; omega, ?_⟩
    rw [sT_len, sg_txt]
    walk_at "go"
    refine w_rI (mulW_small (by omega) (by omega) (by omega) (by omega)) ?_
    walk_at "go"
    have em : (t.sg : Int) * (M : Int) = ((t.sg * M : Nat) : Int) := by push_cast; rfl
    have eb : t.sg * M ≤ 64 * 1152921504606846976 := Nat.mul_le_mul t64 pk
    rw [em]
    generalize t.sg * M = tm at sgk eb ⊢
    refine w_rI (mulW_small (by omega) (by omega) (by decide) (by decide)) ?_
    walk_at "go"
    refine w_rI ⟨by decide, by decide, by decide⟩ ?_
    rw [pow_sg]
    walk_at "go"
    refine ite_d (fun h1 => ?_) (fun h1 => ?_)
    · have okf : Ok (.fk (dbl k t) (dbl k t)) := ⟨o6, o6, by omega, by omega, by rw [dbl_la, dbl_fi]; have := o4.la.pos; omega, by unfold mostSg; omega⟩
      walk_at "st"
      refine ⟨c.a, c.dx, _, rfl, G6.sh.ob, fl_no (by decide +kernel), ?_⟩
      walk_at "go"
      refine c_fork G6.sh m6 m6 okf (by omega) fun H8 hS8 k8 => ?_
      have G8 := G6.put hrc hS8 k8
      walk_at "nx"
      walk_at "go"
      refine w_rI (mulW_small (by omega) (by omega) (by decide) (by decide)) (w_gname ?_)
      refine ⟨k + 1, M * 2, _, _, _, rfl, by rw [hM, Nat.pow_succ], by omega, ⟨G8.sh, G8.ex, by have := G8.len; omega, G8.kp, G8.ro, G8.pos⟩, nm_num put_mem, okf⟩
    · exact ⟨k, M, _, _, _, rfl, hM, by omega, ⟨G6.sh, G6.ex, by have := G6.len; omega, G6.kp, G6.ro, G6.pos⟩, m6, o6⟩
  rintro σ H6 ⟨k, M, S6, y6, tn, rfl, hM, hk, G6, m6, o6⟩
  dsimp only
  walk_at "go"
  refine w_mkt (line_of (n := 3) rfl (by decide)) fun p7 H7 np7 s7 hp7 => ?_
  have G7 := G6.same s7
  exact q H7 S6 n5 y6 t k p7 ⟨G7.sh, G7.ex, by have := G7.len; omega, G7.kp, G7.ro, G7.pos⟩ m6 o6 (by omega) (by omega) (G6.free np7) (by rw [← hM]; exact hp7)
end

/-! ### texts written, rows of pieces -/
def wr (c : Nat) : List Nat := if c = 10 then [92, 110] else if c = 92 then [92, 92] else [c]
def W (l : List Nat) : List Nat := l.flatMap wr
theorem replL_one {c : Nat} {z : List Nat} : ∀ l : List Nat, StrLaws.replL [c] z l = l.flatMap fun d => if d = c then z else [d]
  | [] => StrLaws.replL_nil
  | d :: r => by
    rw [List.flatMap_cons]
    by_cases h : d = c
    · subst h
      rw [StrLaws.replL_hit (by simp) (by simp), if_pos rfl]
      show z ++ StrLaws.replL [d] z r = _
      rw [replL_one r]
    · rw [StrLaws.replL_miss (by simpa using h), if_neg h, replL_one r]; rfl
theorem W_eq (l : List Nat) : (l.flatMap fun d => if d = 92 then [92, 92] else [d]).flatMap (fun d => if d = 10 then [92, 110] else [d]) = W l := by
  rw [List.flatMap_assoc]
  unfold W
  congr 1
  funext c
  unfold wr
  by_cases h1 : c = 92
  · subst h1; simp
  · by_cases h2 : c = 10
    · subst h2; simp
    · simp [h1, h2]
theorem wr_len (c : Nat) : (wr c).length ≤ 2 := by unfold wr; split; simp; split <;> simp
theorem W_len : ∀ l : List Nat, (W l).length ≤ 2 * l.length
  | [] => by simp [W]
  | c :: r => by
    have := W_len r
    have := wr_len c
    unfold W at *
    rw [List.flatMap_cons, List.length_append, List.length_cons]; omega
theorem sT_bs : ("\\" : Str) = sT [92] := by decide +kernel
theorem sT_bb : ("\\\\" : Str) = sT [92, 92] := by decide +kernel
theorem sT_bn : ("\\n" : Str) = sT [92, 110] := by decide +kernel
theorem repl_len {c : Nat} {z : List Nat} (hz : z.length ≤ 2) : ∀ l : List Nat, (l.flatMap fun d => if d = c then z else [d]).length ≤ 2 * l.length
  | [] => by simp
  | d :: r => by
    have := repl_len (c := c) hz r
    have k : (if d = c then z else [d]).length ≤ 2 := by split; exact hz; simp
    rw [List.flatMap_cons, List.length_append, List.length_cons]
    omega
theorem replace_one {l : List Nat} {c : Nat} {z : List Nat} : Txt.replace (sT l) (sT [c]) (sT z) = sT (l.flatMap fun d => if d = c then z else [d]) := by
  rw [sT_of (Txt.replace (sT l) (sT [c]) (sT z)), StrLaws.replace_list (by show 1 ≤ 1; omega)]
  show sT (StrLaws.replL [c] z l) = _
  rw [replL_one]
def rowOf (S : List Tr) : Tr → Str
  | .lf l => "leaf " ++ sT (W l)
  | .fk a b => (("fork " ++ (toString (num S a) : Str)) ++ " ") ++ (toString (num S b) : Str)
def shelfTxt (S : List Tr) : Str := Txt.join "\n" (S.map (rowOf S))
theorem app_len (x y : Str) : (x ++ y).length = x.length + y.length := by
  show (Str.append x y).length = _
  unfold Str.append Str.length
  simp
theorem empty_app (x : Str) : Str.empty ++ x = x := PySem.Str.append_left_empty (by decide +kernel)
theorem num_len {n : Int} (h0 : 0 ≤ n) (h : n ≤ 16000001) : (toString n : Str).length ≤ 8 ∧ n.natAbs.log2 < 1920 := by
  refine ⟨toString_length_le h0 (by decide) (by omega), ?_⟩
  have : n.natAbs.log2 < 64 := PySem.Flt.log2_lt_of (by decide) (by omega)
  omega
theorem rowOf_len {S : List Tr} (g : Good S) (cp : S.length ≤ cap) {t : Tr} (h : t ∈ S) : (rowOf S t).length ≤ 40 := by
  cases t with
  | lf l =>
    have o := g.ok _ h
    have := W_len l
    have := o.2.1
    show (("leaf " : Str) ++ sT (W l)).length ≤ 40
    have e5 : ("leaf " : Str).length = 5 := by decide +kernel
    rw [app_len, e5, sT_len]
    omega
  | fk a b =>
    obtain ⟨ha, hb⟩ := g.parts h
    have p := (nm_num ha).pos
    have q := (nm_num hb).pos
    unfold cap at cp
    have l1 := (num_len (n := num S a) (by omega) (by omega)).1
    have l2 := (num_len (n := num S b) (by omega) (by omega)).1
    show ((("fork " ++ (toString (num S a) : Str)) ++ " ") ++ (toString (num S b) : Str)).length ≤ 40
    rw [app_len, app_len, app_len]
    have e1 : ("fork " : Str).length = 5 := by decide +kernel
    have e2 : (" " : Str).length = 1 := by decide +kernel
    omega
def spWritten : Sp := fun vs H Q _ => ∃ l : List Nat, vs = [.str (sT l)] ∧ l.length ≤ 1000000 ∧ Q (.str (sT (W l))) H
theorem c_written {l : List Nat} {H : Hp} {Q : VK} {E : XK} (h : l.length ≤ 1000000) (k : Q (.str (sT (W l))) H) : spWritten [.str (sT l)] H Q E := ⟨l, rfl, h, k⟩
/-- a row of a piece; some objects may be made by the way -/
def spRow : Sp := fun vs H Q _ => ∃ p S t, vs = [.ref p] ∧ H p = some (.tup (pvals S t)) ∧ Good S ∧ S.length ≤ cap ∧ t ∈ S ∧ Q (.str (rowOf S t)) H
def spShTxt (C : Addr) : Sp := fun vs H Q _ => ∃ c S, vs = [.ref (Cells.a c)] ∧ ShAt C c H S ∧ S.length ≤ 300000 ∧ ∀ H', Same H H' → Q (.str (shelfTxt S)) H'
theorem c_shTxt {C : Addr} {c : Cells} {S : List Tr} {H : Hp} {Q : VK} {E : XK} (s : ShAt C c H S) (h : S.length ≤ 300000) (k : ∀ H', Same H H' → Q (.str (shelfTxt S)) H') : spShTxt C [.ref c.a] H Q E := ⟨c, S, rfl, s, h, k⟩
section
variable {P : Program} {w : World} {K : PySem.W.Frag} {mg : Str → Option Value} {base : Heap} {A : Ad}
abbrev n_written : List Str := ["plain"]
theorem sc_written : FnScope n_written p_written (defScope s_written) := ⟨rfl, rfl, rfl, by decide +kernel, rfl, by decide +kernel, by decide +kernel⟩
theorem ok_written (T : Txt K mg A) : FnOk P w K mg base (L2.CX P w) 1 A.f_written A.d_written p_written spWritten := by
  obtain ⟨oc, od, kV, doc, pm, an, cdv, ct, osl, e, lk, hcd⟩ := T.fn_written.ex
  rw [e] at lk ⊢
  refine fn_ofT lk hcd sc_written (by decide +kernel) (by decide) (fun vs H Q E h => ?_) (fun B outer s H vs Q E hr h => ?_)
  · obtain ⟨l, rfl, _⟩ := h; rfl
  obtain ⟨l, rfl, hl, q⟩ := h
  refine ⟨_, CwR.psst_one (CwR.pst_ret (CwR.pet_replT (CwR.pet_replC (pv 0)))), ?_⟩
  refine w_ret ?_
  refine ⟨_, rfl, sT l, rfl, ?_, ?_⟩
  · rw [sT_bb, sT_len, sT_len]; show l.length + (l.length + 1) * 2 ≤ 16777216; omega
  rw [sT_bs, sT_bb, replace_one]
  refine ⟨_, rfl, ?_, ?_⟩
  · have := repl_len (c := 92) (z := [92, 92]) (by decide) l
    rw [sT_bn, sT_len, sT_len]; show _ + (_ + 1) * 2 ≤ 16777216; omega
  rw [sT_lf, sT_bn, replace_one, W_eq]
  exact q
abbrev n_piece_row : List Str := ["piece", "word", "one", "other"]
theorem sc_piece_row : FnScope n_piece_row p_piece_row (defScope s_piece_row) := ⟨rfl, rfl, rfl, by decide +kernel, rfl, by decide +kernel, by decide +kernel⟩
theorem ok_piece_row (T : Txt K mg A) : FnOk P w K mg base (L2.CX P w) 2 A.f_piece_row A.d_piece_row p_piece_row spRow := by
  refine T.fn_piece_row.okX sc_piece_row (fun vs H Q E h => ?_) (fun cdv B outer s H vs Q E hr h => ?_)
  · obtain ⟨p, S, t, rfl, _⟩ := h; rfl
  obtain ⟨p, S, t, rfl, hp, g, cp, ht, q⟩ := h
  refine ⟨_, (pss_cons (ps_if (pt_cmpR op_eq (pe_ix ix_tup (pv 0) pe_int (fun _ _ => rfl)) pe_str (nomark _)) (pss_one (ps_ret (pe_op op_add_str pe_str (pe_call (ok_written T) (hr.mono (by omega)) (by rfl) T.mg_written T.fn_written.kp T.bi_written .nil (passes_call (takes_of rfl rfl rfl rfl) (fun _ _ _ _ h => h)) (pa_cons (pe_ix ix_tup (pv 0) pe_int (fun _ _ => rfl)) pa_nil))))) pss_nil)
      (pss_cons (ps_asg (pv 0) (pg_tup rfl (pgs_cons (pg_name (i := 1) sc_piece_row.nd rfl (Or.inl rfl)) (pgs_cons (pg_name (i := 2) sc_piece_row.nd rfl (Or.inl rfl)) (pgs_cons (pg_name (i := 3) sc_piece_row.nd rfl (Or.inl rfl)) pgs_nil)))))
      (pss_one (ps_ret (pe_joined (PJ.cons pe_str (PJ.cons (pe_fmt (pv 2)) (PJ.cons pe_str (PJ.cons (pe_fmt (pv 3)) PJ.nil))))))))), ?_⟩
  have hline := cap_line
  cases t with
  | lf l =>
    have o := g.ok _ ht
    have i0 : atI (pvals S (.lf l)) 0 = some (.str "leaf") := rfl
    have i1 : atI (pvals S (.lf l)) 1 = some (.str (sT l)) := rfl
    walk_at "st"
    refine w_ixt (SqT.of hp) i0 ?_
    walk_at "go"
    refine w_eqS ?_
    walk_at "go"
    refine ite_d (fun _ => ?_) (fun z => absurd rfl z)
    walk_at "go"
    refine w_ixt (SqT.of hp) i1 ?_
    walk_at "go"
    refine c_written (by have := o.2.1; omega) ?_
    refine ⟨_, _, rfl, rfl, ?_, q⟩
    have := W_len l
    have := o.2.1
    have e5 : ("leaf " : Str).length = 5 := by decide +kernel
    rw [e5, sT_len]; unfold cap at hline; omega
  | fk a b =>
    obtain ⟨ha, hb⟩ := g.parts ht
    have pa := (nm_num ha).pos
    have pb := (nm_num hb).pos
    unfold cap at cp
    have l1 := num_len (n := num S a) (by omega) (by omega)
    have l2 := num_len (n := num S b) (by omega) (by omega)
    have i0 : atI (pvals S (.fk a b)) 0 = some (.str "fork") := rfl
    have e1 : ("fork " : Str).length = 5 := by decide +kernel
    have e2 : (" " : Str).length = 1 := by decide +kernel
    unfold cap at hline
    walk_at "st"
    refine w_ixt (SqT.of hp) i0 ?_
    walk_at "go"
    refine w_eqS ?_
    walk_at "go"
    refine ite_d (fun z => absurd z.symm leaf_ne_fork) (fun _ => ?_)
    walk_at "sk"
    walk_at "st"
    refine w_gtup (SqT.of hp) rfl (w_gcons (w_gname (w_gcons (w_gname (w_gcons (w_gname (w_gnil ?_)))))))
    dsimp only
    refine w_ret ?_
    refine ⟨_, rfl, by rw [empty_app, e1]; omega, ?_⟩
    rw [empty_app]
    refine ⟨_, rfl, .inr ⟨_, rfl, l1.2, _, rfl, by rw [app_len, e1]; omega, ?_⟩⟩
    refine ⟨_, rfl, by rw [app_len, app_len, e1, e2]; omega, ?_⟩
    refine ⟨_, rfl, .inr ⟨_, rfl, l2.2, _, rfl, by rw [app_len, app_len, app_len, e1, e2]; omega, q⟩⟩
end

section
variable {P : Program} {w : World} {K : PySem.W.Frag} {mg : Str → Option Value} {base : Heap} {A : Ad}
theorem sum_le {l : List Nat} {k : Nat} (h : ∀ x ∈ l, x ≤ k) : l.sum ≤ l.length * k := by
  induction l with
  | nil => simp
  | cons a b ih =>
    have := ih fun x hx => h x (List.mem_cons_of_mem _ hx)
    have := h a List.mem_cons_self
    rw [List.sum_cons, List.length_cons, Nat.add_mul, Nat.one_mul]; omega
theorem rows_fit {S : List Tr} (g : Good S) (cp : S.length ≤ 300000) : ((S.map (rowOf S)).map (·.length)).sum + (S.map (rowOf S)).length * ("\n" : Str).length ≤ 16777216 := by
  have h1 : ((S.map (rowOf S)).map (·.length)).sum ≤ ((S.map (rowOf S)).map (·.length)).length * 40 := sum_le fun x hx => by
    obtain ⟨y, hy, rfl⟩ := List.mem_map.mp hx
    obtain ⟨t, ht, rfl⟩ := List.mem_map.mp hy
    exact rowOf_len g (by unfold cap; omega) ht
  have e1 : ("\n" : Str).length = 1 := by decide +kernel
  rw [e1]
  simp only [List.length_map] at h1 ⊢
  omega
abbrev n_shelf_text : List Str := ["shelf", "number"]
theorem sc_shelf_text : FnScope n_shelf_text p_shelf_text (defScope s_shelf_text) := ⟨rfl, rfl, rfl, by decide +kernel, rfl, by decide +kernel, by decide +kernel⟩
theorem ok_shelf_text (T : Txt K mg A) : FnOk P w K mg base (L2.CX P w) 3 A.f_shelf_text A.d_shelf_text p_shelf_text (spShTxt A.C_Shelf) := by
  refine T.fn_shelf_text.okX sc_shelf_text (fun vs H Q E h => ?_) (fun cdv B outer s H vs Q E hr h => ?_)
  · obtain ⟨c, S, rfl, _⟩ := h; rfl
  obtain ⟨c, S, rfl, hS, cp, q⟩ := h
  refine ⟨_, (pss_one (ps_ret (pe_join pe_str (pe_lc (own := [("number", 1)]) (g := gName 1) (tt := tYes) rfl sc_shelf_text.nd (pi_range1 (by rfl) T.z_range (pa_cons (pe_meth0 (pv 0) T.cl_Shelf T.me_Shelf_many (ok_Shelf_many T) (hr.mono (by omega)) T.bi_Shelf_many .nil (passes_call (takes_of rfl rfl rfl rfl) (fun _ _ _ _ h => h))) pa_nil)) (blkOk_by (own := [("number", 1)]) (N := n_shelf_text) (sc := defScope s_shelf_text) (by decide +kernel)) (fun _ _ _ _ _ => (pg_name (i := 1) sc_shelf_text.nd rfl (Or.inl rfl))) (fun _ _ _ _ _ => pts_nil) (fun _ _ _ _ _ => (pe_call (ok_piece_row T) (hr.mono (by omega)) (by rfl) T.mg_piece_row T.fn_piece_row.kp T.bi_piece_row .nil passL (pa_cons (pe_meth (pv 0) T.cl_Shelf T.me_Shelf_piece (ok_Shelf_piece T) (hr.mono (by omega)) T.bi_Shelf_piece .nil passL (pa_cons (pe_op op_add (pv 1) pe_int) pa_nil)) pa_nil))))))), ?_⟩
  refine w_ret ⟨⟨_, rfl⟩, ?_⟩
  walk_at "go"
  refine ⟨c.a, c.dx, _, rfl, hS.ob, fl_no (by decide +kernel), ?_⟩
  walk_at "go"
  refine c_many hS ?_
  refine ⟨_, rfl, by omega, by omega, fun D hD => ?_⟩
  have nS : ((S.length : Int)).toNat = S.length := by omega
  refine lc_it walk_range (fun i H' => Same H H' ∧ H' D = some (.lst (((S.take i).map (rowOf S)).map V.str))) ⟨fun b o e => by rw [upd_ne (ne_of_none e hD)]; exact e, upd_same⟩ (fun _ _ _ _ => trivial) ?_ ?_
  · rintro i x H1 H2 hi ⟨s1, hD1⟩ ⟨rfl, rfl⟩
    rw [nS] at hi
    have hS1 := hS.same s1
    have et := List.getElem?_eq_getElem hi
    have nm : Nm S (0 + (i : Int) + 1) S[i] := ⟨i, et, by omega⟩
    refine w_gname ⟨rfl, w_yes (iteT ?_)⟩
    walk_at "go"
    refine ⟨c.a, c.dx, _, rfl, hS1.ob, fl_no (by decide +kernel), ?_⟩
    walk_at "go"
    refine c_piece hS1 nm fun r hr1 => ?_
    walk_at "go"
    refine ⟨r, S, S[i], rfl, hr1, hS.gd, by unfold cap; omega, List.getElem_mem hi, ?_⟩
    refine ⟨_, hD1, ?_, fun b o e => ?_, ?_⟩
    · have := cap_line; unfold cap at this; simp; omega
    · rw [upd_ne (ne_of_none e hD)]; exact s1 b o e
    · rw [upd_same, take_snoc et, List.map_append, List.map_append]; rfl
  · rintro H1 ⟨s1, hD1⟩
    rw [nS, List.take_length] at hD1
    exact ⟨_, D, S.map (rowOf S), rfl, rfl, .inl (SqL.of hD1), rows_fit hS.gd cp, q H1 s1⟩
end

/-! ### the law's own -/
def spDrawn (K : PySem.W.Frag) (C : Addr) : Sp := fun vs H Q _ => ∃ (a : Addr) (ns : List Int), vs = [.ref a] ∧ SqL K H a (ns.map V.int) ∧ ns.length ≤ 63 ∧ ∀ (c : Cells) (S : List Tr) (H' : Hp), ShAt C c H' S → S.length ≤ 1000 → Same H H' → Q (.ref c.a) H'
def spLaw (K : PySem.W.Frag) : Sp := fun vs H Q _ => ∃ (a : Addr) (ns : List Int), vs = [.ref a] ∧ SqL K H a (ns.map V.int) ∧ ns.length ≤ 63 ∧ ∀ H', Q (.bl true) H'
theorem Same.keepL' {l : List Addr} {H H1 H2 : Hp} (s : Same H H1) (k : KeepL l H1 H2) (h : ∀ b ∈ l, H b = none) : Same H H2 := fun b o e => k b o (fun z => by rw [h b z] at e; cases e) (s b o e)
section
variable {P : Program} {w : World} {K : PySem.W.Frag} {mg : Str → Option Value} {base : Heap} {A : Ad}
abbrev n__law_drawn_shelf : List Str := ["script", "shelf", "row", "k"]
theorem sc__law_drawn_shelf : FnScope n__law_drawn_shelf p__law_drawn_shelf (defScope s__law_drawn_shelf) := ⟨rfl, rfl, rfl, by decide +kernel, rfl, by decide +kernel, by decide +kernel⟩
theorem ok__law_drawn_shelf (T : Txt K mg A) : FnOk P w K mg base (L2.CX P w) 16 A.f__law_drawn_shelf A.d__law_drawn_shelf p__law_drawn_shelf (spDrawn K A.C_Shelf) := by
  refine T.fn__law_drawn_shelf.okX sc__law_drawn_shelf (fun vs H Q E h => ?_) (fun cdv B outer s H vs Q E hr h => ?_)
  · obtain ⟨a, ns, rfl, _⟩ := h; rfl
  obtain ⟨a, ns, rfl, hs, hl, q⟩ := h
  refine ⟨_, (pss_cons (ps_set (i := 1) sc__law_drawn_shelf.nd rfl (Or.inl rfl) (pe_make0 T.mk_Shelf (ok_Shelf___init__ T) (hr.mono (by omega)) rfl T.mg_Shelf T.bi_Shelf___init__ .nil (passes_call (takes_of rfl rfl rfl rfl) (fun _ _ _ _ h => h))))
      (pss_cons (ps_set (i := 2) sc__law_drawn_shelf.nd rfl (Or.inl rfl) (pe_call (ok__law_stream T) (hr.mono (by omega)) (by rfl) T.mg__law_stream T.fn__law_stream.kp T.bi__law_stream .nil (passes_call (takes_of rfl rfl rfl rfl) (fun _ _ _ _ h => h)) (pa_cons (pv 0) (pa_cons pe_int pa_nil))))
      (pss_cons (ps_for (passes_of rfl) rfl (pi_range1 (by rfl) T.z_range (pa_cons (pe_call (ok__law_digit T) (hr.mono (by omega)) (by rfl) T.mg__law_digit T.fn__law_digit.kp T.bi__law_digit .nil (passes_call (takes_of rfl rfl rfl rfl) (fun _ _ _ _ h => h)) (pa_cons (pv 2) (pa_cons pe_int pa_nil))) pa_nil)) (pg_name (i := 3) sc__law_drawn_shelf.nd rfl (Or.inl rfl))
      (pss_one (ps_expr (pe_call (ok__law_text T) (hr.mono (by omega)) (by rfl) T.mg__law_text T.fn__law_text.kp T.bi__law_text .nil (passes_call (takes_of rfl rfl rfl rfl) (fun _ _ _ _ h => h)) (pa_cons (pv 1) (pa_cons (pv 2) (pa_cons pe_int pa_nil)))))))
      (pss_cons (ps_if (pt_cmpR op_eq (pe_call (ok__law_digit T) (hr.mono (by omega)) (by rfl) T.mg__law_digit T.fn__law_digit.kp T.bi__law_digit .nil (passes_call (takes_of rfl rfl rfl rfl) (fun _ _ _ _ h => h)) (pa_cons (pv 2) (pa_cons pe_int pa_nil))) pe_int (nomark _)) (pss_one (ps_expr (pe_call (ok__law_long T) (hr.mono (by omega)) (by rfl) T.mg__law_long T.fn__law_long.kp T.bi__law_long .nil (passes_call (takes_of rfl rfl rfl rfl) (fun _ _ _ _ h => h)) (pa_cons (pv 1) (pa_cons (pe_call (ok__law_stream T) (hr.mono (by omega)) (by rfl) T.mg__law_stream T.fn__law_stream.kp T.bi__law_stream .nil (passes_call (takes_of rfl rfl rfl rfl) (fun _ _ _ _ h => h)) (pa_cons (pv 0) (pa_cons pe_int pa_nil))) pa_nil))))) pss_nil)
      (pss_one (ps_ret (pv 1))))))), ?_⟩
  walk_at "st"
  refine c_new fun c H1 hS1 s1 f1 => ?_
  walk_at "nx"
  walk_at "st"
  refine ⟨a, ns, 0, rfl, s1.seq hs, hl, by decide, by decide, fun H2 r n s2 nr hr2 n0 => ?_⟩
  walk_at "nx"
  have hS2 := hS1.same s2
  have hrc : r ∉ c.all := hS1.apart nr
  have nrH : H r = none := s1.free nr
  have all0 : ∀ b ∈ r :: c.all, H b = none := fun b hb => by
    rcases List.mem_cons.mp hb with e | e
    · rw [e]; exact nrH
    · exact f1 b e
  have s12 := s1.trans s2
  have G2 := Grown.refl hS2 hr2 n0
  walk_at "st"
  refine c_digit hr2 n0 (by decide) (by decide) fun d n3 d0 d1 n30 => ?_
  have G3 := G2.digit hrc n30
  walk_at "go"
  refine ⟨_, rfl, by omega, by omega, ?_⟩
  have hcap : (cap : Nat) = 16000000 := rfl
  refine for_it walk_range (fun i σ H' => ∃ (S' : List Tr) (n' : Int) (k : Option V), σ = [some (.ref a), some (.ref c.a), some (.ref r), k] ∧ Grown A.C_Shelf c r H2 H' [] S' n' (32 * i)) ⟨[], n3, none, rfl, G3⟩ (fun _ _ _ _ _ => trivial) ?_ ?_
  · rintro i z σ H4 H5 hi ⟨S4, n4, k, rfl, G4⟩ ⟨rfl, rfl⟩
    have hi : i < d.toNat := hi
    have l4 := G4.len
    simp only [List.length_nil] at l4
    refine w_gname ?_
    walk_at "go"
    refine ⟨c, S4, r, n4, 4, rfl, G4.sh, hrc, G4.ro, G4.pos, by decide, by omega, fun H6 S6 n6 y o p G6 _ _ _ _ => ?_⟩
    exact ⟨S6, n6, _, rfl, G4.trans G6⟩
  rintro σ H4 ⟨S4, n4, k, rfl, G4⟩
  have l4 := G4.len
  simp only [List.length_nil] at l4
  dsimp only
  walk_at "st"
  refine c_digit G4.ro G4.pos (by decide) (by decide) fun d5 n5 d50 d51 n50 => ?_
  have G5 := G4.digit hrc n50
  have s5 : Same H _ := Same.keepL' s12 G5.kp all0
  walk_at "go"
  refine ite_d (fun _ => ?_) (fun _ => ?_)
  · walk_at "go"
    refine ⟨a, ns, 1, rfl, s5.seq hs, hl, by decide, by decide, fun H6 r6 m6 s6 nr6 hr6 m60 => ?_⟩
    have hS6 := G5.sh.same s6
    have hrc6 : r6 ∉ c.all := G5.sh.apart nr6
    walk_at "go"
    refine ⟨c, S4, r6, m6, rfl, hS6, hrc6, hr6, m60, by omega, fun H7 S7 n7 y t k' p G7 _ _ _ _ _ _ => ?_⟩
    dsimp only
    have l7 := G7.len
    walk_at "go"
    refine q c S7 H7 G7.sh (by omega) (Same.keepL' (s5.trans s6) G7.kp fun b hb => ?_)
    rcases List.mem_cons.mp hb with e | e
    · rw [e]; exact s5.free nr6
    · exact f1 b e
  · walk_at "sk"
    walk_at "go"
    exact q c S4 _ G5.sh (by omega) s5
abbrev n__law_written : List Str := ["plain", "found", "sign"]
theorem sc__law_written : FnScope n__law_written p__law_written (defScope s__law_written) := ⟨rfl, rfl, rfl, by decide +kernel, rfl, by decide +kernel, by decide +kernel⟩
theorem ok__law_written (T : Txt K mg A) : FnOk P w K mg base (L2.CX P w) 1 A.f__law_written A.d__law_written p__law_written (fun vs H Q _ => ∃ l : List Nat, vs = [.str (sT l)] ∧ l.length ≤ 1000000 ∧ ∀ H', Same H H' → Q (.str (sT (W l))) H') := by
  refine T.fn__law_written.okX sc__law_written (fun vs H Q E h => ?_) (fun cdv B outer s H vs Q E hr h => ?_)
  · obtain ⟨l, rfl, _⟩ := h; rfl
  obtain ⟨l, rfl, hl, q⟩ := h
  have hu := hu_of hr
  refine ⟨_, (pss_cons (ps_set (i := 1) sc__law_written.nd rfl (Or.inl rfl) pe_str)
      (pss_cons (ps_for (passes_of rfl) rfl (pi_str (pv 0)) (pg_name (i := 2) sc__law_written.nd rfl (Or.inl rfl))
      (pss_one (ps_set (i := 1) sc__law_written.nd rfl (Or.inl rfl) (pe_op op_add_str (pv 1) (pe_dget2 hu (pe_disp (pps_cons pe_str pe_str (pps_cons pe_str pe_str pps_nil)) (by rfl) (by rfl) (fun z => by cases z) (by decide)) (pv 2) (pv 2) ⟨rfl, rfl, rfl, rfl⟩)))))
      (pss_one (ps_ret (pv 1))))), ?_⟩
  walk_at "st"
  walk_at "nx"
  walk_at "st"
  refine ⟨_, rfl, ?_⟩
  refine for_it walk_str (fun i σ H' => ∃ x : Option V, σ = [some (.str (sT l)), some (.str (sT (W (l.take i)))), x] ∧ Same H H') ⟨none, by rw [sT_nil]; rfl, Same.refl H⟩ (fun _ _ _ _ _ => trivial) ?_ ?_
  · rintro i z σ H1 H2 hi ⟨x, rfl, s1⟩ ⟨rfl, c, hc, rfl⟩
    have hc : l[i]? = some c := by simpa using hc
    have hil : i < l.length := by simpa using hi
    refine w_gname ?_
    walk_at "go"
    refine fun p np => ⟨upd_same, [(Sum.inr "\n", .str "\\n"), (Sum.inr "\\", .str "\\\\")], rfl, by decide, ?_⟩
    rw [upd_upd]
    obtain ⟨H3, e3, s3, hp3⟩ := new_of (o := .dK (mergeK [] [((Sum.inr "\n" : Key), V.str "\\n"), (Sum.inr "\\", .str "\\\\")])) np
    rw [e3]
    refine ⟨p, rfl, .inl ⟨_, .inl hp3⟩, _, rfl, _, rfl, _, DGet.k (k := Sum.inr ⟨#[c]⟩) hp3, ?_⟩
    have ev : ((valV (mergeK [] [((Sum.inr "\n" : Key), V.str "\\n"), (Sum.inr "\\", .str "\\\\")]) (Sum.inr ⟨#[c]⟩)).getD (.str ⟨#[c]⟩)) = .str (sT (wr c)) := by
      show ((valV (putK (putK [] (Sum.inr "\n" : Key) (V.str "\\n")) (Sum.inr "\\") (V.str "\\\\")) (Sum.inr ⟨#[c]⟩)).getD (.str ⟨#[c]⟩)) = _
      rw [valV_put, valV_put]
      have inj : ∀ d : Nat, ((Sum.inr (⟨#[c]⟩ : Str) : Key) = Sum.inr (sT [d])) ↔ c = d := fun d => ⟨fun z => one_sT.mp (Sum.inr.inj z), fun z => by rw [z]⟩
      rw [sT_bs, sT_lf, sT_bb, sT_bn]
      by_cases h1 : c = 92
      · rw [if_pos ((inj 92).mpr h1), h1]; rfl
      · rw [if_neg (fun z => h1 ((inj 92).mp z))]
        by_cases h2 : c = 10
        · rw [if_pos ((inj 10).mpr h2), h2]; rfl
        · rw [if_neg (fun z => h2 ((inj 10).mp z))]
          unfold wr
          rw [if_neg h2, if_neg h1]; rfl
    rw [ev]
    refine ⟨_, _, rfl, rfl, ?_, w_gname ?_⟩
    · have w1 := W_len (l.take i)
      have w2 := wr_len c
      have := cap_line; unfold cap at this
      rw [sT_len, sT_len]
      have : (l.take i).length ≤ l.length := by rw [List.length_take]; omega
      omega
    · refine ⟨some (.str ⟨#[c]⟩), ?_, s1.trans s3⟩
      rw [sT_app, take_snoc hc]
      unfold W
      rw [List.flatMap_append, List.flatMap_cons, List.flatMap_nil, List.append_nil]; rfl
  · rintro σ H1 ⟨x, rfl, s1⟩
    dsimp only
    walk_at "go"
    have : l.take (sT l).cps.size = l := List.take_of_length_le (by simp)
    rw [this]
    exact q H1 s1
abbrev n__law_shelf_text : List Str := ["shelf", "rows", "number", "piece"]
theorem sc__law_shelf_text : FnScope n__law_shelf_text p__law_shelf_text (defScope s__law_shelf_text) := ⟨rfl, rfl, rfl, by decide +kernel, rfl, by decide +kernel, by decide +kernel⟩
theorem ok__law_shelf_text (T : Txt K mg A) : FnOk P w K mg base (L2.CX P w) 3 A.f__law_shelf_text A.d__law_shelf_text p__law_shelf_text (spShTxt A.C_Shelf) := by
  refine T.fn__law_shelf_text.okX sc__law_shelf_text (fun vs H Q E h => ?_) (fun cdv B outer s H vs Q E hr h => ?_)
  · obtain ⟨c, S, rfl, _⟩ := h; rfl
  obtain ⟨c, S, rfl, hS, cp, q⟩ := h
  refine ⟨_, (pss_cons (ps_set (i := 1) sc__law_shelf_text.nd rfl (Or.inl rfl) (pe_lst pa_nil))
      (pss_cons (ps_for (passes_of rfl) rfl (pi_range2 (by rfl) T.z_range (pa_cons pe_int (pa_cons (pe_op op_add (pe_meth0 (pv 0) T.cl_Shelf T.me_Shelf_many (ok_Shelf_many T) (hr.mono (by omega)) T.bi_Shelf_many .nil (passes_call (takes_of rfl rfl rfl rfl) (fun _ _ _ _ h => h))) pe_int) pa_nil))) (pg_name (i := 2) sc__law_shelf_text.nd rfl (Or.inl rfl))
      (pss_cons (ps_set (i := 3) sc__law_shelf_text.nd rfl (Or.inl rfl) (pe_meth (pv 0) T.cl_Shelf T.me_Shelf_piece (ok_Shelf_piece T) (hr.mono (by omega)) T.bi_Shelf_piece .nil (passes_call (takes_of rfl rfl rfl rfl) (fun _ _ _ _ h => h)) (pa_cons (pv 2) pa_nil)))
      (pss_one (ps_if (pt_cmpR op_eq (pe_ix ix_tup (pv 3) pe_int (fun _ _ => rfl)) pe_str (nomark _)) (pss_one (ps_expr (pe_bm PySem.F.plainAttrs_list PySem.F.slot_list_append PySem.F.type_list_append mt_append (pv 1) (pa_cons (pe_op op_add_str pe_str (pe_call (ok__law_written T) (hr.mono (by omega)) (by rfl) T.mg__law_written T.fn__law_written.kp T.bi__law_written .nil (passes_call (takes_of rfl rfl rfl rfl) (fun _ _ _ _ h => h)) (pa_cons (pe_ix ix_tup (pv 3) pe_int (fun _ _ => rfl)) pa_nil))) pa_nil)))) (pss_one (ps_expr (pe_bm PySem.F.plainAttrs_list PySem.F.slot_list_append PySem.F.type_list_append mt_append (pv 1) (pa_cons (pe_op op_add_str (pe_op op_add_str (pe_op op_add_str pe_str (pe_callTy call_str_int (by rfl) T.z_str bt_str (pa_cons (pe_ix ix_tup (pv 3) pe_int (fun _ _ => rfl)) pa_nil))) pe_str) (pe_callTy call_str_int (by rfl) T.z_str bt_str (pa_cons (pe_ix ix_tup (pv 3) pe_int (fun _ _ => rfl)) pa_nil))) pa_nil))))))))
      (pss_one (ps_ret (pe_join pe_str (pv 1)))))), ?_⟩
  walk_at "st"
  refine w_mkl (line_of (n := 0) rfl (by decide)) fun D H0 nD s0 hD0 => ?_
  walk_at "nx"
  have hS0 := hS.same s0
  walk_at "st"
  refine ⟨c.a, c.dx, _, rfl, hS0.ob, fl_no (by decide +kernel), ?_⟩
  walk_at "go"
  refine c_many hS0 ?_
  walk_at "go"
  refine ⟨_, _, rfl, ⟨by decide, by decide, by omega, by omega⟩, ?_⟩
  have nS : ((S.length : Int) + 1 - 1).toNat = S.length := by omega
  refine for_it walk_range (fun i σ H' => ∃ x y : Option V, σ = [some (.ref c.a), some (.ref D), x, y] ∧ Same H H' ∧ H' D = some (.lst (((S.take i).map (rowOf S)).map V.str))) ⟨none, none, rfl, s0, hD0⟩ (fun _ _ _ _ _ => trivial) ?_ ?_
  · rintro i z σ H1 H2 hi ⟨x, y, rfl, s1, hD1⟩ ⟨rfl, rfl⟩
    rw [nS] at hi
    have hS1 := hS.same s1
    have et := List.getElem?_eq_getElem hi
    have nm : Nm S (1 + (i : Int)) S[i] := ⟨i, et, by omega⟩
    have hcl := cap_line
    have fin : ∀ (H3 : Hp) (σ' : L2.St) (x' y' : Option V), Same H2 H3 → σ' = [some (.ref c.a), some (.ref D), x', y'] → ∃ xs, H3 D = some (.lst xs) ∧ xs.length < sizeLine ∧ ∃ x y : Option V, σ' = [some (.ref c.a), some (.ref D), x, y] ∧ Same H (upd H3 D (.lst (xs ++ [V.str (rowOf S S[i])]))) ∧ (upd H3 D (.lst (xs ++ [V.str (rowOf S S[i])]))) D = some (.lst (((S.take (i + 1)).map (rowOf S)).map V.str)) := fun H3 σ' x' y' s3 eσ => by
      refine ⟨_, s3 _ _ hD1, ?_, x', y', eσ, fun b o e => ?_, ?_⟩
      · unfold cap at hcl; simp; omega
      · rw [upd_ne (ne_of_none e nD)]; exact s3 _ _ (s1 b o e)
      · rw [upd_same, take_snoc et, List.map_append, List.map_append]; rfl
    refine w_gname ?_
    walk_at "st"
    refine ⟨c.a, c.dx, _, rfl, hS1.ob, fl_no (by decide +kernel), ?_⟩
    walk_at "go"
    refine c_piece hS1 nm fun r hr1 => ?_
    walk_at "nx"
    walk_at "go"
    cases ht : S[i] with
    | lf l =>
      rw [ht] at hr1 nm fin
      have o : Ok (.lf l) := hS.gd.ok _ nm.mem
      have i0 : atI (pvals S (.lf l)) 0 = some (.str "leaf") := rfl
      have i1 : atI (pvals S (.lf l)) 1 = some (.str (sT l)) := rfl
      refine w_ixt (SqT.of hr1) i0 ?_
      walk_at "go"
      refine w_eqS ?_
      walk_at "go"
      refine ite_d (fun _ => ?_) (fun z => absurd rfl z)
      walk_at "go"
      refine ⟨.inl ⟨rfl, _, SqL.of hD1⟩, ?_⟩
      walk_at "go"
      refine w_ixt (SqT.of hr1) i1 ?_
      walk_at "go"
      refine ⟨l, rfl, by have := o.2.1; omega, fun H3 s3 => ?_⟩
      have wl := W_len l
      have ol := o.2.1
      have e5 : ("leaf " : Str).length = 5 := by decide +kernel
      refine ⟨_, _, rfl, rfl, by rw [e5, sT_len]; unfold cap at hcl; omega, ?_⟩
      obtain ⟨xs, f1, f2, f3⟩ := fin H3 _ _ _ s3 rfl
      exact ⟨D, xs, _, rfl, rfl, f1, f2, f3⟩
    | fk a b =>
      rw [ht] at hr1 nm fin
      obtain ⟨ha, hb⟩ := hS.gd.parts nm.mem
      have pa := (nm_num ha).pos
      have pb := (nm_num hb).pos
      have l1 := num_len (n := num S a) (by omega) (by omega)
      have l2 := num_len (n := num S b) (by omega) (by omega)
      have i0 : atI (pvals S (.fk a b)) 0 = some (.str "fork") := rfl
      have i1 : atI (pvals S (.fk a b)) 1 = some (.int (num S a)) := rfl
      have i2 : atI (pvals S (.fk a b)) 2 = some (.int (num S b)) := rfl
      have e1 : ("fork " : Str).length = 5 := by decide +kernel
      have e2 : (" " : Str).length = 1 := by decide +kernel
      unfold cap at hcl
      refine w_ixt (SqT.of hr1) i0 ?_
      walk_at "go"
      refine w_eqS ?_
      walk_at "go"
      refine ite_d (fun z => absurd z.symm leaf_ne_fork) (fun _ => ?_)
      walk_at "go"
      refine ⟨.inl ⟨rfl, _, SqL.of hD1⟩, ?_⟩
      walk_at "go"
      refine w_ixt (SqT.of hr1) i1 ?_
      walk_at "go"
      refine ⟨_, rfl, l1.2, ?_⟩
      refine ⟨_, _, rfl, rfl, by rw [e1]; omega, ?_⟩
      walk_at "go"
      refine ⟨_, _, rfl, rfl, by rw [app_len, e1, e2]; omega, ?_⟩
      walk_at "go"
      refine w_ixt (SqT.of hr1) i2 ?_
      walk_at "go"
      refine ⟨_, rfl, l2.2, ?_⟩
      refine ⟨_, _, rfl, rfl, by rw [app_len, app_len, e1, e2]; omega, ?_⟩
      obtain ⟨xs, f1, f2, f3⟩ := fin H2 _ _ _ (Same.refl _) rfl
      exact ⟨D, xs, _, rfl, rfl, f1, f2, f3⟩
  · rintro σ H1 ⟨x, y, rfl, s1, hD1⟩
    rw [nS, List.take_length] at hD1
    dsimp only
    refine w_ret ⟨⟨_, rfl⟩, ?_⟩
    walk_at "go"
    exact ⟨_, D, S.map (rowOf S), rfl, rfl, .inl (SqL.of hD1), rows_fit hS.gd cp, q H1 s1⟩
abbrev n_law : List Str := ["script", "shelf", "many", "turn", "found", "row", "plain"]
theorem sc_law : FnScope n_law p_law (defScope s_law) := ⟨rfl, rfl, rfl, by decide +kernel, rfl, by decide +kernel, by decide +kernel⟩
theorem shelfTxt_nil : shelfTxt [] = "" := by decide +kernel
theorem ok_law (T : Txt K mg A) : FnOk P w K mg base (L2.CX P w) 17 A.f_law A.d_law p_law (spLaw K) := by
  refine T.fn_law.okX sc_law (fun vs H Q E h => ?_) (fun cdv B outer s H vs Q E hr h => ?_)
  · obtain ⟨a, ns, rfl, _⟩ := h; rfl
  obtain ⟨a, ns, rfl, hs, hl, q⟩ := h
  refine ⟨_, (pss_cons (ps_if (pt_cmpR op_ne (pe_call (ok_shelf_text T) (hr.mono (by omega)) (by rfl) T.mg_shelf_text T.fn_shelf_text.kp T.bi_shelf_text .nil (passes_call (takes_of rfl rfl rfl rfl) (fun _ _ _ _ h => h)) (pa_cons (pe_make0 T.mk_Shelf (ok_Shelf___init__ T) (hr.mono (by omega)) rfl T.mg_Shelf T.bi_Shelf___init__ .nil (passes_call (takes_of rfl rfl rfl rfl) (fun _ _ _ _ h => h))) pa_nil)) pe_str (nomark _)) (pss_one (ps_ret pe_bl)) pss_nil)
      (pss_cons (ps_set (i := 1) sc_law.nd rfl (Or.inl rfl) (pe_call (ok__law_drawn_shelf T) (hr.mono (by omega)) (by rfl) T.mg__law_drawn_shelf T.fn__law_drawn_shelf.kp T.bi__law_drawn_shelf .nil (passes_call (takes_of rfl rfl rfl rfl) (fun _ _ _ _ h => h)) (pa_cons (pv 0) pa_nil)))
      (pss_cons (ps_set (i := 2) sc_law.nd rfl (Or.inl rfl) (pe_meth0 (pv 1) T.cl_Shelf T.me_Shelf_many (ok_Shelf_many T) (hr.mono (by omega)) T.bi_Shelf_many .nil (passes_call (takes_of rfl rfl rfl rfl) (fun _ _ _ _ h => h))))
      (pss_cons (ps_for (passes_of rfl) rfl (pi_range1 (by rfl) T.z_range (pa_cons pe_int pa_nil)) (pg_name (i := 3) sc_law.nd rfl (Or.inl rfl))
      (pss_cons (ps_set (i := 4) sc_law.nd rfl (Or.inl rfl) (pe_call (ok_shelf_text T) (hr.mono (by omega)) (by rfl) T.mg_shelf_text T.fn_shelf_text.kp T.bi_shelf_text .nil (passes_call (takes_of rfl rfl rfl rfl) (fun _ _ _ _ h => h)) (pa_cons (pv 1) pa_nil)))
      (pss_one (ps_if (PW.pt (pw_or (pt_not (pt_val (pe_callB call_isi (by rfl) T.z_isinstance bt_isinstance (pa_cons (pv 4) (pa_cons (pe_bltn (v := .ty "str") (u := .type "str") (by rfl) T.z_str bt_str rfl) pa_nil))))) (pw_or (pt_cmpR op_ne (pv 4) (pe_call (ok__law_shelf_text T) (hr.mono (by omega)) (by rfl) T.mg__law_shelf_text T.fn__law_shelf_text.kp T.bi__law_shelf_text .nil (passes_call (takes_of rfl rfl rfl rfl) (fun _ _ _ _ h => h)) (pa_cons (pv 1) pa_nil)) (nomark _)) (pw_or1 (pt_cmpR op_ne (pe_meth0 (pv 1) T.cl_Shelf T.me_Shelf_many (ok_Shelf_many T) (hr.mono (by omega)) T.bi_Shelf_many .nil (passes_call (takes_of rfl rfl rfl rfl) (fun _ _ _ _ h => h))) (pv 2) (nomark _)))))) (pss_one (ps_ret pe_bl)) pss_nil))))
      (pss_cons (ps_set (i := 5) sc_law.nd rfl (Or.inl rfl) (pe_call (ok__law_stream T) (hr.mono (by omega)) (by rfl) T.mg__law_stream T.fn__law_stream.kp T.bi__law_stream .nil (passes_call (takes_of rfl rfl rfl rfl) (fun _ _ _ _ h => h)) (pa_cons (pv 0) (pa_cons pe_int pa_nil))))
      (pss_cons (ps_for (passes_of rfl) rfl (pi_list (pe_slice sl_list (pe_lst (pa_cons pe_str (pa_cons pe_str (pa_cons pe_str (pa_cons pe_str (pa_cons pe_str (pa_cons pe_str (pa_cons pe_str pa_nil)))))))) po_none (po_some (pe_call (ok__law_digit T) (hr.mono (by omega)) (by rfl) T.mg__law_digit T.fn__law_digit.kp T.bi__law_digit .nil (passes_call (takes_of rfl rfl rfl rfl) (fun _ _ _ _ h => h)) (pa_cons (pv 5) (pa_cons pe_int pa_nil)))))) (pg_name (i := 6) sc_law.nd rfl (Or.inl rfl))
      (pss_one (ps_expr (pe_meth (pv 1) T.cl_Shelf T.me_Shelf_leaf (ok_Shelf_leaf T) (hr.mono (by omega)) T.bi_Shelf_leaf .nil (passes_call (takes_of rfl rfl rfl rfl) (fun _ _ _ _ h => h)) (pa_cons (pv 6) pa_nil)))))
      (pss_cons (ps_expr (pe_call (ok__law_text T) (hr.mono (by omega)) (by rfl) T.mg__law_text T.fn__law_text.kp T.bi__law_text .nil (passes_call (takes_of rfl rfl rfl rfl) (fun _ _ _ _ h => h)) (pa_cons (pv 1) (pa_cons (pv 5) (pa_cons pe_int pa_nil)))))
      (pss_one (ps_ret (pe_cmpR op_eq (pe_call (ok_shelf_text T) (hr.mono (by omega)) (by rfl) T.mg_shelf_text T.fn_shelf_text.kp T.bi_shelf_text .nil (passes_call (takes_of rfl rfl rfl rfl) (fun _ _ _ _ h => h)) (pa_cons (pv 1) pa_nil)) (pe_call (ok__law_shelf_text T) (hr.mono (by omega)) (by rfl) T.mg__law_shelf_text T.fn__law_shelf_text.kp T.bi__law_shelf_text .nil (passes_call (takes_of rfl rfl rfl rfl) (fun _ _ _ _ h => h)) (pa_cons (pv 1) pa_nil)) (nomark _))))))))))), ?_⟩
  walk_at "st"
  refine c_new fun c0 H1 hS1 s1 f1 => ?_
  walk_at "go"
  refine c_shTxt hS1 (by simp) fun H2 s2 => ?_
  walk_at "go"
  refine w_neS ?_
  walk_at "go"
  refine ite_d (fun z => absurd shelfTxt_nil z) (fun _ => ?_)
  walk_at "sk"
  have s02 := s1.trans s2
  walk_at "st"
  refine ⟨a, ns, rfl, s02.seq hs, hl, fun c S H3 hS3 l3 s3 => ?_⟩
  walk_at "nx"
  have s03 := s02.trans s3
  walk_at "st"
  refine ⟨c.a, c.dx, _, rfl, hS3.ob, fl_no (by decide +kernel), ?_⟩
  walk_at "go"
  refine c_many hS3 ?_
  walk_at "nx"
  walk_at "st"
  refine ⟨_, rfl, by decide, by decide, ?_⟩
  refine for_it walk_range (fun i σ H' => ∃ x y : Option V, σ = [some (.ref a), some (.ref c.a), some (.int S.length), x, y, none, none] ∧ Same H3 H') ⟨none, none, rfl, Same.refl _⟩ (fun _ _ _ _ _ => trivial) ?_ ?_
  · rintro i z σ H4 H5 hi ⟨x, y, rfl, s4⟩ ⟨rfl, rfl⟩
    have hS4 := hS3.same s4
    refine w_gname ?_
    walk_at "st"
    refine c_shTxt hS4 (by omega) fun H6 s6 => ?_
    walk_at "nx"
    have hS6 := hS4.same s6
    walk_at "go"
    refine ⟨_, _, _, _, true, rfl, .ty _, .base (.str _), kit_ty (by decide +kernel), w_bl (iteF ?_)⟩
    walk_at "go"
    refine c_shTxt hS6 (by omega) fun H7 s7 => ?_
    have hS7 := hS6.same s7
    refine w_neS ?_
    walk_at "go"
    refine ite_d (fun z => absurd rfl z) (fun _ => ?_)
    walk_at "go"
    refine ⟨c.a, c.dx, _, rfl, hS7.ob, fl_no (by decide +kernel), ?_⟩
    walk_at "go"
    refine c_many hS7 ?_
    walk_at "go"
    refine ite_d (fun z => absurd rfl z) (fun _ => ?_)
    exact ⟨_, _, rfl, s4.trans (s6.trans s7)⟩
  rintro σ H4 ⟨x, y, rfl, s4⟩
  dsimp only
  have hS4 := hS3.same s4
  have s04 := s03.trans s4
  walk_at "st"
  refine ⟨a, ns, 2, rfl, s04.seq hs, hl, by decide, by decide, fun H5 r n s5 nr hr5 n0 => ?_⟩
  walk_at "nx"
  have hS5 := hS4.same s5
  have hrc : r ∉ c.all := hS4.apart nr
  walk_at "st"
  refine ⟨line_of (n := 7) rfl (by decide), fun p np => ?_⟩
  obtain ⟨H6, eH, s6, hp⟩ := new_of (o := .lst [.str "\\n", .str "\n", .str "\\", .str " \\n ", .str "\n\n", .str "  ", .str "n"]) np
  rw [eH]
  obtain ⟨L, hL, l7, all⟩ : ∃ L, H6 p = some (.lst L) ∧ L.length = 7 ∧ ∀ v ∈ L, ∃ x : Str, v = V.str x ∧ (1 ≤ x.cps.toList.length ∧ x.cps.toList.length ≤ 8 ∧ Plain x.cps.toList) := ⟨_, hp, rfl, fun v hv => by
    simp only [List.mem_cons, List.not_mem_nil, or_false] at hv
    rcases hv with e | e | e | e | e | e | e
    all_goals exact ⟨_, e, by decide +kernel⟩⟩
  have G6 := (Grown.refl hS5 hr5 n0).same s6
  walk_at "go"
  refine c_digit G6.ro G6.pos (by decide) (by decide) fun d n7 d0 d1 n70 => ?_
  have G7 := G6.digit hrc n70
  have hpr : p ≠ r := (ne_of_none hr5 np).symm
  refine ⟨_, rfl, p, L, rfl, SqL.of (by rw [upd_ne hpr]; exact hL), fun D nD => ?_⟩
  have G8 := G7.same (H2 := upd _ D (.lst (cutV L none (some d)))) fun b o e => by rw [upd_ne (ne_of_none e nD)]; exact e
  have Dr : D ≠ r := (ne_of_none G7.ro nD).symm
  have Dc : D ∉ c.all := G7.sh.apart nD
  refine ⟨D, rfl, ⟨_, SqL.of upd_same⟩, ?_⟩
  have cin : ∀ v ∈ cutV L none (some d), v ∈ L := fun v hv => List.mem_of_mem_drop (List.mem_of_mem_take hv)
  have clen := cutV_length L none (some d)
  generalize cutV L none (some d) = M at G8 cin clen ⊢
  refine for_it walk_list (fun i σ H' => ∃ (S' : List Tr) (x y z : Option V), σ = [some (.ref a), some (.ref c.a), some (.int S.length), x, y, some (.ref r), z] ∧ Grown A.C_Shelf c r H5 H' S S' n7 i ∧ H' D = some (.lst M)) ⟨S, _, _, _, rfl, G8, upd_same⟩ (fun _ _ _ _ ⟨_, _, _, _, _, _, z⟩ => SqL.of z) ?_ ?_
  · rintro i z σ H9 H10 hi ⟨S9, x9, y9, z9, rfl, G9, hD9⟩ ⟨rfl, hz⟩
    obtain ⟨v, rfl, ok⟩ := all z (cin z (List.mem_of_getElem? hz))
    have l9 := G9.len
    refine w_gname ?_
    walk_at "go"
    refine ⟨c.a, c.dx, _, rfl, G9.sh.ob, fl_no (by decide +kernel), ?_⟩
    walk_at "go"
    rw [sT_of v]
    refine c_leaf G9.sh ok (by unfold cap; omega) fun H11 hS11 k11 => ?_
    exact ⟨_, _, _, _, rfl, G9.put hrc hS11 k11, k11 _ _ Dc hD9⟩
  rintro σ H9 ⟨S9, x9, y9, z9, rfl, G9, hD9⟩
  have l9 := G9.len
  dsimp only
  walk_at "st"
  refine ⟨c, S9, r, n7, 3, rfl, G9.sh, hrc, G9.ro, G9.pos, by decide, by show S9.length + 16 ≤ cap; unfold cap; omega, fun H12 S12 n12 y12 o12 p12 G12 _ _ _ _ => ?_⟩
  have l12 : S12.length ≤ S9.length + 16 := G12.len
  dsimp only
  walk_at "go"
  refine c_shTxt G12.sh (by omega) fun H13 s13 => ?_
  have hS13 := G12.sh.same s13
  walk_at "go"
  refine c_shTxt hS13 (by omega) fun H14 s14 => ?_
  refine w_eqS ?_
  rw [decide_eq_true rfl]
  exact q H14
end

theorem all_mk {l : PySem.W.OpenLaw} {w : World} {K : PySem.W.Frag} {h : Heap} {mg : Str → Option Value} {fa : Addr} (X : K.In h) (G : h.Ns mainGlobals mg) (hfa : mg "law" = some (.ref fa))
    (kl_MOST_SIGNS : KInt mg "MOST_SIGNS" 1000000000000000000)
    {C_Shelf C_Loose C_NoPiece C_NoText C_TooLong C_Unlevel f_is_plain f_ends_in f_Shelf___init__ f_Shelf_want f_Shelf_want_piece f_Shelf_many f_Shelf_piece f_Shelf_signs f_Shelf_ends f_Shelf_leaves f_Shelf_height f_Shelf_laid f_Shelf_leaf f_Shelf_fork f_Shelf_is_loose f_written f_piece_row f_shelf_text f__law_mixed f__law_stream f__law_digit f__law_letters f__law_tree f__law_text f__law_long f__law_drawn_shelf f__law_written f__law_shelf_text f_law : Addr}
    {od_is_plain : Option Addr}
    {an_is_plain : Option Addr}
    {sl_is_plain : Array (Option Value)}
    {oc_is_plain : Value}
    {kV_is_plain : Value}
    {dc_is_plain : Value}
    {pm_is_plain : Value}
    {cd_is_plain : Value}
    {ct_is_plain : Value}
    {od_ends_in : Option Addr}
    {an_ends_in : Option Addr}
    {sl_ends_in : Array (Option Value)}
    {oc_ends_in : Value}
    {kV_ends_in : Value}
    {dc_ends_in : Value}
    {pm_ends_in : Value}
    {cd_ends_in : Value}
    {ct_ends_in : Value}
    {od_Shelf___init__ : Option Addr}
    {an_Shelf___init__ : Option Addr}
    {sl_Shelf___init__ : Array (Option Value)}
    {oc_Shelf___init__ : Value}
    {kV_Shelf___init__ : Value}
    {dc_Shelf___init__ : Value}
    {pm_Shelf___init__ : Value}
    {cd_Shelf___init__ : Value}
    {ct_Shelf___init__ : Value}
    {od_Shelf_want : Option Addr}
    {an_Shelf_want : Option Addr}
    {sl_Shelf_want : Array (Option Value)}
    {oc_Shelf_want : Value}
    {kV_Shelf_want : Value}
    {dc_Shelf_want : Value}
    {pm_Shelf_want : Value}
    {cd_Shelf_want : Value}
    {ct_Shelf_want : Value}
    {od_Shelf_want_piece : Option Addr}
    {an_Shelf_want_piece : Option Addr}
    {sl_Shelf_want_piece : Array (Option Value)}
    {oc_Shelf_want_piece : Value}
    {kV_Shelf_want_piece : Value}
    {dc_Shelf_want_piece : Value}
    {pm_Shelf_want_piece : Value}
    {cd_Shelf_want_piece : Value}
    {ct_Shelf_want_piece : Value}
    {od_Shelf_many : Option Addr}
    {an_Shelf_many : Option Addr}
    {sl_Shelf_many : Array (Option Value)}
    {oc_Shelf_many : Value}
    {kV_Shelf_many : Value}
    {dc_Shelf_many : Value}
    {pm_Shelf_many : Value}
    {cd_Shelf_many : Value}
    {ct_Shelf_many : Value}
    {od_Shelf_piece : Option Addr}
    {an_Shelf_piece : Option Addr}
    {sl_Shelf_piece : Array (Option Value)}
    {oc_Shelf_piece : Value}
    {kV_Shelf_piece : Value}
    {dc_Shelf_piece : Value}
    {pm_Shelf_piece : Value}
    {cd_Shelf_piece : Value}
    {ct_Shelf_piece : Value}
    {od_Shelf_signs : Option Addr}
    {an_Shelf_signs : Option Addr}
    {sl_Shelf_signs : Array (Option Value)}
    {oc_Shelf_signs : Value}
    {kV_Shelf_signs : Value}
    {dc_Shelf_signs : Value}
    {pm_Shelf_signs : Value}
    {cd_Shelf_signs : Value}
    {ct_Shelf_signs : Value}
    {od_Shelf_ends : Option Addr}
    {an_Shelf_ends : Option Addr}
    {sl_Shelf_ends : Array (Option Value)}
    {oc_Shelf_ends : Value}
    {kV_Shelf_ends : Value}
    {dc_Shelf_ends : Value}
    {pm_Shelf_ends : Value}
    {cd_Shelf_ends : Value}
    {ct_Shelf_ends : Value}
    {od_Shelf_leaves : Option Addr}
    {an_Shelf_leaves : Option Addr}
    {sl_Shelf_leaves : Array (Option Value)}
    {oc_Shelf_leaves : Value}
    {kV_Shelf_leaves : Value}
    {dc_Shelf_leaves : Value}
    {pm_Shelf_leaves : Value}
    {cd_Shelf_leaves : Value}
    {ct_Shelf_leaves : Value}
    {od_Shelf_height : Option Addr}
    {an_Shelf_height : Option Addr}
    {sl_Shelf_height : Array (Option Value)}
    {oc_Shelf_height : Value}
    {kV_Shelf_height : Value}
    {dc_Shelf_height : Value}
    {pm_Shelf_height : Value}
    {cd_Shelf_height : Value}
    {ct_Shelf_height : Value}
    {od_Shelf_laid : Option Addr}
    {an_Shelf_laid : Option Addr}
    {sl_Shelf_laid : Array (Option Value)}
    {oc_Shelf_laid : Value}
    {kV_Shelf_laid : Value}
    {dc_Shelf_laid : Value}
    {pm_Shelf_laid : Value}
    {cd_Shelf_laid : Value}
    {ct_Shelf_laid : Value}
    {od_Shelf_leaf : Option Addr}
    {an_Shelf_leaf : Option Addr}
    {sl_Shelf_leaf : Array (Option Value)}
    {oc_Shelf_leaf : Value}
    {kV_Shelf_leaf : Value}
    {dc_Shelf_leaf : Value}
    {pm_Shelf_leaf : Value}
    {cd_Shelf_leaf : Value}
    {ct_Shelf_leaf : Value}
    {od_Shelf_fork : Option Addr}
    {an_Shelf_fork : Option Addr}
    {sl_Shelf_fork : Array (Option Value)}
    {oc_Shelf_fork : Value}
    {kV_Shelf_fork : Value}
    {dc_Shelf_fork : Value}
    {pm_Shelf_fork : Value}
    {cd_Shelf_fork : Value}
    {ct_Shelf_fork : Value}
    {od_Shelf_is_loose : Option Addr}
    {an_Shelf_is_loose : Option Addr}
    {sl_Shelf_is_loose : Array (Option Value)}
    {oc_Shelf_is_loose : Value}
    {kV_Shelf_is_loose : Value}
    {dc_Shelf_is_loose : Value}
    {pm_Shelf_is_loose : Value}
    {cd_Shelf_is_loose : Value}
    {ct_Shelf_is_loose : Value}
    {od_written : Option Addr}
    {an_written : Option Addr}
    {sl_written : Array (Option Value)}
    {oc_written : Value}
    {kV_written : Value}
    {dc_written : Value}
    {pm_written : Value}
    {cd_written : Value}
    {ct_written : Value}
    {od_piece_row : Option Addr}
    {an_piece_row : Option Addr}
    {sl_piece_row : Array (Option Value)}
    {oc_piece_row : Value}
    {kV_piece_row : Value}
    {dc_piece_row : Value}
    {pm_piece_row : Value}
    {cd_piece_row : Value}
    {ct_piece_row : Value}
    {od_shelf_text : Option Addr}
    {an_shelf_text : Option Addr}
    {sl_shelf_text : Array (Option Value)}
    {oc_shelf_text : Value}
    {kV_shelf_text : Value}
    {dc_shelf_text : Value}
    {pm_shelf_text : Value}
    {cd_shelf_text : Value}
    {ct_shelf_text : Value}
    {od__law_mixed : Option Addr}
    {an__law_mixed : Option Addr}
    {sl__law_mixed : Array (Option Value)}
    {oc__law_mixed : Value}
    {kV__law_mixed : Value}
    {dc__law_mixed : Value}
    {pm__law_mixed : Value}
    {cd__law_mixed : Value}
    {ct__law_mixed : Value}
    {od__law_stream : Option Addr}
    {an__law_stream : Option Addr}
    {sl__law_stream : Array (Option Value)}
    {oc__law_stream : Value}
    {kV__law_stream : Value}
    {dc__law_stream : Value}
    {pm__law_stream : Value}
    {cd__law_stream : Value}
    {ct__law_stream : Value}
    {od__law_digit : Option Addr}
    {an__law_digit : Option Addr}
    {sl__law_digit : Array (Option Value)}
    {oc__law_digit : Value}
    {kV__law_digit : Value}
    {dc__law_digit : Value}
    {pm__law_digit : Value}
    {cd__law_digit : Value}
    {ct__law_digit : Value}
    {od__law_letters : Option Addr}
    {an__law_letters : Option Addr}
    {sl__law_letters : Array (Option Value)}
    {oc__law_letters : Value}
    {kV__law_letters : Value}
    {dc__law_letters : Value}
    {pm__law_letters : Value}
    {cd__law_letters : Value}
    {ct__law_letters : Value}
    {od__law_tree : Option Addr}
    {an__law_tree : Option Addr}
    {sl__law_tree : Array (Option Value)}
    {oc__law_tree : Value}
    {kV__law_tree : Value}
    {dc__law_tree : Value}
    {pm__law_tree : Value}
    {cd__law_tree : Value}
    {ct__law_tree : Value}
    {od__law_text : Option Addr}
    {an__law_text : Option Addr}
    {sl__law_text : Array (Option Value)}
    {oc__law_text : Value}
    {kV__law_text : Value}
    {dc__law_text : Value}
    {pm__law_text : Value}
    {cd__law_text : Value}
    {ct__law_text : Value}
    {od__law_long : Option Addr}
    {an__law_long : Option Addr}
    {sl__law_long : Array (Option Value)}
    {oc__law_long : Value}
    {kV__law_long : Value}
    {dc__law_long : Value}
    {pm__law_long : Value}
    {cd__law_long : Value}
    {ct__law_long : Value}
    {od__law_drawn_shelf : Option Addr}
    {an__law_drawn_shelf : Option Addr}
    {sl__law_drawn_shelf : Array (Option Value)}
    {oc__law_drawn_shelf : Value}
    {kV__law_drawn_shelf : Value}
    {dc__law_drawn_shelf : Value}
    {pm__law_drawn_shelf : Value}
    {cd__law_drawn_shelf : Value}
    {ct__law_drawn_shelf : Value}
    {od__law_written : Option Addr}
    {an__law_written : Option Addr}
    {sl__law_written : Array (Option Value)}
    {oc__law_written : Value}
    {kV__law_written : Value}
    {dc__law_written : Value}
    {pm__law_written : Value}
    {cd__law_written : Value}
    {ct__law_written : Value}
    {od__law_shelf_text : Option Addr}
    {an__law_shelf_text : Option Addr}
    {sl__law_shelf_text : Array (Option Value)}
    {oc__law_shelf_text : Value}
    {kV__law_shelf_text : Value}
    {dc__law_shelf_text : Value}
    {pm__law_shelf_text : Value}
    {cd__law_shelf_text : Value}
    {ct__law_shelf_text : Value}
    {od_law : Option Addr}
    {an_law : Option Addr}
    {sl_law : Array (Option Value)}
    {oc_law : Value}
    {kV_law : Value}
    {dc_law : Value}
    {pm_law : Value}
    {cd_law : Value}
    {ct_law : Value}
    {tk_MOST_IN_LEAF : Tok}
    (aC_Shelf : PySem.W.nsIn K mainGlobals "Shelf" = some (some (.ref C_Shelf)))
    (pg_Shelf : PySem.W.plainGet K C_Shelf Str.empty = true)
    (hd_Shelf : PySem.W.hasDictIn K C_Shelf = true)
    (po_Shelf : PySem.W.plainOver K C_Shelf = true)
    (sa_Shelf : PySem.W.findIn K (.ref C_Shelf) "__setattr__" = some (some (.builtin "object.__setattr__")))
    (na_Shelf_pieces : PySem.W.findIn K (.ref C_Shelf) "pieces" = some none)
    (na_Shelf_numbers : PySem.W.findIn K (.ref C_Shelf) "numbers" = some none)
    (na_Shelf_told_signs : PySem.W.findIn K (.ref C_Shelf) "told_signs" = some none)
    (na_Shelf_told_ends : PySem.W.findIn K (.ref C_Shelf) "told_ends" = some none)
    (na_Shelf_told_leaves : PySem.W.findIn K (.ref C_Shelf) "told_leaves" = some none)
    (na_Shelf_told_heights : PySem.W.findIn K (.ref C_Shelf) "told_heights" = some none)
    (na_Shelf_firsts : PySem.W.findIn K (.ref C_Shelf) "firsts" = some none)
    (na_Shelf_lasts : PySem.W.findIn K (.ref C_Shelf) "lasts" = some none)
    (mk_Shelf : PySem.W.makesIn K C_Shelf = true)
    (kc_Shelf : PySem.W.keepIn K (.ref C_Shelf) = true)
    (eg_Loose : PySem.W.nsIn K mainGlobals "Loose" = some (some (.ref C_Loose)))
    (ex_Loose : PySem.W.excIn K C_Loose [.type "ValueError", .type "Exception", .type "BaseException", .type "object"] "ValueError.__new__" = true)
    (ek_Loose : PySem.W.keepIn K (.ref C_Loose) = true)
    (eb_Loose : PySem.W.subIn K (.ref C_Loose) (.type "BaseException") = some true)
    (et_Loose : PySem.W.typeIn K (.ref C_Loose) = some (.type "type"))
    (eg_NoPiece : PySem.W.nsIn K mainGlobals "NoPiece" = some (some (.ref C_NoPiece)))
    (ex_NoPiece : PySem.W.excIn K C_NoPiece [.type "ValueError", .type "Exception", .type "BaseException", .type "object"] "ValueError.__new__" = true)
    (ek_NoPiece : PySem.W.keepIn K (.ref C_NoPiece) = true)
    (eb_NoPiece : PySem.W.subIn K (.ref C_NoPiece) (.type "BaseException") = some true)
    (et_NoPiece : PySem.W.typeIn K (.ref C_NoPiece) = some (.type "type"))
    (eg_NoText : PySem.W.nsIn K mainGlobals "NoText" = some (some (.ref C_NoText)))
    (ex_NoText : PySem.W.excIn K C_NoText [.type "ValueError", .type "Exception", .type "BaseException", .type "object"] "ValueError.__new__" = true)
    (ek_NoText : PySem.W.keepIn K (.ref C_NoText) = true)
    (eb_NoText : PySem.W.subIn K (.ref C_NoText) (.type "BaseException") = some true)
    (et_NoText : PySem.W.typeIn K (.ref C_NoText) = some (.type "type"))
    (eg_TooLong : PySem.W.nsIn K mainGlobals "TooLong" = some (some (.ref C_TooLong)))
    (ex_TooLong : PySem.W.excIn K C_TooLong [.type "ValueError", .type "Exception", .type "BaseException", .type "object"] "ValueError.__new__" = true)
    (ek_TooLong : PySem.W.keepIn K (.ref C_TooLong) = true)
    (eb_TooLong : PySem.W.subIn K (.ref C_TooLong) (.type "BaseException") = some true)
    (et_TooLong : PySem.W.typeIn K (.ref C_TooLong) = some (.type "type"))
    (eg_Unlevel : PySem.W.nsIn K mainGlobals "Unlevel" = some (some (.ref C_Unlevel)))
    (ex_Unlevel : PySem.W.excIn K C_Unlevel [.type "ValueError", .type "Exception", .type "BaseException", .type "object"] "ValueError.__new__" = true)
    (ek_Unlevel : PySem.W.keepIn K (.ref C_Unlevel) = true)
    (eb_Unlevel : PySem.W.subIn K (.ref C_Unlevel) (.type "BaseException") = some true)
    (et_Unlevel : PySem.W.typeIn K (.ref C_Unlevel) = some (.type "type"))
    (a_is_plain : PySem.W.nsIn K mainGlobals "is_plain" = some (some (.ref f_is_plain)))
    (l_is_plain : K.lookup f_is_plain = some ⟨oc_is_plain, od_is_plain, .func (PySem.W.fnOf "is_plain" "is_plain" (defArgs s_is_plain) (defBody s_is_plain) (defScope s_is_plain) .none kV_is_plain dc_is_plain pm_is_plain an_is_plain cd_is_plain ct_is_plain), sl_is_plain⟩)
    (c_is_plain : PySem.W.codeIn K cd_is_plain "is_plain" = true)
    (k_is_plain : PySem.W.keepIn K (.ref f_is_plain) = true)
    (a_ends_in : PySem.W.nsIn K mainGlobals "ends_in" = some (some (.ref f_ends_in)))
    (l_ends_in : K.lookup f_ends_in = some ⟨oc_ends_in, od_ends_in, .func (PySem.W.fnOf "ends_in" "ends_in" (defArgs s_ends_in) (defBody s_ends_in) (defScope s_ends_in) .none kV_ends_in dc_ends_in pm_ends_in an_ends_in cd_ends_in ct_ends_in), sl_ends_in⟩)
    (c_ends_in : PySem.W.codeIn K cd_ends_in "ends_in" = true)
    (k_ends_in : PySem.W.keepIn K (.ref f_ends_in) = true)
    (a_Shelf___init__ : PySem.W.findIn K (.ref C_Shelf) "__init__" = some (some (.ref f_Shelf___init__)))
    (i_Shelf___init__ : PySem.W.isFn K (.ref f_Shelf___init__) = true)
    (l_Shelf___init__ : K.lookup f_Shelf___init__ = some ⟨oc_Shelf___init__, od_Shelf___init__, .func (PySem.W.fnOf "__init__" "Shelf.__init__" (defArgs s_Shelf___init__) (defBody s_Shelf___init__) (defScope s_Shelf___init__) .none kV_Shelf___init__ dc_Shelf___init__ pm_Shelf___init__ an_Shelf___init__ cd_Shelf___init__ ct_Shelf___init__), sl_Shelf___init__⟩)
    (c_Shelf___init__ : PySem.W.codeIn K cd_Shelf___init__ "Shelf.__init__" = true)
    (k_Shelf___init__ : PySem.W.keepIn K (.ref f_Shelf___init__) = true)
    (a_Shelf_want : PySem.W.findIn K (.ref C_Shelf) "want" = some (some (.ref f_Shelf_want)))
    (i_Shelf_want : PySem.W.isFn K (.ref f_Shelf_want) = true)
    (l_Shelf_want : K.lookup f_Shelf_want = some ⟨oc_Shelf_want, od_Shelf_want, .func (PySem.W.fnOf "want" "Shelf.want" (defArgs s_Shelf_want) (defBody s_Shelf_want) (defScope s_Shelf_want) .none kV_Shelf_want dc_Shelf_want pm_Shelf_want an_Shelf_want cd_Shelf_want ct_Shelf_want), sl_Shelf_want⟩)
    (c_Shelf_want : PySem.W.codeIn K cd_Shelf_want "Shelf.want" = true)
    (k_Shelf_want : PySem.W.keepIn K (.ref f_Shelf_want) = true)
    (a_Shelf_want_piece : PySem.W.findIn K (.ref C_Shelf) "want_piece" = some (some (.ref f_Shelf_want_piece)))
    (i_Shelf_want_piece : PySem.W.isFn K (.ref f_Shelf_want_piece) = true)
    (l_Shelf_want_piece : K.lookup f_Shelf_want_piece = some ⟨oc_Shelf_want_piece, od_Shelf_want_piece, .func (PySem.W.fnOf "want_piece" "Shelf.want_piece" (defArgs s_Shelf_want_piece) (defBody s_Shelf_want_piece) (defScope s_Shelf_want_piece) .none kV_Shelf_want_piece dc_Shelf_want_piece pm_Shelf_want_piece an_Shelf_want_piece cd_Shelf_want_piece ct_Shelf_want_piece), sl_Shelf_want_piece⟩)
    (c_Shelf_want_piece : PySem.W.codeIn K cd_Shelf_want_piece "Shelf.want_piece" = true)
    (k_Shelf_want_piece : PySem.W.keepIn K (.ref f_Shelf_want_piece) = true)
    (a_Shelf_many : PySem.W.findIn K (.ref C_Shelf) "many" = some (some (.ref f_Shelf_many)))
    (i_Shelf_many : PySem.W.isFn K (.ref f_Shelf_many) = true)
    (l_Shelf_many : K.lookup f_Shelf_many = some ⟨oc_Shelf_many, od_Shelf_many, .func (PySem.W.fnOf "many" "Shelf.many" (defArgs s_Shelf_many) (defBody s_Shelf_many) (defScope s_Shelf_many) .none kV_Shelf_many dc_Shelf_many pm_Shelf_many an_Shelf_many cd_Shelf_many ct_Shelf_many), sl_Shelf_many⟩)
    (c_Shelf_many : PySem.W.codeIn K cd_Shelf_many "Shelf.many" = true)
    (k_Shelf_many : PySem.W.keepIn K (.ref f_Shelf_many) = true)
    (a_Shelf_piece : PySem.W.findIn K (.ref C_Shelf) "piece" = some (some (.ref f_Shelf_piece)))
    (i_Shelf_piece : PySem.W.isFn K (.ref f_Shelf_piece) = true)
    (l_Shelf_piece : K.lookup f_Shelf_piece = some ⟨oc_Shelf_piece, od_Shelf_piece, .func (PySem.W.fnOf "piece" "Shelf.piece" (defArgs s_Shelf_piece) (defBody s_Shelf_piece) (defScope s_Shelf_piece) .none kV_Shelf_piece dc_Shelf_piece pm_Shelf_piece an_Shelf_piece cd_Shelf_piece ct_Shelf_piece), sl_Shelf_piece⟩)
    (c_Shelf_piece : PySem.W.codeIn K cd_Shelf_piece "Shelf.piece" = true)
    (k_Shelf_piece : PySem.W.keepIn K (.ref f_Shelf_piece) = true)
    (a_Shelf_signs : PySem.W.findIn K (.ref C_Shelf) "signs" = some (some (.ref f_Shelf_signs)))
    (i_Shelf_signs : PySem.W.isFn K (.ref f_Shelf_signs) = true)
    (l_Shelf_signs : K.lookup f_Shelf_signs = some ⟨oc_Shelf_signs, od_Shelf_signs, .func (PySem.W.fnOf "signs" "Shelf.signs" (defArgs s_Shelf_signs) (defBody s_Shelf_signs) (defScope s_Shelf_signs) .none kV_Shelf_signs dc_Shelf_signs pm_Shelf_signs an_Shelf_signs cd_Shelf_signs ct_Shelf_signs), sl_Shelf_signs⟩)
    (c_Shelf_signs : PySem.W.codeIn K cd_Shelf_signs "Shelf.signs" = true)
    (k_Shelf_signs : PySem.W.keepIn K (.ref f_Shelf_signs) = true)
    (a_Shelf_ends : PySem.W.findIn K (.ref C_Shelf) "ends" = some (some (.ref f_Shelf_ends)))
    (i_Shelf_ends : PySem.W.isFn K (.ref f_Shelf_ends) = true)
    (l_Shelf_ends : K.lookup f_Shelf_ends = some ⟨oc_Shelf_ends, od_Shelf_ends, .func (PySem.W.fnOf "ends" "Shelf.ends" (defArgs s_Shelf_ends) (defBody s_Shelf_ends) (defScope s_Shelf_ends) .none kV_Shelf_ends dc_Shelf_ends pm_Shelf_ends an_Shelf_ends cd_Shelf_ends ct_Shelf_ends), sl_Shelf_ends⟩)
    (c_Shelf_ends : PySem.W.codeIn K cd_Shelf_ends "Shelf.ends" = true)
    (k_Shelf_ends : PySem.W.keepIn K (.ref f_Shelf_ends) = true)
    (a_Shelf_leaves : PySem.W.findIn K (.ref C_Shelf) "leaves" = some (some (.ref f_Shelf_leaves)))
    (i_Shelf_leaves : PySem.W.isFn K (.ref f_Shelf_leaves) = true)
    (l_Shelf_leaves : K.lookup f_Shelf_leaves = some ⟨oc_Shelf_leaves, od_Shelf_leaves, .func (PySem.W.fnOf "leaves" "Shelf.leaves" (defArgs s_Shelf_leaves) (defBody s_Shelf_leaves) (defScope s_Shelf_leaves) .none kV_Shelf_leaves dc_Shelf_leaves pm_Shelf_leaves an_Shelf_leaves cd_Shelf_leaves ct_Shelf_leaves), sl_Shelf_leaves⟩)
    (c_Shelf_leaves : PySem.W.codeIn K cd_Shelf_leaves "Shelf.leaves" = true)
    (k_Shelf_leaves : PySem.W.keepIn K (.ref f_Shelf_leaves) = true)
    (a_Shelf_height : PySem.W.findIn K (.ref C_Shelf) "height" = some (some (.ref f_Shelf_height)))
    (i_Shelf_height : PySem.W.isFn K (.ref f_Shelf_height) = true)
    (l_Shelf_height : K.lookup f_Shelf_height = some ⟨oc_Shelf_height, od_Shelf_height, .func (PySem.W.fnOf "height" "Shelf.height" (defArgs s_Shelf_height) (defBody s_Shelf_height) (defScope s_Shelf_height) .none kV_Shelf_height dc_Shelf_height pm_Shelf_height an_Shelf_height cd_Shelf_height ct_Shelf_height), sl_Shelf_height⟩)
    (c_Shelf_height : PySem.W.codeIn K cd_Shelf_height "Shelf.height" = true)
    (k_Shelf_height : PySem.W.keepIn K (.ref f_Shelf_height) = true)
    (a_Shelf_laid : PySem.W.findIn K (.ref C_Shelf) "laid" = some (some (.ref f_Shelf_laid)))
    (i_Shelf_laid : PySem.W.isFn K (.ref f_Shelf_laid) = true)
    (l_Shelf_laid : K.lookup f_Shelf_laid = some ⟨oc_Shelf_laid, od_Shelf_laid, .func (PySem.W.fnOf "laid" "Shelf.laid" (defArgs s_Shelf_laid) (defBody s_Shelf_laid) (defScope s_Shelf_laid) .none kV_Shelf_laid dc_Shelf_laid pm_Shelf_laid an_Shelf_laid cd_Shelf_laid ct_Shelf_laid), sl_Shelf_laid⟩)
    (c_Shelf_laid : PySem.W.codeIn K cd_Shelf_laid "Shelf.laid" = true)
    (k_Shelf_laid : PySem.W.keepIn K (.ref f_Shelf_laid) = true)
    (a_Shelf_leaf : PySem.W.findIn K (.ref C_Shelf) "leaf" = some (some (.ref f_Shelf_leaf)))
    (i_Shelf_leaf : PySem.W.isFn K (.ref f_Shelf_leaf) = true)
    (l_Shelf_leaf : K.lookup f_Shelf_leaf = some ⟨oc_Shelf_leaf, od_Shelf_leaf, .func (PySem.W.fnOf "leaf" "Shelf.leaf" (defArgs s_Shelf_leaf) (defBody s_Shelf_leaf) (defScope s_Shelf_leaf) .none kV_Shelf_leaf dc_Shelf_leaf pm_Shelf_leaf an_Shelf_leaf cd_Shelf_leaf ct_Shelf_leaf), sl_Shelf_leaf⟩)
    (c_Shelf_leaf : PySem.W.codeIn K cd_Shelf_leaf "Shelf.leaf" = true)
    (k_Shelf_leaf : PySem.W.keepIn K (.ref f_Shelf_leaf) = true)
    (a_Shelf_fork : PySem.W.findIn K (.ref C_Shelf) "fork" = some (some (.ref f_Shelf_fork)))
    (i_Shelf_fork : PySem.W.isFn K (.ref f_Shelf_fork) = true)
    (l_Shelf_fork : K.lookup f_Shelf_fork = some ⟨oc_Shelf_fork, od_Shelf_fork, .func (PySem.W.fnOf "fork" "Shelf.fork" (defArgs s_Shelf_fork) (defBody s_Shelf_fork) (defScope s_Shelf_fork) .none kV_Shelf_fork dc_Shelf_fork pm_Shelf_fork an_Shelf_fork cd_Shelf_fork ct_Shelf_fork), sl_Shelf_fork⟩)
    (c_Shelf_fork : PySem.W.codeIn K cd_Shelf_fork "Shelf.fork" = true)
    (k_Shelf_fork : PySem.W.keepIn K (.ref f_Shelf_fork) = true)
    (a_Shelf_is_loose : PySem.W.findIn K (.ref C_Shelf) "is_loose" = some (some (.ref f_Shelf_is_loose)))
    (i_Shelf_is_loose : PySem.W.isFn K (.ref f_Shelf_is_loose) = true)
    (l_Shelf_is_loose : K.lookup f_Shelf_is_loose = some ⟨oc_Shelf_is_loose, od_Shelf_is_loose, .func (PySem.W.fnOf "is_loose" "Shelf.is_loose" (defArgs s_Shelf_is_loose) (defBody s_Shelf_is_loose) (defScope s_Shelf_is_loose) .none kV_Shelf_is_loose dc_Shelf_is_loose pm_Shelf_is_loose an_Shelf_is_loose cd_Shelf_is_loose ct_Shelf_is_loose), sl_Shelf_is_loose⟩)
    (c_Shelf_is_loose : PySem.W.codeIn K cd_Shelf_is_loose "Shelf.is_loose" = true)
    (k_Shelf_is_loose : PySem.W.keepIn K (.ref f_Shelf_is_loose) = true)
    (a_written : PySem.W.nsIn K mainGlobals "written" = some (some (.ref f_written)))
    (l_written : K.lookup f_written = some ⟨oc_written, od_written, .func (PySem.W.fnOf "written" "written" (defArgs s_written) (defBody s_written) (defScope s_written) .none kV_written dc_written pm_written an_written cd_written ct_written), sl_written⟩)
    (c_written : PySem.W.codeIn K cd_written "written" = true)
    (k_written : PySem.W.keepIn K (.ref f_written) = true)
    (a_piece_row : PySem.W.nsIn K mainGlobals "piece_row" = some (some (.ref f_piece_row)))
    (l_piece_row : K.lookup f_piece_row = some ⟨oc_piece_row, od_piece_row, .func (PySem.W.fnOf "piece_row" "piece_row" (defArgs s_piece_row) (defBody s_piece_row) (defScope s_piece_row) .none kV_piece_row dc_piece_row pm_piece_row an_piece_row cd_piece_row ct_piece_row), sl_piece_row⟩)
    (c_piece_row : PySem.W.codeIn K cd_piece_row "piece_row" = true)
    (k_piece_row : PySem.W.keepIn K (.ref f_piece_row) = true)
    (a_shelf_text : PySem.W.nsIn K mainGlobals "shelf_text" = some (some (.ref f_shelf_text)))
    (l_shelf_text : K.lookup f_shelf_text = some ⟨oc_shelf_text, od_shelf_text, .func (PySem.W.fnOf "shelf_text" "shelf_text" (defArgs s_shelf_text) (defBody s_shelf_text) (defScope s_shelf_text) .none kV_shelf_text dc_shelf_text pm_shelf_text an_shelf_text cd_shelf_text ct_shelf_text), sl_shelf_text⟩)
    (c_shelf_text : PySem.W.codeIn K cd_shelf_text "shelf_text" = true)
    (k_shelf_text : PySem.W.keepIn K (.ref f_shelf_text) = true)
    (a__law_mixed : PySem.W.nsIn K mainGlobals "_law_mixed" = some (some (.ref f__law_mixed)))
    (l__law_mixed : K.lookup f__law_mixed = some ⟨oc__law_mixed, od__law_mixed, .func (PySem.W.fnOf "_law_mixed" "_law_mixed" (defArgs s__law_mixed) (defBody s__law_mixed) (defScope s__law_mixed) .none kV__law_mixed dc__law_mixed pm__law_mixed an__law_mixed cd__law_mixed ct__law_mixed), sl__law_mixed⟩)
    (c__law_mixed : PySem.W.codeIn K cd__law_mixed "_law_mixed" = true)
    (k__law_mixed : PySem.W.keepIn K (.ref f__law_mixed) = true)
    (a__law_stream : PySem.W.nsIn K mainGlobals "_law_stream" = some (some (.ref f__law_stream)))
    (l__law_stream : K.lookup f__law_stream = some ⟨oc__law_stream, od__law_stream, .func (PySem.W.fnOf "_law_stream" "_law_stream" (defArgs s__law_stream) (defBody s__law_stream) (defScope s__law_stream) .none kV__law_stream dc__law_stream pm__law_stream an__law_stream cd__law_stream ct__law_stream), sl__law_stream⟩)
    (c__law_stream : PySem.W.codeIn K cd__law_stream "_law_stream" = true)
    (k__law_stream : PySem.W.keepIn K (.ref f__law_stream) = true)
    (a__law_digit : PySem.W.nsIn K mainGlobals "_law_digit" = some (some (.ref f__law_digit)))
    (l__law_digit : K.lookup f__law_digit = some ⟨oc__law_digit, od__law_digit, .func (PySem.W.fnOf "_law_digit" "_law_digit" (defArgs s__law_digit) (defBody s__law_digit) (defScope s__law_digit) .none kV__law_digit dc__law_digit pm__law_digit an__law_digit cd__law_digit ct__law_digit), sl__law_digit⟩)
    (c__law_digit : PySem.W.codeIn K cd__law_digit "_law_digit" = true)
    (k__law_digit : PySem.W.keepIn K (.ref f__law_digit) = true)
    (a__law_letters : PySem.W.nsIn K mainGlobals "_law_letters" = some (some (.ref f__law_letters)))
    (l__law_letters : K.lookup f__law_letters = some ⟨oc__law_letters, od__law_letters, .func (PySem.W.fnOf "_law_letters" "_law_letters" (defArgs s__law_letters) (defBody s__law_letters) (defScope s__law_letters) .none kV__law_letters dc__law_letters pm__law_letters an__law_letters cd__law_letters ct__law_letters), sl__law_letters⟩)
    (c__law_letters : PySem.W.codeIn K cd__law_letters "_law_letters" = true)
    (k__law_letters : PySem.W.keepIn K (.ref f__law_letters) = true)
    (a__law_tree : PySem.W.nsIn K mainGlobals "_law_tree" = some (some (.ref f__law_tree)))
    (l__law_tree : K.lookup f__law_tree = some ⟨oc__law_tree, od__law_tree, .func (PySem.W.fnOf "_law_tree" "_law_tree" (defArgs s__law_tree) (defBody s__law_tree) (defScope s__law_tree) .none kV__law_tree dc__law_tree pm__law_tree an__law_tree cd__law_tree ct__law_tree), sl__law_tree⟩)
    (c__law_tree : PySem.W.codeIn K cd__law_tree "_law_tree" = true)
    (k__law_tree : PySem.W.keepIn K (.ref f__law_tree) = true)
    (a__law_text : PySem.W.nsIn K mainGlobals "_law_text" = some (some (.ref f__law_text)))
    (l__law_text : K.lookup f__law_text = some ⟨oc__law_text, od__law_text, .func (PySem.W.fnOf "_law_text" "_law_text" (defArgs s__law_text) (defBody s__law_text) (defScope s__law_text) .none kV__law_text dc__law_text pm__law_text an__law_text cd__law_text ct__law_text), sl__law_text⟩)
    (c__law_text : PySem.W.codeIn K cd__law_text "_law_text" = true)
    (k__law_text : PySem.W.keepIn K (.ref f__law_text) = true)
    (a__law_long : PySem.W.nsIn K mainGlobals "_law_long" = some (some (.ref f__law_long)))
    (l__law_long : K.lookup f__law_long = some ⟨oc__law_long, od__law_long, .func (PySem.W.fnOf "_law_long" "_law_long" (defArgs s__law_long) (defBody s__law_long) (defScope s__law_long) .none kV__law_long dc__law_long pm__law_long an__law_long cd__law_long ct__law_long), sl__law_long⟩)
    (c__law_long : PySem.W.codeIn K cd__law_long "_law_long" = true)
    (k__law_long : PySem.W.keepIn K (.ref f__law_long) = true)
    (a__law_drawn_shelf : PySem.W.nsIn K mainGlobals "_law_drawn_shelf" = some (some (.ref f__law_drawn_shelf)))
    (l__law_drawn_shelf : K.lookup f__law_drawn_shelf = some ⟨oc__law_drawn_shelf, od__law_drawn_shelf, .func (PySem.W.fnOf "_law_drawn_shelf" "_law_drawn_shelf" (defArgs s__law_drawn_shelf) (defBody s__law_drawn_shelf) (defScope s__law_drawn_shelf) .none kV__law_drawn_shelf dc__law_drawn_shelf pm__law_drawn_shelf an__law_drawn_shelf cd__law_drawn_shelf ct__law_drawn_shelf), sl__law_drawn_shelf⟩)
    (c__law_drawn_shelf : PySem.W.codeIn K cd__law_drawn_shelf "_law_drawn_shelf" = true)
    (k__law_drawn_shelf : PySem.W.keepIn K (.ref f__law_drawn_shelf) = true)
    (a__law_written : PySem.W.nsIn K mainGlobals "_law_written" = some (some (.ref f__law_written)))
    (l__law_written : K.lookup f__law_written = some ⟨oc__law_written, od__law_written, .func (PySem.W.fnOf "_law_written" "_law_written" (defArgs s__law_written) (defBody s__law_written) (defScope s__law_written) .none kV__law_written dc__law_written pm__law_written an__law_written cd__law_written ct__law_written), sl__law_written⟩)
    (c__law_written : PySem.W.codeIn K cd__law_written "_law_written" = true)
    (k__law_written : PySem.W.keepIn K (.ref f__law_written) = true)
    (a__law_shelf_text : PySem.W.nsIn K mainGlobals "_law_shelf_text" = some (some (.ref f__law_shelf_text)))
    (l__law_shelf_text : K.lookup f__law_shelf_text = some ⟨oc__law_shelf_text, od__law_shelf_text, .func (PySem.W.fnOf "_law_shelf_text" "_law_shelf_text" (defArgs s__law_shelf_text) (defBody s__law_shelf_text) (defScope s__law_shelf_text) .none kV__law_shelf_text dc__law_shelf_text pm__law_shelf_text an__law_shelf_text cd__law_shelf_text ct__law_shelf_text), sl__law_shelf_text⟩)
    (c__law_shelf_text : PySem.W.codeIn K cd__law_shelf_text "_law_shelf_text" = true)
    (k__law_shelf_text : PySem.W.keepIn K (.ref f__law_shelf_text) = true)
    (a_law : PySem.W.nsIn K mainGlobals "law" = some (some (.ref f_law)))
    (l_law : K.lookup f_law = some ⟨oc_law, od_law, .func (PySem.W.fnOf "law" "law" (defArgs s_law) (defBody s_law) (defScope s_law) .none kV_law dc_law pm_law an_law cd_law ct_law), sl_law⟩)
    (c_law : PySem.W.codeIn K cd_law "law" = true)
    (k_law : PySem.W.keepIn K (.ref f_law) = true)
    (kc_MOST_IN_LEAF : PySem.W.nsIn K mainGlobals "MOST_IN_LEAF" = some (some (.int 8 tk_MOST_IN_LEAF)))
    (z_len : PySem.W.nsIn K mainGlobals "len" = some none)
    (z_max : PySem.W.nsIn K mainGlobals "max" = some none)
    (z_min : PySem.W.nsIn K mainGlobals "min" = some none)
    (z_range : PySem.W.nsIn K mainGlobals "range" = some none)
    (z_isinstance : PySem.W.nsIn K mainGlobals "isinstance" = some none)
    (z_all : PySem.W.nsIn K mainGlobals "all" = some none)
    (z_sum : PySem.W.nsIn K mainGlobals "sum" = some none)
    (z_str : PySem.W.nsIn K mainGlobals "str" = some none)
    (z_int : PySem.W.nsIn K mainGlobals "int" = some none)
    : ∃ fd : FuncData, (∀ (s : Shared) (v : Value), BindsTo s fd ⟨[v], []⟩ [("script", v)]) ∧ ∀ base : Heap, K.In base → base.Ns mainGlobals mg → FnOk l.prog w K mg base (L2.CX l.prog w) 17 fa fd ["script"] (spLaw K) := by
  have e := hfa.symm.trans (PySem.W.mg_of X G a_law)
  cases e
  let A : Ad := { C_Shelf := C_Shelf, C_Loose := C_Loose, C_NoPiece := C_NoPiece, C_NoText := C_NoText, C_TooLong := C_TooLong, C_Unlevel := C_Unlevel, f_is_plain := f_is_plain, d_is_plain := PySem.W.fnOf "is_plain" "is_plain" (defArgs s_is_plain) (defBody s_is_plain) (defScope s_is_plain) .none kV_is_plain dc_is_plain pm_is_plain an_is_plain cd_is_plain ct_is_plain, f_ends_in := f_ends_in, d_ends_in := PySem.W.fnOf "ends_in" "ends_in" (defArgs s_ends_in) (defBody s_ends_in) (defScope s_ends_in) .none kV_ends_in dc_ends_in pm_ends_in an_ends_in cd_ends_in ct_ends_in, f_Shelf___init__ := f_Shelf___init__, d_Shelf___init__ := PySem.W.fnOf "__init__" "Shelf.__init__" (defArgs s_Shelf___init__) (defBody s_Shelf___init__) (defScope s_Shelf___init__) .none kV_Shelf___init__ dc_Shelf___init__ pm_Shelf___init__ an_Shelf___init__ cd_Shelf___init__ ct_Shelf___init__, f_Shelf_want := f_Shelf_want, d_Shelf_want := PySem.W.fnOf "want" "Shelf.want" (defArgs s_Shelf_want) (defBody s_Shelf_want) (defScope s_Shelf_want) .none kV_Shelf_want dc_Shelf_want pm_Shelf_want an_Shelf_want cd_Shelf_want ct_Shelf_want, f_Shelf_want_piece := f_Shelf_want_piece, d_Shelf_want_piece := PySem.W.fnOf "want_piece" "Shelf.want_piece" (defArgs s_Shelf_want_piece) (defBody s_Shelf_want_piece) (defScope s_Shelf_want_piece) .none kV_Shelf_want_piece dc_Shelf_want_piece pm_Shelf_want_piece an_Shelf_want_piece cd_Shelf_want_piece ct_Shelf_want_piece, f_Shelf_many := f_Shelf_many, d_Shelf_many := PySem.W.fnOf "many" "Shelf.many" (defArgs s_Shelf_many) (defBody s_Shelf_many) (defScope s_Shelf_many) .none kV_Shelf_many dc_Shelf_many pm_Shelf_many an_Shelf_many cd_Shelf_many ct_Shelf_many, f_Shelf_piece := f_Shelf_piece, d_Shelf_piece := PySem.W.fnOf "piece" "Shelf.piece" (defArgs s_Shelf_piece) (defBody s_Shelf_piece) (defScope s_Shelf_piece) .none kV_Shelf_piece dc_Shelf_piece pm_Shelf_piece an_Shelf_piece cd_Shelf_piece ct_Shelf_piece, f_Shelf_signs := f_Shelf_signs, d_Shelf_signs := PySem.W.fnOf "signs" "Shelf.signs" (defArgs s_Shelf_signs) (defBody s_Shelf_signs) (defScope s_Shelf_signs) .none kV_Shelf_signs dc_Shelf_signs pm_Shelf_signs an_Shelf_signs cd_Shelf_signs ct_Shelf_signs, f_Shelf_ends := f_Shelf_ends, d_Shelf_ends := PySem.W.fnOf "ends" "Shelf.ends" (defArgs s_Shelf_ends) (defBody s_Shelf_ends) (defScope s_Shelf_ends) .none kV_Shelf_ends dc_Shelf_ends pm_Shelf_ends an_Shelf_ends cd_Shelf_ends ct_Shelf_ends, f_Shelf_leaves := f_Shelf_leaves, d_Shelf_leaves := PySem.W.fnOf "leaves" "Shelf.leaves" (defArgs s_Shelf_leaves) (defBody s_Shelf_leaves) (defScope s_Shelf_leaves) .none kV_Shelf_leaves dc_Shelf_leaves pm_Shelf_leaves an_Shelf_leaves cd_Shelf_leaves ct_Shelf_leaves, f_Shelf_height := f_Shelf_height, d_Shelf_height := PySem.W.fnOf "height" "Shelf.height" (defArgs s_Shelf_height) (defBody s_Shelf_height) (defScope s_Shelf_height) .none kV_Shelf_height dc_Shelf_height pm_Shelf_height an_Shelf_height cd_Shelf_height ct_Shelf_height, f_Shelf_laid := f_Shelf_laid, d_Shelf_laid := PySem.W.fnOf "laid" "Shelf.laid" (defArgs s_Shelf_laid) (defBody s_Shelf_laid) (defScope s_Shelf_laid) .none kV_Shelf_laid dc_Shelf_laid pm_Shelf_laid an_Shelf_laid cd_Shelf_laid ct_Shelf_laid, f_Shelf_leaf := f_Shelf_leaf, d_Shelf_leaf := PySem.W.fnOf "leaf" "Shelf.leaf" (defArgs s_Shelf_leaf) (defBody s_Shelf_leaf) (defScope s_Shelf_leaf) .none kV_Shelf_leaf dc_Shelf_leaf pm_Shelf_leaf an_Shelf_leaf cd_Shelf_leaf ct_Shelf_leaf, f_Shelf_fork := f_Shelf_fork, d_Shelf_fork := PySem.W.fnOf "fork" "Shelf.fork" (defArgs s_Shelf_fork) (defBody s_Shelf_fork) (defScope s_Shelf_fork) .none kV_Shelf_fork dc_Shelf_fork pm_Shelf_fork an_Shelf_fork cd_Shelf_fork ct_Shelf_fork, f_Shelf_is_loose := f_Shelf_is_loose, d_Shelf_is_loose := PySem.W.fnOf "is_loose" "Shelf.is_loose" (defArgs s_Shelf_is_loose) (defBody s_Shelf_is_loose) (defScope s_Shelf_is_loose) .none kV_Shelf_is_loose dc_Shelf_is_loose pm_Shelf_is_loose an_Shelf_is_loose cd_Shelf_is_loose ct_Shelf_is_loose, f_written := f_written, d_written := PySem.W.fnOf "written" "written" (defArgs s_written) (defBody s_written) (defScope s_written) .none kV_written dc_written pm_written an_written cd_written ct_written, f_piece_row := f_piece_row, d_piece_row := PySem.W.fnOf "piece_row" "piece_row" (defArgs s_piece_row) (defBody s_piece_row) (defScope s_piece_row) .none kV_piece_row dc_piece_row pm_piece_row an_piece_row cd_piece_row ct_piece_row, f_shelf_text := f_shelf_text, d_shelf_text := PySem.W.fnOf "shelf_text" "shelf_text" (defArgs s_shelf_text) (defBody s_shelf_text) (defScope s_shelf_text) .none kV_shelf_text dc_shelf_text pm_shelf_text an_shelf_text cd_shelf_text ct_shelf_text, f__law_mixed := f__law_mixed, d__law_mixed := PySem.W.fnOf "_law_mixed" "_law_mixed" (defArgs s__law_mixed) (defBody s__law_mixed) (defScope s__law_mixed) .none kV__law_mixed dc__law_mixed pm__law_mixed an__law_mixed cd__law_mixed ct__law_mixed, f__law_stream := f__law_stream, d__law_stream := PySem.W.fnOf "_law_stream" "_law_stream" (defArgs s__law_stream) (defBody s__law_stream) (defScope s__law_stream) .none kV__law_stream dc__law_stream pm__law_stream an__law_stream cd__law_stream ct__law_stream, f__law_digit := f__law_digit, d__law_digit := PySem.W.fnOf "_law_digit" "_law_digit" (defArgs s__law_digit) (defBody s__law_digit) (defScope s__law_digit) .none kV__law_digit dc__law_digit pm__law_digit an__law_digit cd__law_digit ct__law_digit, f__law_letters := f__law_letters, d__law_letters := PySem.W.fnOf "_law_letters" "_law_letters" (defArgs s__law_letters) (defBody s__law_letters) (defScope s__law_letters) .none kV__law_letters dc__law_letters pm__law_letters an__law_letters cd__law_letters ct__law_letters, f__law_tree := f__law_tree, d__law_tree := PySem.W.fnOf "_law_tree" "_law_tree" (defArgs s__law_tree) (defBody s__law_tree) (defScope s__law_tree) .none kV__law_tree dc__law_tree pm__law_tree an__law_tree cd__law_tree ct__law_tree, f__law_text := f__law_text, d__law_text := PySem.W.fnOf "_law_text" "_law_text" (defArgs s__law_text) (defBody s__law_text) (defScope s__law_text) .none kV__law_text dc__law_text pm__law_text an__law_text cd__law_text ct__law_text, f__law_long := f__law_long, d__law_long := PySem.W.fnOf "_law_long" "_law_long" (defArgs s__law_long) (defBody s__law_long) (defScope s__law_long) .none kV__law_long dc__law_long pm__law_long an__law_long cd__law_long ct__law_long, f__law_drawn_shelf := f__law_drawn_shelf, d__law_drawn_shelf := PySem.W.fnOf "_law_drawn_shelf" "_law_drawn_shelf" (defArgs s__law_drawn_shelf) (defBody s__law_drawn_shelf) (defScope s__law_drawn_shelf) .none kV__law_drawn_shelf dc__law_drawn_shelf pm__law_drawn_shelf an__law_drawn_shelf cd__law_drawn_shelf ct__law_drawn_shelf, f__law_written := f__law_written, d__law_written := PySem.W.fnOf "_law_written" "_law_written" (defArgs s__law_written) (defBody s__law_written) (defScope s__law_written) .none kV__law_written dc__law_written pm__law_written an__law_written cd__law_written ct__law_written, f__law_shelf_text := f__law_shelf_text, d__law_shelf_text := PySem.W.fnOf "_law_shelf_text" "_law_shelf_text" (defArgs s__law_shelf_text) (defBody s__law_shelf_text) (defScope s__law_shelf_text) .none kV__law_shelf_text dc__law_shelf_text pm__law_shelf_text an__law_shelf_text cd__law_shelf_text ct__law_shelf_text, f_law := fa, d_law := PySem.W.fnOf "law" "law" (defArgs s_law) (defBody s_law) (defScope s_law) .none kV_law dc_law pm_law an_law cd_law ct_law }
  have T : Txt K mg A := ⟨(⟨pg_Shelf, hd_Shelf, po_Shelf, sa_Shelf⟩),
    (PySem.W.mg_of X G aC_Shelf),
    (na_Shelf_pieces),
    (na_Shelf_numbers),
    (na_Shelf_told_signs),
    (na_Shelf_told_ends),
    (na_Shelf_told_leaves),
    (na_Shelf_told_heights),
    (na_Shelf_firsts),
    (na_Shelf_lasts),
    (⟨mk_Shelf, a_Shelf___init__, i_Shelf___init__, kc_Shelf⟩),
    (⟨PySem.W.mg_of X G eg_Loose, ex_Loose, ek_Loose, eb_Loose, et_Loose⟩),
    (⟨PySem.W.mg_of X G eg_NoPiece, ex_NoPiece, ek_NoPiece, eb_NoPiece, et_NoPiece⟩),
    (⟨PySem.W.mg_of X G eg_NoText, ex_NoText, ek_NoText, eb_NoText, et_NoText⟩),
    (⟨PySem.W.mg_of X G eg_TooLong, ex_TooLong, ek_TooLong, eb_TooLong, et_TooLong⟩),
    (⟨PySem.W.mg_of X G eg_Unlevel, ex_Unlevel, ek_Unlevel, eb_Unlevel, et_Unlevel⟩),
    (fun_mk (st := s_is_plain) l_is_plain c_is_plain k_is_plain),
    ((fun_mk (st := s_is_plain) l_is_plain c_is_plain k_is_plain).binds (ps := p_is_plain) fun _ _ _ _ _ _ us hl => match us, hl with | [_], _ => rfl),
    (PySem.W.mg_of X G a_is_plain),
    (fun_mk (st := s_ends_in) l_ends_in c_ends_in k_ends_in),
    ((fun_mk (st := s_ends_in) l_ends_in c_ends_in k_ends_in).binds (ps := p_ends_in) fun _ _ _ _ _ _ us hl => match us, hl with | [_], _ => rfl),
    (PySem.W.mg_of X G a_ends_in),
    (fun_mk (st := s_Shelf___init__) l_Shelf___init__ c_Shelf___init__ k_Shelf___init__),
    ((fun_mk (st := s_Shelf___init__) l_Shelf___init__ c_Shelf___init__ k_Shelf___init__).binds (ps := p_Shelf___init__) fun _ _ _ _ _ _ us hl => match us, hl with | [_], _ => rfl),
    (fun_mk (st := s_Shelf_want) l_Shelf_want c_Shelf_want k_Shelf_want),
    ((fun_mk (st := s_Shelf_want) l_Shelf_want c_Shelf_want k_Shelf_want).binds (ps := p_Shelf_want) fun _ _ _ _ _ _ us hl => match us, hl with | [_, _], _ => rfl),
    (⟨a_Shelf_want, i_Shelf_want, k_Shelf_want⟩),
    (fun_mk (st := s_Shelf_want_piece) l_Shelf_want_piece c_Shelf_want_piece k_Shelf_want_piece),
    ((fun_mk (st := s_Shelf_want_piece) l_Shelf_want_piece c_Shelf_want_piece k_Shelf_want_piece).binds (ps := p_Shelf_want_piece) fun _ _ _ _ _ _ us hl => match us, hl with | [_, _], _ => rfl),
    (⟨a_Shelf_want_piece, i_Shelf_want_piece, k_Shelf_want_piece⟩),
    (fun_mk (st := s_Shelf_many) l_Shelf_many c_Shelf_many k_Shelf_many),
    ((fun_mk (st := s_Shelf_many) l_Shelf_many c_Shelf_many k_Shelf_many).binds (ps := p_Shelf_many) fun _ _ _ _ _ _ us hl => match us, hl with | [_], _ => rfl),
    (⟨a_Shelf_many, i_Shelf_many, k_Shelf_many⟩),
    (fun_mk (st := s_Shelf_piece) l_Shelf_piece c_Shelf_piece k_Shelf_piece),
    ((fun_mk (st := s_Shelf_piece) l_Shelf_piece c_Shelf_piece k_Shelf_piece).binds (ps := p_Shelf_piece) fun _ _ _ _ _ _ us hl => match us, hl with | [_, _], _ => rfl),
    (⟨a_Shelf_piece, i_Shelf_piece, k_Shelf_piece⟩),
    (fun_mk (st := s_Shelf_signs) l_Shelf_signs c_Shelf_signs k_Shelf_signs),
    ((fun_mk (st := s_Shelf_signs) l_Shelf_signs c_Shelf_signs k_Shelf_signs).binds (ps := p_Shelf_signs) fun _ _ _ _ _ _ us hl => match us, hl with | [_, _], _ => rfl),
    (⟨a_Shelf_signs, i_Shelf_signs, k_Shelf_signs⟩),
    (fun_mk (st := s_Shelf_ends) l_Shelf_ends c_Shelf_ends k_Shelf_ends),
    ((fun_mk (st := s_Shelf_ends) l_Shelf_ends c_Shelf_ends k_Shelf_ends).binds (ps := p_Shelf_ends) fun _ _ _ _ _ _ us hl => match us, hl with | [_, _], _ => rfl),
    (⟨a_Shelf_ends, i_Shelf_ends, k_Shelf_ends⟩),
    (fun_mk (st := s_Shelf_leaves) l_Shelf_leaves c_Shelf_leaves k_Shelf_leaves),
    ((fun_mk (st := s_Shelf_leaves) l_Shelf_leaves c_Shelf_leaves k_Shelf_leaves).binds (ps := p_Shelf_leaves) fun _ _ _ _ _ _ us hl => match us, hl with | [_, _], _ => rfl),
    (⟨a_Shelf_leaves, i_Shelf_leaves, k_Shelf_leaves⟩),
    (fun_mk (st := s_Shelf_height) l_Shelf_height c_Shelf_height k_Shelf_height),
    ((fun_mk (st := s_Shelf_height) l_Shelf_height c_Shelf_height k_Shelf_height).binds (ps := p_Shelf_height) fun _ _ _ _ _ _ us hl => match us, hl with | [_, _], _ => rfl),
    (⟨a_Shelf_height, i_Shelf_height, k_Shelf_height⟩),
    (fun_mk (st := s_Shelf_laid) l_Shelf_laid c_Shelf_laid k_Shelf_laid),
    ((fun_mk (st := s_Shelf_laid) l_Shelf_laid c_Shelf_laid k_Shelf_laid).binds (ps := p_Shelf_laid) fun _ _ _ _ _ _ us hl => match us, hl with | [_, _, _, _, _, _], _ => rfl),
    (⟨a_Shelf_laid, i_Shelf_laid, k_Shelf_laid⟩),
    (fun_mk (st := s_Shelf_leaf) l_Shelf_leaf c_Shelf_leaf k_Shelf_leaf),
    ((fun_mk (st := s_Shelf_leaf) l_Shelf_leaf c_Shelf_leaf k_Shelf_leaf).binds (ps := p_Shelf_leaf) fun _ _ _ _ _ _ us hl => match us, hl with | [_, _], _ => rfl),
    (⟨a_Shelf_leaf, i_Shelf_leaf, k_Shelf_leaf⟩),
    (fun_mk (st := s_Shelf_fork) l_Shelf_fork c_Shelf_fork k_Shelf_fork),
    ((fun_mk (st := s_Shelf_fork) l_Shelf_fork c_Shelf_fork k_Shelf_fork).binds (ps := p_Shelf_fork) fun _ _ _ _ _ _ us hl => match us, hl with | [_, _, _], _ => rfl),
    (⟨a_Shelf_fork, i_Shelf_fork, k_Shelf_fork⟩),
    (fun_mk (st := s_Shelf_is_loose) l_Shelf_is_loose c_Shelf_is_loose k_Shelf_is_loose),
    ((fun_mk (st := s_Shelf_is_loose) l_Shelf_is_loose c_Shelf_is_loose k_Shelf_is_loose).binds (ps := p_Shelf_is_loose) fun _ _ _ _ _ _ us hl => match us, hl with | [_, _, _], _ => rfl),
    (⟨a_Shelf_is_loose, i_Shelf_is_loose, k_Shelf_is_loose⟩),
    (fun_mk (st := s_written) l_written c_written k_written),
    ((fun_mk (st := s_written) l_written c_written k_written).binds (ps := p_written) fun _ _ _ _ _ _ us hl => match us, hl with | [_], _ => rfl),
    (PySem.W.mg_of X G a_written),
    (fun_mk (st := s_piece_row) l_piece_row c_piece_row k_piece_row),
    ((fun_mk (st := s_piece_row) l_piece_row c_piece_row k_piece_row).binds (ps := p_piece_row) fun _ _ _ _ _ _ us hl => match us, hl with | [_], _ => rfl),
    (PySem.W.mg_of X G a_piece_row),
    (fun_mk (st := s_shelf_text) l_shelf_text c_shelf_text k_shelf_text),
    ((fun_mk (st := s_shelf_text) l_shelf_text c_shelf_text k_shelf_text).binds (ps := p_shelf_text) fun _ _ _ _ _ _ us hl => match us, hl with | [_], _ => rfl),
    (PySem.W.mg_of X G a_shelf_text),
    (fun_mk (st := s__law_mixed) l__law_mixed c__law_mixed k__law_mixed),
    ((fun_mk (st := s__law_mixed) l__law_mixed c__law_mixed k__law_mixed).binds (ps := p__law_mixed) fun _ _ _ _ _ _ us hl => match us, hl with | [_, _], _ => rfl),
    (PySem.W.mg_of X G a__law_mixed),
    (fun_mk (st := s__law_stream) l__law_stream c__law_stream k__law_stream),
    ((fun_mk (st := s__law_stream) l__law_stream c__law_stream k__law_stream).binds (ps := p__law_stream) fun _ _ _ _ _ _ us hl => match us, hl with | [_, _], _ => rfl),
    (PySem.W.mg_of X G a__law_stream),
    (fun_mk (st := s__law_digit) l__law_digit c__law_digit k__law_digit),
    ((fun_mk (st := s__law_digit) l__law_digit c__law_digit k__law_digit).binds (ps := p__law_digit) fun _ _ _ _ _ _ us hl => match us, hl with | [_, _], _ => rfl),
    (PySem.W.mg_of X G a__law_digit),
    (fun_mk (st := s__law_letters) l__law_letters c__law_letters k__law_letters),
    ((fun_mk (st := s__law_letters) l__law_letters c__law_letters k__law_letters).binds (ps := p__law_letters) fun _ _ _ _ _ _ us hl => match us, hl with | [_], _ => rfl),
    (PySem.W.mg_of X G a__law_letters),
    (fun_mk (st := s__law_tree) l__law_tree c__law_tree k__law_tree),
    ((fun_mk (st := s__law_tree) l__law_tree c__law_tree k__law_tree).binds (ps := p__law_tree) fun _ _ _ _ _ _ us hl => match us, hl with | [_, _, _, _, _], _ => rfl),
    (PySem.W.mg_of X G a__law_tree),
    (fun_mk (st := s__law_text) l__law_text c__law_text k__law_text),
    ((fun_mk (st := s__law_text) l__law_text c__law_text k__law_text).binds (ps := p__law_text) fun _ _ _ _ _ _ us hl => match us, hl with | [_, _, _], _ => rfl),
    (PySem.W.mg_of X G a__law_text),
    (fun_mk (st := s__law_long) l__law_long c__law_long k__law_long),
    ((fun_mk (st := s__law_long) l__law_long c__law_long k__law_long).binds (ps := p__law_long) fun _ _ _ _ _ _ us hl => match us, hl with | [_, _], _ => rfl),
    (PySem.W.mg_of X G a__law_long),
    (fun_mk (st := s__law_drawn_shelf) l__law_drawn_shelf c__law_drawn_shelf k__law_drawn_shelf),
    ((fun_mk (st := s__law_drawn_shelf) l__law_drawn_shelf c__law_drawn_shelf k__law_drawn_shelf).binds (ps := p__law_drawn_shelf) fun _ _ _ _ _ _ us hl => match us, hl with | [_], _ => rfl),
    (PySem.W.mg_of X G a__law_drawn_shelf),
    (fun_mk (st := s__law_written) l__law_written c__law_written k__law_written),
    ((fun_mk (st := s__law_written) l__law_written c__law_written k__law_written).binds (ps := p__law_written) fun _ _ _ _ _ _ us hl => match us, hl with | [_], _ => rfl),
    (PySem.W.mg_of X G a__law_written),
    (fun_mk (st := s__law_shelf_text) l__law_shelf_text c__law_shelf_text k__law_shelf_text),
    ((fun_mk (st := s__law_shelf_text) l__law_shelf_text c__law_shelf_text k__law_shelf_text).binds (ps := p__law_shelf_text) fun _ _ _ _ _ _ us hl => match us, hl with | [_], _ => rfl),
    (PySem.W.mg_of X G a__law_shelf_text),
    (fun_mk (st := s_law) l_law c_law k_law),
    ((fun_mk (st := s_law) l_law c_law k_law).binds (ps := p_law) fun _ _ _ _ _ _ us hl => match us, hl with | [_], _ => rfl),
    (PySem.W.mg_of X G a_law),
    (kint_of X G kc_MOST_IN_LEAF),
    (kl_MOST_SIGNS),
    (PySem.W.mg_none_of X G z_len),
    (PySem.W.mg_none_of X G z_max),
    (PySem.W.mg_none_of X G z_min),
    (PySem.W.mg_none_of X G z_range),
    (PySem.W.mg_none_of X G z_isinstance),
    (PySem.W.mg_none_of X G z_all),
    (PySem.W.mg_none_of X G z_sum),
    (PySem.W.mg_none_of X G z_str),
    (PySem.W.mg_none_of X G z_int)⟩
  exact ⟨PySem.W.fnOf "law" "law" (defArgs s_law) (defBody s_law) (defScope s_law) .none kV_law dc_law pm_law an_law cd_law ct_law, fun s v => .of_eq rfl, fun base _ _ => ok_law T⟩
end Sk
open PySem PySem.W PyProof.Rows
set_option maxRecDepth 100000 in
set_option maxHeartbeats 0 in
theorem PySem.Challenge.cw_skeinwood_k86_shelves_written_holds : PySem.Challenge.rw_skeinwood_k86_shelves_written.Holds := by
  w_on; o_law; k_head; (case hw => w_witness2)
  k_fill
  refine Sk.walkX (l := PySem.Challenge.rw_skeinwood_k86_shelves_written) (k := 17) (sp := fun K => Sk.spLaw K) rfl rfl ⟨rfl, by decide, by decide⟩ (fun w h Y => PySem.W.kIn_of Y) ?F (fun K H a ns h1 h2 => ⟨a, ns, rfl, h2, h1, fun _ => rfl⟩)
  case F =>
    intro w mg fa h KX G XP hmg
    refine' Sk.all_mk KX G hmg (Sk.kint_loose XP (by simp)) ?aC_Shelf ?pg_Shelf ?hd_Shelf ?po_Shelf ?sa_Shelf ?na_Shelf_pieces ?na_Shelf_numbers ?na_Shelf_told_signs ?na_Shelf_told_ends ?na_Shelf_told_leaves ?na_Shelf_told_heights ?na_Shelf_firsts ?na_Shelf_lasts ?mk_Shelf ?kc_Shelf ?eg_Loose ?ex_Loose ?ek_Loose ?eb_Loose ?et_Loose ?eg_NoPiece ?ex_NoPiece ?ek_NoPiece ?eb_NoPiece ?et_NoPiece ?eg_NoText ?ex_NoText ?ek_NoText ?eb_NoText ?et_NoText ?eg_TooLong ?ex_TooLong ?ek_TooLong ?eb_TooLong ?et_TooLong ?eg_Unlevel ?ex_Unlevel ?ek_Unlevel ?eb_Unlevel ?et_Unlevel ?a_is_plain ?l_is_plain ?c_is_plain ?k_is_plain ?a_ends_in ?l_ends_in ?c_ends_in ?k_ends_in ?a_Shelf___init__ ?i_Shelf___init__ ?l_Shelf___init__ ?c_Shelf___init__ ?k_Shelf___init__ ?a_Shelf_want ?i_Shelf_want ?l_Shelf_want ?c_Shelf_want ?k_Shelf_want ?a_Shelf_want_piece ?i_Shelf_want_piece ?l_Shelf_want_piece ?c_Shelf_want_piece ?k_Shelf_want_piece ?a_Shelf_many ?i_Shelf_many ?l_Shelf_many ?c_Shelf_many ?k_Shelf_many ?a_Shelf_piece ?i_Shelf_piece ?l_Shelf_piece ?c_Shelf_piece ?k_Shelf_piece ?a_Shelf_signs ?i_Shelf_signs ?l_Shelf_signs ?c_Shelf_signs ?k_Shelf_signs ?a_Shelf_ends ?i_Shelf_ends ?l_Shelf_ends ?c_Shelf_ends ?k_Shelf_ends ?a_Shelf_leaves ?i_Shelf_leaves ?l_Shelf_leaves ?c_Shelf_leaves ?k_Shelf_leaves ?a_Shelf_height ?i_Shelf_height ?l_Shelf_height ?c_Shelf_height ?k_Shelf_height ?a_Shelf_laid ?i_Shelf_laid ?l_Shelf_laid ?c_Shelf_laid ?k_Shelf_laid ?a_Shelf_leaf ?i_Shelf_leaf ?l_Shelf_leaf ?c_Shelf_leaf ?k_Shelf_leaf ?a_Shelf_fork ?i_Shelf_fork ?l_Shelf_fork ?c_Shelf_fork ?k_Shelf_fork ?a_Shelf_is_loose ?i_Shelf_is_loose ?l_Shelf_is_loose ?c_Shelf_is_loose ?k_Shelf_is_loose ?a_written ?l_written ?c_written ?k_written ?a_piece_row ?l_piece_row ?c_piece_row ?k_piece_row ?a_shelf_text ?l_shelf_text ?c_shelf_text ?k_shelf_text ?a__law_mixed ?l__law_mixed ?c__law_mixed ?k__law_mixed ?a__law_stream ?l__law_stream ?c__law_stream ?k__law_stream ?a__law_digit ?l__law_digit ?c__law_digit ?k__law_digit ?a__law_letters ?l__law_letters ?c__law_letters ?k__law_letters ?a__law_tree ?l__law_tree ?c__law_tree ?k__law_tree ?a__law_text ?l__law_text ?c__law_text ?k__law_text ?a__law_long ?l__law_long ?c__law_long ?k__law_long ?a__law_drawn_shelf ?l__law_drawn_shelf ?c__law_drawn_shelf ?k__law_drawn_shelf ?a__law_written ?l__law_written ?c__law_written ?k__law_written ?a__law_shelf_text ?l__law_shelf_text ?c__law_shelf_text ?k__law_shelf_text ?a_law ?l_law ?c_law ?k_law ?kc_MOST_IN_LEAF ?z_len ?z_max ?z_min ?z_range ?z_isinstance ?z_all ?z_sum ?z_str ?z_int
    (case aC_Shelf => k_is)
    (case pg_Shelf => k_is)
    (case hd_Shelf => k_is)
    (case po_Shelf => k_is)
    (case sa_Shelf => k_is)
    (case na_Shelf_pieces => k_is)
    (case na_Shelf_numbers => k_is)
    (case na_Shelf_told_signs => k_is)
    (case na_Shelf_told_ends => k_is)
    (case na_Shelf_told_leaves => k_is)
    (case na_Shelf_told_heights => k_is)
    (case na_Shelf_firsts => k_is)
    (case na_Shelf_lasts => k_is)
    (case mk_Shelf => k_is)
    (case kc_Shelf => k_is)
    (case eg_Loose => k_is)
    (case ex_Loose => k_exc)
    (case ek_Loose => k_is)
    (case eb_Loose => k_is)
    (case et_Loose => k_is)
    (case eg_NoPiece => k_is)
    (case ex_NoPiece => k_exc)
    (case ek_NoPiece => k_is)
    (case eb_NoPiece => k_is)
    (case et_NoPiece => k_is)
    (case eg_NoText => k_is)
    (case ex_NoText => k_exc)
    (case ek_NoText => k_is)
    (case eb_NoText => k_is)
    (case et_NoText => k_is)
    (case eg_TooLong => k_is)
    (case ex_TooLong => k_exc)
    (case ek_TooLong => k_is)
    (case eb_TooLong => k_is)
    (case et_TooLong => k_is)
    (case eg_Unlevel => k_is)
    (case ex_Unlevel => k_exc)
    (case ek_Unlevel => k_is)
    (case eb_Unlevel => k_is)
    (case et_Unlevel => k_is)
    (case a_is_plain => k_is)
    (case l_is_plain => k_is)
    (case c_is_plain => k_is)
    (case k_is_plain => k_is)
    (case a_ends_in => k_is)
    (case l_ends_in => k_is)
    (case c_ends_in => k_is)
    (case k_ends_in => k_is)
    (case a_Shelf___init__ => k_is)
    (case i_Shelf___init__ => k_is)
    (case l_Shelf___init__ => k_is)
    (case c_Shelf___init__ => k_is)
    (case k_Shelf___init__ => k_is)
    (case a_Shelf_want => k_is)
    (case i_Shelf_want => k_is)
    (case l_Shelf_want => k_is)
    (case c_Shelf_want => k_is)
    (case k_Shelf_want => k_is)
    (case a_Shelf_want_piece => k_is)
    (case i_Shelf_want_piece => k_is)
    (case l_Shelf_want_piece => k_is)
    (case c_Shelf_want_piece => k_is)
    (case k_Shelf_want_piece => k_is)
    (case a_Shelf_many => k_is)
    (case i_Shelf_many => k_is)
    (case l_Shelf_many => k_is)
    (case c_Shelf_many => k_is)
    (case k_Shelf_many => k_is)
    (case a_Shelf_piece => k_is)
    (case i_Shelf_piece => k_is)
    (case l_Shelf_piece => k_is)
    (case c_Shelf_piece => k_is)
    (case k_Shelf_piece => k_is)
    (case a_Shelf_signs => k_is)
    (case i_Shelf_signs => k_is)
    (case l_Shelf_signs => k_is)
    (case c_Shelf_signs => k_is)
    (case k_Shelf_signs => k_is)
    (case a_Shelf_ends => k_is)
    (case i_Shelf_ends => k_is)
    (case l_Shelf_ends => k_is)
    (case c_Shelf_ends => k_is)
    (case k_Shelf_ends => k_is)
    (case a_Shelf_leaves => k_is)
    (case i_Shelf_leaves => k_is)
    (case l_Shelf_leaves => k_is)
    (case c_Shelf_leaves => k_is)
    (case k_Shelf_leaves => k_is)
    (case a_Shelf_height => k_is)
    (case i_Shelf_height => k_is)
    (case l_Shelf_height => k_is)
    (case c_Shelf_height => k_is)
    (case k_Shelf_height => k_is)
    (case a_Shelf_laid => k_is)
    (case i_Shelf_laid => k_is)
    (case l_Shelf_laid => k_is)
    (case c_Shelf_laid => k_is)
    (case k_Shelf_laid => k_is)
    (case a_Shelf_leaf => k_is)
    (case i_Shelf_leaf => k_is)
    (case l_Shelf_leaf => k_is)
    (case c_Shelf_leaf => k_is)
    (case k_Shelf_leaf => k_is)
    (case a_Shelf_fork => k_is)
    (case i_Shelf_fork => k_is)
    (case l_Shelf_fork => k_is)
    (case c_Shelf_fork => k_is)
    (case k_Shelf_fork => k_is)
    (case a_Shelf_is_loose => k_is)
    (case i_Shelf_is_loose => k_is)
    (case l_Shelf_is_loose => k_is)
    (case c_Shelf_is_loose => k_is)
    (case k_Shelf_is_loose => k_is)
    (case a_written => k_is)
    (case l_written => k_is)
    (case c_written => k_is)
    (case k_written => k_is)
    (case a_piece_row => k_is)
    (case l_piece_row => k_is)
    (case c_piece_row => k_is)
    (case k_piece_row => k_is)
    (case a_shelf_text => k_is)
    (case l_shelf_text => k_is)
    (case c_shelf_text => k_is)
    (case k_shelf_text => k_is)
    (case a__law_mixed => k_is)
    (case l__law_mixed => k_is)
    (case c__law_mixed => k_is)
    (case k__law_mixed => k_is)
    (case a__law_stream => k_is)
    (case l__law_stream => k_is)
    (case c__law_stream => k_is)
    (case k__law_stream => k_is)
    (case a__law_digit => k_is)
    (case l__law_digit => k_is)
    (case c__law_digit => k_is)
    (case k__law_digit => k_is)
    (case a__law_letters => k_is)
    (case l__law_letters => k_is)
    (case c__law_letters => k_is)
    (case k__law_letters => k_is)
    (case a__law_tree => k_is)
    (case l__law_tree => k_is)
    (case c__law_tree => k_is)
    (case k__law_tree => k_is)
    (case a__law_text => k_is)
    (case l__law_text => k_is)
    (case c__law_text => k_is)
    (case k__law_text => k_is)
    (case a__law_long => k_is)
    (case l__law_long => k_is)
    (case c__law_long => k_is)
    (case k__law_long => k_is)
    (case a__law_drawn_shelf => k_is)
    (case l__law_drawn_shelf => k_is)
    (case c__law_drawn_shelf => k_is)
    (case k__law_drawn_shelf => k_is)
    (case a__law_written => k_is)
    (case l__law_written => k_is)
    (case c__law_written => k_is)
    (case k__law_written => k_is)
    (case a__law_shelf_text => k_is)
    (case l__law_shelf_text => k_is)
    (case c__law_shelf_text => k_is)
    (case k__law_shelf_text => k_is)
    (case a_law => k_is)
    (case l_law => k_is)
    (case c_law => k_is)
    (case k_law => k_is)
    (case kc_MOST_IN_LEAF => k_is)
    (case z_len => k_is)
    (case z_max => k_is)
    (case z_min => k_is)
    (case z_range => k_is)
    (case z_isinstance => k_is)
    (case z_all => k_is)
    (case z_sum => k_is)
    (case z_str => k_is)
    (case z_int => k_is)
#print axioms PySem.Challenge.cw_skeinwood_k86_shelves_written_holds
