import PyProof.Rows.All
import Wide.All
import OpenK.AllK
import Wide.FinOn
import HandS.ForMost
import HandS.ForExc
import HandS.FStr
import HandS.ReplaceList
import HandS.Replace
import HandS.IsInst
import HandS.Wide
import HandS.SortInts
import HandS.Conv
import HandS.TryMany
import HandS.DictTup
import HandS.TupLen
import HandS.Flow
import HandS.Style
import HandS.StrMore
import HandS.StrSplit
import HandS.Codes
import HandS.Small
import HandS.More
import HandS.RaiseMore
import HandS.ReplaceLit
import HandS.ReplaceDef
import HandS.Walk
import KE.KDictList
import KE.KDictSum
import HandS.ExcIs
import KE.GoesMore
import KE.KTryMore
import PySem.Challenge.RW_skeinwood_k87_shelves_read
set_option Elab.async false
set_option linter.all false
set_option maxRecDepth 100000
set_option maxHeartbeats 4000000

/-! Trees of pieces: the plain mathematics, no program in sight. -/
namespace Sk

inductive Tr where
  | lf (l : List Nat)
  | fk (a b : Tr)
  deriving DecidableEq

namespace Tr
def txt : Tr → List Nat
  | lf l => l
  | fk a b => a.txt ++ b.txt
def sg : Tr → Nat
  | lf l => l.length
  | fk a b => a.sg + b.sg
def en : Tr → Nat
  | lf l => l.count 10
  | fk a b => a.en + b.en
def lv : Tr → Nat
  | lf _ => 1
  | fk a b => a.lv + b.lv
def ht : Tr → Nat
  | lf _ => 0
  | fk a b => 1 + max a.ht b.ht
def fi : Tr → Tr
  | lf l => lf l
  | fk a _ => a.fi
def la : Tr → Tr
  | lf l => lf l
  | fk _ b => b.la
def sz : Tr → Nat
  | lf _ => 1
  | fk a b => 1 + a.sz + b.sz
end Tr
open Tr

def plainC (c : Nat) : Prop := (32 ≤ c ∧ c ≤ 126) ∨ c = 10
instance (c : Nat) : Decidable (plainC c) := by unfold plainC; infer_instance
def Plain (l : List Nat) : Prop := ∀ c ∈ l, plainC c
instance (l : List Nat) : Decidable (Plain l) := by unfold Plain; infer_instance

def mostSg : Nat := 1000000000000000000

def Ok : Tr → Prop
  | lf l => 1 ≤ l.length ∧ l.length ≤ 8 ∧ Plain l
  | fk a b => Ok a ∧ Ok b ∧ a.ht ≤ b.ht + 1 ∧ b.ht ≤ a.ht + 1 ∧ 8 < a.la.sg + b.fi.sg ∧ a.sg + b.sg ≤ mostSg

@[simp] theorem sg_txt : ∀ t : Tr, t.txt.length = t.sg
  | lf l => rfl
  | fk a b => by simp [Tr.txt, Tr.sg, sg_txt a, sg_txt b]
theorem en_txt : ∀ t : Tr, t.txt.count 10 = t.en
  | lf l => rfl
  | fk a b => by simp [Tr.txt, Tr.en, en_txt a, en_txt b]
theorem fi_leaf : ∀ t : Tr, ∃ l, t.fi = lf l
  | lf l => ⟨l, rfl⟩
  | fk a b => fi_leaf a
theorem la_leaf : ∀ t : Tr, ∃ l, t.la = lf l
  | lf l => ⟨l, rfl⟩
  | fk a b => la_leaf b
theorem Ok.fi : ∀ {t : Tr}, Ok t → Ok t.fi
  | lf l, h => h
  | fk a b, h => Ok.fi (t := a) h.1
theorem Ok.la : ∀ {t : Tr}, Ok t → Ok t.la
  | lf l, h => h
  | fk a b, h => Ok.la (t := b) h.2.1
theorem Ok.plain : ∀ {t : Tr}, Ok t → Plain t.txt
  | lf l, h => h.2.2
  | fk a b, h => by
    intro c hc
    rcases List.mem_append.mp hc with hc | hc
    · exact Ok.plain (t := a) h.1 c hc
    · exact Ok.plain (t := b) h.2.1 c hc
theorem Ok.pos : ∀ {t : Tr}, Ok t → 1 ≤ t.sg
  | lf l, h => h.1
  | fk a b, h => by have := Ok.pos (t := a) h.1; show 1 ≤ a.sg + b.sg; omega
theorem Ok.most : ∀ {t : Tr}, Ok t → t.sg ≤ mostSg
  | lf l, h => by have := h.2.1; show l.length ≤ mostSg; unfold mostSg; omega
  | fk a b, h => h.2.2.2.2.2
theorem fi_sg_le : ∀ t : Tr, t.fi.sg ≤ t.sg
  | lf l => Nat.le_refl _
  | fk a b => by have := fi_sg_le a; show a.fi.sg ≤ a.sg + b.sg; omega
theorem la_sg_le : ∀ t : Tr, t.la.sg ≤ t.sg
  | lf l => Nat.le_refl _
  | fk a b => by have := la_sg_le b; show b.la.sg ≤ a.sg + b.sg; omega
theorem ht_lf {l : List Nat} : (lf l).ht = 0 := rfl
theorem ht_fk {a b : Tr} : (fk a b).ht = 1 + max a.ht b.ht := rfl
theorem ht_pos {t : Tr} (h : t.ht ≠ 0) : ∃ a b, t = fk a b := by
  cases t with
  | lf l => exact absurd rfl h
  | fk a b => exact ⟨a, b, rfl⟩
theorem ht_zero {t : Tr} (h : t.ht = 0) : ∃ l, t = lf l := by
  cases t with
  | lf l => exact ⟨l, rfl⟩
  | fk a b => rw [ht_fk] at h; omega
theorem fi_fi : ∀ t : Tr, t.fi.fi = t.fi
  | lf l => rfl
  | fk a b => fi_fi a
theorem la_la : ∀ t : Tr, t.la.la = t.la
  | lf l => rfl
  | fk a b => la_la b

/-! ### the functions of stage 6 -/
def turnedR (a b : Tr) : Tr := match b with
  | fk inner outer => if inner.ht ≤ outer.ht then fk (fk a inner) outer else match inner with
    | fk l r => fk (fk a l) (fk r outer)
    | lf _ => fk a b
  | lf _ => fk a b
def turnedL (a b : Tr) : Tr := match a with
  | fk outer inner => if inner.ht ≤ outer.ht then fk outer (fk inner b) else match inner with
    | fk l r => fk (fk outer l) (fk r b)
    | lf _ => fk a b
  | lf _ => fk a b
def levelled (a b : Tr) : Tr :=
  if a.ht + 1 < b.ht then turnedR a b else if b.ht + 1 < a.ht then turnedL a b else fk a b
/-- how many forks are asked for -/
def clev (a b : Tr) : Nat := if a.ht + 1 < b.ht then 3 else if b.ht + 1 < a.ht then 3 else 1

def linkedF : Nat → Tr → Tr → Tr
  | 0, a, b => fk a b
  | n + 1, a, b =>
    if b.ht + 1 < a.ht then match a with
      | fk f l => levelled f (linkedF n l b)
      | lf _ => fk a b
    else if a.ht + 1 < b.ht then match b with
      | fk f l => levelled (linkedF n a f) l
      | lf _ => fk a b
    else fk a b
def linked (a b : Tr) : Tr := linkedF (a.ht + b.ht) a b
def clinkF : Nat → Tr → Tr → Nat
  | 0, _, _ => 1
  | n + 1, a, b =>
    if b.ht + 1 < a.ht then match a with
      | fk f l => clinkF n l b + clev f (linkedF n l b)
      | lf _ => 1
    else if a.ht + 1 < b.ht then match b with
      | fk f l => clinkF n a f + clev (linkedF n a f) l
      | lf _ => 1
    else 1
def clink (a b : Tr) : Nat := clinkF (a.ht + b.ht) a b

theorem linkedF_L {n : Nat} {f l b : Tr} (e : b.ht + 1 < (fk f l).ht) : linkedF (n + 1) (fk f l) b = levelled f (linkedF n l b) := by
  show (if b.ht + 1 < (fk f l).ht then _ else _) = _
  exact if_pos e
theorem clinkF_L {n : Nat} {f l b : Tr} (e : b.ht + 1 < (fk f l).ht) : clinkF (n + 1) (fk f l) b = clinkF n l b + clev f (linkedF n l b) := by
  show (if b.ht + 1 < (fk f l).ht then _ else _) = _
  exact if_pos e
theorem linkedF_R {n : Nat} {a f l : Tr} (e : a.ht + 1 < (fk f l).ht) : linkedF (n + 1) a (fk f l) = levelled (linkedF n a f) l := by
  rw [linkedF.eq_def]
  simp only
  rw [if_neg (by omega), if_pos e]
theorem clinkF_R {n : Nat} {a f l : Tr} (e : a.ht + 1 < (fk f l).ht) : clinkF (n + 1) a (fk f l) = clinkF n a f + clev (linkedF n a f) l := by
  rw [clinkF.eq_def]
  simp only
  rw [if_neg (by omega), if_pos e]
theorem linkedF_M {n : Nat} {a b : Tr} (e1 : ¬ b.ht + 1 < a.ht) (e2 : ¬ a.ht + 1 < b.ht) : linkedF n a b = fk a b := by
  cases n with
  | zero => rfl
  | succ n => rw [linkedF.eq_def]; simp only; rw [if_neg e1, if_neg e2]
theorem clinkF_M {n : Nat} {a b : Tr} (e1 : ¬ b.ht + 1 < a.ht) (e2 : ¬ a.ht + 1 < b.ht) : clinkF n a b = 1 := by
  cases n with
  | zero => rfl
  | succ n => rw [clinkF.eq_def]; simp only; rw [if_neg e1, if_neg e2]
theorem linkedF_more : ∀ (n m : Nat) (a b : Tr), a.ht + b.ht ≤ n → a.ht + b.ht ≤ m → linkedF n a b = linkedF m a b ∧ clinkF n a b = clinkF m a b := by
  intro n
  induction n with
  | zero =>
    intro m a b h1 h2
    have e1 : ¬ b.ht + 1 < a.ht := by omega
    have e2 : ¬ a.ht + 1 < b.ht := by omega
    rw [linkedF_M e1 e2, linkedF_M e1 e2, clinkF_M e1 e2, clinkF_M e1 e2]
    exact ⟨rfl, rfl⟩
  | succ n ih =>
    intro m a b h1 h2
    by_cases e1 : b.ht + 1 < a.ht
    · cases m with
      | zero => omega
      | succ m =>
        cases a with
        | lf l => rw [ht_lf] at e1; omega
        | fk f l =>
          have k : (fk f l).ht = 1 + max f.ht l.ht := rfl
          have := ih m l b (by omega) (by omega)
          rw [linkedF_L e1, linkedF_L e1, clinkF_L e1, clinkF_L e1, this.1, this.2]
          exact ⟨rfl, rfl⟩
    · by_cases e2 : a.ht + 1 < b.ht
      · cases m with
        | zero => omega
        | succ m =>
          cases b with
          | lf l => rw [ht_lf] at e2; omega
          | fk f l =>
            have k : (fk f l).ht = 1 + max f.ht l.ht := rfl
            have := ih m a f (by omega) (by omega)
            rw [linkedF_R e2, linkedF_R e2, clinkF_R e2, clinkF_R e2, this.1, this.2]
            exact ⟨rfl, rfl⟩
      · rw [linkedF_M e1 e2, linkedF_M e1 e2, clinkF_M e1 e2, clinkF_M e1 e2]
        exact ⟨rfl, rfl⟩

theorem linked_left {f l b : Tr} (h : b.ht + 1 < (fk f l).ht) : linked (fk f l) b = levelled f (linked l b) ∧ clink (fk f l) b = clink l b + clev f (linked l b) := by
  unfold linked clink
  have e : (fk f l).ht = 1 + max f.ht l.ht := rfl
  obtain ⟨m, hm⟩ : ∃ m, (fk f l).ht + b.ht = m + 1 := ⟨(fk f l).ht + b.ht - 1, by omega⟩
  have := linkedF_more m (l.ht + b.ht) l b (by omega) (Nat.le_refl _)
  rw [hm, linkedF_L h, clinkF_L h, this.1, this.2]
  exact ⟨rfl, rfl⟩
theorem linked_right {a f l : Tr} (h : a.ht + 1 < (fk f l).ht) : linked a (fk f l) = levelled (linked a f) l ∧ clink a (fk f l) = clink a f + clev (linked a f) l := by
  unfold linked clink
  have e : (fk f l).ht = 1 + max f.ht l.ht := rfl
  obtain ⟨m, hm⟩ : ∃ m, a.ht + (fk f l).ht = m + 1 := ⟨a.ht + (fk f l).ht - 1, by omega⟩
  have := linkedF_more m (a.ht + f.ht) a f (by omega) (Nat.le_refl _)
  rw [hm, linkedF_R h, clinkF_R h, this.1, this.2]
  exact ⟨rfl, rfl⟩
theorem linked_mid {a b : Tr} (h1 : ¬ b.ht + 1 < a.ht) (h2 : ¬ a.ht + 1 < b.ht) : linked a b = fk a b ∧ clink a b = 1 :=
  ⟨linkedF_M h1 h2, clinkF_M h1 h2⟩
theorem turnedR_hi {a inner outer : Tr} (h : inner.ht ≤ outer.ht) : turnedR a (fk inner outer) = fk (fk a inner) outer := by simp [turnedR, h]
theorem turnedR_lo {a l r outer : Tr} (h : ¬ (fk l r).ht ≤ outer.ht) : turnedR a (fk (fk l r) outer) = fk (fk a l) (fk r outer) := by simp [turnedR, h]
theorem turnedL_hi {b inner outer : Tr} (h : inner.ht ≤ outer.ht) : turnedL (fk outer inner) b = fk outer (fk inner b) := by simp [turnedL, h]
theorem turnedL_lo {b l r outer : Tr} (h : ¬ (fk l r).ht ≤ outer.ht) : turnedL (fk outer (fk l r)) b = fk (fk outer l) (fk r b) := by simp [turnedL, h]

/-- what is needed of two texts that are put together -/
structure Jn (a b : Tr) : Prop where
  oa : Ok a
  ob : Ok b
  cl : 8 < a.la.sg + b.fi.sg
  sg : a.sg + b.sg ≤ mostSg

theorem fkOk {a b : Tr} (j : Jn a b) (h1 : a.ht ≤ b.ht + 1) (h2 : b.ht ≤ a.ht + 1) : Ok (fk a b) := ⟨j.oa, j.ob, h1, h2, j.cl, j.sg⟩

structure LevOk (a b t : Tr) (lo hi : Nat) : Prop where
  ok : Ok t
  tx : t.txt = a.txt ++ b.txt
  fi : t.fi = a.fi
  la : t.la = b.la
  lo : lo ≤ t.ht
  hi : t.ht ≤ hi
theorem LevOk.sg {a b t : Tr} {lo hi : Nat} (h : LevOk a b t lo hi) : t.sg = a.sg + b.sg := by
  rw [← sg_txt t, h.tx, List.length_append, sg_txt, sg_txt]

theorem levelled_ok {a b : Tr} (j : Jn a b) (h1 : a.ht ≤ b.ht + 2) (h2 : b.ht ≤ a.ht + 2) : LevOk a b (levelled a b) (max a.ht b.ht) (max a.ht b.ht + 1) := by
  obtain ⟨oa, ob, cl, sg⟩ := j
  unfold levelled
  by_cases e1 : a.ht + 1 < b.ht
  · rw [if_pos e1]
    cases b with
    | lf l => rw [ht_lf] at e1; omega
    | fk inner outer =>
      obtain ⟨oi, oo, l1, l2, c2, s2⟩ := id ob
      have eb : (fk inner outer).ht = 1 + max inner.ht outer.ht := rfl
      have es : (fk inner outer).sg = inner.sg + outer.sg := rfl
      have ef : (fk inner outer).fi = inner.fi := rfl
      rw [ef] at cl
      by_cases e2 : inner.ht ≤ outer.ht
      · rw [turnedR_hi e2]
        have k1 : (fk a inner).ht = 1 + max a.ht inner.ht := rfl
        have k2 : (fk (fk a inner) outer).ht = 1 + max (fk a inner).ht outer.ht := rfl
        refine ⟨⟨⟨oa, oi, ?_, ?_, cl, ?_⟩, oo, ?_, ?_, c2, ?_⟩, ?_, rfl, rfl, ?_, ?_⟩
        all_goals first | omega | skip
        · show a.sg + inner.sg + outer.sg ≤ mostSg; omega
        · show (a.txt ++ inner.txt) ++ outer.txt = a.txt ++ (inner.txt ++ outer.txt)
          rw [List.append_assoc]
      · cases inner with
        | lf l => rw [ht_lf] at e2; omega
        | fk l r =>
          rw [turnedR_lo e2]
          obtain ⟨ol, or_, m1, m2, c3, s3⟩ := id oi
          have ei : (fk l r).ht = 1 + max l.ht r.ht := rfl
          have ei' : (fk l r).sg = l.sg + r.sg := rfl
          have ef' : (fk l r).fi = l.fi := rfl
          have el' : (fk l r).la = r.la := rfl
          rw [ef'] at cl
          rw [el'] at c2
          have k1 : (fk a l).ht = 1 + max a.ht l.ht := rfl
          have k2 : (fk r outer).ht = 1 + max r.ht outer.ht := rfl
          have k3 : (fk (fk a l) (fk r outer)).ht = 1 + max (fk a l).ht (fk r outer).ht := rfl
          refine ⟨⟨⟨oa, ol, ?_, ?_, cl, ?_⟩, ⟨or_, oo, ?_, ?_, c2, ?_⟩, ?_, ?_, c3, ?_⟩, ?_, rfl, rfl, ?_, ?_⟩
          all_goals first | omega | skip
          · show a.sg + l.sg + (r.sg + outer.sg) ≤ mostSg; omega
          · show (a.txt ++ l.txt) ++ (r.txt ++ outer.txt) = a.txt ++ ((l.txt ++ r.txt) ++ outer.txt)
            simp only [List.append_assoc]
  · rw [if_neg e1]
    by_cases e3 : b.ht + 1 < a.ht
    · rw [if_pos e3]
      cases a with
      | lf l => rw [ht_lf] at e3; omega
      | fk outer inner =>
        obtain ⟨oo, oi, l1, l2, c2, s2⟩ := id oa
        have eb : (fk outer inner).ht = 1 + max outer.ht inner.ht := rfl
        have es : (fk outer inner).sg = outer.sg + inner.sg := rfl
        have ef : (fk outer inner).la = inner.la := rfl
        rw [ef] at cl
        by_cases e2 : inner.ht ≤ outer.ht
        · rw [turnedL_hi e2]
          have k1 : (fk inner b).ht = 1 + max inner.ht b.ht := rfl
          have k2 : (fk outer (fk inner b)).ht = 1 + max outer.ht (fk inner b).ht := rfl
          refine ⟨⟨oo, ⟨oi, ob, ?_, ?_, cl, ?_⟩, ?_, ?_, c2, ?_⟩, ?_, rfl, rfl, ?_, ?_⟩
          all_goals first | omega | skip
          · show outer.sg + (inner.sg + b.sg) ≤ mostSg; omega
          · show outer.txt ++ (inner.txt ++ b.txt) = (outer.txt ++ inner.txt) ++ b.txt
            rw [List.append_assoc]
        · cases inner with
          | lf l => rw [ht_lf] at e2; omega
          | fk l r =>
            rw [turnedL_lo e2]
            obtain ⟨ol, or_, m1, m2, c3, s3⟩ := id oi
            have ei : (fk l r).ht = 1 + max l.ht r.ht := rfl
            have ei' : (fk l r).sg = l.sg + r.sg := rfl
            have ef' : (fk l r).fi = l.fi := rfl
            have el' : (fk l r).la = r.la := rfl
            rw [el'] at cl
            rw [ef'] at c2
            have k1 : (fk outer l).ht = 1 + max outer.ht l.ht := rfl
            have k2 : (fk r b).ht = 1 + max r.ht b.ht := rfl
            have k3 : (fk (fk outer l) (fk r b)).ht = 1 + max (fk outer l).ht (fk r b).ht := rfl
            refine ⟨⟨⟨oo, ol, ?_, ?_, c2, ?_⟩, ⟨or_, ob, ?_, ?_, cl, ?_⟩, ?_, ?_, c3, ?_⟩, ?_, rfl, rfl, ?_, ?_⟩
            all_goals first | omega | skip
            · show outer.sg + l.sg + (r.sg + b.sg) ≤ mostSg; omega
            · show (outer.txt ++ l.txt) ++ (r.txt ++ b.txt) = (outer.txt ++ (l.txt ++ r.txt)) ++ b.txt
              simp only [List.append_assoc]
    · rw [if_neg e3]
      have k : (fk a b).ht = 1 + max a.ht b.ht := rfl
      exact ⟨⟨oa, ob, by omega, by omega, cl, sg⟩, rfl, rfl, rfl, by omega, by omega⟩

theorem levelled_mid {a b : Tr} (h1 : a.ht ≤ b.ht + 1) (h2 : b.ht ≤ a.ht + 1) : levelled a b = fk a b := by
  unfold levelled
  rw [if_neg (by omega), if_neg (by omega)]
theorem linked_ok : ∀ (n : Nat) {a b : Tr}, a.ht + b.ht ≤ n → Jn a b → LevOk a b (linked a b) (max a.ht b.ht) (max a.ht b.ht + 1) := by
  intro n
  induction n with
  | zero =>
    intro a b hn j
    rw [(linked_mid (a := a) (b := b) (by omega) (by omega)).1]
    have k : (fk a b).ht = 1 + max a.ht b.ht := rfl
    exact ⟨⟨j.oa, j.ob, by omega, by omega, j.cl, j.sg⟩, rfl, rfl, rfl, by omega, by omega⟩
  | succ n ih =>
    intro a b hn j
    by_cases e1 : b.ht + 1 < a.ht
    · cases a with
      | lf l => rw [ht_lf] at e1; omega
      | fk f l =>
        obtain ⟨of, ol, l1, l2, c2, s2⟩ := j.oa
        have ea : (fk f l).ht = 1 + max f.ht l.ht := rfl
        have es : (fk f l).sg = f.sg + l.sg := rfl
        have sg := j.sg
        rw [(linked_left e1).1]
        have r := ih (a := l) (b := b) (by omega) ⟨ol, j.ob, j.cl, by omega⟩
        have rs := r.sg
        have lo := r.lo
        have hi := r.hi
        have q := levelled_ok (a := f) (b := linked l b) ⟨of, r.ok, by rw [r.fi]; exact c2, by omega⟩ (by omega) (by omega)
        have qlo := q.lo
        have qhi := q.hi
        refine ⟨q.ok, by rw [q.tx, r.tx]; exact (List.append_assoc _ _ _).symm, q.fi, q.la.trans r.la, ?_, by omega⟩
        by_cases x : (linked l b).ht ≤ f.ht + 1
        · have k : (fk f (linked l b)).ht = 1 + max f.ht (linked l b).ht := rfl
          rw [levelled_mid (by omega) x]; omega
        · omega
    · by_cases e2 : a.ht + 1 < b.ht
      · cases b with
        | lf l => rw [ht_lf] at e2; omega
        | fk f l =>
          obtain ⟨of, ol, l1, l2, c2, s2⟩ := j.ob
          have ea : (fk f l).ht = 1 + max f.ht l.ht := rfl
          have es : (fk f l).sg = f.sg + l.sg := rfl
          have sg := j.sg
          rw [(linked_right e2).1]
          have r := ih (a := a) (b := f) (by omega) ⟨j.oa, of, j.cl, by omega⟩
          have rs := r.sg
          have lo := r.lo
          have hi := r.hi
          have q := levelled_ok (a := linked a f) (b := l) ⟨r.ok, ol, by rw [r.la]; exact c2, by omega⟩ (by omega) (by omega)
          have qlo := q.lo
          have qhi := q.hi
          refine ⟨q.ok, by rw [q.tx, r.tx]; exact List.append_assoc _ _ _, q.fi.trans r.fi, q.la, ?_, by omega⟩
          by_cases x : (linked a f).ht ≤ l.ht + 1
          · have k : (fk (linked a f) l).ht = 1 + max (linked a f).ht l.ht := rfl
            rw [levelled_mid x (by omega)]; omega
          · omega
      · rw [(linked_mid (a := a) (b := b) e1 e2).1]
        have k : (fk a b).ht = 1 + max a.ht b.ht := rfl
        exact ⟨⟨j.oa, j.ob, by omega, by omega, j.cl, j.sg⟩, rfl, rfl, rfl, by omega, by omega⟩
theorem Jn.linked {a b : Tr} (j : Jn a b) : LevOk a b (linked a b) (max a.ht b.ht) (max a.ht b.ht + 1) := linked_ok _ (Nat.le_refl _) j
end Sk

/-! Joining: without the last or the first leaf, poured, joined, and what it costs. -/
namespace Sk
open Tr

theorem LevOk.mono {a b t : Tr} {lo hi lo' hi' : Nat} (h : LevOk a b t lo hi) (h1 : lo' ≤ lo) (h2 : hi ≤ hi') : LevOk a b t lo' hi' :=
  ⟨h.ok, h.tx, h.fi, h.la, Nat.le_trans h1 h.lo, Nat.le_trans h.hi h2⟩
theorem linked_near {a b : Tr} (h1 : a.ht ≤ b.ht + 1) (h2 : b.ht ≤ a.ht + 1) : linked a b = fk a b := (linked_mid (by omega) (by omega)).1
theorem clev_le (a b : Tr) : clev a b ≤ 3 := by unfold clev; split; omega; split <;> omega
/-- three forks at most for each height between, one more -/
theorem clink_le : ∀ (n : Nat) {a b : Tr}, a.ht + b.ht ≤ n → Ok a → Ok b → clink a b ≤ 3 * (a.ht - b.ht - 1 + (b.ht - a.ht - 1)) + 1 := by
  intro n
  induction n with
  | zero =>
    intro a b hn oa ob
    rw [(linked_mid (a := a) (b := b) (by omega) (by omega)).2]; omega
  | succ n ih =>
    intro a b hn oa ob
    by_cases e1 : b.ht + 1 < a.ht
    · cases a with
      | lf l => rw [ht_lf] at e1; omega
      | fk f l =>
        obtain ⟨of, ol, l1, l2, c2, s2⟩ := id oa
        have ea : (fk f l).ht = 1 + max f.ht l.ht := rfl
        rw [(linked_left e1).2]
        have := ih (a := l) (b := b) (by omega) ol ob
        have := clev_le f (linked l b)
        omega
    · by_cases e2 : a.ht + 1 < b.ht
      · cases b with
        | lf l => rw [ht_lf] at e2; omega
        | fk f l =>
          obtain ⟨of, ol, l1, l2, c2, s2⟩ := id ob
          have ea : (fk f l).ht = 1 + max f.ht l.ht := rfl
          rw [(linked_right e2).2]
          have := ih (a := a) (b := f) (by omega) oa of
          have := clev_le (linked a f) l
          omega
      · rw [(linked_mid (a := a) (b := b) e1 e2).2]; omega
theorem clink_bd {a b : Tr} (oa : Ok a) (ob : Ok b) : clink a b ≤ 3 * (a.ht - b.ht - 1 + (b.ht - a.ht - 1)) + 1 := clink_le _ (Nat.le_refl _) oa ob

def linkedO : Option Tr → Option Tr → Option Tr
  | none, p => p
  | some a, none => some a
  | some a, some b => some (linked a b)
def clinkO : Option Tr → Option Tr → Nat
  | some a, some b => clink a b
  | _, _ => 0
def wl : Tr → Option Tr
  | lf _ => none
  | fk a b => linkedO (some a) (wl b)
def wf : Tr → Option Tr
  | lf _ => none
  | fk a b => linkedO (wf a) (some b)
def cwl : Tr → Nat
  | lf _ => 0
  | fk a b => cwl b + clinkO (some a) (wl b)
def cwf : Tr → Nat
  | lf _ => 0
  | fk a b => cwf a + clinkO (wf a) (some b)
structure WlOk (t t' : Tr) : Prop where
  ok : Ok t'
  tx : t'.txt ++ t.la.txt = t.txt
  fi : t'.fi = t.fi
  cl : 8 < t'.la.sg + t.la.sg
  lo : t.ht ≤ t'.ht + 1
  hi : t'.ht ≤ t.ht
structure WfOk (t t' : Tr) : Prop where
  ok : Ok t'
  tx : t.fi.txt ++ t'.txt = t.txt
  la : t'.la = t.la
  cl : 8 < t.fi.sg + t'.fi.sg
  lo : t.ht ≤ t'.ht + 1
  hi : t'.ht ≤ t.ht
theorem wl_none {t : Tr} (h : wl t = none) : ∃ l, t = lf l := by
  cases t with
  | lf l => exact ⟨l, rfl⟩
  | fk a b =>
    have h : linkedO (some a) (wl b) = none := h
    cases e : wl b with
    | none => rw [e] at h; cases h
    | some x => rw [e] at h; cases h
theorem wf_none {t : Tr} (h : wf t = none) : ∃ l, t = lf l := by
  cases t with
  | lf l => exact ⟨l, rfl⟩
  | fk a b =>
    have h : linkedO (wf a) (some b) = none := h
    cases e : wf a with
    | none => rw [e] at h; cases h
    | some x => rw [e] at h; cases h
theorem WlOk.sg {t t' : Tr} (h : WlOk t t') : t'.sg + t.la.sg = t.sg := by
  have := congrArg List.length h.tx
  rw [List.length_append, sg_txt, sg_txt, sg_txt] at this
  exact this
theorem WfOk.sg {t t' : Tr} (h : WfOk t t') : t.fi.sg + t'.sg = t.sg := by
  have := congrArg List.length h.tx
  rw [List.length_append, sg_txt, sg_txt, sg_txt] at this
  exact this
theorem wl_ok : ∀ {t t' : Tr}, Ok t → wl t = some t' → WlOk t t' ∧ cwl t ≤ 4 * t.ht
  | lf l, t', o, h => by cases h
  | fk a b, t', o, h => by
    obtain ⟨oa, ob, l1, l2, c2, s2⟩ := id o
    have et : (fk a b).ht = 1 + max a.ht b.ht := rfl
    have h : linkedO (some a) (wl b) = some t' := h
    have ec : cwl (fk a b) = cwl b + clinkO (some a) (wl b) := rfl
    cases e : wl b with
    | none =>
      obtain ⟨l, rfl⟩ := wl_none e
      rw [e] at h ec
      cases h
      have eb : (lf l).ht = 0 := rfl
      have e0 : cwl (lf l) = 0 := rfl
      have e1 : clinkO (some a) none = 0 := rfl
      exact ⟨⟨oa, rfl, rfl, c2, by omega, by omega⟩, by omega⟩
    | some b' =>
      rw [e] at h ec
      obtain ⟨q, cq⟩ := wl_ok (t := b) ob e
      have sg := q.sg
      have lo := q.lo
      have hi := q.hi
      have j : Jn a b' := ⟨oa, q.ok, by rw [q.fi]; exact c2, by omega⟩
      have r := j.linked
      have h : some (linked a b') = some t' := h
      cases h
      have c1 := clink_bd oa q.ok
      have e1 : clinkO (some a) (some b') = clink a b' := rfl
      have bh : b.ht ≠ 0 := by
        intro z
        obtain ⟨l, rfl⟩ := ht_zero z
        cases e
      refine ⟨⟨r.ok, ?_, r.fi, by rw [r.la]; exact q.cl, ?_, ?_⟩, ?_⟩
      · rw [r.tx, List.append_assoc]
        show a.txt ++ (b'.txt ++ b.la.txt) = a.txt ++ b.txt
        rw [q.tx]
      · by_cases x : a.ht ≤ b'.ht + 1
        · by_cases y : b'.ht ≤ a.ht + 1
          · rw [linked_near x y, et, ht_fk]; omega
          · omega
        · have := r.lo; omega
      · have := r.hi
        by_cases x : a.ht ≤ b'.ht + 1
        · by_cases y : b'.ht ≤ a.ht + 1
          · rw [linked_near x y, et, ht_fk]; omega
          · omega
        · have := r.hi; omega
      · omega
theorem wf_ok : ∀ {t t' : Tr}, Ok t → wf t = some t' → WfOk t t' ∧ cwf t ≤ 4 * t.ht
  | lf l, t', o, h => by cases h
  | fk a b, t', o, h => by
    obtain ⟨oa, ob, l1, l2, c2, s2⟩ := id o
    have et : (fk a b).ht = 1 + max a.ht b.ht := rfl
    have h : linkedO (wf a) (some b) = some t' := h
    have ec : cwf (fk a b) = cwf a + clinkO (wf a) (some b) := rfl
    cases e : wf a with
    | none =>
      obtain ⟨l, rfl⟩ := wf_none e
      rw [e] at h ec
      cases h
      have eb : (lf l).ht = 0 := rfl
      have e0 : cwf (lf l) = 0 := rfl
      have e1 : clinkO none (some b) = 0 := rfl
      exact ⟨⟨ob, rfl, rfl, c2, by omega, by omega⟩, by omega⟩
    | some a' =>
      rw [e] at h ec
      obtain ⟨q, cq⟩ := wf_ok (t := a) oa e
      have sg := q.sg
      have lo := q.lo
      have hi := q.hi
      have j : Jn a' b := ⟨q.ok, ob, by rw [q.la]; exact c2, by omega⟩
      have r := j.linked
      have h : some (linked a' b) = some t' := h
      cases h
      have c1 := clink_bd q.ok ob
      have e1 : clinkO (some a') (some b) = clink a' b := rfl
      have bh : a.ht ≠ 0 := by
        intro z
        obtain ⟨l, rfl⟩ := ht_zero z
        cases e
      refine ⟨⟨r.ok, ?_, r.la, by rw [r.fi]; exact q.cl, ?_, ?_⟩, ?_⟩
      · rw [r.tx, ← List.append_assoc]
        show (a.fi.txt ++ a'.txt) ++ b.txt = a.txt ++ b.txt
        rw [q.tx]
      · by_cases x : a'.ht ≤ b.ht + 1
        · by_cases y : b.ht ≤ a'.ht + 1
          · rw [linked_near x y, et, ht_fk]; omega
          · have := r.lo; omega
        · omega
      · by_cases x : a'.ht ≤ b.ht + 1
        · by_cases y : b.ht ≤ a'.ht + 1
          · rw [linked_near x y, et, ht_fk]; omega
          · have := r.hi; omega
        · omega
      · omega
def amid (a b : Tr) : Tr := lf (a.la.txt ++ b.fi.txt)
def poured (a b : Tr) : Option Tr := linkedO (linkedO (wl a) (some (amid a b))) (wf b)
def cpour (a b : Tr) : Nat := cwl a + 1 + clinkO (wl a) (some (amid a b)) + cwf b + clinkO (linkedO (wl a) (some (amid a b))) (wf b)
theorem amid_ok {a b : Tr} (oa : Ok a) (ob : Ok b) (h : a.la.sg + b.fi.sg ≤ 8) : Ok (amid a b) := by
  have p1 := oa.la.pos
  refine ⟨?_, ?_, fun c hc => ?_⟩
  · rw [List.length_append, sg_txt, sg_txt]; omega
  · rw [List.length_append, sg_txt, sg_txt]; exact h
  · rcases List.mem_append.mp hc with hc | hc
    · exact oa.la.plain c hc
    · exact ob.fi.plain c hc
theorem amid_sg (a b : Tr) : (amid a b).sg = a.la.sg + b.fi.sg := by
  show (a.la.txt ++ b.fi.txt).length = _
  rw [List.length_append, sg_txt, sg_txt]
theorem leaf_txt {t : Tr} {l : List Nat} (h : t = lf l) : t.txt = l := by rw [h]; rfl
structure JoinOk (a b t : Tr) : Prop where
  ok : Ok t
  tx : t.txt = a.txt ++ b.txt
  hi : t.ht ≤ max a.ht b.ht + 2
/-- the first joining of poured -/
theorem pour1 {a b : Tr} (oa : Ok a) (ob : Ok b) (h : a.la.sg + b.fi.sg ≤ 8) (s : a.sg + b.sg ≤ mostSg) : ∃ t, linkedO (wl a) (some (amid a b)) = some t ∧ Ok t ∧ t.txt = a.txt ++ b.fi.txt ∧ t.la = amid a b ∧ t.ht ≤ a.ht + 1 ∧ a.ht ≤ t.ht + 1 ∧ t.sg = a.sg + b.fi.sg ∧
    (∀ a', wl a = some a' → Jn a' (amid a b) ∧ a'.ht ≤ a.ht) := by
  have om := amid_ok oa ob h
  have sf := fi_sg_le b
  cases e : wl a with
  | none =>
    obtain ⟨l, rfl⟩ := wl_none e
    exact ⟨amid (lf l) b, rfl, om, rfl, rfl, by show 0 ≤ _; omega, by show 0 ≤ _; omega, amid_sg _ _, fun a' z => nomatch z⟩
  | some a' =>
    obtain ⟨q, _⟩ := wl_ok oa e
    have hs := q.sg
    have ms := amid_sg a b
    have j : Jn a' (amid a b) := ⟨q.ok, om, by
      show 8 < a'.la.sg + (amid a b).sg
      have := q.cl; omega, by omega⟩
    have r := j.linked
    have hm : (amid a b).ht = 0 := rfl
    have := q.hi
    refine ⟨_, rfl, r.ok, ?_, r.la, by have := r.hi; omega, by have := r.lo; have := q.lo; omega, by rw [r.sg]; omega, fun x z => by cases z; exact ⟨j, q.hi⟩⟩
    rw [r.tx]
    show a'.txt ++ (a.la.txt ++ b.fi.txt) = _
    rw [← List.append_assoc, q.tx]
theorem poured_ok {a b : Tr} (oa : Ok a) (ob : Ok b) (h : a.la.sg + b.fi.sg ≤ 8) (s : a.sg + b.sg ≤ mostSg) : ∃ t, poured a b = some t ∧ JoinOk a b t ∧ cpour a b ≤ 11 * max a.ht b.ht + 8 ∧
    (∀ x y, linkedO (wl a) (some (amid a b)) = some x → wf b = some y → Jn x y) := by
  obtain ⟨t, e1, o1, x1, la1, h1, h2, s1, j1⟩ := pour1 oa ob h s
  have cw : cwl a ≤ 4 * a.ht := by
    cases e : wl a with
    | none => obtain ⟨l, rfl⟩ := wl_none e; show 0 ≤ _; omega
    | some a' => exact (wl_ok oa e).2
  have cm : clinkO (wl a) (some (amid a b)) ≤ 3 * a.ht + 1 := by
    cases e : wl a with
    | none => show 0 ≤ _; omega
    | some a' =>
      obtain ⟨j, hh⟩ := j1 a' e
      have := clink_bd j.oa j.ob
      have hm : (amid a b).ht = 0 := rfl
      show clink a' (amid a b) ≤ _
      omega
  have unf : poured a b = linkedO (some t) (wf b) := by unfold poured; rw [e1]
  have unc : cpour a b = cwl a + 1 + clinkO (wl a) (some (amid a b)) + cwf b + clinkO (some t) (wf b) := by unfold cpour; rw [e1]
  cases e : wf b with
  | none =>
    obtain ⟨l, rfl⟩ := wf_none e
    refine ⟨t, by rw [unf, e]; rfl, ⟨o1, x1, by omega⟩, ?_, fun x y _ z => nomatch z⟩
    rw [unc, e]
    have z1 : cwf (lf l) = 0 := rfl
    have z2 : clinkO (some t) none = 0 := rfl
    have z3 : (lf l).ht = 0 := rfl
    omega
  | some b' =>
    obtain ⟨q, cq⟩ := wf_ok ob e
    have hs := q.sg
    have ms := amid_sg a b
    have j : Jn t b' := ⟨o1, q.ok, by rw [la1, ms]; have := q.cl; omega, by omega⟩
    have r := j.linked
    have c1 := clink_bd o1 q.ok
    have := q.hi
    have bh : b.ht ≠ 0 := by
      intro z
      obtain ⟨l, rfl⟩ := ht_zero z
      cases e
    refine ⟨linked t b', by rw [unf, e]; rfl, ⟨r.ok, ?_, ?_⟩, ?_, fun x y z1 z2 => by rw [e1] at z1; cases z1; cases z2; exact j⟩
    · rw [r.tx, x1, List.append_assoc, q.tx]
    · have := r.hi
      omega
    · have z2 : clinkO (some t) (some b') = clink t b' := rfl
      have := q.lo
      rw [e, z2] at unc
      rw [unc]
      omega

/-! ### joined -/
def joinedO : Option Tr → Option Tr → Option Tr
  | none, p => p
  | some a, none => some a
  | some a, some b => if a.la.sg + b.fi.sg ≤ 8 then poured a b else some (linked a b)
def cjoin : Option Tr → Option Tr → Nat
  | some a, some b => if a.la.sg + b.fi.sg ≤ 8 then cpour a b else clink a b
  | _, _ => 0
def oH : Option Tr → Nat | none => 0 | some t => t.ht
def oX : Option Tr → List Nat | none => [] | some t => t.txt
def oS : Option Tr → Nat | none => 0 | some t => t.sg
def OkO (o : Option Tr) : Prop := ∀ t, o = some t → Ok t
theorem oS_txt (o : Option Tr) : (oX o).length = oS o := by
  cases o with
  | none => rfl
  | some t => exact sg_txt t
theorem joinedO_ok {o p : Option Tr} (ho : OkO o) (hp : OkO p) (s : oS o + oS p ≤ mostSg) :
    OkO (joinedO o p) ∧ oX (joinedO o p) = oX o ++ oX p ∧ cjoin o p ≤ 11 * max (oH o) (oH p) + 8 ∧ oH (joinedO o p) ≤ max (oH o) (oH p) + 2 := by
  cases o with
  | none => exact ⟨hp, rfl, Nat.zero_le _, by show oH p ≤ _; omega⟩
  | some a =>
    cases p with
    | none => exact ⟨ho, (List.append_nil _).symm, Nat.zero_le _, by show a.ht ≤ max a.ht 0 + 2; omega⟩
    | some b =>
      have oa := ho a rfl
      have ob := hp b rfl
      have s : a.sg + b.sg ≤ mostSg := s
      by_cases h : a.la.sg + b.fi.sg ≤ 8
      · obtain ⟨t, e, j, c, _⟩ := poured_ok oa ob h s
        have ej : joinedO (some a) (some b) = some t := by show (if _ then _ else _) = _; rw [if_pos h, e]
        have ec : cjoin (some a) (some b) = cpour a b := by show (if _ then _ else _) = _; rw [if_pos h]
        rw [ej, ec]
        exact ⟨fun x z => by cases z; exact j.ok, j.tx, c, j.hi⟩
      · have j : Jn a b := ⟨oa, ob, by omega, s⟩
        have r := j.linked
        have ej : joinedO (some a) (some b) = some (linked a b) := by show (if _ then _ else _) = _; rw [if_neg h]
        have ec : cjoin (some a) (some b) = clink a b := by show (if _ then _ else _) = _; rw [if_neg h]
        rw [ej, ec]
        have := clink_bd oa ob
        exact ⟨fun x z => by cases z; exact r.ok, r.tx, by show clink a b ≤ 11 * max a.ht b.ht + 8; omega, by have := r.hi; show (linked a b).ht ≤ max a.ht b.ht + 2; omega⟩
theorem joinedO_sg {o p : Option Tr} (ho : OkO o) (hp : OkO p) (s : oS o + oS p ≤ mostSg) : oS (joinedO o p) = oS o + oS p := by
  have := congrArg List.length (joinedO_ok ho hp s).2.1
  rw [List.length_append, oS_txt, oS_txt, oS_txt] at this
  exact this

/-! ### no text is too high -/
def fp : Nat → Nat × Nat
  | 0 => (1, 2)
  | n + 1 => ((fp n).2, (fp n).1 + (fp n).2)
def leastLv (n : Nat) : Nat := (fp n).1
theorem leastLv_step (n : Nat) : leastLv (n + 2) = leastLv n + leastLv (n + 1) := rfl
theorem leastLv_pos : ∀ n, 1 ≤ leastLv n ∧ leastLv n ≤ leastLv (n + 1)
  | 0 => by decide
  | n + 1 => by
    have := leastLv_pos n
    rw [leastLv_step]; omega
theorem leastLv_mono {m n : Nat} (h : m ≤ n) : leastLv m ≤ leastLv n := by
  induction h with
  | refl => exact Nat.le_refl _
  | step _ ih => exact Nat.le_trans ih (leastLv_pos _).2
theorem Ok.leaves : ∀ {t : Tr}, Ok t → leastLv t.ht ≤ t.lv ∧ t.lv ≤ t.sg
  | lf l, o => ⟨Nat.le_refl _, o.1⟩
  | fk a b, o => by
    obtain ⟨oa, ob, l1, l2, _, _⟩ := o
    have ha := Ok.leaves (t := a) oa
    have hb := Ok.leaves (t := b) ob
    refine ⟨?_, by show a.lv + b.lv ≤ a.sg + b.sg; omega⟩
    show leastLv (1 + max a.ht b.ht) ≤ a.lv + b.lv
    by_cases h : a.ht ≤ b.ht
    · rw [show 1 + max a.ht b.ht = b.ht + 1 by omega]
      cases e : b.ht with
      | zero =>
        have := (leastLv_pos a.ht).1
        have := (leastLv_pos b.ht).1
        show 2 ≤ _; omega
      | succ n =>
        rw [leastLv_step]
        have : leastLv n ≤ leastLv a.ht := leastLv_mono (by omega)
        rw [← e]; omega
    · rw [show 1 + max a.ht b.ht = a.ht + 1 by omega]
      cases e : a.ht with
      | zero => omega
      | succ n =>
        rw [leastLv_step]
        have : leastLv n ≤ leastLv b.ht := leastLv_mono (by omega)
        rw [← e]; omega
theorem Ok.low {t : Tr} (o : Ok t) : t.ht ≤ 85 := by
  refine Classical.byContradiction fun h => ?_
  have h1 : leastLv 86 ≤ leastLv t.ht := leastLv_mono (by omega)
  have h2 := o.leaves
  have h3 := o.most
  have h4 : mostSg < leastLv 86 := by decide +kernel
  omega
theorem OkO.low {o : Option Tr} (h : OkO o) : oH o ≤ 85 := by
  cases o with
  | none => exact Nat.zero_le _
  | some t => exact (h t rfl).low
theorem wl_sg2 {t : Tr} (o : Ok t) : oS (wl t) + t.la.sg ≤ t.sg := by
  cases e : wl t with
  | none => have := la_sg_le t; show 0 + t.la.sg ≤ t.sg; omega
  | some u => have := (wl_ok o e).1.sg; show u.sg + t.la.sg ≤ t.sg; omega
theorem wf_sg2 {t : Tr} (o : Ok t) : t.fi.sg + oS (wf t) ≤ t.sg := by
  cases e : wf t with
  | none => have := fi_sg_le t; show t.fi.sg + 0 ≤ t.sg; omega
  | some u => have := (wf_ok o e).1.sg; show t.fi.sg + u.sg ≤ t.sg; omega
theorem wl_sg {t : Tr} (o : Ok t) : oS (wl t) ≤ t.sg := by have := wl_sg2 o; omega
theorem wf_sg {t : Tr} (o : Ok t) : oS (wf t) ≤ t.sg := by have := wf_sg2 o; omega
end Sk

/-! A plain text built: leaves of eight signs, halved again and again. -/
namespace Sk
open Tr

def hN : Nat → Nat → Nat
  | 0, _ => 0
  | n + 1, k => if k ≤ 1 then 0 else 1 + max (hN n (k / 2)) (hN n (k - k / 2))
theorem hN_le : ∀ (m n k : Nat), k ≤ 2 ^ m → hN n k ≤ m
  | _, 0, k, _ => Nat.zero_le _
  | 0, n + 1, k, h => by
    have : k ≤ 1 := h
    show (if k ≤ 1 then 0 else _) ≤ 0
    rw [if_pos this]; exact Nat.le_refl _
  | m + 1, n + 1, k, h => by
    rw [Nat.pow_succ] at h
    show (if k ≤ 1 then 0 else 1 + max (hN n (k / 2)) (hN n (k - k / 2))) ≤ m + 1
    split
    · omega
    · have := hN_le m n (k / 2) (by omega)
      have := hN_le m n (k - k / 2) (by omega)
      omega
theorem hN_ge : ∀ (n m k : Nat), 2 ^ m < k → k ≤ 2 ^ n → m + 1 ≤ hN n k
  | 0, m, k, h, h' => by
    have : 1 ≤ 2 ^ m := Nat.pow_pos (by decide)
    have h' : k ≤ 1 := h'
    omega
  | n + 1, m, k, h, h' => by
    have : 1 ≤ 2 ^ m := Nat.pow_pos (by decide)
    show m + 1 ≤ (if k ≤ 1 then 0 else 1 + max (hN n (k / 2)) (hN n (k - k / 2)))
    rw [if_neg (by omega)]
    cases m with
    | zero => omega
    | succ m =>
      rw [Nat.pow_succ] at h h'
      have := hN_ge n m (k - k / 2) (by omega) (by omega)
      omega
theorem hN_near {n k : Nat} (h1 : 2 ≤ k) (h2 : k ≤ 2 ^ (n + 1)) : hN n (k / 2) ≤ hN n (k - k / 2) ∧ hN n (k - k / 2) ≤ hN n (k / 2) + 1 := by
  rw [Nat.pow_succ] at h2
  constructor
  · refine hN_le _ _ _ ?_
    refine Classical.byContradiction fun z => ?_
    have := hN_ge n (hN n (k - k / 2)) (k - k / 2) (by omega) (by omega)
    omega
  · refine hN_le _ _ _ ?_
    rw [Nat.pow_succ]
    refine Classical.byContradiction fun z => ?_
    have p : 1 ≤ 2 ^ hN n (k / 2) := Nat.pow_pos (by decide)
    have := hN_ge n (hN n (k / 2)) (k / 2) (by omega) (by omega)
    omega
def bo : Nat → List Tr → Tr
  | 0, ls => ls.headD (lf [])
  | n + 1, ls => if ls.length ≤ 1 then ls.headD (lf []) else fk (bo n (ls.take (ls.length / 2))) (bo n (ls.drop (ls.length / 2)))
/-- leaves in a row: all but the last one full -/
structure Row (ls : List Tr) : Prop where
  ne : ls ≠ []
  ok : ∀ t ∈ ls, Ok t ∧ t.ht = 0
  full : ∀ i t, i + 1 < ls.length → ls[i]? = some t → t.sg = 8
theorem Row.take {ls : List Tr} (r : Row ls) {k : Nat} (h1 : 0 < k) : Row (ls.take k) :=
  ⟨by
    intro e
    have l := congrArg List.length e
    rw [List.length_take, List.length_nil] at l
    have : 0 < ls.length := by
      cases ls with
      | nil => exact absurd rfl r.ne
      | cons a b => simp
    omega, fun t ht => r.ok t (List.mem_of_mem_take ht), fun i t hi e => by
    rw [List.length_take] at hi
    rw [List.getElem?_take_of_lt (by omega)] at e
    exact r.full i t (by omega) e⟩
theorem Row.drop {ls : List Tr} (r : Row ls) {k : Nat} (h1 : k < ls.length) : Row (ls.drop k) :=
  ⟨by
    intro e
    have := congrArg List.length e
    rw [List.length_drop] at this
    simp at this; omega, fun t ht => r.ok t (List.mem_of_mem_drop ht), fun i t hi e => by
    rw [List.length_drop] at hi
    rw [List.getElem?_drop] at e
    exact r.full (k + i) t (by omega) e⟩
theorem flat_split (ls : List Tr) (k : Nat) : ls.flatMap Tr.txt = (ls.take k).flatMap Tr.txt ++ (ls.drop k).flatMap Tr.txt := by
  rw [← List.flatMap_append, List.take_append_drop]
structure BoOk (n : Nat) (ls : List Tr) (t : Tr) : Prop where
  ok : Ok t
  tx : t.txt = ls.flatMap Tr.txt
  ht : t.ht = hN n ls.length
  fi : ∀ x, ls.head? = some x → t.fi = x
  la : ∀ x, ls.getLast? = some x → t.la = x
theorem ht0_fi {t : Tr} (h : t.ht = 0) : t.fi = t ∧ t.la = t := by
  obtain ⟨l, rfl⟩ := ht_zero h
  exact ⟨rfl, rfl⟩
theorem bo_one {n : Nat} {ls : List Tr} (r : Row ls) (h : ls.length = 1) (t : Tr) (e : ls.headD (lf []) = t) : BoOk n ls t := by
  obtain ⟨x, rfl⟩ := List.length_eq_one_iff.mp h
  have e : x = t := e
  subst e
  obtain ⟨o, z⟩ := r.ok x (by simp)
  have f := ht0_fi z
  refine ⟨o, by simp, ?_, fun y e => by cases e; exact f.1, fun y e => by cases e; exact f.2⟩
  have : hN n 1 = 0 := by cases n <;> rfl
  rw [List.length_singleton, this, z]
theorem bo_ok : ∀ (n : Nat) (ls : List Tr), Row ls → ls.length ≤ 2 ^ n → (ls.flatMap Tr.txt).length ≤ mostSg → BoOk n ls (bo n ls)
  | 0, ls, r, h, _ => by
    have : ls.length = 1 := by
      have h : ls.length ≤ 1 := h
      cases ls with
      | nil => exact absurd rfl r.ne
      | cons a b => simp at *; omega
    exact bo_one r this _ rfl
  | n + 1, ls, r, h, hs => by
    have pos : 0 < ls.length := by
      cases ls with
      | nil => exact absurd rfl r.ne
      | cons a b => simp
    by_cases h1 : ls.length ≤ 1
    · refine bo_one r (by omega) _ ?_
      show _ = (if ls.length ≤ 1 then _ else _)
      rw [if_pos h1]
    have eb : bo (n + 1) ls = fk (bo n (ls.take (ls.length / 2))) (bo n (ls.drop (ls.length / 2))) := by
      show (if ls.length ≤ 1 then _ else _) = _
      rw [if_neg h1]
    rw [Nat.pow_succ] at h
    have l1 : (ls.take (ls.length / 2)).length = ls.length / 2 := by rw [List.length_take]; omega
    have l2 : (ls.drop (ls.length / 2)).length = ls.length - ls.length / 2 := by rw [List.length_drop]
    have fs := flat_split ls (ls.length / 2)
    have fl := congrArg List.length fs
    rw [List.length_append] at fl
    have ha := bo_ok n (ls.take (ls.length / 2)) (r.take (by omega)) (by rw [l1]; omega) (by omega)
    have hb := bo_ok n (ls.drop (ls.length / 2)) (r.drop (by omega)) (by rw [l2]; omega) (by omega)
    have nr := hN_near (n := n) (k := ls.length) (by omega) (by rw [Nat.pow_succ]; exact h)
    have h3 := ha.ht
    have h4 := hb.ht
    rw [l1] at h3
    rw [l2] at h4
    rw [eb]
    have la1 : (ls.take (ls.length / 2)).getLast? = some (ls[ls.length / 2 - 1]'(by omega)) := by
      rw [List.getLast?_eq_getElem?, l1, List.getElem?_take_of_lt (by omega), List.getElem?_eq_getElem]
    have fi1 : (ls.drop (ls.length / 2)).head? = some (ls[ls.length / 2]'(by omega)) := by
      rw [List.head?_drop, List.getElem?_eq_getElem]
    have full := r.full (ls.length / 2 - 1) _ (by omega) (List.getElem?_eq_getElem (by omega))
    have next := (r.ok (ls[ls.length / 2]'(by omega)) (List.getElem_mem _)).1.pos
    have s1 := sg_txt (bo n (ls.take (ls.length / 2)))
    have s2 := sg_txt (bo n (ls.drop (ls.length / 2)))
    rw [ha.tx] at s1
    rw [hb.tx] at s2
    refine ⟨⟨ha.ok, hb.ok, by omega, by omega, ?_, by omega⟩, ?_, ?_, fun x e => ?_, fun x e => ?_⟩
    · rw [ha.la _ la1, hb.fi _ fi1]; omega
    · show _ ++ _ = _
      rw [ha.tx, hb.tx, ← fs]
    · rw [ht_fk, h3, h4]
      show _ = (if ls.length ≤ 1 then 0 else 1 + max (hN n (ls.length / 2)) (hN n (ls.length - ls.length / 2)))
      rw [if_neg h1]
    · show (bo n (ls.take (ls.length / 2))).fi = x
      refine ha.fi x ?_
      rw [List.head?_take, if_neg (by omega)]; exact e
    · show (bo n (ls.drop (ls.length / 2))).la = x
      refine hb.la x ?_
      rw [List.getLast?_drop, if_neg (by omega)]; exact e

/-! ### leaves of a plain text -/
def ch (l : List Nat) (n : Nat) : List Tr := (List.range n).map fun i => lf ((l.drop (8 * i)).take 8)
def chs (l : List Nat) : List Tr := ch l ((l.length + 7) / 8)
theorem ch_succ (l : List Nat) (n : Nat) : ch l (n + 1) = ch l n ++ [lf ((l.drop (8 * n)).take 8)] := by
  unfold ch
  rw [List.range_succ, List.map_append]; rfl
theorem ch_txt (l : List Nat) : ∀ n, (ch l n).flatMap Tr.txt = l.take (8 * n)
  | 0 => by simp [ch]
  | n + 1 => by
    rw [ch_succ, List.flatMap_append, ch_txt l n]
    show l.take (8 * n) ++ ((l.drop (8 * n)).take 8 ++ []) = _
    rw [List.append_nil, ← List.take_add]; rfl
theorem ch_len (l : List Nat) (n : Nat) : (ch l n).length = n := by simp [ch]
theorem chs_txt (l : List Nat) : (chs l).flatMap Tr.txt = l := by
  unfold chs
  rw [ch_txt]
  exact List.take_of_length_le (by omega)
theorem piece_ok {l : List Nat} (p : Plain l) {i : Nat} (h : 8 * i < l.length) : Ok (lf ((l.drop (8 * i)).take 8)) := by
  refine ⟨?_, ?_, fun c hc => p c (List.mem_of_mem_drop (List.mem_of_mem_take hc))⟩
  · rw [List.length_take, List.length_drop]; omega
  · rw [List.length_take]; omega
theorem chs_row {l : List Nat} (p : Plain l) (h : l ≠ []) : Row (chs l) := by
  have h0 : 0 < l.length := by
    cases l with
    | nil => exact absurd rfl h
    | cons a b => simp
  refine ⟨?_, fun t ht => ?_, fun i t hi e => ?_⟩
  · intro e
    have := congrArg List.length e
    unfold chs at this
    rw [ch_len] at this
    simp at this; omega
  · unfold chs ch at ht
    obtain ⟨i, hi, et⟩ := List.mem_map.mp ht
    subst et
    have := List.mem_range.mp hi
    exact ⟨piece_ok p (by omega), rfl⟩
  · unfold chs at hi e
    rw [ch_len] at hi
    unfold ch at e
    rw [List.getElem?_map, List.getElem?_range (by omega)] at e
    cases e
    show ((l.drop (8 * i)).take 8).length = 8
    rw [List.length_take, List.length_drop]; omega
def bld (l : List Nat) : Option Tr := if l = [] then none else some (bo 11 (chs l))
def cb (l : List Nat) : Nat := 2 * ((l.length + 7) / 8)
theorem bld_ok {l : List Nat} (p : Plain l) (h : l.length ≤ 10000) : OkO (bld l) ∧ oX (bld l) = l := by
  unfold bld
  by_cases e : l = []
  · rw [if_pos e]; exact ⟨(fun t z => nomatch z), e.symm⟩
  · rw [if_neg e]
    have b := bo_ok 11 (chs l) (chs_row p e) (by unfold chs; rw [ch_len]; show _ ≤ 2048; omega) (by rw [chs_txt]; unfold mostSg; omega)
    exact ⟨fun t z => by cases z; exact b.ok, by show (bo 11 (chs l)).txt = l; rw [b.tx, chs_txt]⟩
end Sk

/-! Steps of a reading, each with what follows as its last premise; the shelf in the heap. -/
namespace Sk
open PySem PySem.Spec PyProof.Rows L2

/-! ### exceptions of our own classes -/
section
variable {X : Cx} {C : Addr} {x : Str} {p pos : Pos}
/-- X(), an own class of ValueError's without an __init__ -/
theorem pmk_own0 {bmB : List Value} {B newId initId : String} (F : ExcBaseFacts B newId initId bmB) (q : PySem.W.excIn X.K C bmB newId = true) (gC : X.mg x = some (.ref C)) (kC : PySem.W.keepIn X.K (.ref C) = true)
    (r : Raises X (.ref C)) (hg : Gl X x) (hdb : (x == ("__debug__" : Str)) = false := by decide) :
    PMk X (.Call (.Name x p) [] [] pos) (fun _ H Q => Q (.ref C) none H) := fun pins s σ H Q I h => by
  refine wpAny_Call_Name_kw (ld_glob I hg gC ?_ hdb)
  refine PySem.W.callWith_K0 I.kIn kC ?_
  obtain ⟨bm, N, nm, qn, bs, hdct, sn, sub, ab, col, dd, k0, k1, k2, k3, k5, mN, hC, hN, hni, T⟩ := exc_obj I.kIn q
  exact wpAny_call_exc_subT F T hC hN hni (fun h' e hm => mk_of I hm r h (I.hok.gone hm.new)) (Nat.zero_le _)
end
/-- what the text's top has made of an own error class -/
structure ExTx (K : PySem.W.Frag) (mg : Str → Option Value) (x : Str) (C : Addr) : Prop where
  g : mg x = some (.ref C)
  x : PySem.W.excIn K C [.type "ValueError", .type "Exception", .type "BaseException", .type "object"] "ValueError.__new__" = true
  k : PySem.W.keepIn K (.ref C) = true
  b : PySem.W.subIn K (.ref C) (.type "BaseException") = some true
  t : PySem.W.typeIn K (.ref C) = some (.type "type")
theorem ps_raise0 {X : Cx} {W : WX} {C : Addr} {x : Str} {p pos pos2 : Pos} (hc : X.calm = true) (T : ExTx X.K X.mg x C) (tk : Takes X W) (hg : Gl X x) (hdb : (x == ("__debug__" : Str)) = false := by decide) :
    PS X (.Raise (some (.Call (.Name x p) [] [] pos)) none pos2) (fun _ σ H => W (.ref C) none σ H) :=
  ps_raise hc tk (pmk_own0 PySem.F.excBase_ValueError T.x T.g T.k (raises_own T.b T.t) hg hdb)

/-! ### built-in names -/
theorem bt_len : bootBuiltins "len" = some (.builtin "len") := by first | exact PySem.boot_len | exact PyProof.Rows.boot_len | exact PySem.W.boot_len
theorem bt_max : bootBuiltins "max" = some (.builtin "max") := by first | exact PySem.boot_max | exact PyProof.Rows.boot_max | exact PySem.W.boot_max
theorem bt_min : bootBuiltins "min" = some (.builtin "min") := by first | exact PySem.boot_min | exact PyProof.Rows.boot_min | exact PySem.W.boot_min
theorem bt_range : bootBuiltins "range" = some (.type "range") := by first | exact PySem.boot_range | exact PyProof.Rows.boot_range | exact PySem.W.boot_range
theorem bt_isinstance : bootBuiltins "isinstance" = some (.builtin "isinstance") := by first | exact PySem.boot_isinstance | exact PyProof.Rows.boot_isinstance | exact PySem.W.boot_isinstance
theorem bt_all : bootBuiltins "all" = some (.builtin "all") := by first | exact PySem.boot_all | exact PyProof.Rows.boot_all | exact PySem.W.boot_all
theorem bt_any : bootBuiltins "any" = some (.builtin "any") := by first | exact PySem.boot_any | exact PyProof.Rows.boot_any | exact PySem.W.boot_any
theorem bt_sum : bootBuiltins "sum" = some (.builtin "sum") := by first | exact PySem.boot_sum | exact PyProof.Rows.boot_sum | exact PySem.W.boot_sum
theorem bt_sorted : bootBuiltins "sorted" = some (.builtin "sorted") := by first | exact PySem.boot_sorted | exact PyProof.Rows.boot_sorted | exact PySem.W.boot_sorted
theorem bt_list : bootBuiltins "list" = some (.type "list") := by first | exact PySem.boot_list | exact PyProof.Rows.boot_list | exact PySem.W.boot_list
theorem bt_dict : bootBuiltins "dict" = some (.type "dict") := by first | exact PySem.boot_dict | exact PyProof.Rows.boot_dict | exact PySem.W.boot_dict
theorem bt_str : bootBuiltins "str" = some (.type "str") := by first | exact PySem.boot_str | exact PyProof.Rows.boot_str | exact PySem.W.boot_str
theorem bt_int : bootBuiltins "int" = some (.type "int") := by first | exact PySem.boot_int | exact PyProof.Rows.boot_int | exact PySem.W.boot_int
theorem bt_zip : bootBuiltins "zip" = some (.type "zip") := by first | exact PySem.boot_zip | exact PyProof.Rows.boot_zip | exact PySem.W.boot_zip
theorem bt_enumerate : bootBuiltins "enumerate" = some (.type "enumerate") := by first | exact PySem.boot_enumerate | exact PyProof.Rows.boot_enumerate | exact PySem.W.boot_enumerate
theorem bt_reversed : bootBuiltins "reversed" = some (.type "reversed") := by first | exact PySem.boot_reversed | exact PyProof.Rows.boot_reversed | exact PySem.W.boot_reversed
theorem bt_abs : bootBuiltins "abs" = some (.builtin "abs") := by first | exact PySem.boot_abs | exact PyProof.Rows.boot_abs | exact PySem.W.boot_abs
theorem bt_tuple : bootBuiltins "tuple" = some (.type "tuple") := by first | exact PySem.boot_tuple | exact PyProof.Rows.boot_tuple | exact PySem.W.boot_tuple
theorem bt_bool : bootBuiltins "bool" = some (.type "bool") := by first | exact PySem.boot_bool | exact PyProof.Rows.boot_bool | exact PySem.W.boot_bool
theorem bt_ValueError : bootBuiltins "ValueError" = some (.type "ValueError") := by decide +kernel
/-! ### constants of the text -/
def KInt (mg : Str → Option Value) (x : Str) (i : Int) : Prop := ∃ t, mg x = some (.int i t)
def KStr (mg : Str → Option Value) (x : Str) (y : Str) : Prop := ∃ t, mg x = some (.str y t)
theorem pe_kint {X : Cx} {x : Str} {i : Int} {pos : Pos} (h : KInt X.mg x i) (g : Gl X x) (hd : (x == ("__debug__" : Str)) = false := by decide) : PE X (.Name x pos) (tC (.int i)) := by
  obtain ⟨t, e⟩ := h
  exact pe_glob (hd := hd) g e ⟨t, rfl⟩
theorem pe_kstr {X : Cx} {x : Str} {y : Str} {pos : Pos} (h : KStr X.mg x y) (g : Gl X x) (hd : (x == ("__debug__" : Str)) = false := by decide) : PE X (.Name x pos) (tC (.str y)) := by
  obtain ⟨t, e⟩ := h
  exact pe_glob (hd := hd) g e ⟨t, rfl⟩
/-! ### steps -/
section
variable {K : PySem.W.Frag} {σ : L2.St} {H H1 : Hp} {Q : VK} {D : Ends} {ta tb tc : TE} {t u : TS} {r r' : R2}
theorem w_var {i : Nat} {v : V} (h : σ[i]? = some (some v)) (k : Q v H) : tVar i σ H Q := ⟨v, h, k⟩
theorem w_c {v : V} (k : Q v H) : tC v σ H Q := k
theorem w_op (k : ta σ H fun x H1 => tb σ H1 fun y H2 => r x y H2 Q) : tOp r ta tb σ H Q := k
theorem w_un {r : V → Hp → VK → Prop} (k : ta σ H fun x H1 => r x H1 Q) : tUn r ta σ H Q := k
theorem w_chain (k : ta σ H fun x H1 => tb σ H1 fun y H2 => r x y H2 fun z H3 => ∃ k, z = .bl k ∧ (if k = true then tc σ H3 fun w H4 => r' y w H4 Q else Q (.bl false) H3)) : tChain r r' ta tb tc σ H Q := k
theorem w_rI0 {g : Int → Int → V} {i j : Int} (k : Q (g i j) H) : rI0 g (.int i) (.int j) H Q := ⟨i, j, rfl, rfl, k⟩
theorem w_rI {C : Int → Int → Prop} {g : Int → Int → V} {i j : Int} (c : C i j) (k : Q (g i j) H) : rI C g (.int i) (.int j) H Q := ⟨i, j, rfl, rfl, c, k⟩
theorem w_rU {g : Int → V} {i : Int} (k : Q (g i) H) : rU g (.int i) H Q := ⟨i, rfl, k⟩
theorem dI {i j : Int} : decide (V.int i = V.int j) = decide (i = j) := by
  by_cases h : i = j
  · subst h; simp
  · rw [decide_eq_false h, decide_eq_false (fun e => h (V.int.inj e))]
theorem dS {i j : Str} : decide (V.str i = V.str j) = decide (i = j) := by
  by_cases h : i = j
  · subst h; simp
  · rw [decide_eq_false h, decide_eq_false (fun e => h (V.str.inj e))]
theorem dB {i j : Bool} : decide (V.bl i = V.bl j) = decide (i = j) := by cases i <;> cases j <;> rfl
theorem w_eqI {i j : Int} (k : Q (.bl (decide (i = j))) H) : rEq (.int i) (.int j) H Q := ⟨rfl, by rw [dI]; exact k⟩
theorem w_eqS {i j : Str} (k : Q (.bl (decide (i = j))) H) : rEq (.str i) (.str j) H Q := ⟨rfl, by rw [dS]; exact k⟩
theorem w_eqB {i j : Bool} (k : Q (.bl (decide (i = j))) H) : rEq (.bl i) (.bl j) H Q := ⟨rfl, by rw [dB]; exact k⟩
theorem w_neI {i j : Int} (k : Q (.bl (decide (¬ i = j))) H) : rNe (.int i) (.int j) H Q := ⟨rfl, by rw [dI, ← decide_not]; exact k⟩
theorem w_neS {i j : Str} (k : Q (.bl (decide (¬ i = j))) H) : rNe (.str i) (.str j) H Q := ⟨rfl, by rw [dS, ← decide_not]; exact k⟩
theorem w_neB {i j : Bool} (k : Q (.bl (decide (¬ i = j))) H) : rNe (.bl i) (.bl j) H Q := ⟨rfl, by rw [dB, ← decide_not]; exact k⟩
theorem w_bl {R : Bool → Prop} {b : Bool} (k : R b) : ∃ c, V.bl b = .bl c ∧ R c := ⟨b, rfl, k⟩
theorem w_test {Q : Bool → Hp → Prop} {t : TE} (k : t σ H fun x H' => ∃ k, x = .bl k ∧ Q k H') : tTest t σ H Q := k
theorem w_tB {Q : Bool → Hp → Prop} {t : TE} (k : t σ H fun x H' => ∃ k, x = .bl k ∧ Q k H') : tB t σ H Q := k
theorem w_tAnd {Q : Bool → Hp → Prop} {t u : TT} (k : t σ H fun c H1 => if c = true then u σ H1 Q else Q false H1) : tAnd t u σ H Q := k
theorem w_tOr {Q : Bool → Hp → Prop} {t u : TT} (k : t σ H fun c H1 => if c = true then Q true H1 else u σ H1 Q) : tOr t u σ H Q := k
theorem w_tNot {Q : Bool → Hp → Prop} {t : TT} (k : t σ H fun c H1 => Q (!c) H1) : tNot t σ H Q := k
theorem w_tAndV (k : ta σ H fun x H1 => ∃ c, x = .bl c ∧ if c = true then tb σ H1 Q else Q (.bl false) H1) : tAndV ta tb σ H Q := k
theorem w_tOrV (k : ta σ H fun x H1 => ∃ c, x = .bl c ∧ if c = true then Q (.bl true) H1 else tb σ H1 Q) : tOrV ta tb σ H Q := k
theorem w_tNotV (k : ta σ H fun x H1 => ∃ c, x = .bl c ∧ Q (.bl (!c)) H1) : tNotV ta σ H Q := k
theorem w_tIf {c : TT} (k : c σ H fun b H1 => if b = true then ta σ H1 Q else tb σ H1 Q) : tIf c ta tb σ H Q := k
theorem w_seq (k : t { D with nx := u D } σ H) : tSeq t u D σ H := k
theorem w_next (k : D.nx σ H) : tNext D σ H := k
theorem w_drop (k : ta σ H fun _ H1 => D.nx σ H1) : tDrop ta D σ H := k
theorem w_ret (k : ta σ H D.rt) : tRet ta D σ H := k
theorem w_retN (k : D.rt .non H) : tRetN D σ H := k
theorem w_ifS {c : TT} (k : c σ H fun b H1 => if b = true then t D σ H1 else u D σ H1) : tIfS c t u D σ H := k
theorem w_asg {g : TG} (k : ta σ H fun x H1 => g x σ H1 D.nx) : tAsg ta g D σ H := k
theorem w_varx {i : Nat} (k : ∃ v, σ[i]? = some (some v) ∧ Q v H) : tVar i σ H Q := k
theorem w_for {wi : TI} {g : TG} (k : wi σ H fun J H1 => ∃ W : Nat → Nat → L2.St → Hp → Prop, (∃ m, W 0 m σ H1) ∧ ∀ i m σ H, W i m σ H →
  (J.stop i H ∧ D.nx σ H) ∨ (J.go i H ∧ ∃ N : L2.St → Hp → Prop, (∀ σ' H', N σ' H' → ∃ m', m' < m ∧ W (i + 1) m' σ' H') ∧ ∀ x H', J.yld i H x H' → g x σ H' fun σ2 H2 => t { D with nx := N, ct := N, bk := D.nx } σ2 H2)) : tFor wi g t D σ H := k
theorem w_rng3 {ts : TA} {R : It → Hp → Prop} (k : ts σ H fun vs H1 => ∃ (i j c : Int) (n : Nat), vs = [.int i, .int j, .int c] ∧ RgC i j c n ∧ R (Itc i c n) H1) : iRng3 ts σ H R := k
theorem w_rng1 {ts : TA} {R : It → Hp → Prop} (k : ts σ H fun vs H1 => ∃ j : Int, vs = [.int j] ∧ -(2 ^ 62) ≤ j ∧ j < 2 ^ 62 ∧ R (Itr 0 j.toNat) H1) : iRng1 ts σ H R := k
theorem w_rng2 {ts : TA} {R : It → Hp → Prop} (k : ts σ H fun vs H1 => ∃ i j : Int, vs = [.int i, .int j] ∧ (-(2 ^ 62) ≤ i ∧ i < 2 ^ 62 ∧ -(2 ^ 62) ≤ j ∧ j < 2 ^ 62) ∧ R (Itr i (j - i).toNat) H1) : iRng2 ts σ H R := k
theorem w_ilist {R : It → Hp → Prop} (k : ta σ H fun x H1 => ∃ a, x = .ref a ∧ (∃ xs, SqL K H1 a xs) ∧ R (Itl K a) H1) : iList K ta σ H R := k
theorem w_istr {R : It → Hp → Prop} (k : ta σ H fun v H1 => ∃ x, v = .str x ∧ R (Its x) H1) : iStr ta σ H R := k
theorem w_lc {wi : TI} {g : TG} {tt : TT} {vs : List Nat} (k : wi σ H fun J H1 => ∀ D, H1 D = none → ∃ W : Nat → Nat → Hp → Prop, (∃ m, W 0 m (upd H1 D (.lst []))) ∧ ∀ i m H, W i m H →
  (J.stop i H ∧ Q (.ref D) H) ∨ (J.go i H ∧ ∃ Nx : Hp → Prop, (∀ H', Nx H' → ∃ m', m' < m ∧ W (i + 1) m' H') ∧ ∀ x H', J.yld i H x H' → g x (wipe σ vs) H' fun σ2 H2 => wipe σ2 vs = wipe σ vs ∧ tt σ2 H2 fun b H3 =>
    if b = true then ta σ2 H3 fun y H4 => ∃ acc, H4 D = some (.lst acc) ∧ acc.length < sizeLine ∧ Nx (upd H4 D (.lst (acc ++ [y]))) else Nx H3)) : tLc wi g tt ta vs σ H Q := k
theorem w_m1 {r : V → List V → Hp → VK → Prop} (k : ta σ H fun x H1 => (∃ a, x = .str a) ∧ tb σ H1 fun y H2 => r x [y] H2 Q) : tM1 r ta tb σ H Q := k
theorem w_m0 {r : V → List V → Hp → VK → Prop} (k : ta σ H fun x H1 => (∃ a, x = .str a) ∧ r x [] H1 Q) : tM0 r ta σ H Q := k
theorem w_zip {ta : TA} {R : It → Hp → Prop} (k : ta σ H fun vs H1 => ∃ a b xs ys, vs = [.ref a, .ref b] ∧ SqL K H1 a xs ∧ SqL K H1 b ys ∧ R (Itz K a b) H1) : iZip K ta σ H R := k
theorem w_enum {ta : TA} {R : It → Hp → Prop} (k : ta σ H fun vs H1 => ∃ a xs, vs = [.ref a] ∧ SqL K H1 a xs ∧ R (Ite K a) H1) : iEnum K ta σ H R := k
theorem w_rev {ta : TA} {R : It → Hp → Prop} (k : ta σ H fun vs H1 => ∃ (a : Addr) (xs : List V), vs = [.ref a] ∧ SqL K H1 a xs ∧ R (Itv K a xs.length) H1) : iRev K ta σ H R := k
theorem w_sl {r : V → Option Int → Option Int → Hp → VK → Prop} {tl th : TO} (k : ta σ H fun x H1 => tl σ H1 fun l H2 => th σ H2 fun u H3 => r x l u H3 Q) : tSl r ta tl th σ H Q := k
theorem w_part {Q : Option Int → Hp → Prop} (k : ta σ H fun x H1 => ∃ i, x = .int i ∧ Q (some i) H1) : tPart ta σ H Q := k
theorem w_nop {Q : Option Int → Hp → Prop} (k : Q none H) : tNoPart σ H Q := k
theorem w_gname {i : Nat} {v : V} {Q : L2.St → Hp → Prop} (k : Q (σ.set i (some v)) H) : gName i v σ H Q := k
theorem w_yes {Q : Bool → Hp → Prop} (k : Q true H) : tYes σ H Q := k
theorem w_nil {Q : List V → Hp → Prop} (k : Q [] H) : tNil σ H Q := k
theorem w_cons {Q : List V → Hp → Prop} {ts : TA} (k : ta σ H fun x H1 => ts σ H1 fun xs H2 => Q (x :: xs) H2) : tCons ta ts σ H Q := k
theorem w_call {sp : Sp} {dvs : List V} {E : XK} {ts : TA} (k : ts σ H fun vs H1 => sp (vs ++ dvs) H1 Q E) : tCall sp dvs E ts σ H Q := k
theorem w_callS {sp : Sp} {E : L2.St → XK} {ts : TA} (k : ts σ H fun vs H1 => sp vs H1 Q (E σ)) : tCallS sp E ts σ H Q := k
theorem w_cb {ts : TA} {r : List V → Hp → VK → Prop} (k : ts σ H fun vs H1 => r vs H1 Q) : tCB r ts σ H Q := k
theorem w_meth {C : Addr} {m : Str} {sp : Sp} {dvs : List V} {E : XK} {ts : TA} (k : ta σ H fun x H1 => ∃ a dx fs, x = .ref a ∧ H1 a = some (.ins C dx fs) ∧ fs.lookup m = none ∧ ts σ H1 fun vs H2 => sp (x :: (vs ++ dvs)) H2 Q E) :
    tMeth C m sp dvs E ta ts σ H Q := k
theorem w_make {C : Addr} {sp : Sp} {dvs : List V} {E : XK} {ts : TA} (k : ts σ H fun vs H1 => ∀ x dx, H1 x = none → H1 dx = none → dx ≠ x → sp (.ref x :: (vs ++ dvs)) (upd (upd H1 dx (.own x)) x (.ins C dx [])) (fun v H2 => v = .non ∧ Q (.ref x) H2) E) : tMake C sp dvs E ts σ H Q := k
theorem w_fld {f : Str} (k : ta σ H fun x H1 => ∃ a C dx fs v, x = .ref a ∧ H1 a = some (.ins C dx fs) ∧ Cls K C ∧ NoAttr K C f ∧ fs.lookup f = some v ∧ Q v H1) : tFld K ta f σ H Q := k
theorem w_bm {T : String} {r : V → List V → Hp → VK → Prop} {ts : TA} (k : ta σ H fun x H1 => tyV K T x H1 ∧ ts σ H1 fun xs H2 => r x xs H2 Q) : tBM K T r ta ts σ H Q := k
theorem w_bm0 {T : String} {r : V → List V → Hp → VK → Prop} (k : ta σ H fun x H1 => tyV K T x H1 ∧ r x [] H1 Q) : tBM0 K T r ta σ H Q := k
theorem w_lst {ts : TA} (k : ts σ H fun xs H1 => xs.length ≤ sizeLine ∧ ∀ p, H1 p = none → Q (.ref p) (upd H1 p (.lst xs))) : tLst ts σ H Q := k
theorem w_tup {ts : TA} (k : ts σ H fun xs H1 => xs.length ≤ sizeLine ∧ ∀ p, H1 p = none → Q (.ref p) (upd H1 p (.tup xs))) : tTup ts σ H Q := k
/-- a new object is forgotten but for what it holds -/
theorem w_new {o : HO} {P : Addr → Hp → Prop} (k : ∀ p H', H p = none → Same H H' → H' p = some o → P p H') : ∀ p, H p = none → P p (upd H p o) :=
  fun p hp => k p _ hp (fun b o' e => by rw [upd_ne (ne_of_none e hp)]; exact e) upd_same
theorem w_mkl {xs : List V} {P : Addr → Hp → Prop} (l : xs.length ≤ sizeLine) (k : ∀ p H', H p = none → Same H H' → H' p = some (.lst xs) → P p H') : xs.length ≤ sizeLine ∧ ∀ p, H p = none → P p (upd H p (.lst xs)) := ⟨l, w_new k⟩
theorem w_mkt {xs : List V} {P : Addr → Hp → Prop} (l : xs.length ≤ sizeLine) (k : ∀ p H', H p = none → Same H H' → H' p = some (.tup xs) → P p H') : xs.length ≤ sizeLine ∧ ∀ p, H p = none → P p (upd H p (.tup xs)) := ⟨l, w_new k⟩
theorem w_ixl {p : Addr} {xs : List V} {i : Int} {v : V} (s : SqL K H p xs) (a : atI xs i = some v) (k : Q v H) : rIxL K (.ref p) (.int i) H Q := ⟨p, xs, i, v, rfl, rfl, s, a, k⟩
theorem w_ixt {p : Addr} {xs : List V} {i : Int} {v : V} (s : SqT K H p xs) (a : atI xs i = some v) (k : Q v H) : rIxT K (.ref p) (.int i) H Q := ⟨p, xs, i, v, rfl, rfl, s, a, k⟩
/-- a, b, .. = a tuple -/
theorem w_gtup {n : Nat} {g : TGs} {a : Addr} {xs : List V} {Q : L2.St → Hp → Prop} (s : SqT K H a xs) (l : xs.length = n) (k : g xs σ H Q) : gTup K n g (.ref a) σ H Q := ⟨a, xs, rfl, s, l, k⟩
theorem w_gcons {v : V} {vs : List V} {g : TG} {gs : TGs} {Q : L2.St → Hp → Prop} (k : g v σ H fun σ' H' => gs vs σ' H' Q) : gCons g gs (v :: vs) σ H Q := ⟨v, vs, rfl, k⟩
theorem w_gnil {Q : L2.St → Hp → Prop} (k : Q σ H) : gNil [] σ H Q := ⟨rfl, k⟩
end
theorem new_of {H : Hp} {p : Addr} {o : HO} (hp : H p = none) : ∃ H', upd H p o = H' ∧ Same H H' ∧ H' p = some o :=
  ⟨_, rfl, fun b o' e => by rw [upd_ne (ne_of_none e hp)]; exact e, upd_same⟩
theorem line_of {n : Nat} {xs : List V} (h : xs.length = n) (l : n ≤ 1000) : xs.length ≤ sizeLine := by rw [sizeLine_eq]; omega
theorem ite_d {p A B : Prop} [Decidable p] (h1 : p → A) (h2 : ¬ p → B) : if decide p = true then A else B := by
  by_cases h : p
  · rw [decide_eq_true h]; exact iteT (h1 h)
  · rw [decide_eq_false h]; exact iteF (h2 h)
theorem ite_n {p A B : Prop} [Decidable p] (h1 : ¬ p → A) (h2 : p → B) : if (!decide p) = true then A else B := by
  by_cases h : p
  · rw [decide_eq_true h]; exact iteF (h2 h)
  · rw [decide_eq_false h]; exact iteT (h1 h)
theorem ite_b {b : Bool} {A B : Prop} (h1 : b = true → A) (h2 : b = false → B) : if b = true then A else B := by
  cases b with
  | true => exact iteT (h1 rfl)
  | false => exact iteF (h2 rfl)

end Sk

/-! try .. except, any number of clauses, each with a class or a tuple of classes, with a name or none; behind a suite the error is tracked. -/
namespace Sk
open PySem PySem.Spec PyProof.Rows L2

/-- a caught error's record -/
def XO (cls : Value) (d : Option Addr) (a : Addr) : HO := .ext fun h => ∃ (oe : Obj) (vs : Array Value), h.get? a = some oe ∧ Zc cls d oe ∧ oe.data = .fields vs
theorem flying_more {B h h' : Heap} {l : List Env} {e : Addr} {Z : Obj → Prop} (f : HandSPX.FlyingZ B l e Z h) (k : ∀ b o, h.get? b = some o → h'.get? b = some o) : HandSPX.FlyingZ B l e Z h' :=
  ⟨fun b o q => k _ _ (f.1 b o q), f.2.1, f.2.2.1.of_keeps fun b o q _ => ⟨o, k _ _ q, rfl⟩,
    let ⟨oe, vs, T, oT, ts, h1, h2, h3, h4, h5, h6, h7, h8, h9⟩ := f.2.2.2
    ⟨oe, vs, T, oT, ts, k _ _ h1, h2, h3, h4, h5, h6, k _ _ h7, h8, h9⟩⟩
section
variable {X : Cx} {pins : List (Addr × Obj)} {σ : L2.St} {H : Hp} {s : Shared}
/-- an object that wasn't there at the entry is tracked from now on -/
theorem inv_track {a : Addr} {o : HO} (I : Inv X pins σ H s) (hn : H a = none) (n0 : a ∉ X.ex → X.s_0.heap.get? a = none) (nL : a ≠ X.env.locals) (nC : ∀ x c, X.env.cells.lookup x = some c → c ≠ a) (nP : ∀ p ∈ X.pn ++ pins, p.1 ≠ a)
    (ok : ObjOk X.prog X.w (upd H a o) s.heap a o) : Inv X pins σ (upd H a o) s := by
  have ne : ∀ {b : Addr} {u : HO}, H b = some u → upd H a o b = some u := fun {b u} e => by
    rw [upd_ne (ne_of_none e hn)]; exact e
  refine ⟨I.ok, I.os, I.bare, ⟨I.base.keep, I.base.slot, fun b u e n x => ?_, I.base.there, fun b xs e => ne (I.base.tups b xs e), fun b u xs e => ne (I.base.frzs b u xs e), fun b ps e => ?_⟩, I.loc, I.cell, ?_, fun x c e => ?_, fun p hp => ?_, fun b u e => ?_, I.len⟩
  · rw [upd_ne (by rintro rfl; rw [n0 x] at e; cases e)]
    exact I.base.free b u e n x
  · obtain ⟨more, q⟩ := I.base.tbls b ps e
    exact ⟨more, ne q⟩
  · rw [upd_ne nL.symm]; exact I.free
  · rw [upd_ne (nC x c e)]; exact I.freeC x c e
  · obtain ⟨p1, p2, p3⟩ := I.pin p hp
    exact ⟨p1, by rw [upd_ne (nP p hp)]; exact p2, p3⟩
  · by_cases hb : b = a
    · subst hb
      rw [upd_same] at e
      cases e
      exact ok
    · rw [upd_ne hb] at e
      exact (I.hok b u e).stay (fun c v _ q => q) (fun c q => ne q) fun c xs q => ne q
end
/-- a clause: what it catches, its name's slot, its suite's reading -/
structure Cl where
  m : Value → Option Bool
  i : Option Nat
  ts : Addr → Value → Option Addr → TS
def entN : Option Nat → Addr → L2.St → L2.St
  | none, _, σ => σ
  | some i, a, σ => σ.set i (some (.ref a))
def clrN : Option Nat → L2.St → L2.St
  | none, σ => σ
  | some i, σ => σ.set i none
def endsT (cls : Value) (d : Option Addr) (a : Addr) (i : Option Nat) (D : Ends) : Ends :=
  { nx := fun σ H => D.nx (clrN i σ) (upd H a (XO cls d a)), rt := D.rt, bk := fun σ H => D.bk (clrN i σ) (upd H a (XO cls d a)), ct := fun σ H => D.ct (clrN i σ) (upd H a (XO cls d a)) }
/-- what the clauses wish of an error of the body -/
def wTry : List Cl → WX → Ends → WX
  | [], Wout, _ => Wout
  | c :: r, Wout, D => fun cls d σ H => ∃ b, c.m cls = some b ∧ (b = true → ∀ a, H a = none → c.ts a cls d (endsT cls d a c.i D) (entN c.i a σ) H) ∧ (b = false → wTry r Wout D cls d σ H)
def TestOk (X : Cx) (t : Expr) (m : Value → Option Bool) : Prop :=
  ∀ (a : Addr) (oe : Obj) (pn : List (Addr × Obj)) (σ : L2.St) (H : Hp) (s : Shared) (b : Bool) (Q : Bool → Shared → Prop) (E : Value → Shared → Prop), Inv (X.suite a ((a, oe) :: pn)) [] σ H s → m oe.cls = some b →
    (∀ h', (∀ q o, s.heap.get? q = some o → h'.get? q = some o) → Q b { s with heap := h' }) →
    wpAny (model X.prog X.w) (X.A.mark (some (.ref a))) (eval t X.env) (fun c s₁ => wpAny (model X.prog X.w) (X.A.mark (some (.ref a))) (excMatches (.ref a) c) Q E s₁) E s
inductive Hd (X : Cx) : ExceptHandler → Cl → Prop
  | plain {t : Expr} {b₀ : Stmt} {suite : List Stmt} {pos : Pos} {m : Value → Option Bool} {ts : Addr → Value → Option Addr → TS} (ht : TestOk X t m)
      (hs : ∀ (a : Addr) (oe : Obj) (cls : Value) (d : Option Addr) (pn : List (Addr × Obj)), Zc cls d oe → (∃ vs, oe.data = .fields vs) → PSs (X.suite a ((a, oe) :: pn)) (b₀ :: suite) (ts a cls d)) :
      Hd X (.ExceptHandler (some t) none (b₀ :: suite) pos) ⟨m, none, ts⟩
  | named {t : Expr} {n : Str} {i : Nat} {b₀ : Stmt} {suite : List Stmt} {pos : Pos} {m : Value → Option Bool} {ts : Addr → Value → Option Addr → TS} (hi : X.N[i]? = some n) (hl : X.env.kindOf n = some .local) (ht : TestOk X t m)
      (hs : ∀ (a : Addr) (oe : Obj) (cls : Value) (d : Option Addr) (pn : List (Addr × Obj)), Zc cls d oe → (∃ vs, oe.data = .fields vs) → PSs (X.suite a ((a, oe) :: pn)) (b₀ :: suite) (ts a cls d)) :
      Hd X (.ExceptHandler (some t) (some n) (b₀ :: suite) pos) ⟨m, some i, ts⟩
inductive Hds (X : Cx) : List ExceptHandler → List Cl → Prop
  | nil : Hds X [] []
  | cons {h : ExceptHandler} {hs : List ExceptHandler} {c : Cl} {l : List Cl} (x : Hd X h c) (r : Hds X hs l) : Hds X (h :: hs) (c :: l)
theorem test_one {X : Cx} {x : Str} {c : Value} {np : Pos} (hc : Names X x c) : TestOk X (.Name x np) (fun cls => PySem.W.exmOne X.K cls c) := by
  intro a oe pn σ H s b Q E S e q
  have there := (S.pin (a, oe) (List.mem_append.mpr (.inl List.mem_cons_self))).1
  have LT : PySem.W.Looks (model X.prog X.w) s.heap (typeOf (.ref a)) oe.cls := fun A Q E s k q => wpAny_typeOf_ref (k _ _ there) q
  have go := (PySem.W.exm_one (M := model X.prog X.w) S.kIn LT e).here (Q := Q) (E := E) (A := X.A.mark (some (.ref a))) (q s.heap fun _ _ z => z)
  obtain ⟨hg, hdb, h1 | ⟨h1, h2, h3⟩⟩ := hc
  · exact ld_glob (X := X.suite a ((a, oe) :: pn)) S hg h1 go hdb
  · exact ld_blt (X := X.suite a ((a, oe) :: pn)) S hg h1 h2 go h3 hdb
section
variable {X : Cx} {h₀ : ExceptHandler} {hds : List ExceptHandler} {body : List Stmt} {pos : Pos} {l : List Cl} {tb : WX → TS} {Wout : WX}
theorem ps_tryM (hs : X.stack = X.env :: X.outer) (hf : X.env.frame = some X.env.locals) (hN : X.N.Nodup) (hh : Hds X (h₀ :: hds) l) (tk : Takes X Wout)
    (hb : ∀ (W : WX) (pn : List (Addr × Obj)) (xe : Value → Shared → Prop), Takes (X.tr pn xe) W → PassesOwn (model X.prog X.w) X.A X.env xe → PSs (X.tr pn xe) body (tb W)) :
    PS X (.Try body (h₀ :: hds) [] [] pos) (fun D σ H => tb (wTry l Wout D) D σ H) := by
  refine ⟨fun pins s σ H D I h => ?_⟩
  have okX := I.ok
  have fr : X.A.frames = some (X.env :: X.outer) := by rw [okX.frames, hs]
  refine wpAny_Try_except ?_
  refine wpAny_mono ((hb (wTry l Wout D) (X.pn ++ pins) _ (fun u s' xx => ?_) PassesOwn.looking).run [] s σ H D (I.toTry _) h) (fun f s1 hsp => ?_) (fun _ _ z => z)
  · obtain ⟨a, B, sI, pins', σ', H', cls, d, rfl, J', nb, up, sky, na, os, ag, wish⟩ := xx
    have J : Inv X pins σ' H' sI := J'.ofTry okX
    rw [hs] at sky
    show wpAny (model X.prog X.w) X.A (noteFrame (.ref a) X.env) _ _ _
    refine Sky.land Zc.steady fr hf sky fun h3 fl3 up3 => ?_
    have up3' := up.trans up3
    obtain ⟨oe3, vs3, he3, hz3, hd3⟩ := fl3.there
    have nfr : a ∉ frs (X.env :: X.outer) := fun hm => by
      obtain ⟨_, o', e', hnf⟩ := fl3.2.2.1.mem hm
      rw [he3] at e'
      cases e'
      exact hnf _ hd3
    have nL : a ≠ X.env.locals := fun z => nfr (List.mem_filterMap.mpr ⟨X.env, List.mem_cons_self, by rw [hf, z]⟩)
    have nF : a ∉ X.fs := fun hm => by
      obtain ⟨e, he, q⟩ := List.mem_filterMap.mp hm
      exact nfr (List.mem_filterMap.mpr ⟨e, List.mem_cons_of_mem _ he, q⟩)
    have inB : ∀ b, b ∉ frs (X.env :: X.outer) → (∃ o, sI.heap.get? b = some o) → b ≠ a := fun b h1 ⟨o, h2⟩ z => by
      have q := nb b o h2 (by rw [hs]; exact h1)
      rw [z, fl3.2.1] at q
      cases q
    have n0 : a ∉ X.ex → X.s_0.heap.get? a = none := fun hx => by
      cases q : X.s_0.heap.get? a with
      | none => rfl
      | some o => exact absurd rfl (inB a nfr (J.base.there a o q hx))
    have nP : ∀ p ∈ X.pn ++ pins, p.1 ≠ a := fun p hp => by
      obtain ⟨p1, _, p3, p4, _⟩ := J.pin p hp
      refine inB p.1 (fun hm => ?_) ⟨_, p1⟩
      obtain ⟨e, he, q⟩ := List.mem_filterMap.mp hm
      rcases List.mem_cons.mp he with z | z
      · rw [z, hf] at q
        exact p3 (Option.some.inj q).symm
      · exact p4 (List.mem_filterMap.mpr ⟨e, z, q⟩)
    -- behind a suite the error is tracked
    have behind : ∀ {oe : Obj} {σ6 : L2.St} {H6 : Hp} {s6 : Shared}, Zc cls d oe → (∃ vs, oe.data = .fields vs) → Inv (X.suite a ((a, oe) :: (X.pn ++ pins))) [] σ6 H6 s6 → Inv X pins σ6 (upd H6 a (XO cls d a)) s6 := fun {oe σ6 H6 s6} z hv S6 => by
      have S7 := S6.unsuite okX
      obtain ⟨p1, p2, _⟩ := S6.pin (a, oe) (List.mem_append.mpr (.inl List.mem_cons_self))
      obtain ⟨vs, hv⟩ := hv
      refine inv_track S7 p2 n0 nL (fun x c e => ?_) nP ⟨⟨oe, vs, p1, z, hv⟩, ⟨oe, p1⟩, fun h1 h2 ⟨o, v, q1, q2⟩ k => ⟨o, v, k o q1, q2⟩⟩
      rintro rfl
      obtain ⟨v, o, ho, hc⟩ := S7.cell x _ e
      rw [p1] at ho
      cases ho
      rw [hv] at hc
      cases hc
    have go : ∀ {hds' : List ExceptHandler} {l' : List Cl}, Hds X hds' l' → ∀ h3, HandSPX.FlyingZ B (X.env :: X.outer) a (Zc cls d) h3 → sI.heap.UpToSlots h3 → wTry l' Wout D cls d σ' H' →
        wpAny (model X.prog X.w) X.A (handleBy (.ref a) X.env hds') (SP X pins D) X.xe { s' with heap := h3 } := by
      intro hds' l' hk
      induction hk with
      | nil =>
        intro h3 fl3 up3 wsh
        refine wpAny_handleBy_nil ?_
        obtain ⟨k1, k2, k3, oe, vs, T, oT, ts', he, hz, hd, h1, hr⟩ := id fl3
        unfold PySem.passOn
        refine wpAny_bind (wpAny_field he hd h1 ?_)
        rw [if_neg (show ¬ ((Value.ref T == Value.none) = true) from by simp)]
        have last : wpAny (model X.prog X.w) X.A (setFlight (.ref a) X.env.frame) (fun _ s4 => wpAny (model X.prog X.w) X.A (throw (.ref a) : Sem Flow) (SP X pins D) X.xe s4) X.xe { s' with heap := h3 } := by
          rw [hf]
          refine HandSPX.setFlight_upZ fl3 fun h4 hh4 up4 => wpAny_throw (tk _ _ ?_)
          exact ⟨a, B, sI, pins, σ', H', cls, d, rfl, J, nb, up3.trans up4, .inr (.inr (by rw [hs]; exact hh4)), na, os, ag, wsh⟩
        first
          | exact wpAny_bind (wpAny_pure (wpAny_bind last))
          | exact wpAny_bind last
      | @cons hd' hds2 c l2 hx r ih =>
        intro h3 fl3 up3 wsh
        obtain ⟨b, hb1, hyes, hno⟩ := wsh
        obtain ⟨oe3, vs3, he3, hz3, hd3⟩ := fl3.there
        have S3 := (J.landed (s' := { s' with heap := h3 }) nb fl3.1 up3 os ag).suite he3 hd3 na nL nF
        cases hx with
        | plain ht hsu =>
          refine wpAny_handleBy_cons (codeAny_handlers_test ?_) (by intro q; cases q)
          refine ht a oe3 _ _ _ _ b _ _ S3 (by rw [hz3.1]; exact hb1) fun h5 kp => ?_
          have fl5 := flying_more fl3 kp
          have up5 := up3.trans (Heap.UpToSlots.of_keeps kp)
          cases b with
          | false => exact ih h5 fl5 up5 (hno rfl)
          | true =>
            refine codeAny_handlers_suite ?_
            refine HandSPX.lands_againZ fl5 fun h4 fl4 up4 => ?_
            obtain ⟨oe4, vs4, he4, hz4, hd4⟩ := fl4.there
            have S4 := (J.landed (s' := { s' with heap := h4 }) nb fl4.1 (up5.trans up4) os ag).suite he4 hd4 na nL nF
            refine wpAny_mono ((hsu a oe4 cls d (X.pn ++ pins) hz4 ⟨_, hd4⟩).run [] _ _ H' _ S4 (hyes rfl a na)) (fun f s6 hsp => ?_) (fun _ _ z => False.elim z)
            have bh := fun {σ6 : L2.St} {H6 : Hp} (S6 : Inv (X.suite a ((a, oe4) :: (X.pn ++ pins))) [] σ6 H6 s6) => behind hz4 ⟨_, hd4⟩ S6
            cases f with
            | ret u => exact let ⟨v6, σ6, H6, S6, r6, q6⟩ := hsp; ⟨v6, σ6, H6, S6.unsuite okX, r6, q6⟩
            | next => exact let ⟨σ6, H6, S6, q6⟩ := hsp; ⟨_, _, bh S6, q6⟩
            | brk => exact let ⟨σ6, H6, S6, q6⟩ := hsp; ⟨_, _, bh S6, q6⟩
            | cont => exact let ⟨σ6, H6, S6, q6⟩ := hsp; ⟨_, _, bh S6, q6⟩
        | @named t n i b₀ suite pos m ts hi hl ht hsu =>
          refine wpAny_handleBy_cons (codeAny_handlers_test ?_) (by intro q; cases q)
          refine ht a oe3 _ _ _ _ b _ _ S3 (by rw [hz3.1]; exact hb1) fun h5 kp => ?_
          have fl5 := flying_more fl3 kp
          have up5 := up3.trans (Heap.UpToSlots.of_keeps kp)
          cases b with
          | false => exact ih h5 fl5 up5 (hno rfl)
          | true =>
            refine codeAny_handlers_suite_as ?_
            refine HandSPX.lands_againZ fl5 fun h4 fl4 up4 => ?_
            obtain ⟨oe4, vs4, he4, hz4, hd4⟩ := fl4.there
            have S4 := (J.landed (s' := { s' with heap := h4 }) nb fl4.1 (up5.trans up4) os ag).suite he4 hd4 na nL nF
            refine store_ok (X := X.suite a ((a, oe4) :: (X.pn ++ pins))) (v := .ref a) S4 hN hi (.inl hl) rfl (fun s5 S5 => ?_) (.inr hl)
            refine wpAny_mono ((hsu a oe4 cls d (X.pn ++ pins) hz4 ⟨_, hd4⟩).run [] s5 _ H' _ S5 (hyes rfl a na)) (fun f s6 hsp => ?_) (fun _ _ z => False.elim z)
            have gone : ∀ {σ6 : L2.St} {H6 : Hp} {Q : Shared → Prop}, Inv (X.suite a ((a, oe4) :: (X.pn ++ pins))) [] σ6 H6 s6 → (∀ s7, Inv (X.suite a ((a, oe4) :: (X.pn ++ pins))) [] (σ6.set i none) H6 s7 → Q s7) →
                wpAny (model X.prog X.w) X.A (do bindName X.env n .none; unbindBehindTheSuite X.env n pos) (fun _ s7 => Q s7) X.xe s6 := fun {σ6 H6 Q} S6 hq => gone_ok (X := X.suite a ((a, oe4) :: (X.pn ++ pins))) S6 hN hi hl hq
            cases f with
            | ret u => exact let ⟨v6, σ6, H6, S6, r6, q6⟩ := hsp; gone S6 fun s7 S7 => ⟨v6, _, H6, S7.unsuite okX, r6, q6⟩
            | next => exact let ⟨σ6, H6, S6, q6⟩ := hsp; gone S6 fun s7 S7 => ⟨_, _, behind hz4 ⟨_, hd4⟩ S7, q6⟩
            | brk => exact let ⟨σ6, H6, S6, q6⟩ := hsp; gone S6 fun s7 S7 => ⟨_, _, behind hz4 ⟨_, hd4⟩ S7, q6⟩
            | cont => exact let ⟨σ6, H6, S6, q6⟩ := hsp; gone S6 fun s7 S7 => ⟨_, _, behind hz4 ⟨_, hd4⟩ S7, q6⟩
    exact go hh h3 fl3 up3' wish
  · cases f with
    | next => exact let ⟨σ', H', J', q⟩ := hsp; wpAny_execs_nil ⟨σ', H', J'.ofTry okX, q⟩
    | brk => exact let ⟨σ', H', J', q⟩ := hsp; ⟨σ', H', J'.ofTry okX, q⟩
    | cont => exact let ⟨σ', H', J', q⟩ := hsp; ⟨σ', H', J'.ofTry okX, q⟩
    | ret u => exact let ⟨v, σ', H', J', r, q⟩ := hsp; ⟨v, σ', H', J'.ofTry okX, r, q⟩
end
/-! ### isinstance of a tracked error -/
def rIsX (K : PySem.W.Frag) : List V → Hp → VK → Prop := fun xs H Q => ∃ (a D : Addr) (c : V) (u : Value) (b : Bool), xs = [.ref a, c] ∧ ClsV c u ∧ H a = some (XO (.ref D) none a) ∧ ExcC K D ∧ PySem.W.kitOne K (.ref D) u = some b ∧ Q (.bl b) H
def rIsXT (K : PySem.W.Frag) : List V → Hp → VK → Prop := fun xs H Q => ∃ (a D tp : Addr) (cs : List V) (us : List Value) (b : Bool), xs = [.ref a, .ref tp] ∧ H tp = some (.tup cs) ∧ Paired ClsV cs us ∧ H a = some (XO (.ref D) none a) ∧ ExcC K D ∧ PySem.W.kitAny K (.ref D) us = some b ∧ Q (.bl b) H
section
variable {X : Cx}
theorem xo_at {P : Program} {w : World} {H : Hp} {h : Heap} {a D : Addr} (ok : HOk P w H h) (e : H a = some (XO (.ref D) none a)) : ∃ oe, PySem.W.InstAt h a oe D none := by
  obtain ⟨oe, vs, he, ⟨z1, z2⟩, hv⟩ := (show ObjOk P w H h a (XO (.ref D) none a) from ok a _ e).1
  refine ⟨oe, ?_⟩
  obtain ⟨oc, od, oda, osl⟩ := oe
  dsimp only at z1 z2 hv
  subst z1 z2 hv
  exact ⟨he, rfl, rfl, trivial⟩
theorem call_isX : CallR X (.builtin "isinstance") (rIsX X.K) := by
  intro pins s σ H xs us Q I r h
  obtain ⟨a, D, c, u, b, rfl, k, ha, C, e, q⟩ := h
  obtain ⟨u1, u2, rfl, r1, r2⟩ := vals2 r
  have e2 := k.eq r2
  subst e2
  cases (show u1 = Value.ref a from r1)
  obtain ⟨oe, J⟩ := xo_at I.hok ha
  exact PySem.W.kia_one (PySem.W.handS_kitx_exc C.hg C.hk C.hs C.hd C.ha C.hn C.ht C.hm) I.kIn J e (fun z => nomatch z) fun tk => ⟨.bl b, H, I.tok tk, rfl, q⟩
theorem call_isXT : CallR X (.builtin "isinstance") (rIsXT X.K) := by
  intro pins s σ H xs us Q I r h
  obtain ⟨a, D, tp, cs, ws, b, rfl, hT, k, ha, C, e, q⟩ := h
  obtain ⟨u1, u2, rfl, r1, r2⟩ := vals2 r
  cases (show u2 = Value.ref tp from r2)
  cases (show u1 = Value.ref a from r1)
  obtain ⟨oe, J⟩ := xo_at I.hok ha
  obtain ⟨_, its, rv, o, h1, h2, n, h3⟩ := (show ObjOk X.prog X.w H s.heap tp (.tup cs) from I.hok tp _ hT)
  have e3 := ClsV.all k rv
  subst e3
  obtain ⟨oc, od, dt, sl⟩ := o
  simp only at h2 h3
  subst h2 h3
  exact PySem.W.kia_tup (PySem.W.handS_kitx_exc C.hg C.hk C.hs C.hd C.ha C.hn C.ht C.hm) I.kIn J h1 e (fun z => nomatch z) fun tk => ⟨.bl b, H, I.tok tk, rfl, q⟩
end
/-! ### isinstance of the error that a suite holds -/
def rIsS (K : PySem.W.Frag) (a : Addr) (cls : Value) (d : Option Addr) : List V → Hp → VK → Prop := fun xs H Q => ∃ (D : Addr) (c : V) (u : Value) (b : Bool), xs = [.ref a, c] ∧ cls = .ref D ∧ d = none ∧ ClsV c u ∧ ExcC K D ∧ PySem.W.kitOne K (.ref D) u = some b ∧ Q (.bl b) H
theorem call_isS {X : Cx} {a : Addr} {cls : Value} {d : Option Addr} {oe : Obj} {pn : List (Addr × Obj)} (hz : Zc cls d oe) (hf : ∃ vs, oe.data = .fields vs) : CallR (X.suite a ((a, oe) :: pn)) (.builtin "isinstance") (rIsS X.K a cls d) := by
  intro pins s σ H xs us Q I r h
  obtain ⟨D, c, u, b, rfl, rfl, rfl, k, C, e, q⟩ := h
  exact call_isE C hz hf pins s σ H _ us Q I r ⟨c, u, b, rfl, fun v rv => k.eq rv, e, q⟩
/-- a clause's test -/
theorem exm_sub {K : PySem.W.Frag} {mg : Str → Option Value} {x : Str} {C : Addr} {cls : Value} {b : Bool} (T : ExTx K mg x C) (hd : PySem.W.hasDictIn K C = true) (h : PySem.W.subIn K cls (.ref C) = some b) : PySem.W.exmOne K cls (.ref C) = some b :=
  PySem.W.exm_ref T.b hd T.t h
theorem kit_own {K : PySem.W.Frag} {D C : Addr} {b : Bool} (hd : PySem.W.hasDictIn K C = true) (ht : PySem.W.typeIn K (.ref C) = some (.type "type")) (hk : PySem.W.subIn K (.ref C) (.ref C) = some true) (h : PySem.W.subIn K (.ref D) (.ref C) = some b) : PySem.W.kitOne K (.ref D) (.ref C) = some b := by
  unfold PySem.W.kitOne
  by_cases e : D = C
  · subst e
    rw [hk] at h
    rw [if_pos (by simp)]
    exact h
  · rw [if_neg (by simpa using e)]
    obtain ⟨cd, hc, _⟩ := PySem.W.any_some hd
    unfold PySem.W.kitCls
    dsimp only
    rw [if_pos (by rw [hc, ht]; rfl)]
    exact h
theorem kit_bt {K : PySem.W.Frag} {D : Addr} {b : Bool} {T : String} (hm : PySem.W.kitMeta T = true) (h : PySem.W.subIn K (.ref D) (.type T) = some b) : PySem.W.kitOne K (.ref D) (.type T) = some b := by
  unfold PySem.W.kitOne
  rw [if_neg (by simp)]
  unfold PySem.W.kitCls
  dsimp only
  rw [if_pos hm]
  exact h
end Sk

namespace Sk
open PySem PySem.Spec PyProof.Rows L2

/-! ### the shelf: its trees, each once, parts first -/
abbrev sT (l : List Nat) : Str := ⟨l.toArray⟩
theorem sT_inj {l m : List Nat} (h : sT l = sT m) : l = m := by
  have := congrArg (fun x : Str => x.cps.toList) h
  simpa using this
theorem sT_len (l : List Nat) : (sT l).length = l.length := by simp [Str.length]
theorem sT_app (l m : List Nat) : sT l ++ sT m = sT (l ++ m) := by
  show Str.append _ _ = _
  unfold Str.append
  simp
def num (S : List Tr) (t : Tr) : Int := (S.idxOf t : Int) + 1
def Nm (S : List Tr) (n : Int) (t : Tr) : Prop := ∃ i : Nat, S[i]? = some t ∧ n = (i : Int) + 1
def Tx (S : List Tr) (n : Int) : Option Tr → Prop
  | none => n = 0
  | some t => Nm S n t
def inR (S : List Tr) (n : Int) : Prop := 0 ≤ n ∧ n ≤ (S.length : Int)
structure Good (S : List Tr) : Prop where
  nd : S.Nodup
  ok : ∀ t ∈ S, Ok t
  pr : ∀ (i : Nat) a b, S[i]? = some (.fk a b) → (∃ j, j < i ∧ S[j]? = some a) ∧ ∃ j, j < i ∧ S[j]? = some b
def put (S : List Tr) (t : Tr) : List Tr := if t ∈ S then S else S ++ [t]
abbrev Ext (S S' : List Tr) : Prop := S <+: S'

theorem getElem?_idxOf {S : List Tr} {t : Tr} (h : t ∈ S) : S[S.idxOf t]? = some t := by
  have := List.idxOf_lt_length_of_mem h
  rw [List.getElem?_eq_getElem this, List.getElem_idxOf]
theorem Nm.mem {S : List Tr} {n : Int} {t : Tr} (h : Nm S n t) : t ∈ S := by
  obtain ⟨i, e, _⟩ := h
  exact List.mem_of_getElem? e
theorem nd_same {S : List Tr} (g : S.Nodup) {i j : Nat} {t : Tr} (h : S[i]? = some t) (h' : S[j]? = some t) : i = j := nd_ix g h h'
theorem Nm.num {S : List Tr} {n : Int} {t : Tr} (h : Nm S n t) (g : S.Nodup) : n = num S t := by
  obtain ⟨i, e, rfl⟩ := h
  have := nd_same g e (getElem?_idxOf (List.mem_of_getElem? e))
  unfold Sk.num
  omega
theorem nm_num {S : List Tr} {t : Tr} (h : t ∈ S) : Nm S (num S t) t := ⟨S.idxOf t, getElem?_idxOf h, rfl⟩
theorem Nm.uni {S : List Tr} {n : Int} {t u : Tr} (h : Nm S n t) (h' : Nm S n u) : t = u := by
  obtain ⟨i, e, rfl⟩ := h
  obtain ⟨j, e', z⟩ := h'
  have : i = j := by omega
  subst this
  rw [e] at e'
  exact Option.some.inj e'
theorem Nm.pos {S : List Tr} {n : Int} {t : Tr} (h : Nm S n t) : 0 < n ∧ n ≤ S.length := by
  obtain ⟨i, e, rfl⟩ := h
  have := (List.getElem?_eq_some_iff.mp e).1
  omega
theorem Nm.of {S : List Tr} {n : Int} (h : 0 < n) (h' : n ≤ S.length) : ∃ t, Nm S n t := by
  have l : n.toNat - 1 < S.length := by omega
  exact ⟨S[n.toNat - 1], n.toNat - 1, List.getElem?_eq_getElem l, by omega⟩
theorem Tx.uni {S : List Tr} {n : Int} {o p : Option Tr} (h : Tx S n o) (h' : Tx S n p) : o = p := by
  cases o with
  | none => cases p with
    | none => rfl
    | some u => have := Nm.pos (show Nm S n u from h'); have : n = 0 := h; omega
  | some t => cases p with
    | none => have := Nm.pos (show Nm S n t from h); have : n = 0 := h'; omega
    | some u => rw [Nm.uni (show Nm S n t from h) h']
theorem Tx.inR {S : List Tr} {n : Int} {o : Option Tr} (h : Tx S n o) : Sk.inR S n := by
  cases o with
  | none => have : n = 0 := h; subst this; exact ⟨Int.le_refl _, by omega⟩
  | some t => have := Nm.pos (show Nm S n t from h); exact ⟨by omega, this.2⟩
theorem Tx.of {S : List Tr} {n : Int} (h : Sk.inR S n) : ∃ o, Tx S n o := by
  by_cases e : n = 0
  · exact ⟨none, e⟩
  · obtain ⟨t, h⟩ := Nm.of (S := S) (n := n) (by have := h.1; omega) h.2
    exact ⟨some t, h⟩
theorem Nm.ext {S S' : List Tr} {n : Int} {t : Tr} (e : Ext S S') (h : Nm S n t) : Nm S' n t := by
  obtain ⟨m, rfl⟩ := e
  obtain ⟨i, e, rfl⟩ := h
  exact ⟨i, by rw [List.getElem?_append_left (List.getElem?_eq_some_iff.mp e).1]; exact e, rfl⟩
theorem Tx.ext {S S' : List Tr} {n : Int} {o : Option Tr} (e : Ext S S') (h : Tx S n o) : Tx S' n o := by
  cases o with
  | none => exact h
  | some t => exact Nm.ext e h
theorem num_ext {S S' : List Tr} {t : Tr} (e : Ext S S') (h : t ∈ S) : num S' t = num S t := by
  obtain ⟨m, rfl⟩ := e
  unfold Sk.num
  rw [List.idxOf_append, if_pos h]
theorem put_mem {S : List Tr} {t : Tr} : t ∈ put S t := by
  unfold put
  split
  · assumption
  · simp
theorem put_ext {S : List Tr} {t : Tr} : Ext S (put S t) := by
  unfold put
  split
  · exact List.prefix_refl _
  · exact List.prefix_append _ _
theorem put_len {S : List Tr} {t : Tr} : (put S t).length ≤ S.length + 1 := by
  unfold put
  split
  · omega
  · simp
theorem put_in {S : List Tr} {t : Tr} (h : t ∈ S) : put S t = S := by unfold put; rw [if_pos h]
theorem put_new {S : List Tr} {t : Tr} (h : t ∉ S) : put S t = S ++ [t] := by unfold put; rw [if_neg h]
theorem Good.parts {S : List Tr} (g : Good S) {a b : Tr} (h : Tr.fk a b ∈ S) : a ∈ S ∧ b ∈ S := by
  obtain ⟨i, e⟩ := List.getElem?_of_mem h
  obtain ⟨⟨j, _, x⟩, ⟨k, _, y⟩⟩ := g.pr i a b e
  exact ⟨List.mem_of_getElem? x, List.mem_of_getElem? y⟩
theorem Good.fi {S : List Tr} (g : Good S) : ∀ {t : Tr}, t ∈ S → t.fi ∈ S
  | .lf l, h => h
  | .fk a b, h => Good.fi (t := a) g (g.parts h).1
theorem Good.la {S : List Tr} (g : Good S) : ∀ {t : Tr}, t ∈ S → t.la ∈ S
  | .lf l, h => h
  | .fk a b, h => Good.la (t := b) g (g.parts h).2
theorem good_nil : Good [] := ⟨List.nodup_nil, fun _ h => (nomatch h), fun i a b h => by simp at h⟩
theorem Good.put {S : List Tr} (g : Good S) {t : Tr} (o : Ok t) (p : ∀ a b, t = .fk a b → a ∈ S ∧ b ∈ S) : Good (put S t) := by
  by_cases h : t ∈ S
  · rw [put_in h]; exact g
  rw [put_new h]
  refine ⟨?_, fun u hu => ?_, fun i a b e => ?_⟩
  · rw [List.nodup_append]
    exact ⟨g.nd, by simp, fun a ha b hb => by
      rw [List.mem_singleton] at hb
      rintro rfl
      exact h (hb ▸ ha)⟩
  · rcases List.mem_append.mp hu with hu | hu
    · exact g.ok u hu
    · rw [List.mem_singleton] at hu; rw [hu]; exact o
  · by_cases l : i < S.length
    · rw [List.getElem?_append_left l] at e
      obtain ⟨⟨j, jl, x⟩, ⟨k, kl, y⟩⟩ := g.pr i a b e
      exact ⟨⟨j, jl, by rw [List.getElem?_append_left (by omega)]; exact x⟩, k, kl, by rw [List.getElem?_append_left (by omega)]; exact y⟩
    · have l2 : i < (S ++ [t]).length := (List.getElem?_eq_some_iff.mp e).1
      have l3 : i = S.length := by simp at l2; omega
      subst l3
      rw [List.getElem?_append_right (Nat.le_refl _)] at e
      simp at e
      obtain ⟨ha, hb⟩ := p a b e
      obtain ⟨j, x⟩ := List.getElem?_of_mem ha
      obtain ⟨k, y⟩ := List.getElem?_of_mem hb
      have jl := (List.getElem?_eq_some_iff.mp x).1
      have kl := (List.getElem?_eq_some_iff.mp y).1
      exact ⟨⟨j, jl, by rw [List.getElem?_append_left jl]; exact x⟩, k, kl, by rw [List.getElem?_append_left kl]; exact y⟩

/-! ### the pieces as Python has them -/
def key (S : List Tr) : Tr → List Key
  | .lf l => [.inr "leaf", .inr (sT l)]
  | .fk a b => [.inr "fork", .inl (num S a), .inl (num S b)]
def pvals (S : List Tr) (t : Tr) : List V := (key S t).map kV
def kvs (S : List Tr) : List (List Key × V) := S.map fun t => (key S t, .int (num S t))
theorem key_fk (S : List Tr) (a b : Tr) : key S (.fk a b) = [.inr "fork", .inl (num S a), .inl (num S b)] := rfl
theorem key_lf (S : List Tr) (l : List Nat) : key S (.lf l) = [.inr "leaf", .inr (sT l)] := rfl
theorem key_ext {S S' : List Tr} (g : Good S) (e : Ext S S') {t : Tr} (h : t ∈ S) : key S' t = key S t := by
  cases t with
  | lf l => rfl
  | fk a b =>
    obtain ⟨ha, hb⟩ := g.parts h
    rw [key_fk, key_fk, num_ext e ha, num_ext e hb]
theorem num_inj {S : List Tr} {t u : Tr} (h : t ∈ S) (h' : u ∈ S) (e : num S t = num S u) : t = u :=
  Nm.uni (nm_num h) (e ▸ nm_num h')
theorem leaf_ne_fork : ¬ (("leaf" : Str) = "fork") := by decide +kernel
/-- equal keys, equal trees: the parts of both on the shelf -/
theorem key_inj {S : List Tr} {t u : Tr} (h : ∀ a b, t = .fk a b → a ∈ S ∧ b ∈ S) (h' : ∀ a b, u = .fk a b → a ∈ S ∧ b ∈ S) (e : key S t = key S u) : t = u := by
  cases t with
  | lf l => cases u with
    | lf m =>
      unfold key at e
      injection e with _ e
      injection e with e _
      rw [sT_inj (Sum.inr.inj e)]
    | fk a b =>
      unfold key at e
      injection e with e _
      exact absurd (Sum.inr.inj e) leaf_ne_fork
  | fk a b => cases u with
    | lf m =>
      unfold key at e
      injection e with e _
      exact absurd (Sum.inr.inj e).symm leaf_ne_fork
    | fk c d =>
      obtain ⟨ha, hb⟩ := h a b rfl
      obtain ⟨hc, hd⟩ := h' c d rfl
      unfold key at e
      injection e with _ e
      injection e with e1 e
      injection e with e2 _
      rw [num_inj ha hc (Sum.inl.inj e1), num_inj hb hd (Sum.inl.inj e2)]
theorem valV_kvs_aux {S : List Tr} {t : Tr} (kt : ∀ a b, t = .fk a b → a ∈ S ∧ b ∈ S) : ∀ L : List Tr, (∀ u ∈ L, ∀ a b, u = .fk a b → a ∈ S ∧ b ∈ S) →
    valV (L.map fun u => (key S u, V.int (num S u))) (key S t) = if t ∈ L then some (.int (num S t)) else none
  | [], _ => rfl
  | u :: L, hL => by
    have ih := valV_kvs_aux kt L fun v hv => hL v (List.mem_cons_of_mem _ hv)
    unfold valV at ih ⊢
    rw [List.map_cons, List.find?_cons]
    by_cases e : key S u = key S t
    · have : u = t := key_inj (hL u List.mem_cons_self) kt e
      subst this
      simp
    · have ne : ¬ t = u := fun z => e (by rw [z])
      simp only [decide_eq_false e]
      rw [ih]
      simp [ne]
theorem valV_kvs {S : List Tr} (g : Good S) {t : Tr} (kt : ∀ a b, t = .fk a b → a ∈ S ∧ b ∈ S) : valV (kvs S) (key S t) = if t ∈ S then some (.int (num S t)) else none :=
  valV_kvs_aux kt S fun u hu a b e => by subst e; exact g.parts hu
theorem kvs_snoc {S : List Tr} (g : Good S) {t : Tr} (h : t ∉ S) (kt : ∀ a b, t = .fk a b → a ∈ S ∧ b ∈ S) : kvs (S ++ [t]) = kvs S ++ [(key S t, .int (S.length + 1))] := by
  have e : Ext S (S ++ [t]) := List.prefix_append _ _
  unfold kvs
  rw [List.map_append]
  congr 1
  · refine List.map_congr_left fun u hu => ?_
    rw [key_ext g e hu, num_ext e hu]
  · have k : key (S ++ [t]) t = key S t := by
      cases t with
      | lf l => rfl
      | fk a b =>
        obtain ⟨ha, hb⟩ := kt a b rfl
        rw [key_fk, key_fk, num_ext e ha, num_ext e hb]
    have z : num (S ++ [t]) t = S.length + 1 := by
      unfold num
      rw [List.idxOf_append, if_neg h]
      simp
    rw [List.map_cons, List.map_nil, k, z]

/-! ### the shelf in the heap -/
structure Cells where
  (a dx pc nb sg en lv ht fi la : Addr)
def Cells.all (c : Cells) : List Addr := [c.a, c.dx, c.pc, c.nb, c.sg, c.en, c.lv, c.ht, c.fi, c.la]
def flds (c : Cells) : List (Str × V) := [("pieces", .ref c.pc), ("numbers", .ref c.nb), ("told_signs", .ref c.sg), ("told_ends", .ref c.en), ("told_leaves", .ref c.lv), ("told_heights", .ref c.ht), ("firsts", .ref c.fi), ("lasts", .ref c.la)]
theorem fl_pieces (c : Cells) : (flds c).lookup ("pieces" : Str) = some (V.ref c.pc) := rfl
theorem fl_numbers (c : Cells) : (flds c).lookup ("numbers" : Str) = some (V.ref c.nb) := rfl
theorem fl_signs (c : Cells) : (flds c).lookup ("told_signs" : Str) = some (V.ref c.sg) := rfl
theorem fl_ends (c : Cells) : (flds c).lookup ("told_ends" : Str) = some (V.ref c.en) := rfl
theorem fl_leaves (c : Cells) : (flds c).lookup ("told_leaves" : Str) = some (V.ref c.lv) := rfl
theorem fl_heights (c : Cells) : (flds c).lookup ("told_heights" : Str) = some (V.ref c.ht) := rfl
theorem fl_firsts (c : Cells) : (flds c).lookup ("firsts" : Str) = some (V.ref c.fi) := rfl
theorem fl_lasts (c : Cells) : (flds c).lookup ("lasts" : Str) = some (V.ref c.la) := rfl
theorem fl_no {c : Cells} {m : Str} (h : (m == "pieces" || m == "numbers" || m == "told_signs" || m == "told_ends" || m == "told_leaves" || m == "told_heights" || m == "firsts" || m == "lasts") = false) : (flds c).lookup m = none := by
  simp only [Bool.or_eq_false_iff] at h
  obtain ⟨⟨⟨⟨⟨⟨⟨h1, h2⟩, h3⟩, h4⟩, h5⟩, h6⟩, h7⟩, h8⟩ := h
  unfold flds
  simp only [List.lookup, h1, h2, h3, h4, h5, h6, h7, h8]

def cap : Nat := 16000000
theorem cap_line : cap < sizeLine := by rw [sizeLine_eq]; decide
structure ShAt (C : Addr) (c : Cells) (H : Hp) (S : List Tr) : Prop where
  ob : H c.a = some (.ins C c.dx (flds c))
  ow : H c.dx = some (.own c.a)
  pc : ∃ rs : List Addr, H c.pc = some (.lst (.non :: rs.map V.ref)) ∧ rs.length = S.length ∧ ∀ (i : Nat) r t, rs[i]? = some r → S[i]? = some t → H r = some (.tup (pvals S t))
  nb : H c.nb = some (.dT (kvs S))
  sg : H c.sg = some (.lst (.int 0 :: S.map fun t => .int t.sg))
  en : H c.en = some (.lst (.int 0 :: S.map fun t => .int t.en))
  lv : H c.lv = some (.lst (.int 0 :: S.map fun t => .int t.lv))
  ht : H c.ht = some (.lst (.int (-1) :: S.map fun t => .int t.ht))
  fi : H c.fi = some (.lst (.int 0 :: S.map fun t => .int (num S t.fi)))
  la : H c.la = some (.lst (.int 0 :: S.map fun t => .int (num S t.la)))
  gd : Good S
  nd : c.all.Nodup
  cp : S.length ≤ cap
/-- all but the shelf's own cells stands -/
def Keep (c : Cells) (H H' : Hp) : Prop := ∀ b o, b ∉ c.all → H b = some o → H' b = some o
theorem Keep.refl (c : Cells) (H : Hp) : Keep c H H := fun _ _ _ h => h
theorem Keep.trans {c : Cells} {H H1 H2 : Hp} (x : Keep c H H1) (y : Keep c H1 H2) : Keep c H H2 := fun b o n h => y b o n (x b o n h)
theorem Keep.of {c : Cells} {H H' : Hp} (s : Same H H') : Keep c H H' := fun b o _ h => s b o h
theorem ShAt.same {C : Addr} {c : Cells} {H H' : Hp} {S : List Tr} (x : ShAt C c H S) (s : Same H H') : ShAt C c H' S :=
  ⟨s _ _ x.ob, s _ _ x.ow, let ⟨rs, h1, h2, h3⟩ := x.pc; ⟨rs, s _ _ h1, h2, fun i r t e1 e2 => s _ _ (h3 i r t e1 e2)⟩, s _ _ x.nb, s _ _ x.sg, s _ _ x.en, s _ _ x.lv, s _ _ x.ht, s _ _ x.fi, s _ _ x.la, x.gd, x.nd, x.cp⟩
theorem ShAt.apart {C : Addr} {c : Cells} {H : Hp} {S : List Tr} (x : ShAt C c H S) {p : Addr} (h : H p = none) : p ∉ c.all := by
  obtain ⟨rs, h1, _⟩ := x.pc
  have f : ∀ {b : Addr} {o : HO}, H b = some o → p ≠ b := fun e => (ne_of_none e h).symm
  simp only [Cells.all, List.mem_cons, List.not_mem_nil, or_false, not_or]
  exact ⟨f x.ob, f x.ow, f h1, f x.nb, f x.sg, f x.en, f x.lv, f x.ht, f x.fi, f x.la⟩
/-- what is no list of the kinds there is apart from the shelf -/
theorem ShAt.apart_tup {C : Addr} {c : Cells} {H : Hp} {S : List Tr} (x : ShAt C c H S) {p : Addr} {xs : List V} (h : H p = some (.tup xs)) : p ∉ c.all := by
  obtain ⟨rs, h1, _⟩ := x.pc
  simp only [Cells.all, List.mem_cons, List.not_mem_nil, or_false, not_or]
  exact ⟨ne_of h x.ob (by intro z; cases z), ne_of h x.ow (by intro z; cases z), ne_of h h1 (by intro z; cases z), ne_of h x.nb (by intro z; cases z), ne_of h x.sg (by intro z; cases z), ne_of h x.en (by intro z; cases z), ne_of h x.lv (by intro z; cases z), ne_of h x.ht (by intro z; cases z), ne_of h x.fi (by intro z; cases z), ne_of h x.la (by intro z; cases z)⟩
/-! reading the told lists -/
theorem atI_tx {S : List Tr} {n : Int} {o : Option Tr} {z : V} {f : Tr → V} (h : Tx S n o) : atI (z :: S.map f) n = some (match o with | none => z | some t => f t) := by
  cases o with
  | none =>
    have : n = 0 := h
    subst this
    exact at_of (j := 0) rfl rfl
  | some t =>
    obtain ⟨i, e, rfl⟩ := (show Nm S n t from h)
    exact at_of (j := i + 1) (by omega) (by rw [List.getElem?_cons_succ, List.getElem?_map, e]; rfl)
theorem atI_nm {S : List Tr} {n : Int} {t : Tr} {z : V} {f : Tr → V} (h : Nm S n t) : atI (z :: S.map f) n = some (f t) := atI_tx (o := some t) h
theorem piece_at {C : Addr} {c : Cells} {H : Hp} {S : List Tr} (x : ShAt C c H S) {n : Int} {t : Tr} (h : Nm S n t) : ∃ xs r, H c.pc = some (.lst xs) ∧ xs.length = S.length + 1 ∧ atI xs n = some (.ref r) ∧ H r = some (.tup (pvals S t)) := by
  obtain ⟨rs, h1, h2, h3⟩ := x.pc
  obtain ⟨i, e, rfl⟩ := h
  have il := (List.getElem?_eq_some_iff.mp e).1
  have er : rs[i]? = some (rs[i]'(by omega)) := List.getElem?_eq_getElem (by omega)
  exact ⟨_, rs[i]'(by omega), h1, by simp [h2], at_of (j := i + 1) (by omega) (by rw [List.getElem?_cons_succ, List.getElem?_map, er]; rfl), h3 i _ t er e⟩

theorem cne {c : Cells} (nd : c.all.Nodup) {i j : Nat} {x y : Addr} (hi : c.all[i]? = some x) (hj : c.all[j]? = some y) (h : i ≠ j) : x ≠ y := fun e => h (nd_ix nd hi (e ▸ hj))
theorem uc {c : Cells} (nd : c.all.Nodup) (i j : Nat) {x y : Addr} {o : HO} {H : Hp} {v : Option HO} (k : H x = v) (hi : c.all[i]? = some x := by rfl) (hj : c.all[j]? = some y := by rfl) (h : i ≠ j := by decide) : upd H y o x = v := (upd_ne (cne nd hi hj h)).trans k
/-- the cells stand apart -/
theorem Cells.nes {c : Cells} (nd : c.all.Nodup) : c.a ≠ c.pc ∧ c.a ≠ c.nb ∧ c.a ≠ c.sg ∧ c.a ≠ c.en ∧ c.a ≠ c.lv ∧ c.a ≠ c.ht ∧ c.a ≠ c.fi ∧ c.a ≠ c.la ∧ c.dx ≠ c.pc ∧ c.dx ≠ c.nb ∧ c.dx ≠ c.sg ∧ c.dx ≠ c.en ∧ c.dx ≠ c.lv ∧ c.dx ≠ c.ht ∧ c.dx ≠ c.fi ∧ c.dx ≠ c.la ∧ c.pc ≠ c.nb ∧ c.pc ≠ c.sg ∧ c.pc ≠ c.en ∧ c.pc ≠ c.lv ∧ c.pc ≠ c.ht ∧ c.pc ≠ c.fi ∧ c.pc ≠ c.la ∧ c.nb ≠ c.pc ∧ c.nb ≠ c.sg ∧ c.nb ≠ c.en ∧ c.nb ≠ c.lv ∧ c.nb ≠ c.ht ∧ c.nb ≠ c.fi ∧ c.nb ≠ c.la ∧ c.sg ≠ c.pc ∧ c.sg ≠ c.nb ∧ c.sg ≠ c.en ∧ c.sg ≠ c.lv ∧ c.sg ≠ c.ht ∧ c.sg ≠ c.fi ∧ c.sg ≠ c.la ∧ c.en ≠ c.pc ∧ c.en ≠ c.nb ∧ c.en ≠ c.sg ∧ c.en ≠ c.lv ∧ c.en ≠ c.ht ∧ c.en ≠ c.fi ∧ c.en ≠ c.la ∧ c.lv ≠ c.pc ∧ c.lv ≠ c.nb ∧ c.lv ≠ c.sg ∧ c.lv ≠ c.en ∧ c.lv ≠ c.ht ∧ c.lv ≠ c.fi ∧ c.lv ≠ c.la ∧ c.ht ≠ c.pc ∧ c.ht ≠ c.nb ∧ c.ht ≠ c.sg ∧ c.ht ≠ c.en ∧ c.ht ≠ c.lv ∧ c.ht ≠ c.fi ∧ c.ht ≠ c.la ∧ c.fi ≠ c.pc ∧ c.fi ≠ c.nb ∧ c.fi ≠ c.sg ∧ c.fi ≠ c.en ∧ c.fi ≠ c.lv ∧ c.fi ≠ c.ht ∧ c.fi ≠ c.la ∧ c.la ≠ c.pc ∧ c.la ≠ c.nb ∧ c.la ≠ c.sg ∧ c.la ≠ c.en ∧ c.la ≠ c.lv ∧ c.la ≠ c.ht ∧ c.la ≠ c.fi := ⟨cne nd (i := 0) (j := 2) rfl rfl (by decide), cne nd (i := 0) (j := 3) rfl rfl (by decide), cne nd (i := 0) (j := 4) rfl rfl (by decide), cne nd (i := 0) (j := 5) rfl rfl (by decide), cne nd (i := 0) (j := 6) rfl rfl (by decide), cne nd (i := 0) (j := 7) rfl rfl (by decide), cne nd (i := 0) (j := 8) rfl rfl (by decide), cne nd (i := 0) (j := 9) rfl rfl (by decide), cne nd (i := 1) (j := 2) rfl rfl (by decide), cne nd (i := 1) (j := 3) rfl rfl (by decide), cne nd (i := 1) (j := 4) rfl rfl (by decide), cne nd (i := 1) (j := 5) rfl rfl (by decide), cne nd (i := 1) (j := 6) rfl rfl (by decide), cne nd (i := 1) (j := 7) rfl rfl (by decide), cne nd (i := 1) (j := 8) rfl rfl (by decide), cne nd (i := 1) (j := 9) rfl rfl (by decide), cne nd (i := 2) (j := 3) rfl rfl (by decide), cne nd (i := 2) (j := 4) rfl rfl (by decide), cne nd (i := 2) (j := 5) rfl rfl (by decide), cne nd (i := 2) (j := 6) rfl rfl (by decide), cne nd (i := 2) (j := 7) rfl rfl (by decide), cne nd (i := 2) (j := 8) rfl rfl (by decide), cne nd (i := 2) (j := 9) rfl rfl (by decide), cne nd (i := 3) (j := 2) rfl rfl (by decide), cne nd (i := 3) (j := 4) rfl rfl (by decide), cne nd (i := 3) (j := 5) rfl rfl (by decide), cne nd (i := 3) (j := 6) rfl rfl (by decide), cne nd (i := 3) (j := 7) rfl rfl (by decide), cne nd (i := 3) (j := 8) rfl rfl (by decide), cne nd (i := 3) (j := 9) rfl rfl (by decide), cne nd (i := 4) (j := 2) rfl rfl (by decide), cne nd (i := 4) (j := 3) rfl rfl (by decide), cne nd (i := 4) (j := 5) rfl rfl (by decide), cne nd (i := 4) (j := 6) rfl rfl (by decide), cne nd (i := 4) (j := 7) rfl rfl (by decide), cne nd (i := 4) (j := 8) rfl rfl (by decide), cne nd (i := 4) (j := 9) rfl rfl (by decide), cne nd (i := 5) (j := 2) rfl rfl (by decide), cne nd (i := 5) (j := 3) rfl rfl (by decide), cne nd (i := 5) (j := 4) rfl rfl (by decide), cne nd (i := 5) (j := 6) rfl rfl (by decide), cne nd (i := 5) (j := 7) rfl rfl (by decide), cne nd (i := 5) (j := 8) rfl rfl (by decide), cne nd (i := 5) (j := 9) rfl rfl (by decide), cne nd (i := 6) (j := 2) rfl rfl (by decide), cne nd (i := 6) (j := 3) rfl rfl (by decide), cne nd (i := 6) (j := 4) rfl rfl (by decide), cne nd (i := 6) (j := 5) rfl rfl (by decide), cne nd (i := 6) (j := 7) rfl rfl (by decide), cne nd (i := 6) (j := 8) rfl rfl (by decide), cne nd (i := 6) (j := 9) rfl rfl (by decide), cne nd (i := 7) (j := 2) rfl rfl (by decide), cne nd (i := 7) (j := 3) rfl rfl (by decide), cne nd (i := 7) (j := 4) rfl rfl (by decide), cne nd (i := 7) (j := 5) rfl rfl (by decide), cne nd (i := 7) (j := 6) rfl rfl (by decide), cne nd (i := 7) (j := 8) rfl rfl (by decide), cne nd (i := 7) (j := 9) rfl rfl (by decide), cne nd (i := 8) (j := 2) rfl rfl (by decide), cne nd (i := 8) (j := 3) rfl rfl (by decide), cne nd (i := 8) (j := 4) rfl rfl (by decide), cne nd (i := 8) (j := 5) rfl rfl (by decide), cne nd (i := 8) (j := 6) rfl rfl (by decide), cne nd (i := 8) (j := 7) rfl rfl (by decide), cne nd (i := 8) (j := 9) rfl rfl (by decide), cne nd (i := 9) (j := 2) rfl rfl (by decide), cne nd (i := 9) (j := 3) rfl rfl (by decide), cne nd (i := 9) (j := 4) rfl rfl (by decide), cne nd (i := 9) (j := 5) rfl rfl (by decide), cne nd (i := 9) (j := 6) rfl rfl (by decide), cne nd (i := 9) (j := 7) rfl rfl (by decide), cne nd (i := 9) (j := 8) rfl rfl (by decide)⟩
def laidH (c : Cells) (H : Hp) (xs : List V) (S : List Tr) (t : Tr) (p : Addr) : Hp :=
  upd (upd (upd (upd (upd (upd H c.pc (.lst (xs ++ [.ref p]))) c.nb (.dT (putK (kvs S) (key S t) (.int (S.length + 1))))) c.sg (.lst ((.int 0 :: S.map fun t => .int t.sg) ++ [.int t.sg])))
    c.en (.lst ((.int 0 :: S.map fun t => .int t.en) ++ [.int t.en]))) c.lv (.lst ((.int 0 :: S.map fun t => .int t.lv) ++ [.int t.lv]))) c.ht (.lst ((.int (-1) :: S.map fun t => .int t.ht) ++ [.int t.ht]))
def lainH (c : Cells) (H : Hp) (xs : List V) (S : List Tr) (t : Tr) (p : Addr) (f l : Int) : Hp :=
  upd (upd (laidH c H xs S t p) c.fi (.lst ((.int 0 :: S.map fun t => .int (num S t.fi)) ++ [.int f]))) c.la (.lst ((.int 0 :: S.map fun t => .int (num S t.la)) ++ [.int l]))
theorem laid_at {c : Cells} {H : Hp} {xs : List V} {S : List Tr} {t : Tr} {p : Addr} (nd : c.all.Nodup) (i : Nat) {b : Addr} (hb : c.all[i]? = some b := by rfl) (hi : i ∉ [2, 3, 4, 5, 6, 7] := by decide) : laidH c H xs S t p b = H b := by
  simp only [List.mem_cons, List.not_mem_nil, or_false, not_or] at hi
  obtain ⟨h2, h3, h4, h5, h6, h7⟩ := hi
  unfold laidH
  rw [upd_ne (cne nd hb (j := 7) rfl h7), upd_ne (cne nd hb (j := 6) rfl h6), upd_ne (cne nd hb (j := 5) rfl h5), upd_ne (cne nd hb (j := 4) rfl h4), upd_ne (cne nd hb (j := 3) rfl h3), upd_ne (cne nd hb (j := 2) rfl h2)]
theorem lain_out {c : Cells} {H : Hp} {xs : List V} {S : List Tr} {t : Tr} {p : Addr} {f l : Int} {b : Addr} (h : b ∉ c.all) : lainH c H xs S t p f l b = H b := by
  simp only [Cells.all, List.mem_cons, List.not_mem_nil, or_false, not_or] at h
  obtain ⟨h0, h1, h2, h3, h4, h5, h6, h7, h8, h9⟩ := h
  unfold lainH laidH
  rw [upd_ne h9, upd_ne h8, upd_ne h7, upd_ne h6, upd_ne h5, upd_ne h4, upd_ne h3, upd_ne h2]
theorem num_last {S : List Tr} {t : Tr} (h : t ∉ S) : num (S ++ [t]) t = S.length + 1 := by
  unfold num
  rw [List.idxOf_append, if_neg h]
  simp
theorem lain_ok {C : Addr} {c : Cells} {H : Hp} {xs : List V} {S : List Tr} {t : Tr} {p : Addr} {f l : Int} (x : ShAt C c H S) (hx : H c.pc = some (.lst xs)) (hp : H p = some (.tup (pvals S t))) (o : Ok t) (h : t ∉ S)
    (kt : ∀ a b, t = .fk a b → a ∈ S ∧ b ∈ S) (cp : S.length < cap) (ef : f = num (S ++ [t]) t.fi) (el : l = num (S ++ [t]) t.la) : ShAt C c (lainH c H xs S t p f l) (S ++ [t]) ∧ Keep c H (lainH c H xs S t p f l) := by
  have N := Cells.nes x.nd
  have e : Ext S (S ++ [t]) := List.prefix_append _ _
  have g : Good (S ++ [t]) := by rw [← put_new h]; exact x.gd.put o kt
  have km : ∀ (z : V) (F : Tr → V), (z :: S.map F) ++ [F t] = z :: (S ++ [t]).map F := fun z F => by simp
  have pa := x.apart_tup hp
  refine ⟨⟨?_, ?_, ?_, ?_, ?_, ?_, ?_, ?_, ?_, ?_, g, x.nd, by rw [List.length_append]; show S.length + 1 ≤ cap; omega⟩, fun b o n e => by rw [lain_out n]; exact e⟩
  · unfold lainH laidH; simp only [upd_ne, upd_same, N, ne_eq, not_false_eq_true]; exact x.ob
  · unfold lainH laidH; simp only [upd_ne, upd_same, N, ne_eq, not_false_eq_true]; exact x.ow
  · obtain ⟨rs, h1, h2, h3⟩ := x.pc
    have ex : xs = .non :: rs.map V.ref := by rw [h1] at hx; injection hx with z; injection z with z; exact z.symm
    refine ⟨rs ++ [p], ?_, by simp [h2], fun i r u e1 e2 => ?_⟩
    · unfold lainH laidH; simp only [upd_ne, upd_same, N, ne_eq, not_false_eq_true]; rw [ex]; simp
    · by_cases hl : i < rs.length
      · rw [List.getElem?_append_left hl] at e1
        rw [List.getElem?_append_left (by omega)] at e2
        have q := h3 i r u e1 e2
        rw [lain_out (x.apart_tup q), q]
        unfold pvals
        rw [key_ext x.gd e (List.mem_of_getElem? e2)]
      · have l1 := (List.getElem?_eq_some_iff.mp e1).1
        have l2 : i = rs.length := by simp at l1; omega
        rw [List.getElem?_append_right (by omega)] at e1 e2
        rw [l2] at e1
        rw [l2, h2] at e2
        simp at e1 e2
        subst e1 e2
        rw [lain_out pa, hp]
        unfold pvals
        cases t with
        | lf m => rfl
        | fk a b =>
          obtain ⟨ha, hb⟩ := kt a b rfl
          rw [key_fk, key_fk, num_ext e ha, num_ext e hb]
  · unfold lainH laidH; simp only [upd_ne, upd_same, N, ne_eq, not_false_eq_true]
    rw [kvs_snoc x.gd h kt, putK_new _ (by rw [valV_kvs x.gd kt, if_neg h])]
  · unfold lainH laidH; simp only [upd_ne, upd_same, N, ne_eq, not_false_eq_true]; rw [km]
  · unfold lainH laidH; simp only [upd_ne, upd_same, N, ne_eq, not_false_eq_true]; rw [km]
  · unfold lainH laidH; simp only [upd_ne, upd_same, N, ne_eq, not_false_eq_true]; rw [km]
  · unfold lainH laidH; simp only [upd_ne, upd_same, N, ne_eq, not_false_eq_true]; rw [km]
  · unfold lainH laidH; simp only [upd_ne, upd_same, N, ne_eq, not_false_eq_true]
    rw [ef, ← km]
    congr 3
    rw [List.cons.injEq]
    exact ⟨rfl, List.map_congr_left fun u hu => by rw [num_ext e (x.gd.fi hu)]⟩
  · unfold lainH laidH; simp only [upd_ne, upd_same, N, ne_eq, not_false_eq_true]
    rw [el, ← km]
    congr 3
    rw [List.cons.injEq]
    exact ⟨rfl, List.map_congr_left fun u hu => by rw [num_ext e (x.gd.la hu)]⟩

/-! ### a shelf is made -/
theorem putF_new {f : Str} {v : V} {ks : List Str} : ∀ {fs : List (Str × V)}, fs.map (·.1) = ks → f ∉ ks → putF f v fs = fs ++ [(f, v)]
  | [], _, _ => rfl
  | (g, w) :: r, h, n => by
    subst h
    have ne : ¬ g = f := fun e => n (by rw [e]; simp)
    rw [putF, if_neg ne, putF_new (fs := r) rfl fun z => n (List.mem_cons_of_mem _ z)]
    rfl
theorem mkS {H : Hp} {p z : Addr} {o u : HO} {q : Addr} {w : HO} (hz : H z = none) (hp : q ≠ p) (h : H q = some w) : upd (upd H z o) p u q = some w := by
  rw [upd_ne hp, upd_ne (ne_of_none h hz)]; exact h
theorem mkN {H : Hp} {p z : Addr} {o u : HO} (hp : z ≠ p) : upd (upd H z o) p u z = some o := by
  rw [upd_ne hp]; exact upd_same

/-! ### signs joined -/
theorem sT_of (x : Str) : x = sT x.cps.toList := by cases x; simp
theorem sT_nil : ("" : Str) = sT [] := by decide +kernel
theorem glueL_signs : ∀ l : List Nat, StrLaws.glueL [] (l.map fun c => (⟨#[c]⟩ : Str)) = l
  | [] => rfl
  | c :: r => by
    show [] ++ ([c] ++ StrLaws.glueL [] (r.map fun c => (⟨#[c]⟩ : Str))) = c :: r
    rw [glueL_signs r]; rfl
theorem join_signs {l : List Nat} (h : l ≠ []) : Txt.join (sT []) (l.map fun c => (⟨#[c]⟩ : Str)) = sT l := by
  cases l with
  | nil => exact absurd rfl h
  | cons c r =>
    have e : (Txt.join (sT []) ((c :: r).map fun c => (⟨#[c]⟩ : Str))).cps.toList = c :: r := by
      show (Builtin.Str.glued (sT []) (⟨#[c]⟩ :: r.map fun c => (⟨#[c]⟩ : Str))).cps.toList = _
      rw [StrLaws.glued_list]
      show [c] ++ StrLaws.glueL [] (r.map fun c => (⟨#[c]⟩ : Str)) = c :: r
      rw [glueL_signs]; rfl
    rw [sT_of (Txt.join (sT []) ((c :: r).map fun c => (⟨#[c]⟩ : Str))), e]
theorem at_in {α : Type} {xs : List α} {i : Int} (h0 : 0 ≤ i) (h1 : i < xs.length) : ∃ v, v ∈ xs ∧ atI xs i = some v := by
  have l : i.toNat < xs.length := by omega
  refine ⟨xs[i.toNat], List.getElem_mem l, ?_⟩
  have := atI_nat (xs := xs) (j := i.toNat) (List.getElem?_eq_getElem l)
  rw [show ((i.toNat : Nat) : Int) = i by omega] at this
  exact this
def GoodL (x : Str) : Prop := x.cps.toList ≠ [] ∧ Plain x.cps.toList ∧ x.cps.toList.length ≤ 200
instance (x : Str) : Decidable (GoodL x) := by unfold GoodL; infer_instance

/-! ### stretches of plain texts -/
theorem drop_min (l : List Nat) (a : Nat) : l.drop (min a l.length) = l.drop a := by
  by_cases h : a ≤ l.length
  · rw [Nat.min_eq_left h]
  · rw [Nat.min_eq_right (by omega), List.drop_eq_nil_of_le (Nat.le_refl _), List.drop_eq_nil_of_le (by omega)]
theorem cutS_some {l : List Nat} {a b : Nat} : cutS (sT l) (some (a : Int)) (some (b : Int)) = sT ((l.drop a).take (b - a)) := by
  have hl : (sT l).length = l.length := sT_len l
  unfold cutS
  rw [HT.sIx_nat, HT.sIx_nat, hl]
  show sT ((l.drop (min a l.length)).take (min b l.length - min a l.length)) = _
  congr 1
  rw [drop_min]
  by_cases h : b ≤ l.length
  · by_cases h2 : a ≤ l.length
    · rw [Nat.min_eq_left h, Nat.min_eq_left h2]
    · rw [List.drop_eq_nil_of_le (by omega), List.take_nil, List.take_nil]
  · rw [List.take_of_length_le (by rw [List.length_drop]; omega), List.take_of_length_le (by rw [List.length_drop]; omega)]
theorem cutS_pre {l : List Nat} {b : Nat} : cutS (sT l) none (some (b : Int)) = sT (l.take b) := by
  have hl : (sT l).length = l.length := sT_len l
  unfold cutS
  rw [HT.sIx_nat, HT.sIx_none, hl]
  show sT ((l.drop 0).take (min b l.length - 0)) = _
  congr 1
  rw [List.drop_zero, Nat.sub_zero]
  by_cases h : b ≤ l.length
  · rw [Nat.min_eq_left h]
  · rw [Nat.min_eq_right (by omega), List.take_of_length_le (Nat.le_refl _), List.take_of_length_le (by omega)]
theorem cutS_suf {l : List Nat} {a : Nat} : cutS (sT l) (some (a : Int)) none = sT (l.drop a) := by
  have hl : (sT l).length = l.length := sT_len l
  unfold cutS
  rw [HT.sIx_nat, HT.sIx_none, hl]
  show sT ((l.drop (min a l.length)).take (l.length - min a l.length)) = _
  congr 1
  rw [drop_min, List.take_of_length_le (by rw [List.length_drop]; omega)]

/-! ### how often a sign stands in a text -/
theorem count_skip {l : List Nat} {c : Nat} : ∀ (n a : Nat), (∀ k, a ≤ k → k < a + n → l[k]? ≠ some c) → (l.drop a).count c = (l.drop (a + n)).count c
  | 0, a, _ => rfl
  | n + 1, a, h => by
    have ih := count_skip n (a + 1) fun k h1 h2 => h k (by omega) (by omega)
    by_cases e : a < l.length
    · rw [List.drop_eq_getElem_cons e, List.count_cons]
      have : ¬ (l[a] == c) = true := fun z => h a (Nat.le_refl _) (by omega) (by rw [List.getElem?_eq_getElem e]; simpa using z)
      rw [if_neg this, ih]
      show _ + 0 = _
      rw [Nat.add_zero, Nat.add_assoc, Nat.add_comm 1 n]
    · rw [List.drop_eq_nil_of_le (by omega), List.drop_eq_nil_of_le (by omega)]
theorem at_one {l : List Nat} {c k : Nat} : StrLaws.At (sT l) (sT [c]) (sT l).length k ↔ l[k]? = some c := by
  constructor
  · intro h
    have q := StrLaws.at_take h
    have q : (l.drop k).take 1 = [c] := by simpa using q
    cases e : l.drop k with
    | nil => rw [e] at q; cases q
    | cons x r =>
      rw [e] at q
      have : l[k]? = (l.drop k)[0]? := by simp
      rw [this, e]
      have : [x] = [c] := q
      injection this with z _
      rw [z]; rfl
  · intro h
    refine StrLaws.take_at (by show 1 ≤ 1; omega) ?_
    have hk := (List.getElem?_eq_some_iff.mp h)
    obtain ⟨hl, e⟩ := hk
    show (l.drop k).take 1 = [c]
    rw [List.drop_eq_getElem_cons hl, e]; rfl
theorem chain_count {l : List Nat} {c : Nat} : ∀ (cuts : List Nat) (a f : Nat), StrLaws.ChainG (sT l) (sT [c]) (sT l).length a cuts f → (∀ k, f ≤ k → ¬ StrLaws.At (sT l) (sT [c]) (sT l).length k) → (l.drop a).count c = cuts.length
  | [], a, f, h, hn => by
    have e : f = a := h
    subst e
    have := count_skip (l := l) (c := c) l.length f fun k h1 _ z => hn k h1 (at_one.mpr z)
    rw [this, List.drop_eq_nil_of_le (by omega)]; rfl
  | d :: r, a, f, h, hn => by
    obtain ⟨h1, h2, h3, h4⟩ := h
    have ih := chain_count r (d + 1) f h4 hn
    have := count_skip (l := l) (c := c) (d - a) a fun k k1 k2 z => h3 k k1 (by omega) (at_one.mpr z)
    rw [this, show a + (d - a) = d by omega]
    obtain ⟨hl, e⟩ := List.getElem?_eq_some_iff.mp (at_one.mp h2)
    rw [List.drop_eq_getElem_cons hl, e, List.count_cons_self, ih]; rfl
theorem count_one (l : List Nat) (c : Nat) : Txt.count (sT l) (sT [c]) = (l.count c : Int) := by
  obtain ⟨f, h1, h2⟩ := StrLaws.occ_tight (sT l) (sT [c]) (by show 1 ≤ 1; omega)
  have := chain_count _ 0 f h1 h2
  unfold Txt.count
  rw [← this]; rfl
theorem sT_lf : ("\n" : Str) = sT [10] := by decide +kernel
/-! a method of a shelf -/
theorem w_sm {C : Addr} {c : Cells} {H : Hp} {S : List Tr} {m : Str} {P : Prop} (s : ShAt C c H S) (h : (m == "pieces" || m == "numbers" || m == "told_signs" || m == "told_ends" || m == "told_leaves" || m == "told_heights" || m == "firsts" || m == "lasts") = false) (k : P) :
    ∃ a dx fs, V.ref c.a = .ref a ∧ H a = some (.ins C dx fs) ∧ fs.lookup m = none ∧ P := ⟨c.a, c.dx, _, rfl, s.ob, fl_no h, k⟩
end Sk

/-! Numbers of the laws' draws; frames by a list of addresses. -/
namespace Sk
open PySem PySem.Spec PyProof.Rows L2

/-- all but what stands at l is as it was -/
def KeepL (l : List Addr) (H H' : Hp) : Prop := ∀ b o, b ∉ l → H b = some o → H' b = some o
theorem KeepL.refl (l : List Addr) (H : Hp) : KeepL l H H := fun _ _ _ h => h
theorem KeepL.trans {l : List Addr} {H H1 H2 : Hp} (x : KeepL l H H1) (y : KeepL l H1 H2) : KeepL l H H2 := fun b o n h => y b o n (x b o n h)
theorem KeepL.mono {l m : List Addr} {H H' : Hp} (x : KeepL l H H') (s : ∀ b ∈ l, b ∈ m) : KeepL m H H' := fun b o n h => x b o (fun z => n (s b z)) h
theorem Same.keepL {H H' : Hp} (l : List Addr) (s : Same H H') : KeepL l H H' := fun b o _ h => s b o h
theorem Keep.keepL {c : Cells} {H H' : Hp} (k : Keep c H H') : KeepL c.all H H' := k
theorem KeepL.upd {H : Hp} {a : Addr} {o : HO} {l : List Addr} (h : a ∈ l) : KeepL l H (L2.upd H a o) := fun b u n e => by
  rw [upd_ne (by rintro rfl; exact n h)]; exact e
theorem ShAt.keepL {C : Addr} {c : Cells} {H H' : Hp} {S : List Tr} {l : List Addr} (x : ShAt C c H S) (k : KeepL l H H') (d : ∀ b ∈ l, b ∉ c.all) (t : ∀ b xs, H b = some (.tup xs) → H' b = some (.tup xs)) : ShAt C c H' S := by
  have m : ∀ b ∈ c.all, b ∉ l := fun b hb z => d b z hb
  have f : ∀ {b : Addr} {o : HO}, b ∈ c.all → H b = some o → H' b = some o := fun hb e => k _ _ (m _ hb) e
  refine ⟨f (by simp [Cells.all]) x.ob, f (by simp [Cells.all]) x.ow, ?_, f (by simp [Cells.all]) x.nb, f (by simp [Cells.all]) x.sg, f (by simp [Cells.all]) x.en, f (by simp [Cells.all]) x.lv, f (by simp [Cells.all]) x.ht, f (by simp [Cells.all]) x.fi, f (by simp [Cells.all]) x.la, x.gd, x.nd, x.cp⟩
  obtain ⟨rs, h1, h2, h3⟩ := x.pc
  exact ⟨rs, f (by simp [Cells.all]) h1, h2, fun i r t' e1 e2 => t _ _ (h3 i r t' e1 e2)⟩
theorem tup_upd {H : Hp} {a : Addr} {xs : List V} {o : HO} (h : H a = some (.lst xs)) : ∀ b ys, H b = some (.tup ys) → upd H a o b = some (.tup ys) := fun b ys e => by
  rw [upd_ne (ne_of e h (by intro z; cases z))]; exact e

theorem mulW_small {i j : Int} (h1 : -1180591620717411303424 < i) (h2 : i < 1180591620717411303424) (h3 : -1180591620717411303424 < j) (h4 : j < 1180591620717411303424) : CMulW i j :=
  wide_mul (a := 70) (b := 70) (by omega) (by omega) (by decide) (by decide) (by decide)
theorem divW_small {i j : Int} (h1 : 0 < j) (h2 : j < 1180591620717411303424) : CDivW i j := wide_div (b := 70) h1 (by omega) (by decide) (by decide)
theorem pow_sg : (10 : Int) ^ (Int.toNat 18) = 1000000000000000000 := by decide
theorem step_big {c r B : Int} {a b : Nat} (h0 : 0 ≤ c) (h1 : c < 2 ^ a) (h2 : 0 ≤ r) (h3 : r < B) (h4 : B ≤ 2 ^ b) : 0 ≤ c * B + r ∧ c * B + r < 2 ^ (a + b) := by
  have hB : 0 < B := by omega
  have e1 : 0 ≤ c * B := Int.mul_nonneg h0 (by omega)
  have e2 : (c + 1) * B ≤ 2 ^ a * 2 ^ b := Int.mul_le_mul (by omega) h4 (by omega) (by omega)
  have e3 : (c + 1) * B = c * B + B := by rw [Int.add_mul, Int.one_mul]
  rw [Int.pow_add]
  exact ⟨by omega, by omega⟩
theorem mulW_big {c B : Int} {a b : Nat} (h0 : 0 ≤ c) (h1 : c < 2 ^ a) (h2 : 0 ≤ B) (h4 : B < 2 ^ b) (ha : 0 < a) (hb : 0 < b) (h : a + b ≤ 1000000) : CMulW c B := by
  refine wide_mul (a := a) (b := b) ?_ ?_ ha hb h
  · have : (c.natAbs : Int) < ((2 ^ a : Nat) : Int) := by rw [Int.natAbs_of_nonneg h0]; push_cast; exact h1
    exact_mod_cast this
  · have : (B.natAbs : Int) < ((2 ^ b : Nat) : Int) := by rw [Int.natAbs_of_nonneg h2]; push_cast; exact h4
    exact_mod_cast this
/-- a rising range with a step -/
theorem rgC {i j c : Int} (hc : 0 < c) (hc2 : c < 1000) (h1 : 0 ≤ i) (h2 : i < 1000000) (h3 : 0 ≤ j) (h4 : j < 100000000) : ∃ n : Nat, RgC i j c n ∧ n ≤ j.toNat + 1 ∧ ∀ k : Nat, k < n → i + k * c < j := by
  have hr : Builtin.Range.rangeSize i j c = if i < j then (j - i - 1) / c + 1 else 0 := by
    unfold Builtin.Range.rangeSize
    rw [if_pos hc]
  have n0 : 0 ≤ Builtin.Range.rangeSize i j c := by
    rw [hr]; split
    · have := Int.ediv_nonneg (a := j - i - 1) (b := c) (by omega) (by omega); omega
    · omega
  have le : Builtin.Range.rangeSize i j c ≤ j + 1 := by
    rw [hr]; split
    · have := Int.ediv_le_self (a := j - i - 1) c (by omega); omega
    · omega
  refine ⟨(Builtin.Range.rangeSize i j c).toNat, ⟨by omega, by omega, ?_, by omega⟩, by omega, fun k hk => ?_⟩
  · unfold Builtin.Range.small
    simp only [Builtin.Range.rangeFitsLong, Bool.and_eq_true, Bool.or_eq_true, decide_eq_true_eq, beq_iff_eq, hc, if_true, gt_iff_lt]
    refine ⟨?_, ?_⟩ <;> first | omega | (repeat' constructor) <;> omega
  · have hk' : (k : Int) < Builtin.Range.rangeSize i j c := by omega
    rw [hr] at hk'
    split at hk'
    · have h5 : (k : Int) ≤ (j - i - 1) / c := by omega
      have := (Int.le_ediv_iff_mul_le hc).mp h5
      omega
    · omega
end Sk

/-! A shelf and the row of draws, behind a call. -/
namespace Sk
open PySem PySem.Spec PyProof.Rows L2
/-- behind a call: the shelf grown, the draws' row changed, all else as it was -/
structure Grown (C : Addr) (c : Cells) (r : Addr) (H H' : Hp) (S S' : List Tr) (n' : Int) (more : Nat) : Prop where
  sh : ShAt C c H' S'
  ex : Ext S S'
  len : S'.length ≤ S.length + more
  kp : KeepL (r :: c.all) H H'
  ro : H' r = some (.lst [.int n'])
  pos : 0 ≤ n'
theorem keepL_same {l : List Addr} {H H1 H2 : Hp} (x : KeepL l H H1) (y : Same H1 H2) : KeepL l H H2 := fun b o n e => y _ _ (x b o n e)
theorem keepL_free {l : List Addr} {H H1 : Hp} {p : Addr} (x : KeepL l H H1) (h : H1 p = none) (hl : p ∉ l) : H p = none := by
  cases e : H p with
  | none => rfl
  | some o => exact absurd ((x p o hl e).symm.trans h) (by simp)
theorem Grown.free {C : Addr} {c : Cells} {r : Addr} {H H' : Hp} {S S' : List Tr} {n' : Int} {m : Nat} (g : Grown C c r H H' S S' n' m) {p : Addr} (h : H' p = none) : H p = none :=
  keepL_free g.kp h fun z => by
    rcases List.mem_cons.mp z with e | e
    · rw [e, g.ro] at h; cases h
    · exact g.sh.apart h e
theorem Grown.refl {C : Addr} {c : Cells} {r : Addr} {H : Hp} {S : List Tr} {n : Int} (s : ShAt C c H S) (h : H r = some (.lst [.int n])) (h0 : 0 ≤ n) : Grown C c r H H S S n 0 := ⟨s, List.prefix_refl _, Nat.le_refl _, KeepL.refl _ _, h, h0⟩
theorem Grown.digit {C : Addr} {c : Cells} {r : Addr} {H H1 : Hp} {S S1 : List Tr} {n n' : Int} {m : Nat} (g : Grown C c r H H1 S S1 n m) (hr : r ∉ c.all) (h0 : 0 ≤ n') : Grown C c r H (upd H1 r (.lst [.int n'])) S S1 n' m :=
  ⟨g.sh.keepL (l := [r]) (KeepL.upd (by simp)) (fun b hb => by rw [List.mem_singleton] at hb; rw [hb]; exact hr) (tup_upd g.ro), g.ex, g.len, g.kp.trans (KeepL.upd (by simp)), upd_same, h0⟩
theorem Grown.same {C : Addr} {c : Cells} {r : Addr} {H H1 H2 : Hp} {S S1 : List Tr} {n : Int} {m : Nat} (g : Grown C c r H H1 S S1 n m) (s : Same H1 H2) : Grown C c r H H2 S S1 n m :=
  ⟨g.sh.same s, g.ex, g.len, keepL_same g.kp s, s _ _ g.ro, g.pos⟩
theorem Grown.trans {C : Addr} {c : Cells} {r : Addr} {H H1 H2 : Hp} {S S1 S2 : List Tr} {n n2 : Int} {m k : Nat} (g : Grown C c r H H1 S S1 n m) (h : Grown C c r H1 H2 S1 S2 n2 k) : Grown C c r H H2 S S2 n2 (m + k) :=
  ⟨h.sh, g.ex.trans h.ex, by have := g.len; have := h.len; omega, g.kp.trans h.kp, h.ro, h.pos⟩
theorem Grown.put {C : Addr} {c : Cells} {r : Addr} {H H1 H2 : Hp} {S S1 : List Tr} {n : Int} {m : Nat} {t : Tr} (g : Grown C c r H H1 S S1 n m) (hr : r ∉ c.all) (s : ShAt C c H2 (put S1 t)) (k : Keep c H1 H2) : Grown C c r H H2 S (put S1 t) n (m + 1) :=
  ⟨s, g.ex.trans put_ext, by have := g.len; have := put_len (S := S1) (t := t); omega, g.kp.trans (k.keepL.mono fun b hb => List.mem_cons_of_mem _ hb), k _ _ hr g.ro, g.pos⟩
theorem ShAt.digit {C : Addr} {c : Cells} {H : Hp} {S : List Tr} {r : Addr} {xs ys : List V} (x : ShAt C c H S) (h : H r = some (.lst xs)) (n : r ∉ c.all) : ShAt C c (upd H r (.lst ys)) S :=
  x.keepL (l := [r]) (KeepL.upd (by simp)) (fun b hb => by rw [List.mem_singleton] at hb; rw [hb]; exact n) (tup_upd h)
theorem atI_map {α β : Type} {f : α → β} {xs : List α} {i : Int} {v : α} (h : atI xs i = some v) : atI (xs.map f) i = some (f v) := by
  unfold atI at h ⊢
  rw [List.length_map]
  cases e : ixN xs.length i with
  | none => rw [e] at h; cases h
  | some k =>
    rw [e] at h
    have h : xs[k]? = some v := h
    show (xs.map f)[k]? = some (f v)
    rw [List.getElem?_map, h]; rfl
end Sk

/-! The pieces that one comes to from texts. -/
namespace Sk
open PySem PySem.Spec PyProof.Rows L2

/-- u is t or in a part of t -/
def inT (u : Tr) : Tr → Bool
  | .lf l => decide (u = .lf l)
  | .fk a b => decide (u = .fk a b) || (inT u a || inT u b)
theorem inT_self : ∀ t : Tr, inT t t = true
  | .lf l => by simp [inT]
  | .fk a b => by simp [inT]
theorem inT_part {a b : Tr} : ∀ {t : Tr}, inT (.fk a b) t = true → inT a t = true ∧ inT b t = true
  | .lf l, h => by simp [inT] at h
  | .fk c d, h => by
    simp only [inT, Bool.or_eq_true, decide_eq_true_eq] at h ⊢
    rcases h with h | h | h
    · cases h
      exact ⟨.inr (.inl (inT_self _)), .inr (.inr (inT_self _))⟩
    · exact ⟨.inr (.inl (inT_part h).1), .inr (.inl (inT_part h).2)⟩
    · exact ⟨.inr (.inr (inT_part h).1), .inr (.inr (inT_part h).2)⟩
/-- what is closed under parts holds all that is in what it holds -/
theorem inT_closed {P : Tr → Prop} (cl : ∀ a b, P (.fk a b) → P a ∧ P b) {u : Tr} : ∀ {t : Tr}, P t → inT u t = true → P u
  | .lf l, h, i => by
    simp only [inT, decide_eq_true_eq] at i
    rw [i]; exact h
  | .fk a b, h, i => by
    simp only [inT, Bool.or_eq_true, decide_eq_true_eq] at i
    rcases i with i | i | i
    · rw [i]; exact h
    · exact inT_closed cl (cl a b h).1 i
    · exact inT_closed cl (cl a b h).2 i
def reachT (S ts : List Tr) : List Tr := S.filter fun u => ts.any (inT u)
theorem mem_reachT {S ts : List Tr} {u : Tr} : u ∈ reachT S ts ↔ u ∈ S ∧ ∃ t ∈ ts, inT u t = true := by
  unfold reachT
  rw [List.mem_filter, List.any_eq_true]
theorem reach_perm {S ts sn : List Tr} (g : Good S) (nd : sn.Nodup) (sub : ∀ u ∈ sn, u ∈ S ∧ ∃ t ∈ ts, inT u t = true) (has : ∀ t ∈ ts, t ∈ sn) (cl : ∀ a b, Tr.fk a b ∈ sn → a ∈ sn ∧ b ∈ sn) : sn.Perm (reachT S ts) := by
  refine (List.perm_ext_iff_of_nodup nd (g.nd.sublist List.filter_sublist)).mpr fun u => ?_
  show u ∈ sn ↔ u ∈ reachT S ts
  rw [mem_reachT]
  refine ⟨sub u, fun ⟨_, t, ht, i⟩ => ?_⟩
  exact inT_closed (P := fun x => x ∈ sn) cl (has t ht) i
theorem num_rising {S : List Tr} (g : Good S) : S.Pairwise fun a b => num S a < num S b := by
  rw [List.pairwise_iff_getElem]
  intro i j hi hj h
  have e1 := (Nm.num (S := S) (n := (i : Int) + 1) (t := S[i]) ⟨i, List.getElem?_eq_getElem hi, rfl⟩ g.nd)
  have e2 := (Nm.num (S := S) (n := (j : Int) + 1) (t := S[j]) ⟨j, List.getElem?_eq_getElem hj, rfl⟩ g.nd)
  rw [← e1, ← e2]; omega
theorem reach_rising {S ts : List Tr} (g : Good S) : ((reachT S ts).map (num S)).Pairwise (· < ·) := by
  rw [List.pairwise_map]
  exact (num_rising g).sublist List.filter_sublist
theorem sorted_is {ns L : List Int} (p : ns.Perm L) (h : ns.Pairwise (· ≤ ·)) (k : L.Pairwise (· < ·)) : ns = L :=
  p.eq_of_pairwise (fun a b _ _ h1 h2 => Int.le_antisymm h1 h2) h (k.imp fun h => Int.le_of_lt h)
/-- the texts' trees, those without signs left out -/
def TxAll (S : List Tr) : List Int → List (Option Tr) → Prop
  | [], [] => True
  | n :: ns, o :: os => Tx S n o ∧ TxAll S ns os
  | _, _ => False
theorem TxAll.of {S : List Tr} : ∀ {ns : List Int}, (∀ n ∈ ns, inR S n) → ∃ os, TxAll S ns os
  | [], _ => ⟨[], trivial⟩
  | n :: ns, h => by
    obtain ⟨o, ho⟩ := Tx.of (h n List.mem_cons_self)
    obtain ⟨os, hs⟩ := TxAll.of fun m hm => h m (List.mem_cons_of_mem _ hm)
    exact ⟨o :: os, ho, hs⟩
theorem TxAll.get {S : List Tr} : ∀ {ns : List Int} {os : List (Option Tr)} {i : Nat} {n : Int}, TxAll S ns os → ns[i]? = some n → ∃ o, os[i]? = some o ∧ Tx S n o
  | [], [], _, _, _, e => by simp at e
  | n :: ns, o :: os, 0, m, h, e => by
    simp only [List.getElem?_cons_zero, Option.some.injEq] at e
    exact ⟨o, rfl, e ▸ h.1⟩
  | n :: ns, o :: os, i + 1, m, h, e => TxAll.get (i := i) h.2 (by simpa using e)
  | [], _ :: _, _, _, h, _ => h.elim
  | _ :: _, [], _, _, h, _ => h.elim
theorem TxAll.len {S : List Tr} : ∀ {ns : List Int} {os : List (Option Tr)}, TxAll S ns os → ns.length = os.length
  | [], [], _ => rfl
  | n :: ns, o :: os, h => by rw [List.length_cons, List.length_cons, TxAll.len h.2]
  | [], _ :: _, h => h.elim
  | _ :: _, [], h => h.elim
theorem TxAll.ext {S S' : List Tr} (e : Ext S S') : ∀ {ns : List Int} {os : List (Option Tr)}, TxAll S ns os → TxAll S' ns os
  | [], [], _ => trivial
  | n :: ns, o :: os, h => ⟨h.1.ext e, TxAll.ext e h.2⟩
  | [], _ :: _, h => h.elim
  | _ :: _, [], h => h.elim
def trees (os : List (Option Tr)) : List Tr := os.filterMap id
/-- what reach_of tells -/
def reachN (S : List Tr) (os : List (Option Tr)) : List Int := (reachT S (trees os)).map (num S)
theorem reach_sub (S ts : List Tr) : (reachT S ts).Sublist S := List.filter_sublist
theorem reach_cl {S ts : List Tr} (g : Good S) {a b : Tr} (h : Tr.fk a b ∈ reachT S ts) : a ∈ reachT S ts ∧ b ∈ reachT S ts := by
  obtain ⟨h1, t, ht, i⟩ := mem_reachT.mp h
  obtain ⟨ha, hb⟩ := g.parts h1
  obtain ⟨ia, ib⟩ := inT_part i
  exact ⟨mem_reachT.mpr ⟨ha, t, ht, ia⟩, mem_reachT.mpr ⟨hb, t, ht, ib⟩⟩
theorem Good.before {S : List Tr} (g : Good S) {a b : Tr} (h : Tr.fk a b ∈ S) : num S a < num S (.fk a b) ∧ num S b < num S (.fk a b) := by
  obtain ⟨i, e⟩ := List.getElem?_of_mem h
  obtain ⟨⟨j, jl, x⟩, ⟨k, kl, y⟩⟩ := g.pr i a b e
  have e1 := Nm.num (S := S) (n := (i : Int) + 1) ⟨i, e, rfl⟩ g.nd
  have e2 := Nm.num (S := S) (n := (j : Int) + 1) ⟨j, x, rfl⟩ g.nd
  have e3 := Nm.num (S := S) (n := (k : Int) + 1) ⟨k, y, rfl⟩ g.nd
  omega
/-- what is laid anew in its order has its parts ahead -/
theorem part_before {S R : List Tr} (g : Good S) (sub : R.Sublist S) {a u : Tr} {i : Nat} (e : R[i]? = some u) (ha : a ∈ R) (lt : num S a < num S u) : a ∈ R.take i := by
  obtain ⟨j, x⟩ := List.getElem?_of_mem ha
  obtain ⟨hj, xj⟩ := List.getElem?_eq_some_iff.mp x
  obtain ⟨hi, xi⟩ := List.getElem?_eq_some_iff.mp e
  have pw : R.Pairwise fun a b => num S a < num S b := (num_rising g).sublist sub
  have : j < i := by
    refine Classical.byContradiction fun z => ?_
    by_cases h : j = i
    · subst h
      rw [xj] at xi
      rw [xi] at lt; omega
    · have := (List.pairwise_iff_getElem.mp pw) i j hi hj (by omega)
      rw [xi, xj] at this; omega
  exact List.mem_of_getElem? (i := j) (by rw [List.getElem?_take_of_lt this]; exact x)
def numO (R : List Tr) : Option Tr → Int
  | none => 0
  | some t => num R t
theorem numO_tx {R : List Tr} {o : Option Tr} (h : ∀ t, o = some t → t ∈ R) : Tx R (numO R o) o := by
  cases o with
  | none => rfl
  | some t => exact nm_num (h t rfl)
/-- the book of numbers kept while a shelf is swept -/
def book (S R : List Tr) (i : Nat) : List (Key × V) := (Sum.inl 0, .int 0) :: (R.take i).map fun u => (Sum.inl (num S u), .int (num R u))
theorem book_at {S R : List Tr} {i : Nat} (sub : ∀ u ∈ R, u ∈ S) {t : Tr} (h : t ∈ R.take i) : valV (book S R i) (Sum.inl (num S t)) = some (.int (num R t)) := by
  have hS := sub t (List.mem_of_mem_take h)
  have key : ∀ L : List Tr, (∀ u ∈ L, u ∈ S) → t ∈ L → valV (L.map fun u => ((Sum.inl (num S u) : Key), V.int (num R u))) (Sum.inl (num S t)) = some (.int (num R t)) := by
    intro L
    induction L with
    | nil => intro _ z; cases z
    | cons u r ih =>
      intro hs ht
      unfold valV at ih ⊢
      rw [List.map_cons, List.find?_cons]
      by_cases e : u = t
      · subst e; simp
      · have ne : ¬ (Sum.inl (num S u) : Key) = Sum.inl (num S t) := fun z => e (num_inj (hs u List.mem_cons_self) hS (Sum.inl.inj z))
        rw [decide_eq_false ne]
        exact ih (fun v hv => hs v (List.mem_cons_of_mem _ hv)) ((List.mem_cons.mp ht).resolve_left fun z => e z.symm)
  unfold book valV
  rw [List.find?_cons]
  have p := (nm_num hS).pos
  have ne : ¬ (Sum.inl 0 : Key) = Sum.inl (num S t) := fun z => by have := Sum.inl.inj z; omega
  rw [decide_eq_false ne]
  exact key _ (fun u hu => sub u (List.mem_of_mem_take hu)) h
theorem book_0 {S R : List Tr} {i : Nat} : valV (book S R i) (Sum.inl 0) = some (.int 0) := by
  unfold book valV
  rw [List.find?_cons]; simp
theorem book_new {S R : List Tr} {i : Nat} (sub : ∀ u ∈ R, u ∈ S) (nd : R.Nodup) {t : Tr} (e : R[i]? = some t) : valV (book S R i) (Sum.inl (num S t)) = none := by
  have hR := List.mem_of_getElem? e
  have hS := sub t hR
  have p := (nm_num hS).pos
  unfold book valV
  rw [List.find?_cons]
  have ne : ¬ (Sum.inl 0 : Key) = Sum.inl (num S t) := fun z => by have := Sum.inl.inj z; omega
  rw [decide_eq_false ne]
  rw [Option.map_eq_none_iff, List.find?_eq_none]
  intro kv hkv
  obtain ⟨u, hu, rfl⟩ := List.mem_map.mp hkv
  simp only [decide_eq_true_eq]
  intro z
  have := num_inj (sub u (List.mem_of_mem_take hu)) hS (Sum.inl.inj z)
  subst this
  obtain ⟨j, x⟩ := List.getElem?_of_mem hu
  have hj := (List.getElem?_eq_some_iff.mp x).1
  rw [List.length_take] at hj
  rw [List.getElem?_take_of_lt (by omega)] at x
  have := nd_same nd x e
  omega
theorem book_succ {S R : List Tr} {i : Nat} {t : Tr} (e : R[i]? = some t) : book S R (i + 1) = book S R i ++ [(Sum.inl (num S t), .int (num R t))] := by
  unfold book
  rw [List.take_succ, e]
  simp
theorem take_notin {R : List Tr} {i : Nat} {t : Tr} (nd : R.Nodup) (e : R[i]? = some t) : t ∉ R.take i := fun hu => by
  obtain ⟨j, x⟩ := List.getElem?_of_mem hu
  have hj := (List.getElem?_eq_some_iff.mp x).1
  rw [List.length_take] at hj
  rw [List.getElem?_take_of_lt (by omega)] at x
  have := nd_same nd x e
  omega
theorem put_take {R : List Tr} {i : Nat} {t : Tr} (nd : R.Nodup) (e : R[i]? = some t) : put (R.take i) t = R.take (i + 1) := by
  rw [put_new (take_notin nd e), List.take_succ, e]; rfl
theorem take_ext (R : List Tr) (i : Nat) : Ext (R.take i) R := List.take_prefix _ _
/-- another shelf's deeds leave a shelf -/
theorem ShAt.beside {C : Addr} {c c' : Cells} {H H' : Hp} {S S' : List Tr} (x : ShAt C c H S) (y : ShAt C c' H S') (k : Keep c' H H') (d : ∀ b ∈ c'.all, b ∉ c.all) : ShAt C c H' S :=
  x.keepL k.keepL d fun b xs e => k b _ (y.apart_tup e) e
theorem Same.keepN {c : Cells} {H H1 H2 : Hp} (s : Same H H1) (k : Keep c H1 H2) (n : ∀ b ∈ c.all, H b = none) : Same H H2 := fun b o e => k b o (fun z => by rw [n b z] at e; cases e) (s b o e)
theorem inT_why {u : Tr} : ∀ {t : Tr}, inT u t = true → u = t ∨ ∃ a b, inT (.fk a b) t = true ∧ (u = a ∨ u = b)
  | .lf l, h => by
    simp only [inT, decide_eq_true_eq] at h
    exact .inl h
  | .fk c d, h => by
    simp only [inT, Bool.or_eq_true, decide_eq_true_eq] at h
    rcases h with h | h | h
    · exact .inl h
    · rcases inT_why h with e | ⟨a, b, i, e⟩
      · exact .inr ⟨c, d, inT_self _, .inl e⟩
      · exact .inr ⟨a, b, by simp [inT, i], e⟩
    · rcases inT_why h with e | ⟨a, b, i, e⟩
      · exact .inr ⟨c, d, inT_self _, .inr e⟩
      · exact .inr ⟨a, b, by simp [inT, i], e⟩
theorem num_at {S : List Tr} (g : Good S) {i : Nat} {t : Tr} (h : S[i]? = some t) : num S t = (i : Int) + 1 := (Nm.num (S := S) (n := (i : Int) + 1) ⟨i, h, rfl⟩ g.nd).symm
/-- what is asked for, falling: a number is asked for by a text, or by a fork that lies behind it and is asked for -/
theorem asked_in {S : List Tr} (g : Good S) {ts : List Tr} (ti : ∀ t ∈ ts, t ∈ S) {ns T : List Int} {j k0 : Nat} {u : Tr} (hk0 : k0 ≤ j + 1) (e : S[j]? = some u) (hns : ∀ m, m ∈ ns ↔ m = 0 ∧ m ∈ ns ∨ ∃ t ∈ ts, m = num S t)
    (hT : ∀ m, m ∈ T ↔ (m ∈ ns ∨ ∃ a b, Tr.fk a b ∈ S.drop k0 ∧ ts.any (inT (.fk a b)) = true ∧ (m = num S a ∨ m = num S b))) : num S u ∈ T ↔ ts.any (inT u) = true := by
  have uS := List.mem_of_getElem? e
  have nu := num_at g e
  rw [hT]
  constructor
  · rintro (h | ⟨a, b, hf, ha, hm⟩)
    · rcases (hns _).mp h with ⟨z, _⟩ | ⟨t, ht, z⟩
      · omega
      · have := num_inj uS (ti t ht) z
        rw [this, List.any_eq_true]
        exact ⟨t, ht, inT_self t⟩
    · have fS := List.mem_of_mem_drop hf
      obtain ⟨aS, bS⟩ := g.parts fS
      rw [List.any_eq_true] at ha ⊢
      obtain ⟨t, ht, i⟩ := ha
      obtain ⟨ia, ib⟩ := inT_part i
      rcases hm with z | z
      · exact ⟨t, ht, by rw [num_inj uS aS z]; exact ia⟩
      · exact ⟨t, ht, by rw [num_inj uS bS z]; exact ib⟩
  · intro h
    rw [List.any_eq_true] at h
    obtain ⟨t, ht, i⟩ := h
    rcases inT_why i with z | ⟨a, b, hf, z⟩
    · exact .inl ((hns _).mpr (.inr ⟨t, ht, by rw [z]⟩))
    · have fS : Tr.fk a b ∈ S := inT_closed (P := fun x => x ∈ S) (fun a b h => g.parts h) (ti t ht) hf
      obtain ⟨la, lb⟩ := g.before fS
      refine .inr ⟨a, b, ?_, by rw [List.any_eq_true]; exact ⟨t, ht, hf⟩, z.elim (fun z => .inl (by rw [z])) (fun z => .inr (by rw [z]))⟩
      obtain ⟨k, ek⟩ := List.getElem?_of_mem fS
      have nk := num_at g ek
      have hk : j + 1 ≤ k := by
        rcases z with z | z
        · have : num S u = num S a := by rw [z]
          omega
        · have : num S u = num S b := by rw [z]
          omega
      exact List.mem_of_getElem? (i := k - k0) (by rw [List.getElem?_drop, show k0 + (k - k0) = k by omega]; exact ek)
theorem asked_for {S : List Tr} (g : Good S) {ts : List Tr} (ti : ∀ t ∈ ts, t ∈ S) {ns T : List Int} {j : Nat} {u : Tr} (e : S[j]? = some u) (hns : ∀ m, m ∈ ns ↔ m = 0 ∧ m ∈ ns ∨ ∃ t ∈ ts, m = num S t)
    (hT : ∀ m, m ∈ T ↔ (m ∈ ns ∨ ∃ a b, Tr.fk a b ∈ S.drop (j + 1) ∧ ts.any (inT (.fk a b)) = true ∧ (m = num S a ∨ m = num S b))) : num S u ∈ T ↔ ts.any (inT u) = true := asked_in g ti (Nat.le_refl _) e hns hT
theorem filter_at {S : List Tr} {p : Tr → Bool} {i : Nat} {u : Tr} (e : S[i]? = some u) (h : p u = true) : (S.filter p)[((S.take i).filter p).length]? = some u ∧ (S.filter p).take ((S.take i).filter p).length = (S.take i).filter p ∧ ((S.take (i + 1)).filter p).length = ((S.take i).filter p).length + 1 := by
  obtain ⟨hi, ei⟩ := List.getElem?_eq_some_iff.mp e
  have es : S = S.take i ++ (u :: S.drop (i + 1)) := by
    rw [← ei, ← List.drop_eq_getElem_cons hi, List.take_append_drop]
  have ef : S.filter p = (S.take i).filter p ++ (u :: (S.drop (i + 1)).filter p) := by
    conv => lhs; rw [es]
    rw [List.filter_append, List.filter_cons, if_pos h]
  refine ⟨?_, ?_, ?_⟩
  · rw [ef, List.getElem?_append_right (Nat.le_refl _), Nat.sub_self]; rfl
  · rw [ef, List.take_left']; rfl
  · rw [show S.take (i + 1) = S.take i ++ [u] by rw [List.take_succ, e]; rfl, List.filter_append, List.filter_cons, if_pos h, List.length_append]; rfl
theorem filter_not {S : List Tr} {p : Tr → Bool} {i : Nat} {u : Tr} (e : S[i]? = some u) (h : ¬ p u = true) : (S.take (i + 1)).filter p = (S.take i).filter p := by
  rw [show S.take (i + 1) = S.take i ++ [u] by rw [List.take_succ, e]; rfl, List.filter_append, List.filter_cons, if_neg h]; simp
theorem tx_mem {S : List Tr} (g : Good S) : ∀ {ns : List Int} {os : List (Option Tr)}, TxAll S ns os → ∀ m, m ∈ ns ↔ m = 0 ∧ m ∈ ns ∨ ∃ t ∈ trees os, m = num S t
  | [], [], _, m => by simp [trees]
  | n :: ns, none :: os, h, m => by
    have e : n = 0 := h.1
    have ih := tx_mem g h.2 m
    have tt : trees (none :: os) = trees os := rfl
    rw [tt, List.mem_cons, e]
    constructor
    · rintro (z | z)
      · exact .inl ⟨z, .inl z⟩
      · rcases ih.mp z with z | z
        · exact .inl ⟨z.1, .inr z.2⟩
        · exact .inr z
    · rintro (z | z)
      · exact .inl z.1
      · exact .inr (ih.mpr (.inr z))
  | n :: ns, some t :: os, h, m => by
    have nm : Nm S n t := h.1
    have e := nm.num g.nd
    have ih := tx_mem g h.2 m
    have tt : trees (some t :: os) = t :: trees os := rfl
    rw [tt, List.mem_cons]
    constructor
    · rintro (z | z)
      · exact .inr ⟨t, List.mem_cons_self, z.trans e⟩
      · rcases ih.mp z with z | ⟨u, hu, z⟩
        · exact .inl ⟨z.1, .inr z.2⟩
        · exact .inr ⟨u, List.mem_cons_of_mem _ hu, z⟩
    · rintro (z | ⟨u, hu, z⟩)
      · exact z.2
      · rcases List.mem_cons.mp hu with y | y
        · left; rw [z, y, e]
        · exact .inr (ih.mpr (.inr ⟨u, y, z⟩))
  | [], _ :: _, h, _ => h.elim
  | _ :: _, [], h, _ => h.elim
theorem ShAt.disj {C : Addr} {c c' : Cells} {H : Hp} {S : List Tr} (hS : ShAt C c H S) (new : ∀ b ∈ c'.all, H b = none) : ∀ b ∈ c'.all, b ∉ c.all := fun b hb hc => by
  have := new b hb
  simp only [Cells.all, List.mem_cons, List.not_mem_nil, or_false] at hc
  obtain ⟨rs, h1, _⟩ := hS.pc
  have f : ∀ {x : Addr} {o : HO}, H x = some o → b ≠ x := fun e => (ne_of_none e this).symm
  rcases hc with e | e | e | e | e | e | e | e | e | e
  · exact f hS.ob e
  · exact f hS.ow e
  · exact f h1 e
  · exact f hS.nb e
  · exact f hS.sg e
  · exact f hS.en e
  · exact f hS.lv e
  · exact f hS.ht e
  · exact f hS.fi e
  · exact f hS.la e
end Sk

/-! list(range(a, b, c)); x in a list of ints. -/
namespace Sk
open PySem PySem.Spec PyProof.Rows L2

def rgV3 (i k : Int) (n : Nat) : List V := (List.range n).map fun t => V.int (i + (t : Nat) * k)
theorem vals_rg3 {i k : Int} {n : Nat} {acc : Array Value} (h : ItemsOf (fun t v => ∃ u, v = .int (i + t * k) u) acc n) : Vals (rgV3 i k n) acc.toList := by
  have e : acc.toList.length = n := by rw [Array.length_toList]; exact h.1
  unfold rgV3
  rw [← e]
  refine vals_of_get acc.toList _ fun j u hj => ?_
  obtain ⟨t, rfl⟩ := h.2 j u (by rw [← hj, Array.getElem?_toList])
  exact ⟨t, rfl⟩
def tListRg3 (ta : TA) : TE := fun σ H Q => ta σ H fun vs H1 => ∃ (i j k : Int) (n : Nat), vs = [.int i, .int j, .int k] ∧ RgC i j k n ∧ n ≤ 2 ^ 24 ∧ ∀ q, H1 q = none → Q (.ref q) (upd H1 q (.lst (rgV3 i k n)))
theorem pe_listRg3 {X : Cx} {a b c : Expr} {ta : TA} {p p2 pos pos2 : Pos} (hc : X.calm = true) (hg : Gl X "list") (hm : X.mg "list" = none) (hg2 : Gl X "range") (hm2 : X.mg "range" = none) (ha : PA X [a, b, c] ta)
    (na : starEach [Expr.Call (.Name "range" p2) [a, b, c] [] pos2] X.env = (false, eval (Expr.Call (.Name "range" p2) [a, b, c] [] pos2) X.env) :: starEach [] X.env := by rfl)
    (hs : starEach [a, b, c] X.env = (false, eval a X.env) :: starEach [b, c] X.env := by rfl) (hpl : (backTo pos2 (starEach [b, c] X.env)).any (·.1) = false := by rfl) :
    PE X (.Call (.Name "list" p) [.Call (.Name "range" p2) [a, b, c] [] pos2] [] pos) (tListRg3 ta) := by
  refine ⟨fun pins s σ H Q I h => ?_⟩
  refine Call_ (ld_blt I hg hm boot_list (PyProof.Rows.callWith_type1 (args_cons (Call_ (ld_blt I hg2 hm2 boot_range (PyProof.Rows.callWith_type1 (thn (ha.run pos2 pins s σ H _ I h) fun us s1 ⟨vs, H1, I1, r1, q1⟩ => ?_) hs hpl))) na) na))
  obtain ⟨i, j, k, n, e, ⟨c0, c1, c2, c3⟩, hn, q⟩ := q1
  subst e
  cases r1 with
  | cons r rr =>
    cases rr with
    | cons r' rr =>
      cases rr with
      | cons r'' rr =>
        cases rr
        obtain ⟨t, rfl⟩ := r
        obtain ⟨t', rfl⟩ := r'
        obtain ⟨t'', rfl⟩ := r''
        refine call_range_3 c0 ?_ (.inl (PyProof.noPylong_small c1))
        have I2 : Inv X pins σ H1 { s1 with heap := s1.heap.push { cls := .type "range", data := .fields #[.int i t, .int j t', .int k t''] } } := I1.kept (t' := s1.toks) fun b o e => Heap.get?_push_of_some _ e
        refine args_nil ?_
        refine call_list_range (n := n) (I2.ok.hd hc) (IsRange.new ..) c2 c3 hn fun h' tk acc c' hk e' hi => ?_
        refine ⟨.ref _, upd H1 _ (.lst (rgV3 i k n)), I2.laid hk (Nat.le_refl _) (show ObjOk X.prog X.w _ _ _ (.lst (rgV3 i k n)) from ⟨?_, acc.toList, c', vals_rg3 hi, ?_⟩), rfl, q _ (I2.hok.fresh (Nat.le_refl _))⟩
        · unfold rgV3
          rw [List.length_map, List.length_range, sizeLine_eq]; omega
        · rw [Array.toArray_toList]; exact e'
/-! x in a list of ints -/
theorem flat_ints (ns : List Int) : (ns.map V.int).all flatV = true := by
  rw [List.all_eq_true]
  intro x hx
  obtain ⟨n, _, rfl⟩ := List.mem_map.mp hx
  rfl
theorem inV_ints (n : Int) : ∀ ns : List Int, inV (.int n) (ns.map V.int) = decide (n ∈ ns)
  | [] => by simp [inV]
  | m :: ns => by
    have ih := inV_ints n ns
    unfold inV at ih ⊢
    rw [List.map_cons, List.any_cons, ih]
    show ((m == n) || decide (n ∈ ns)) = _
    by_cases h : m = n
    · subst h; simp
    · have h' : ¬ n = m := fun z => h z.symm
      simp [h, h']
theorem w_inI {K : PySem.W.Frag} {H : Hp} {Q : VK} {a : Addr} {n : Int} {ns : List Int} (s : SqL K H a (ns.map V.int)) (k : Q (.bl (decide (n ∈ ns))) H) : rIn K false (.int n) (.ref a) H Q :=
  ⟨a, _, rfl, .inl s, rfl, flat_ints ns, by
    rw [inV_ints]; exact k⟩
theorem w_revL {K : PySem.W.Frag} {σ : L2.St} {H : Hp} {Q : VK} {ta : TE} (k : ta σ H fun x H1 => ∃ a xs, x = .ref a ∧ SqL K H1 a xs ∧ ∀ p, H1 p = none → Q (.ref p) (upd H1 p (.lst xs.reverse))) : tRevL K ta σ H Q := k
/-! len of a list or a tuple, the written part named -/
def rLenS (K : PySem.W.Frag) : List V → Hp → VK → Prop := fun xs H Q => ∃ p ys, xs = [V.ref p] ∧ (SqL K H p ys ∨ SqT K H p ys) ∧ Q (.int ys.length) H
theorem call_lenK {X : Cx} : CallR X (.builtin "len") (rLenS X.K) := call_len_seq
theorem w_lrg3 {ta : TA} {σ : L2.St} {H : Hp} {Q : VK} (k : ta σ H fun vs H1 => ∃ (i j k : Int) (n : Nat), vs = [.int i, .int j, .int k] ∧ RgC i j k n ∧ n ≤ 2 ^ 24 ∧ ∀ q, H1 q = none → Q (.ref q) (upd H1 q (.lst (rgV3 i k n)))) : tListRg3 ta σ H Q := k
end Sk

/-! == and != of data: numbers, texts, lists and tuples of such; lists of pieces; a text read by its pieces. -/
namespace Sk
open PySem PySem.Spec PyProof.Rows L2

structure Da (K : PySem.W.Frag) (H : Hp) (v : V) (d : PyData) (k : Nat) : Prop where
  p : Dp K H v d
  l : d.canLay0 = true
  e : d.depth ≤ k
def DaL (K : PySem.W.Frag) (H : Hp) : List V → List PyData → Nat → Prop
  | [], [], _ => True
  | v :: vs, d :: ds, k => Da K H v d k ∧ DaL K H vs ds k
  | _, _, _ => False
section
variable {K : PySem.W.Frag} {H : Hp} {Q : VK}
theorem Da.mono {v : V} {d : PyData} {k m : Nat} (h : Da K H v d k) (l : k ≤ m) : Da K H v d m := ⟨h.p, h.l, Nat.le_trans h.e l⟩
theorem Da.int {i : Int} {k : Nat} : Da K H (.int i) (.int i) k := ⟨.int i, rfl, Nat.zero_le _⟩
theorem Da.bl {b : Bool} {k : Nat} : Da K H (.bl b) (.bool b) k := ⟨.bl b, rfl, Nat.zero_le _⟩
theorem Da.non {k : Nat} : Da K H .non .none k := ⟨.non, rfl, Nat.zero_le _⟩
theorem Da.str {x : Str} {k : Nat} (h : PyData.strOk x = true) : Da K H (.str x) (.str x) k := ⟨.str x, h, Nat.zero_le _⟩
theorem plain_strOk {l : List Nat} (h : Plain l) : PyData.strOk (sT l) = true := by
  unfold PyData.strOk
  rw [Array.all_eq_true']
  intro c hc
  have : c ∈ l := by simpa using hc
  rcases h c this with z | z
  · simp; omega
  · subst z; decide
theorem Da.pln {l : List Nat} {k : Nat} (h : Plain l) : Da K H (.str (sT l)) (.str (sT l)) k := .str (plain_strOk h)
theorem DaL.p {k : Nat} : ∀ {vs : List V} {ds : List PyData}, DaL K H vs ds k → DpAll K H vs ds ∧ PyData.canLayAll0 ds = true ∧ PyData.depthAll ds ≤ k
  | [], [], _ => ⟨.nil, rfl, Nat.zero_le _⟩
  | v :: vs, d :: ds, h => by
    obtain ⟨h1, h2⟩ := h
    obtain ⟨q1, q2, q3⟩ := h2.p
    refine ⟨.cons h1.p q1, ?_, ?_⟩
    · show (d.canLay0 && PyData.canLayAll0 ds) = true
      rw [h1.l, q2]; rfl
    · have := h1.e
      show max d.depth (PyData.depthAll ds) ≤ k
      omega
  | [], _ :: _, h => h.elim
  | _ :: _, [], h => h.elim
theorem Da.lst {a : Addr} {xs : List V} {ds : List PyData} {k : Nat} (s : SqL K H a xs) (h : DaL K H xs ds k) : Da K H (.ref a) (.list ds) (k + 1) := by
  obtain ⟨q1, q2, q3⟩ := h.p
  refine ⟨.lst s q1, q2, ?_⟩
  show PyData.depthAll ds + 1 ≤ k + 1
  omega
theorem Da.tup {a : Addr} {xs : List V} {ds : List PyData} {k : Nat} (s : SqT K H a xs) (h : DaL K H xs ds k) : Da K H (.ref a) (.tuple ds) (k + 1) := by
  obtain ⟨q1, q2, q3⟩ := h.p
  refine ⟨.tup s q1, q2, ?_⟩
  show PyData.depthAll ds + 1 ≤ k + 1
  omega
theorem DaL.ints {k : Nat} : ∀ ns : List Int, DaL K H (ns.map V.int) (ns.map PyData.int) k
  | [] => trivial
  | n :: ns => ⟨.int, DaL.ints ns⟩
theorem DaL.at {k : Nat} {α : Type} {f : α → PyData} : ∀ {vs : List V} {L : List α}, vs.length = L.length → (∀ (i : Nat) (v : V) (x : α), vs[i]? = some v → L[i]? = some x → Da K H v (f x) k) → DaL K H vs (L.map f) k
  | [], [], _, _ => trivial
  | v :: vs, x :: L, l, h => ⟨h 0 v x rfl rfl, DaL.at (by simpa using l) fun i v x e1 e2 => h (i + 1) v x (by simpa using e1) (by simpa using e2)⟩
  | [], _ :: _, l, _ => by simp at l
  | _ :: _, [], l, _ => by simp at l
theorem Da.shaped {v : V} {d : PyData} {k : Nat} (h : Da K H v d k) (l : k ≤ 64) : SeqAt.shaped d = true := by
  unfold SeqAt.shaped
  rw [h.l, decide_eq_true (Nat.le_trans h.e l)]; rfl
theorem w_eqDa {x y : V} {d e : PyData} {k : Nat} (h : Da K H x d k) (h' : Da K H y e k) (l : k ≤ 64) (q : Q (.bl (PyData.eqv d e)) H) : rEqD K x y H Q := ⟨d, e, h.p, h'.p, h.shaped l, h'.shaped l, q⟩
theorem w_neDa {x y : V} {d e : PyData} {k : Nat} (h : Da K H x d k) (h' : Da K H y e k) (l : k ≤ 64) (q : Q (.bl (!PyData.eqv d e)) H) : rNeD K x y H Q := ⟨d, e, h.p, h'.p, h.shaped l, h'.shaped l, q⟩
theorem w_eqSame {x y : V} {d : PyData} {k : Nat} (h : Da K H x d k) (h' : Da K H y d k) (l : k ≤ 64) (q : Q (.bl true) H) : rEqD K x y H Q := w_eqDa h h' l (by rw [SeqAt.eqv_refl d h.l]; exact q)
theorem w_neSame {x y : V} {d : PyData} {k : Nat} (h : Da K H x d k) (h' : Da K H y d k) (l : k ≤ 64) (q : Q (.bl false) H) : rNeD K x y H Q := w_neDa h h' l (by rw [SeqAt.eqv_refl d h.l]; exact q)
end
/-! ### pieces as data -/
def kD : Key → PyData
  | .inl i => .int i
  | .inr x => .str x
def pdat (S : List Tr) (t : Tr) : PyData := .tuple ((key S t).map kD)
theorem da_piece {K : PySem.W.Frag} {H : Hp} {S : List Tr} {r : Addr} {t : Tr} (o : Ok t) (h : H r = some (.tup (pvals S t))) : Da K H (.ref r) (pdat S t) 1 := by
  refine Da.tup (SqT.of h) ?_
  cases t with
  | lf l => exact ⟨.str (by decide +kernel), .pln o.2.2, trivial⟩
  | fk a b => exact ⟨.str (by decide +kernel), .int, .int, trivial⟩
/-- a list of the tuples of some pieces, by the numbers of S -/
def PcsAt (H : Hp) (L : Addr) (S R : List Tr) : Prop := ∃ rs : List Addr, H L = some (.lst (rs.map V.ref)) ∧ rs.length = R.length ∧ ∀ (i : Nat) r t, rs[i]? = some r → R[i]? = some t → H r = some (.tup (pvals S t))
theorem PcsAt.same {H H' : Hp} {L : Addr} {S R : List Tr} (h : PcsAt H L S R) (s : Same H H') : PcsAt H' L S R :=
  let ⟨rs, h1, h2, h3⟩ := h
  ⟨rs, s _ _ h1, h2, fun i r t e1 e2 => s _ _ (h3 i r t e1 e2)⟩
theorem PcsAt.da {K : PySem.W.Frag} {H : Hp} {L : Addr} {S R : List Tr} (h : PcsAt H L S R) (o : ∀ t ∈ R, Ok t) : Da K H (.ref L) (.list (R.map (pdat S))) 2 := by
  obtain ⟨rs, h1, h2, h3⟩ := h
  refine Da.lst (SqL.of h1) (DaL.at (by rw [List.length_map]; exact h2) fun i v t e1 e2 => ?_)
  rw [List.getElem?_map] at e1
  cases er : rs[i]? with
  | none => rw [er] at e1; cases e1
  | some r =>
    rw [er] at e1
    cases e1
    exact da_piece (o t (List.mem_of_getElem? e2)) (h3 i r t er e2)
/-! ### a text read by its pieces -/
def oZ : Option Tr → Nat | none => 0 | some t => t.sz
def szN (S : List Tr) (n : Int) : Nat := if n = 0 then 0 else match S[n.toNat - 1]? with | some t => t.sz | none => 0
theorem szN_tx {S : List Tr} {n : Int} {o : Option Tr} (h : Tx S n o) : szN S n = oZ o := by
  cases o with
  | none =>
    have : n = 0 := h
    subst this; rfl
  | some t =>
    obtain ⟨i, e, rfl⟩ := (show Nm S n t from h)
    unfold szN
    rw [if_neg (by omega), show ((i : Int) + 1).toNat - 1 = i by omega, e]; rfl
def szW (S : List Tr) : List V → Nat
  | [] => 0
  | .int n :: r => 1 + 2 * szN S n + szW S r
  | _ :: r => 1 + szW S r
theorem szW_app (S : List Tr) : ∀ xs ys : List V, szW S (xs ++ ys) = szW S xs + szW S ys
  | [], ys => by simp [szW]
  | x :: xs, ys => by
    have ih := szW_app S xs ys
    cases x <;> simp only [List.cons_append, szW, ih] <;> omega
theorem szW_len (S : List Tr) : ∀ xs : List V, xs.length ≤ szW S xs
  | [] => Nat.le_refl _
  | x :: xs => by
    have ih := szW_len S xs
    cases x <;> simp only [List.length_cons, szW] <;> omega
def muR (S : List Tr) (W : Addr) (_ : L2.St) (H : Hp) : Nat := match H W with | some (.lst xs) => szW S xs | _ => 0
theorem muR_of {S : List Tr} {W : Addr} {σ : L2.St} {H : Hp} {xs : List V} (h : H W = some (.lst xs)) : muR S W σ H = szW S xs := by
  unfold muR
  rw [h]
theorem Ok.sz : ∀ {t : Tr}, Ok t → t.sz + 1 ≤ 2 * t.sg
  | .lf l, h => by have := h.1; show 1 + 1 ≤ 2 * l.length; omega
  | .fk a b, h => by
    have ha := Ok.sz (t := a) h.1
    have hb := Ok.sz (t := b) h.2.1
    show 1 + a.sz + b.sz + 1 ≤ 2 * (a.sg + b.sg)
    omega
/-- what is left to read, the last one first -/
def restX : List (Option Tr) → List Nat
  | [] => []
  | o :: r => restX r ++ oX o
theorem restX_snoc (os : List (Option Tr)) (o : Option Tr) : restX (os ++ [o]) = oX o ++ restX os := by
  induction os with
  | nil => simp [restX]
  | cons p r ih =>
    rw [List.cons_append, restX, ih, restX, List.append_assoc]
theorem TxAll.snoc {S : List Tr} {n : Int} {o : Option Tr} (h : Tx S n o) : ∀ {ns : List Int} {os : List (Option Tr)}, TxAll S ns os → TxAll S (ns ++ [n]) (os ++ [o])
  | [], [], _ => ⟨h, trivial⟩
  | _ :: _, _ :: _, z => ⟨z.1, TxAll.snoc h z.2⟩
  | [], _ :: _, z => z.elim
  | _ :: _, [], z => z.elim
theorem TxAll.last {S : List Tr} {n : Int} : ∀ {ns : List Int} {os : List (Option Tr)}, TxAll S (ns ++ [n]) os → ∃ os' o, os = os' ++ [o] ∧ TxAll S ns os' ∧ Tx S n o
  | [], [o], h => ⟨[], o, rfl, trivial, h.1⟩
  | m :: ns, o :: os, h => by
    obtain ⟨os', p, e, h1, h2⟩ := TxAll.last (ns := ns) (os := os) h.2
    exact ⟨o :: os', p, by rw [e]; rfl, ⟨h.1, h1⟩, h2⟩
  | [], [], h => h.elim
  | [], _ :: _ :: _, h => h.2.elim
  | _ :: _, [], h => h.elim
/-- what isinstance asks of an own class -/
structure InsC (K : PySem.W.Frag) (C : Addr) : Prop where
  ha : PySem.W.findIn K (.ref C) "__class__" = some (some (.builtin "object.__class__"))
  hn : PySem.W.specialIn K (.builtin "object.__class__") "__get__" = some (some (.builtin "getset_descriptor.__get__"))
  ht : PySem.W.takesIn K (.builtin "object.__class__") = some true
  hm : PySem.W.mroIn K C (.type "object") = some true
theorem kit_self {K : PySem.W.Frag} {t : Value} : PySem.W.kitOne K t t = some true := by
  unfold PySem.W.kitOne
  rw [if_pos (by cases t <;> simp)]
end Sk

/-! a op b op c op d; a text so many times. -/
namespace Sk
open PySem PySem.Spec PyProof.Rows L2

section
variable {X : Cx} {a b c d : Expr} {ta tb tc td : TE} {pos : Pos} {op op' op'' : CmpOp} {r r' r'' : R2}
def tChain3 (r r' r'' : R2) (ta tb tc td : TE) : TE := fun σ H Q => ta σ H fun x H1 => tb σ H1 fun y H2 => r x y H2 fun z H3 => ∃ k, z = .bl k ∧
  (if k = true then tc σ H3 fun v H4 => r' y v H4 fun z' H5 => ∃ k', z' = .bl k' ∧ (if k' = true then td σ H5 fun u H6 => r'' v u H6 Q else Q (.bl false) H5) else Q (.bl false) H3)
theorem pt_chain3 (ho : OpR X (compareOp op) r) (ho' : OpR X (compareOp op') r') (ho'' : OpR X (compareOp op'') r'') (ha : PE X a ta) (hb : PE X b tb) (hc : PE X c tc) (hd : PE X d td)
    (hm : lastMarks [op, op', op''] [b, c, d] = false := by with_unfolding_all rfl) : PT X (.Compare a [op, op', op''] [b, c, d] pos) (tTest (tChain3 r r' r'' ta tb tc td)) := by
  refine ⟨fun pins s σ H Q I h => ?_⟩
  refine isTrue_chain (thn (ha.run pins s σ H _ I h) fun v s1 ⟨x, H1, I1, r1, q1⟩ => test_link (thn (hb.run pins s1 σ H1 _ I1 q1) fun u s2 ⟨y, H2, I2, r2, q2⟩ =>
    thn (ho pins s2 σ H2 x y v u _ I2 r1 r2 q2) fun e s3 ⟨z, H3, I3, r3, k, ek, q3⟩ => ?_)) hm
  subst ek
  cases r3
  refine wpAny_truthy_bool ?_
  cases k with
  | false => exact ite_ff (let ⟨k', e', q'⟩ := q3; by cases e'; exact ⟨H3, I3, q'⟩)
  | true =>
    refine ite_tt (test_link (thn (hc.run pins s3 σ H3 _ I3 q3) fun w s4 ⟨z4, H4, I4, r4, q4⟩ => thn (ho' pins s4 σ H4 y z4 u w _ I4 r2 r4 q4) fun e5 s5 ⟨z5, H5, I5, r5, k5, ek5, q5⟩ => ?_))
    subst ek5
    cases r5
    refine wpAny_truthy_bool ?_
    cases k5 with
    | false => exact ite_ff (let ⟨k', e', q'⟩ := q5; by cases e'; exact ⟨H5, I5, q'⟩)
    | true =>
      refine ite_tt (test_last (thn (hd.run pins s5 σ H5 _ I5 q5) fun w6 s6 ⟨z6, H6, I6, r6, q6⟩ => thn (ho'' pins s6 σ H6 z4 z6 w w6 _ I6 r4 r6 q6) fun e7 s7 ⟨z7, H7, I7, r7, k7, ek7, q7⟩ => ?_))
      subst ek7
      cases r7
      exact wpAny_truthy_bool ⟨H7, I7, q7⟩
end
section
variable {σ : L2.St} {H : Hp} {Q : VK} {ta tb tc td : TE} {r r' r'' : R2}
theorem w_chain3 (k : ta σ H fun x H1 => tb σ H1 fun y H2 => r x y H2 fun z H3 => ∃ k, z = .bl k ∧
  (if k = true then tc σ H3 fun v H4 => r' y v H4 fun z' H5 => ∃ k', z' = .bl k' ∧ (if k' = true then td σ H5 fun u H6 => r'' v u H6 Q else Q (.bl false) H5) else Q (.bl false) H3)) : tChain3 r r' r'' ta tb tc td σ H Q := k
end
/-- a text so many times -/
def rp (k : Nat) (l : List Nat) : List Nat := (List.replicate k l).flatten
theorem rp_len (k : Nat) (l : List Nat) : (rp k l).length = k * l.length := by
  unfold rp
  rw [List.length_flatten, List.map_replicate, List.sum_replicate_nat]
theorem rp_succ (k : Nat) (l : List Nat) : rp (k + 1) l = l ++ rp k l := by
  unfold rp
  rw [List.replicate_succ, List.flatten_cons]
theorem rp_zero (l : List Nat) : rp 0 l = [] := rfl
theorem rp_one (l : List Nat) : rp 1 l = l := by rw [rp_succ, rp_zero, List.append_nil]
theorem rp_add (j k : Nat) (l : List Nat) : rp (j + k) l = rp j l ++ rp k l := by
  unfold rp
  rw [← List.replicate_append_replicate, List.flatten_append]
theorem rp_mul (j k : Nat) (l : List Nat) : rp (j * k) l = rp j (rp k l) := by
  induction j with
  | zero => rw [Nat.zero_mul]; rfl
  | succ j ih => rw [Nat.succ_mul, Nat.add_comm, rp_add, ih, rp_succ]
theorem rp_nil (k : Nat) : rp k [] = [] := by
  have := rp_len k []
  rw [List.length_nil, Nat.mul_zero] at this
  exact List.length_eq_zero_iff.mp this
theorem plain_rp {l : List Nat} (h : Plain l) (k : Nat) : Plain (rp k l) := fun c hc => by
  unfold rp at hc
  obtain ⟨m, hm, hc⟩ := List.mem_flatten.mp hc
  rw [List.mem_replicate] at hm
  rw [hm.2] at hc
  exact h c hc
theorem fold_cps (x : Array Nat) : ∀ (k : Nat) (acc : Array Nat), ((List.replicate k x).foldl (· ++ ·) acc).toList = acc.toList ++ (List.replicate k x.toList).flatten
  | 0, acc => by simp
  | k + 1, acc => by
    rw [List.replicate_succ, List.foldl_cons, fold_cps x k, List.replicate_succ, List.flatten_cons]
    simp
def rRepS : R2 := fun x y H Q => ∃ (l : List Nat) (k : Nat), x = .str (sT l) ∧ y = .int k ∧ k < 1000000000 ∧ k * l.length ≤ sizeLine ∧ l.length ≤ sizeLine ∧ Q (.str (sT (rp k l))) H
theorem op_rep_str {X : Cx} : OpR X (binaryOp .Mult) rRepS := by
  intro pins s σ H x y v u Q I rx ry h
  obtain ⟨l, k, rfl, rfl, hk, hl, hl2, q⟩ := h
  obtain ⟨t, rfl⟩ := rx
  obtain ⟨t', rfl⟩ := ry
  have lx : (sT l).length = l.length := sT_len l
  refine PySem.P.mul_str ?_ ?_ ?_ ?_
  · rw [decide_eq_false (by omega), decide_eq_false (by omega)]; rfl
  · intro h1 h2 h3
    rw [lx] at h3
    have e1 : ((2 : Int) ^ 63 - 1) / (k : Int) * (k : Int) + ((2 : Int) ^ 63 - 1) % (k : Int) = 2 ^ 63 - 1 := by
      rw [Int.mul_comm]; exact Int.mul_ediv_add_emod _ _
    have e2 := Int.emod_lt_of_pos ((2 : Int) ^ 63 - 1) (show (0 : Int) < k by omega)
    have e3 : (((2 : Int) ^ 63 - 1) / (k : Int) + 1) * (k : Int) ≤ (l.length : Int) * k := Int.mul_le_mul_of_nonneg_right (by omega) (by omega)
    have e4 : (l.length : Int) * k = ((k * l.length : Nat) : Int) := by rw [Nat.mul_comm]; rfl
    have e5 : (((2 : Int) ^ 63 - 1) / (k : Int) + 1) * (k : Int) = ((2 : Int) ^ 63 - 1) / (k : Int) * (k : Int) + k := by rw [Int.add_mul, Int.one_mul]
    rw [sizeLine_eq] at hl
    omega
  · intro h1 h2
    rw [lx, show ((k : Int)).toNat = k by omega, Nat.mul_comm]
    unfold Builtin.Str.tooLong
    rw [decide_eq_false (by omega)]
  · by_cases k0 : (k : Int) < 1
    · rw [if_pos k0]
      obtain rfl : k = 0 := by omega
      refine ⟨by decide, .str (sT []), H, I.tok _, ⟨_, by rw [← sT_nil]; rfl⟩, q⟩
    · rw [if_neg k0]
      by_cases c : ((k : Int) == 1 || (sT l).length == 0) = true
      · rw [if_pos c]
        have e : rp k l = l := by
          rw [Bool.or_eq_true, beq_iff_eq, beq_iff_eq, lx] at c
          rcases c with c | c
          · obtain rfl : k = 1 := by omega
            exact rp_one l
          · rw [List.length_eq_zero_iff.mp c]; exact rp_nil k
        rw [e] at q
        exact ⟨.str (sT l), H, I.tok _, ⟨t, rfl⟩, q⟩
      · rw [if_neg c]
        have e : (⟨(List.replicate ((k : Int)).toNat (sT l).cps).foldl (· ++ ·) #[]⟩ : Str) = sT (rp k l) := by
          rw [show ((k : Int)).toNat = k by omega, sT_of ⟨_⟩, fold_cps]
          simp [rp]
        rw [e]
        exact ⟨by rw [sT_len, rp_len]; exact hl, .str (sT (rp k l)), H, I.tok _, ⟨_, rfl⟩, q⟩
/-- list + list, read-only ones, too -/
def rCatK (K : PySem.W.Frag) : R2 := fun x y H Q => ∃ l b xs zs, x = .ref l ∧ y = .ref b ∧ SqL K H l xs ∧ SqL K H b zs ∧ xs.length + zs.length ≤ sizeLine ∧ ∀ p, H p = none → Q (.ref p) (upd H p (.lst (xs ++ zs)))
theorem op_catK {X : Cx} : OpR X (binaryOp .Add) (rCatK X.K) := by
  intro pins s σ H x y v u Q I rx ry h
  obtain ⟨l, b, xs, zs, rfl, rfl, hH, hB, hz, q⟩ := h
  cases rx
  cases ry
  obtain ⟨its, r, ht, hz1⟩ := I.list hH
  obtain ⟨its2, r2, ht2, hz2⟩ := I.list hB
  obtain ⟨⟨cls, dd, data, sl⟩, n, ho, hc, hdd, hd⟩ := ht
  obtain ⟨⟨cls2, dd2, data2, sl2⟩, n2, ho2, hc2, hdd2, hd2⟩ := ht2
  simp only at hc hd hc2 hd2
  subst hc hd hc2 hd2
  have ea : its.toArray ++ its2.toArray = (its ++ its2).toArray := by simp
  have z1 := r.length
  have z2 := r2.length
  refine concat_meets ⟨_, ho, rfl⟩ ⟨_, ho2, rfl⟩ noFill_list_add seq_list_add F.slot_list_add F.entry_list_add (F.args_list_add_2 _ _) (list_addW l b its.toArray its2.toArray n n2 dd dd2 sl sl2 (by rw [List.size_toArray, List.size_toArray]; omega)) ⟨ho, ho2, ?_⟩
  rw [ea]
  exact ⟨.ref _, _, I.lnew (t' := s.toks) (r.append r2) (by rw [List.length_append]; omega), rfl, q _ I.fresh⟩
end Sk

/-! Texts cut; texts repeated. -/
namespace Sk
open Tr

def halv : Tr → Nat → Option Tr × Option Tr
  | lf l, n => if n = 0 then (none, some (lf l)) else if n = l.length then (some (lf l), none) else (some (lf (l.take n)), some (lf (l.drop n)))
  | fk a b, n => if n = 0 then (none, some (fk a b)) else if n = (fk a b).sg then (some (fk a b), none) else
    if n < a.sg then ((halv a n).1, joinedO (halv a n).2 (some b)) else (joinedO (some a) (halv b (n - a.sg)).1, (halv b (n - a.sg)).2)
def halvO : Option Tr → Nat → Option Tr × Option Tr
  | none, _ => (none, none)
  | some t, n => halv t n
/-- how many pieces are asked for on the left and on the right side -/
def chl : Tr → Nat → Nat
  | lf _, _ => 0
  | fk a b, n => if n = 0 then 0 else if n = (fk a b).sg then 0 else if n < a.sg then chl a n else chl b (n - a.sg) + cjoin (some a) (halv b (n - a.sg)).1
def chr' : Tr → Nat → Nat
  | lf _, _ => 0
  | fk a b, n => if n = 0 then 0 else if n = (fk a b).sg then 0 else if n < a.sg then chr' a n + cjoin (halv a n).2 (some b) else chr' b (n - a.sg)
def chal (t : Tr) (n : Nat) : Nat := chl t n + chr' t n + 2
def chalO : Option Tr → Nat → Nat
  | none, _ => 0
  | some t, n => chal t n
theorem halv_0 (t : Tr) : halv t 0 = (none, some t) := by cases t <;> simp [halv]
theorem halv_all {t : Tr} (h : t.sg ≠ 0) : halv t t.sg = (some t, none) := by
  cases t with
  | lf l => have h : l.length ≠ 0 := h; show (if l.length = 0 then _ else if l.length = l.length then _ else _) = _; rw [if_neg h, if_pos rfl]
  | fk a b => show (if (fk a b).sg = 0 then _ else if (fk a b).sg = (fk a b).sg then _ else _) = _; rw [if_neg h, if_pos rfl]
theorem halv_l {a b : Tr} {n : Nat} (h0 : n ≠ 0) (h : n < a.sg) : halv (fk a b) n = ((halv a n).1, joinedO (halv a n).2 (some b)) := by
  have e : (fk a b).sg = a.sg + b.sg := rfl
  show (if n = 0 then _ else if n = (fk a b).sg then _ else if n < a.sg then _ else _) = _
  rw [if_neg h0, if_neg (by omega), if_pos h]
theorem halv_r {a b : Tr} {n : Nat} (h0 : n ≠ 0) (h1 : n ≠ (fk a b).sg) (h : ¬ n < a.sg) : halv (fk a b) n = (joinedO (some a) (halv b (n - a.sg)).1, (halv b (n - a.sg)).2) := by
  show (if n = 0 then _ else if n = (fk a b).sg then _ else if n < a.sg then _ else _) = _
  rw [if_neg h0, if_neg h1, if_neg h]
theorem chal_l {a b : Tr} {n : Nat} (h0 : n ≠ 0) (h : n < a.sg) : chl (fk a b) n = chl a n ∧ chr' (fk a b) n = chr' a n + cjoin (halv a n).2 (some b) := by
  have e : (fk a b).sg = a.sg + b.sg := rfl
  constructor
  · show (if n = 0 then 0 else if n = (fk a b).sg then 0 else if n < a.sg then chl a n else _) = _
    rw [if_neg h0, if_neg (by omega), if_pos h]
  · show (if n = 0 then 0 else if n = (fk a b).sg then 0 else if n < a.sg then _ else _) = _
    rw [if_neg h0, if_neg (by omega), if_pos h]
theorem chal_r {a b : Tr} {n : Nat} (h0 : n ≠ 0) (h1 : n ≠ (fk a b).sg) (h : ¬ n < a.sg) : chl (fk a b) n = chl b (n - a.sg) + cjoin (some a) (halv b (n - a.sg)).1 ∧ chr' (fk a b) n = chr' b (n - a.sg) := by
  constructor
  · show (if n = 0 then 0 else if n = (fk a b).sg then 0 else if n < a.sg then _ else _) = _
    rw [if_neg h0, if_neg h1, if_neg h]
  · show (if n = 0 then 0 else if n = (fk a b).sg then 0 else if n < a.sg then _ else _) = _
    rw [if_neg h0, if_neg h1, if_neg h]
structure HalvOk (t : Tr) (n : Nat) (p : Option Tr × Option Tr) : Prop where
  o1 : OkO p.1
  o2 : OkO p.2
  x1 : oX p.1 = t.txt.take n
  x2 : oX p.2 = t.txt.drop n
theorem HalvOk.s1 {t : Tr} {n : Nat} {p : Option Tr × Option Tr} (h : HalvOk t n p) (hn : n ≤ t.sg) : oS p.1 = n := by
  have := congrArg List.length h.x1
  rw [oS_txt, List.length_take, sg_txt] at this; omega
theorem HalvOk.s2 {t : Tr} {n : Nat} {p : Option Tr × Option Tr} (h : HalvOk t n p) : oS p.2 = t.sg - n := by
  have := congrArg List.length h.x2
  rw [oS_txt, List.length_drop, sg_txt] at this; exact this
theorem okO_some {t : Tr} (o : Ok t) : OkO (some t) := fun u e => by cases e; exact o
theorem okO_none : OkO none := fun u e => nomatch e
theorem halv_ok : ∀ {t : Tr} {n : Nat}, Ok t → n ≤ t.sg → HalvOk t n (halv t n)
  | .lf l, n, o, h => by
    show HalvOk _ _ (if n = 0 then _ else if n = l.length then _ else _)
    have h : n ≤ l.length := h
    by_cases h0 : n = 0
    · subst h0
      rw [if_pos rfl]
      exact ⟨okO_none, okO_some o, rfl, rfl⟩
    rw [if_neg h0]
    by_cases h1 : n = l.length
    · subst h1
      rw [if_pos rfl]
      exact ⟨okO_some o, okO_none, (List.take_length).symm, (List.drop_length).symm⟩
    rw [if_neg h1]
    refine ⟨okO_some ⟨?_, ?_, fun c hc => o.2.2 c (List.mem_of_mem_take hc)⟩, okO_some ⟨?_, ?_, fun c hc => o.2.2 c (List.mem_of_mem_drop hc)⟩, rfl, rfl⟩
    · rw [List.length_take]; omega
    · rw [List.length_take]; have := o.2.1; omega
    · rw [List.length_drop]; omega
    · rw [List.length_drop]; have := o.2.1; omega
  | .fk a b, n, o, h => by
    have es : (fk a b).sg = a.sg + b.sg := rfl
    obtain ⟨oa, ob, _, _, _, hm⟩ := id o
    have la : a.txt.length = a.sg := sg_txt a
    have lb : b.txt.length = b.sg := sg_txt b
    by_cases h0 : n = 0
    · subst h0
      rw [halv_0]
      exact ⟨okO_none, okO_some o, rfl, rfl⟩
    by_cases h1 : n = (fk a b).sg
    · subst h1
      rw [halv_all (by have := o.pos; omega)]
      refine ⟨okO_some o, okO_none, ?_, ?_⟩
      · rw [← sg_txt (fk a b), List.take_length]; rfl
      · rw [← sg_txt (fk a b), List.drop_length]; rfl
    by_cases h2 : n < a.sg
    · rw [halv_l h0 h2]
      have ih := halv_ok (t := a) (n := n) oa (by omega)
      have s2 := ih.s2
      obtain ⟨j1, j2, _⟩ := joinedO_ok ih.o2 (okO_some ob) (by show oS _ + b.sg ≤ _; omega)
      refine ⟨ih.o1, j1, ?_, ?_⟩
      · show oX (halv a n).1 = (a.txt ++ b.txt).take n
        rw [ih.x1, List.take_append_of_le_length (by omega)]
      · show oX (joinedO (halv a n).2 (some b)) = (a.txt ++ b.txt).drop n
        rw [j2, ih.x2, List.drop_append_of_le_length (by omega)]; rfl
    · rw [halv_r h0 h1 h2]
      have ih := halv_ok (t := b) (n := n - a.sg) ob (by omega)
      have s1 := ih.s1 (by omega)
      obtain ⟨j1, j2, _⟩ := joinedO_ok (okO_some oa) ih.o1 (by show a.sg + oS _ ≤ _; omega)
      refine ⟨j1, ih.o2, ?_, ?_⟩
      · show oX (joinedO (some a) (halv b (n - a.sg)).1) = (a.txt ++ b.txt).take n
        rw [j2, ih.x1, List.take_append, List.take_of_length_le (l := a.txt) (by omega), la]; rfl
      · show oX (halv b (n - a.sg)).2 = (a.txt ++ b.txt).drop n
        rw [ih.x2, List.drop_append, List.drop_eq_nil_of_le (as := a.txt) (by omega), List.nil_append, la]
/-! ### what a leaf's rest is joined to -/
theorem join_leaf_l {w : List Nat} {b : Tr} (ow : Ok (lf w)) (ob : Ok b) (s : w.length + b.sg ≤ mostSg) : ∃ t, joinedO (some (lf w)) (some b) = some t ∧ t.ht ≤ b.ht + 1 ∧ b.la.sg ≤ t.la.sg ∧ cjoin (some (lf w)) (some b) ≤ 11 * b.ht + 8 := by
  have el : (lf w).la = lf w := rfl
  have es : (lf w).sg = w.length := rfl
  have eh : (lf w).ht = 0 := rfl
  by_cases h : (lf w).la.sg + b.fi.sg ≤ 8
  · have ej : joinedO (some (lf w)) (some b) = poured (lf w) b := by show (if _ then _ else _) = _; rw [if_pos h]
    have ec : cjoin (some (lf w)) (some b) = cpour (lf w) b := by show (if _ then _ else _) = _; rw [if_pos h]
    obtain ⟨t, e, jo, hc, _⟩ := poured_ok ow ob h (by rw [es]; exact s)
    rw [ej, ec]
    refine ⟨t, e, ?_, ?_, by omega⟩
    · have unf : poured (lf w) b = linkedO (some (amid (lf w) b)) (wf b) := rfl
      rw [unf] at e
      cases ew : wf b with
      | none =>
        rw [ew] at e
        cases e
        show 0 ≤ _; omega
      | some b' =>
        rw [ew] at e
        have k := (wf_ok ob ew).1
        have e : some (linked (amid (lf w) b) b') = some t := e
        cases e
        have am := amid_ok ow ob h
        have j : Jn (amid (lf w) b) b' := by
          refine ⟨am, k.ok, ?_, ?_⟩
          · have := amid_sg (lf w) b
            obtain ⟨_, _, _, _, jj⟩ := poured_ok ow ob h (by rw [es]; exact s)
            exact (jj (amid (lf w) b) b' rfl ew).cl
          · have := amid_sg (lf w) b
            have := wf_sg2 ob
            rw [ew] at this
            have e2 : oS (some b') = b'.sg := rfl
            have := fi_sg_le b
            rw [el] at *
            omega
        have := j.linked.hi
        have e0 : (amid (lf w) b).ht = 0 := rfl
        have := k.hi
        omega
    · have unf : poured (lf w) b = linkedO (some (amid (lf w) b)) (wf b) := rfl
      rw [unf] at e
      cases ew : wf b with
      | none =>
        rw [ew] at e
        cases e
        obtain ⟨m, rfl⟩ := wf_none ew
        show m.length ≤ (w ++ m).length
        rw [List.length_append]; omega
      | some b' =>
        rw [ew] at e
        have k := (wf_ok ob ew).1
        have e : some (linked (amid (lf w) b) b') = some t := e
        cases e
        obtain ⟨_, _, _, _, jj⟩ := poured_ok ow ob h (by rw [es]; exact s)
        have j : Jn (amid (lf w) b) b' := jj (amid (lf w) b) b' rfl ew
        rw [j.linked.la, k.la]; exact Nat.le_refl _
  · have ej : joinedO (some (lf w)) (some b) = some (linked (lf w) b) := by show (if _ then _ else _) = _; rw [if_neg h]
    have ec : cjoin (some (lf w)) (some b) = clink (lf w) b := by show (if _ then _ else _) = _; rw [if_neg h]
    have j : Jn (lf w) b := ⟨ow, ob, by omega, by rw [es]; exact s⟩
    have := clink_bd ow ob
    have := j.linked.hi
    rw [ej, ec]
    exact ⟨_, rfl, by omega, by rw [j.linked.la]; exact Nat.le_refl _, by omega⟩
theorem join_leaf_r {w : List Nat} {a : Tr} (oa : Ok a) (ow : Ok (lf w)) (s : a.sg + w.length ≤ mostSg) : ∃ t, joinedO (some a) (some (lf w)) = some t ∧ t.ht ≤ a.ht + 1 ∧ a.fi.sg ≤ t.fi.sg ∧ cjoin (some a) (some (lf w)) ≤ 11 * a.ht + 8 := by
  have el : (lf w).fi = lf w := rfl
  have es : (lf w).sg = w.length := rfl
  have eh : (lf w).ht = 0 := rfl
  by_cases h : a.la.sg + (lf w).fi.sg ≤ 8
  · have ej : joinedO (some a) (some (lf w)) = poured a (lf w) := by show (if _ then _ else _) = _; rw [if_pos h]
    have ec : cjoin (some a) (some (lf w)) = cpour a (lf w) := by show (if _ then _ else _) = _; rw [if_pos h]
    obtain ⟨t, e, jo, hc, _⟩ := poured_ok oa ow h (by rw [es]; exact s)
    obtain ⟨t1, e1, o1, x1, la1, h1, h2, s1, j1⟩ := pour1 oa ow h (by rw [es]; exact s)
    rw [ej, ec]
    have unf : poured a (lf w) = linkedO (linkedO (wl a) (some (amid a (lf w)))) none := rfl
    rw [unf, e1] at e
    cases e
    refine ⟨t, by rw [unf, e1]; rfl, h1, ?_, by omega⟩
    cases ew : wl a with
    | none =>
      rw [ew] at e1
      cases e1
      obtain ⟨m, rfl⟩ := wl_none ew
      show m.length ≤ (m ++ w).length
      rw [List.length_append]; omega
    | some a' =>
      rw [ew] at e1
      have k := (wl_ok oa ew).1
      have e1 : some (linked a' (amid a (lf w))) = some t := e1
      cases e1
      have j := (j1 a' ew).1
      rw [j.linked.fi, k.fi]; exact Nat.le_refl _
  · have ej : joinedO (some a) (some (lf w)) = some (linked a (lf w)) := by show (if _ then _ else _) = _; rw [if_neg h]
    have ec : cjoin (some a) (some (lf w)) = clink a (lf w) := by show (if _ then _ else _) = _; rw [if_neg h]
    have j : Jn a (lf w) := ⟨oa, ow, by omega, by rw [es]; exact s⟩
    have := clink_bd oa ow
    have := j.linked.hi
    rw [ej, ec]
    exact ⟨_, rfl, by omega, by rw [j.linked.fi]; exact Nat.le_refl _, by omega⟩
theorem join_tight {a b : Tr} (oa : Ok a) (ob : Ok b) (h : 8 < a.la.sg + b.fi.sg) (s : a.sg + b.sg ≤ mostSg) : joinedO (some a) (some b) = some (linked a b) ∧ cjoin (some a) (some b) ≤ 3 * (a.ht - b.ht - 1 + (b.ht - a.ht - 1)) + 1 ∧ LevOk a b (linked a b) (max a.ht b.ht) (max a.ht b.ht + 1) := by
  have ej : joinedO (some a) (some b) = some (linked a b) := by show (if _ then _ else _) = _; rw [if_neg (by omega)]
  have ec : cjoin (some a) (some b) = clink a b := by show (if _ then _ else _) = _; rw [if_neg (by omega)]
  exact ⟨ej, by rw [ec]; exact clink_bd oa ob, Jn.linked ⟨oa, ob, h, s⟩⟩
theorem chr_le : ∀ {t : Tr} {n : Nat}, Ok t → n ≤ t.sg → (∀ x, (halv t n).2 = some x → x.ht ≤ t.ht ∧ (((∃ w, x = lf w) ∧ chr' t n = 0) ∨ (t.la.sg ≤ x.la.sg ∧ chr' t n ≤ 3 * x.ht + 12 * t.ht + 8))) ∧ ((halv t n).2 = none → chr' t n = 0)
  | .lf l, n, o, h => by
    refine ⟨fun x e => ?_, fun _ => rfl⟩
    have : ∃ w, x = lf w := by
      revert e
      show (if n = 0 then _ else if n = l.length then _ else _ : Option Tr × Option Tr).2 = some x → _
      split
      · intro e; cases e; exact ⟨l, rfl⟩
      · split
        · intro e; cases e
        · intro e; cases e; exact ⟨_, rfl⟩
    obtain ⟨w, rfl⟩ := this
    exact ⟨Nat.le_refl _, .inl ⟨⟨w, rfl⟩, rfl⟩⟩
  | .fk a b, n, o, h => by
    have es : (fk a b).sg = a.sg + b.sg := rfl
    have eh : (fk a b).ht = 1 + max a.ht b.ht := rfl
    have el : (fk a b).la = b.la := rfl
    obtain ⟨oa, ob, l1, l2, cl, hm⟩ := id o
    by_cases h0 : n = 0
    · subst h0
      rw [halv_0]
      have c0 : chr' (fk a b) 0 = 0 := rfl
      rw [c0]
      refine ⟨fun x e => ?_, fun e => nomatch e⟩
      cases e
      exact ⟨Nat.le_refl _, .inr ⟨Nat.le_refl _, by omega⟩⟩
    by_cases h1 : n = (fk a b).sg
    · have c0 : chr' (fk a b) n = 0 := by show (if n = 0 then 0 else if n = (fk a b).sg then 0 else _) = 0; rw [if_neg h0, if_pos h1]
      subst h1
      rw [halv_all (by have := o.pos; omega), c0]
      exact ⟨(fun x e => nomatch e), fun _ => rfl⟩
    by_cases h2 : n < a.sg
    · rw [halv_l h0 h2, (chal_l h0 h2).2]
      obtain ⟨ih, ihn⟩ := chr_le (t := a) (n := n) oa (by omega)
      have ok := halv_ok (t := a) (n := n) oa (by omega)
      have s2 := ok.s2
      dsimp only
      cases e : (halv a n).2 with
      | none =>
        rw [e] at s2
        have : (0 : Nat) = a.sg - n := s2
        omega
      | some x =>
        rw [e] at s2
        have s2 : x.sg = a.sg - n := s2
        have ox : Ok x := ok.o2 x e
        obtain ⟨hx, hc⟩ := ih x e
        rcases hc with ⟨⟨w, rfl⟩, c0⟩ | ⟨tl, cc⟩
        · have es2 : (lf w).sg = w.length := rfl
          obtain ⟨t, e1, e2, e3, e4⟩ := join_leaf_l ox ob (by omega)
          rw [e1, c0]
          refine ⟨fun y ey => ?_, fun z => nomatch z⟩
          cases ey
          exact ⟨by omega, .inr ⟨by rw [el]; exact e3, by omega⟩⟩
        · obtain ⟨e1, e2, e3⟩ := join_tight ox ob (by omega) (by omega)
          rw [e1]
          have lo := e3.lo
          have hi := e3.hi
          refine ⟨fun y ey => ?_, fun z => nomatch z⟩
          cases ey
          exact ⟨by omega, .inr ⟨by rw [el, e3.la]; exact Nat.le_refl _, by omega⟩⟩
    · rw [halv_r h0 h1 h2, (chal_r h0 h1 h2).2]
      obtain ⟨ih, ihn⟩ := chr_le (t := b) (n := n - a.sg) ob (by omega)
      refine ⟨fun x e => ?_, ihn⟩
      obtain ⟨hx, hc⟩ := ih x e
      refine ⟨by omega, hc.imp id fun z => ⟨by rw [el]; exact z.1, by have := z.2; omega⟩⟩
theorem chl_le : ∀ {t : Tr} {n : Nat}, Ok t → n ≤ t.sg → (∀ x, (halv t n).1 = some x → x.ht ≤ t.ht ∧ (((∃ w, x = lf w) ∧ chl t n = 0) ∨ (t.fi.sg ≤ x.fi.sg ∧ chl t n ≤ 3 * x.ht + 12 * t.ht + 8))) ∧ ((halv t n).1 = none → chl t n = 0)
  | .lf l, n, o, h => by
    refine ⟨fun x e => ?_, fun _ => rfl⟩
    have : ∃ w, x = lf w := by
      revert e
      show (if n = 0 then _ else if n = l.length then _ else _ : Option Tr × Option Tr).1 = some x → _
      split
      · intro e; cases e
      · split
        · intro e; cases e; exact ⟨l, rfl⟩
        · intro e; cases e; exact ⟨_, rfl⟩
    obtain ⟨w, rfl⟩ := this
    exact ⟨Nat.le_refl _, .inl ⟨⟨w, rfl⟩, rfl⟩⟩
  | .fk a b, n, o, h => by
    have es : (fk a b).sg = a.sg + b.sg := rfl
    have eh : (fk a b).ht = 1 + max a.ht b.ht := rfl
    have el : (fk a b).fi = a.fi := rfl
    obtain ⟨oa, ob, l1, l2, cl, hm⟩ := id o
    by_cases h0 : n = 0
    · subst h0
      rw [halv_0]
      have c0 : chl (fk a b) 0 = 0 := rfl
      rw [c0]
      exact ⟨(fun x e => nomatch e), fun _ => rfl⟩
    by_cases h1 : n = (fk a b).sg
    · have c0 : chl (fk a b) n = 0 := by show (if n = 0 then 0 else if n = (fk a b).sg then 0 else _) = 0; rw [if_neg h0, if_pos h1]
      subst h1
      rw [halv_all (by have := o.pos; omega), c0]
      refine ⟨fun x e => ?_, fun e => nomatch e⟩
      cases e
      exact ⟨Nat.le_refl _, .inr ⟨Nat.le_refl _, by omega⟩⟩
    by_cases h2 : n < a.sg
    · rw [halv_l h0 h2, (chal_l h0 h2).1]
      obtain ⟨ih, ihn⟩ := chl_le (t := a) (n := n) oa (by omega)
      refine ⟨fun x e => ?_, ihn⟩
      obtain ⟨hx, hc⟩ := ih x e
      refine ⟨by omega, hc.imp id fun z => ⟨by rw [el]; exact z.1, by have := z.2; omega⟩⟩
    · rw [halv_r h0 h1 h2, (chal_r h0 h1 h2).1]
      obtain ⟨ih, ihn⟩ := chl_le (t := b) (n := n - a.sg) ob (by omega)
      have ok := halv_ok (t := b) (n := n - a.sg) ob (by omega)
      have s1 := ok.s1 (by omega)
      dsimp only
      cases e : (halv b (n - a.sg)).1 with
      | none =>
        refine ⟨fun x ex => ?_, fun z => nomatch z⟩
        cases ex
        have c0 := ihn e
        have c1 : cjoin (some a) none = 0 := rfl
        rw [c0, c1]
        exact ⟨by omega, .inr ⟨Nat.le_refl _, by omega⟩⟩
      | some x =>
        rw [e] at s1
        have s1 : x.sg = n - a.sg := s1
        have ox : Ok x := ok.o1 x e
        obtain ⟨hx, hc⟩ := ih x e
        rcases hc with ⟨⟨w, rfl⟩, c0⟩ | ⟨tl, cc⟩
        · have es2 : (lf w).sg = w.length := rfl
          obtain ⟨t, e1, e2, e3, e4⟩ := join_leaf_r oa ox (by omega)
          rw [e1, c0]
          refine ⟨fun y ey => ?_, fun z => nomatch z⟩
          cases ey
          exact ⟨by omega, .inr ⟨by rw [el]; exact e3, by omega⟩⟩
        · obtain ⟨e1, e2, e3⟩ := join_tight oa ox (by omega) (by omega)
          rw [e1]
          have lo := e3.lo
          have hi := e3.hi
          refine ⟨fun y ey => ?_, fun z => nomatch z⟩
          cases ey
          exact ⟨by omega, .inr ⟨by rw [el, e3.fi]; exact Nat.le_refl _, by omega⟩⟩
theorem chal_le {t : Tr} {n : Nat} (o : Ok t) (h : n ≤ t.sg) : chal t n ≤ 30 * t.ht + 18 := by
  have hl : chl t n ≤ 15 * t.ht + 8 := by
    obtain ⟨k, kn⟩ := chl_le o h
    cases e : (halv t n).1 with
    | none => rw [kn e]; omega
    | some x =>
      obtain ⟨hx, z | z⟩ := k x e
      · rw [z.2]; omega
      · have := z.2; omega
  have hr : chr' t n ≤ 15 * t.ht + 8 := by
    obtain ⟨k, kn⟩ := chr_le o h
    cases e : (halv t n).2 with
    | none => rw [kn e]; omega
    | some x =>
      obtain ⟨hx, z | z⟩ := k x e
      · rw [z.2]; omega
      · have := z.2; omega
  unfold chal; omega
theorem halv_low {t : Tr} {n : Nat} (o : Ok t) (h : n ≤ t.sg) : oH (halv t n).1 ≤ t.ht ∧ oH (halv t n).2 ≤ t.ht := by
  constructor
  · cases e : (halv t n).1 with
    | none => exact Nat.zero_le _
    | some x => exact ((chl_le o h).1 x e).1
  · cases e : (halv t n).2 with
    | none => exact Nat.zero_le _
    | some x => exact ((chr_le o h).1 x e).1
theorem chalO_le {o : Option Tr} {n : Nat} (h : OkO o) (hn : n ≤ oS o) : chalO o n ≤ 30 * oH o + 18 := by
  cases o with
  | none => exact Nat.zero_le _
  | some t => exact chal_le (h t rfl) hn
theorem halvO_ok {o : Option Tr} {n : Nat} (h : OkO o) (hn : n ≤ oS o) : OkO (halvO o n).1 ∧ OkO (halvO o n).2 ∧ oX (halvO o n).1 = (oX o).take n ∧ oX (halvO o n).2 = (oX o).drop n ∧ oS (halvO o n).1 = n ∧ oS (halvO o n).2 = oS o - n ∧ oH (halvO o n).1 ≤ oH o ∧ oH (halvO o n).2 ≤ oH o := by
  cases o with
  | none =>
    have : n = 0 := by have hn : n ≤ 0 := hn; omega
    subst this
    exact ⟨okO_none, okO_none, rfl, rfl, rfl, rfl, Nat.le_refl _, Nat.le_refl _⟩
  | some t =>
    have k := halv_ok (h t rfl) hn
    have l := halv_low (h t rfl) hn
    exact ⟨k.o1, k.o2, k.x1, k.x2, k.s1 hn, k.s2, l.1, l.2⟩
/-! ### repeated -/
def repL : Nat → Option Tr → Option Tr → Nat → Option Tr
  | 0, f, _, _ => f
  | n + 1, f, t, m => if m = 0 then f else repL n (if m % 2 = 1 then joinedO f t else f) (joinedO t t) (m / 2)
def repO (o : Option Tr) (k : Nat) : Option Tr := if o = none then none else repL 64 none o k
theorem repL_zero (n : Nat) (f t : Option Tr) : repL n f t 0 = f := by cases n <;> simp [repL]
end Sk

/-! Texts in blocks: plain ones, each so many times. -/
namespace Sk
open PySem PySem.Spec PyProof.Rows L2
/-- the signs between two places that lie in a text, or beyond its ends -/
def cutI (l : List Nat) (b e : Int) : List Nat := (l.take (min e l.length).toNat).drop (max b 0).toNat
theorem cutI_len (l : List Nat) (b e : Int) : (cutI l b e).length ≤ (e - b).toNat := by
  unfold cutI
  rw [List.length_drop, List.length_take]; omega
theorem cutI_none {l : List Nat} {b e : Int} (h : min e l.length ≤ max b 0) : cutI l b e = [] := by
  unfold cutI
  apply List.drop_eq_nil_of_le
  rw [List.length_take]; omega
theorem cutI_app (x y : List Nat) (b e : Int) : cutI (x ++ y) b e = cutI x (max b 0) (min e (x.length + y.length)) ++ cutI y (max b 0 - x.length) (min e (x.length + y.length) - x.length) := by
  unfold cutI
  rw [List.take_append, List.drop_append]
  have lxy : (x ++ y).length = x.length + y.length := List.length_append
  rw [lxy]
  congr 1
  · congr 1
    · omega
    · by_cases h : min e ((x.length : Int) + y.length) ≤ x.length
      · congr 1; omega
      · rw [List.take_of_length_le (by omega), List.take_of_length_le (by omega)]
  · by_cases h : min e ((x.length : Int) + y.length) ≤ x.length
    · rw [show (min e ((x.length + y.length : Nat) : Int)).toNat - x.length = 0 by omega, show (min (min e ((x.length : Int) + y.length) - x.length) (y.length : Int)).toNat = 0 by omega, List.take_zero, List.drop_nil, List.drop_nil]
    · rw [List.take_of_length_le (l := x) (by omega)]
      congr 1
      · omega
      · congr 1; omega
theorem cutI_cut {l : List Nat} {b e b' e' : Int} (hb : max b 0 = max b' 0) (he : min e l.length = min e' l.length) : cutI l b e = cutI l b' e' := by
  unfold cutI
  rw [hb, he]
theorem cutI_in {l : List Nat} {b e : Nat} (h : e ≤ l.length) : cutI l b e = (l.take e).drop b := by
  unfold cutI
  congr 1
  · omega
  · congr 1; omega
theorem cutI_eq {l : List Nat} {b e : Int} (h0 : 0 ≤ b) (h : e ≤ l.length) : cutI l b e = (l.take e.toNat).drop b.toNat := by
  unfold cutI
  congr 1
  · omega
  · congr 1; omega
theorem cutI_cat (x y : List Nat) (b e : Int) : cutI (x ++ y) b e = cutI x b e ++ cutI y (b - x.length) (e - x.length) := by
  rw [cutI_app]
  congr 1
  · exact cutI_cut (by omega) (by omega)
  · by_cases h : b < 0
    · exact cutI_cut (by omega) (by omega)
    · exact cutI_cut (by omega) (by omega)
theorem cutI_all (l : List Nat) : cutI l 0 l.length = l := by
  unfold cutI
  rw [List.take_of_length_le (by omega)]; rfl
/-! ### a text so many times, and a stretch of it -/
theorem take_rp {l : List Nat} {m k s : Nat} (h : k < m) (hs : s ≤ l.length) : (rp m l).take (k * l.length + s) = rp k l ++ l.take s := by
  obtain ⟨j, rfl⟩ : ∃ j, m = k + (j + 1) := ⟨m - k - 1, by omega⟩
  rw [rp_add, List.take_append, rp_len, List.take_of_length_le (by rw [rp_len]; omega), show k * l.length + s - k * l.length = s by omega, rp_succ, List.take_append_of_le_length hs]
theorem part_one {l : List Nat} {m k r s : Nat} (h : k < m) (hs : s ≤ l.length) : ((rp m l).take (k * l.length + s)).drop (k * l.length + r) = (l.take s).drop r := by
  rw [take_rp h hs, List.drop_append, rp_len, List.drop_eq_nil_of_le (by rw [rp_len]; omega), List.nil_append]
  congr 1; omega
theorem part_more {l : List Nat} {m k j r s : Nat} (h : k + 1 + j < m) (hr : r ≤ l.length) (hs : s ≤ l.length) : ((rp m l).take ((k + 1 + j) * l.length + s)).drop (k * l.length + r) = l.drop r ++ rp j l ++ l.take s := by
  rw [take_rp h hs, rp_add, rp_add, rp_one, List.append_assoc, List.append_assoc, List.drop_append, rp_len, List.drop_eq_nil_of_le (by rw [rp_len]; omega), List.nil_append, show k * l.length + r - k * l.length = r by omega, List.drop_append_of_le_length hr, List.append_assoc]
/-- what blocks read as -/
def bX : List (List Nat × Nat) → List Nat
  | [] => []
  | p :: B => rp p.2 p.1 ++ bX B
theorem bX_app : ∀ (B C : List (List Nat × Nat)), bX (B ++ C) = bX B ++ bX C
  | [], _ => rfl
  | p :: B, C => by
    show rp p.2 p.1 ++ bX (B ++ C) = _
    rw [bX_app B C, ← List.append_assoc]; rfl
theorem bX_one (p : List Nat × Nat) : bX [p] = rp p.2 p.1 := List.append_nil _
theorem bX_snoc {B : List (List Nat × Nat)} {i : Nat} {p : List Nat × Nat} (h : B[i]? = some p) : bX (B.take (i + 1)) = bX (B.take i) ++ rp p.2 p.1 := by
  have e : B.take (i + 1) = B.take i ++ [p] := by rw [List.take_add_one, h]; rfl
  rw [e, bX_app, bX_one]
theorem bX_le {B : List (List Nat × Nat)} (i : Nat) : (bX (B.take i)).length ≤ (bX B).length := by
  have : bX B = bX (B.take i) ++ bX (B.drop i) := by rw [← bX_app, List.take_append_drop]
  rw [this, List.length_append]; omega
theorem bX_mem {B : List (List Nat × Nat)} {p : List Nat × Nat} (h : p ∈ B) : p.2 * p.1.length ≤ (bX B).length := by
  obtain ⟨i, hi, e⟩ := List.getElem_of_mem h
  have := bX_snoc (B := B) (i := i) (p := p) (by rw [List.getElem?_eq_getElem hi, e])
  have l := bX_le (B := B) (i + 1)
  rw [this, List.length_append, rp_len] at l
  omega
/-- a block that is one -/
def GoodB (p : List Nat × Nat) : Prop := p.1 ≠ [] ∧ p.1.length ≤ 20 ∧ 0 < p.2 ∧ Plain p.1
theorem fore_at {α : Type} {xs : List α} {f : α → V} {d : Int} (h0 : 0 ≤ d) (h : d < xs.length) : ∃ x ∈ xs, atI (xs.map f) d = some (f x) := by
  have hd : d.toNat < xs.length := by omega
  refine ⟨xs[d.toNat], List.getElem_mem hd, ?_⟩
  unfold atI ixN
  rw [List.length_map, if_pos h0, if_pos h]
  show (xs.map f)[d.toNat]? = _
  rw [List.getElem?_map, List.getElem?_eq_getElem hd]; rfl
theorem back_at {α : Type} {xs : List α} {f : α → V} {d : Int} (h0 : 0 ≤ d) (h : d < xs.length) : ∃ x ∈ xs, atI (xs.map f) (-1 - d) = some (f x) := by
  have hd : (-1 - d + (xs.length : Int)).toNat < xs.length := by omega
  refine ⟨xs[(-1 - d + (xs.length : Int)).toNat], List.getElem_mem hd, ?_⟩
  unfold atI ixN
  rw [List.length_map, if_neg (by omega), if_pos (by omega)]
  show (xs.map f)[(-1 - d + (xs.length : Int)).toNat]? = _
  rw [List.getElem?_map, List.getElem?_eq_getElem hd]; rfl
end Sk

/-! == and != of lists of ints. -/
namespace Sk
open PySem PySem.Spec PyProof.Rows L2

section
variable {K : PySem.W.Frag} {H : Hp} {Q : VK}
theorem dpA_ints : ∀ ns : List Int, DpAll K H (ns.map V.int) (ns.map PyData.int)
  | [] => .nil
  | n :: ns => .cons (.int n) (dpA_ints ns)
theorem dp_ints {a : Addr} {ns : List Int} (s : SqL K H a (ns.map V.int)) : Dp K H (.ref a) (.list (ns.map PyData.int)) := .lst s (dpA_ints ns)
theorem lay_ints : ∀ ns : List Int, PyData.canLayAll0 (ns.map PyData.int) = true
  | [] => rfl
  | n :: ns => by show (true && PyData.canLayAll0 (ns.map PyData.int)) = true; rw [lay_ints ns]; rfl
theorem dep_ints : ∀ ns : List Int, PyData.depthAll (ns.map PyData.int) ≤ 1
  | [] => by decide
  | n :: ns => by
    have := dep_ints ns
    show max (PyData.depth (.int n)) (PyData.depthAll (ns.map PyData.int)) ≤ 1
    have e : PyData.depth (.int n) ≤ 1 := Nat.zero_le _
    omega
theorem shaped_ints (ns : List Int) : SeqAt.shaped (.list (ns.map PyData.int)) = true := by
  unfold SeqAt.shaped
  rw [Bool.and_eq_true]
  refine ⟨lay_ints ns, ?_⟩
  have := dep_ints ns
  rw [decide_eq_true_eq]
  show PyData.depthAll (ns.map PyData.int) + 1 ≤ 64
  omega
theorem eqv_ints : ∀ ns ms : List Int, PyData.eqvAll (ns.map PyData.int) (ms.map PyData.int) = decide (ns = ms)
  | [], [] => by simp [PyData.eqvAll]
  | [], m :: ms => by simp [PyData.eqvAll]
  | n :: ns, [] => by simp [PyData.eqvAll]
  | n :: ns, m :: ms => by
    show ((n == m) && PyData.eqvAll (ns.map PyData.int) (ms.map PyData.int)) = _
    rw [eqv_ints ns ms]
    by_cases h1 : n = m <;> by_cases h2 : ns = ms <;> simp [h1, h2]
theorem w_neLs {a b : Addr} {ns ms : List Int} (s : SqL K H a (ns.map V.int)) (t : SqL K H b (ms.map V.int)) (k : Q (.bl (!decide (ns = ms))) H) : rNeD K (.ref a) (.ref b) H Q :=
  ⟨_, _, dp_ints s, dp_ints t, shaped_ints ns, shaped_ints ms, by
    show Q (.bl (!PyData.eqvAll (ns.map PyData.int) (ms.map PyData.int))) H
    rw [eqv_ints]; exact k⟩
theorem w_eqLs {a b : Addr} {ns ms : List Int} (s : SqL K H a (ns.map V.int)) (t : SqL K H b (ms.map V.int)) (k : Q (.bl (decide (ns = ms))) H) : rEqD K (.ref a) (.ref b) H Q :=
  ⟨_, _, dp_ints s, dp_ints t, shaped_ints ns, shaped_ints ms, by
    show Q (.bl (PyData.eqvAll (ns.map PyData.int) (ms.map PyData.int))) H
    rw [eqv_ints]; exact k⟩
end
end Sk

/-! d.keys() as a value, and sorted of it: keys that are ints (any number of them), or texts (below 64). -/
namespace Sk
open PySem PySem.Spec PyProof.Rows L2

def keysO (p d : Addr) : HO := .ext fun h => PySem.W.KdlKeysView h p d
section
variable {X : Cx}
def rKeys : V → List V → Hp → VK → Prop := fun x xs H Q => ∃ (a : Addr) (kvs : List (Key × V)), x = .ref a ∧ xs = [] ∧ H a = some (.dK kvs) ∧ ∀ p, H p = none → Q (.ref p) (upd H p (keysO p a))
theorem mt_dkeys : MtR X "dict.keys" rKeys := fun pins s σ H x xs v us Q I rx rxs h => by
  obtain ⟨d, kvs, rfl, rfl, hd, q⟩ := h
  cases rx; cases rxs
  obtain ⟨_, lo, vs, _, dd⟩ := dk_of I.hok hd
  have fresh : H s.heap.objs.size = none := I.hok.fresh (Nat.le_refl _)
  have new : (s.heap.push { cls := .type "dict_keys", data := .fields #[.ref d] }).get? s.heap.objs.size = some { cls := .type "dict_keys", data := .fields #[.ref d] } := Heap.get?_push_size _ rfl
  have oo : ObjOk X.prog X.w (upd H s.heap.objs.size (keysO s.heap.objs.size d)) (s.heap.push { cls := .type "dict_keys", data := .fields #[.ref d] }) s.heap.objs.size (keysO s.heap.objs.size d) :=
    ⟨⟨_, new, rfl, rfl⟩, ⟨_, new⟩, fun h1 h2 y k => let ⟨o, ho, r⟩ := y; ⟨o, k o ho, r⟩⟩
  refine call_meetsIn F.slot_dict_keys dd.typeIs F.entry_dict_keys (F.args_dict_keys_1 _) (PySem.W.kdl_meets_keys (mixKind X.prog X.w) d lo) ⟨⟨vs, dd⟩, ?_⟩
  exact ⟨.ref s.heap.objs.size, upd H s.heap.objs.size (keysO s.heap.objs.size d), I.laid (t' := s.toks) (fun b u e => Heap.get?_push_of_some _ e) (Nat.le_refl _) oo, rfl, q _ fresh⟩
/-- sorted(d.keys()), the keys ints -/
def rSortK : List V → Hp → VK → Prop := fun vs H Q => ∃ (p a : Addr) (kvs : List (Key × V)) (ks : List Int), vs = [.ref p] ∧ H p = some (keysO p a) ∧ H a = some (.dK kvs) ∧ kvs.map (·.1) = ks.map Sum.inl ∧
  ∀ (ns : List Int) (r : Addr), ns.Perm ks → ns.Pairwise (· ≤ ·) → H r = none → Q (.ref r) (upd H r (.lst (ns.map V.int)))
theorem cr_sortedK (hcalm : X.calm = true) : CallR X (.builtin "sorted") rSortK := fun pins s σ H xs us Q I r q => by
  obtain ⟨p, a, kvs, ks, ex, hp, hd, hks, q⟩ := q
  subst ex
  obtain ⟨u, eu, rx⟩ := vals1 r
  subst eu; cases rx
  have view : PySem.W.KdlKeysView s.heap p a := (show ObjOk X.prog X.w H s.heap p (keysO p a) from I.hok p _ hp).1
  obtain ⟨zl, lo, vs, rel, dd⟩ := dk_of I.hok hd
  obtain ⟨ep, hat⟩ := dd.dictAt
  have hkeys : vs.map (·.1) = ks.map Sum.inl := rel.keys.symm.trans hks
  have lk : kvs.length = ks.length := by simpa using congrArg List.length hks
  have hl : vs.length = ks.length := by simpa using congrArg List.length hkeys
  have hz : ks.length ≤ sizeLine := by omega
  refine Calls.call_function_entry kind_sorted plain_sorted entry_sorted (args_sorted1 _) ?_
  unfold Builtin.«sorted»
  refine wpAny_bind (m := checkCount "sorted" 1 1 _) (wpAny_pure (wpAny_bind ?_))
  refine PySem.W.kdu_collect (A := X.A.in1) (PySem.W.kdl_keys (knd := mixKind X.prog X.w) (kvs := vs) (ep := ep)) (I.ok.hd hcalm) ⟨view, hat⟩ (by omega) fun h1 tk acc hk hacc => ?_
  have la : acc.toList.length = ks.length := by rw [Array.length_toList, hacc.1, hl]
  have hS : IntsAre acc.toList ks := ints_each la fun j v e => by
    obtain ⟨k, x, e1, e2⟩ := hacc.2 j v ((Array.getElem?_toList ..).symm.trans e)
    have e3 : (vs.map (·.1))[j]? = some k := by simp [e1]
    rw [hkeys, List.getElem?_map] at e3
    cases e4 : ks[j]? with
    | none => rw [e4] at e3; cases e3
    | some y =>
      rw [e4] at e3
      obtain rfl : Sum.inl y = k := Option.some.inj e3
      rcases keyIs_shape (show keyIs (Sum.inl y) v = true from e2) with ⟨i, t, ek, ev⟩ | ⟨z, t, ek, ev⟩
      · cases ek; exact ⟨y, t, rfl, ev⟩
      · cases ek
  have I1 : Inv X pins σ H { s with heap := h1, toks := tk } := I.kept hk
  refine wpAny_bind (wpAny_newList ?_ (by omega))
  have hoL : (h1.push (seqObj "list" acc.toList.toArray 0)).get? h1.objs.size = some (seqObj "list" acc.toList.toArray 0) := Heap.get?_push_size _ rfl
  show wpAny _ _ _ _ _ { s with heap := h1.push (seqObj "list" acc.toList.toArray 0), toks := tk }
  refine wpAny_bind (wpAny_holding ?_)
  refine wpAny_call_entry slot_list_sort ⟨_, hoL, rfl⟩ entry_list_sort ?_ (args_list_sort _)
  refine SrtO.list_sort_ord (s := { s with heap := h1.push (seqObj "list" acc.toList.toArray 0), toks := tk }) SrtO.swo_int hoL (by omega) (fun h2 => SrtO.ints_sortable hS h2) fun out g1 g2 => ⟨_, rfl, ?_⟩
  obtain ⟨k1, k2, k3⟩ := SrtO.ints_out hS g1 g2
  obtain ⟨e', he'⟩ := sortedHeap_at (vs := acc.toList) (out := out.toArray) hoL
  have hlen : ((out.map SrtO.iv).map V.int).length ≤ sizeLine := by rw [List.length_map, k2.length_eq]; exact hz
  have ob : ObjOk X.prog X.w (upd H h1.objs.size (.lst ((out.map SrtO.iv).map V.int))) (sortedHeap (h1.push (seqObj "list" acc.toList.toArray 0)) h1.objs.size acc.toList out.toArray) h1.objs.size (.lst ((out.map SrtO.iv).map V.int)) :=
    ⟨hlen, out, e', vals_of_ints k1, he'⟩
  have old : ∀ b u, h1.get? b = some u → (sortedHeap (h1.push (seqObj "list" acc.toList.toArray 0)) h1.objs.size acc.toList out.toArray).get? b = some u := fun b u e => by
    have hb : b < h1.objs.size := Heap.lt_size e
    have h2 : (h1.push (seqObj "list" acc.toList.toArray 0)).get? b = some u := Heap.get?_push_of_some _ e
    rw [sortedHeap_old (Nat.ne_of_lt hb) (Heap.lt_size h2)]
    exact h2
  exact wpAny_pure ⟨_, rfl, .ref h1.objs.size, _, I1.laid (t' := tk) old (Nat.le_refl _) ob, rfl, q _ _ k2 k3 (I1.hok.fresh (Nat.le_refl _))⟩
end
end Sk

/-! Walks that the hand layer lacks: enumerate(text). -/
namespace Sk
open PySem PySem.Spec PyProof.Rows L2

/-- enumerate(text): each sign in a new pair -/
def Itse (x : Str) : It :=
  ⟨fun i _ => i < x.cps.size, fun i H v H' => ∃ T c, v = .ref T ∧ H T = none ∧ H' = upd H T (.tup [.int (i : Nat), .str ⟨#[c]⟩]) ∧ x.cps[i]? = some c, fun i _ => i = x.cps.size⟩
theorem walk_enumS {x : Str} : Walk (Itse x) x.cps.size (fun _ => True) (fun i H v H' => ∃ T c, v = .ref T ∧ H T = none ∧ H' = upd H T (.tup [.int (i : Nat), .str ⟨#[c]⟩]) ∧ x.cps[i]? = some c) :=
  ⟨fun _ _ hi _ => hi, fun _ _ => rfl, fun _ _ _ _ _ _ y => y⟩
theorem turn_enumS {P : Program} {w : World} {K : PySem.W.Frag} {elts : List Expr} {kk : Nat} {tpos : Pos} (x : Str) (t : Tok) (e it : Addr) :
    Turn P w K (.Tuple elts kk tpos) (Itse x) [e, it] e (fun i h => (∃ old, IsEnum h e it ((i : Nat) : Int) old) ∧ h.IsStrIter it (strIterType x) x t i ∧ e ≠ it) where
  mem := by simp
  obj := fun i h st b hb => by
    obtain ⟨⟨old, he⟩, ⟨o, ho, hc, hd⟩, _⟩ := st
    have e' : b = e ∨ b = it := by simpa using hb
    rcases e' with z | z
    · rw [z]; exact ⟨_, he, fun v q => nomatch q⟩
    · rw [z]; exact ⟨o, ho, fun v q => by rw [hd] at q; cases q⟩
  keep := fun i h h' st k => let ⟨⟨old, he⟩, hi, hne⟩ := st; ⟨⟨old, k e (by simp) _ he⟩, (by obtain ⟨o, ho, hc, hd⟩ := hi; exact ⟨o, k it (by simp) o ho, hc, hd⟩), hne⟩
  item := by
    intro X hP hw hK hc i pins s σ H E I hf st hg
    subst hP hw hK
    obtain ⟨⟨old, he⟩, hit, hne⟩ := st
    have hel : e < s.heap.objs.size := Heap.lt_size he
    have hil : it < s.heap.objs.size := by obtain ⟨_, q, _⟩ := hit; exact Heap.lt_size q
    refine wpAny_pyNext_enum_itemD (Draws.text (A := X.A.in1) (I.ok.hd hc) it x t) he hit hg hne (by simp [hne]) fun u h' tk hu ho hit' hT hsz hk => ?_
    obtain ⟨c, tc, hcx, rfl⟩ := hu
    refine ⟨_, rfl, wpAny_letOwnedTupleGo_enum (s := { s with heap := h', toks := tk + 1 }) ho fun h'' he' sb => ?_⟩
    have hT2 : h''.get? s.heap.objs.size = some { cls := .type "tuple", data := .seq #[.int i tk, .str ⟨#[c]⟩ tc] } := (sb.2 _ (Nat.ne_of_gt hel)).trans hT
    have new : ObjOk X.prog X.w (upd H s.heap.objs.size (.tup [.int (i : Nat), .str ⟨#[c]⟩])) h'' s.heap.objs.size (.tup [.int (i : Nat), .str ⟨#[c]⟩]) :=
      ⟨by show 2 ≤ sizeLine; decide, [.int i tk, .str ⟨#[c]⟩ tc], .cons ⟨_, rfl⟩ (.cons ⟨_, rfl⟩ .nil), ⟨_, hT2, rfl, _, rfl⟩⟩
    have I1 : Inv X pins σ (upd H s.heap.objs.size (.tup [.int (i : Nat), .str ⟨#[c]⟩])) { s with heap := h'', toks := tk + 1 } :=
      I.turnedNew (ch := [e, it]) (fun b ob hb q => (sb.2 b (fun z => hb (by simp [z]))).trans (hk b ob (fun z => hb (by simp [z])) (fun z => hb (by simp [z])) q)) hf (Nat.le_refl _) new
    refine ⟨.ref s.heap.objs.size, _, I1, rfl, ⟨_, c, rfl, I.hok.fresh (Nat.le_refl _), rfl, hcx⟩, ⟨⟨.str ⟨#[c]⟩ tc, ?_⟩, ?_, hne⟩, fun b hb => ?_⟩
    · have e1 : ((i + 1 : Nat) : Int) = (i : Int) + 1 := by omega
      rw [e1]; exact he'
    · obtain ⟨o, ho, hc', hd⟩ := hit'
      exact ⟨o, (sb.2 it (Ne.symm hne)).trans ho, hc', hd⟩
    · have hb' : b < s.heap.objs.size := by
        have e' : b = e ∨ b = it := by simpa using hb
        rcases e' with z | z
        · rw [z]; exact hel
        · rw [z]; exact hil
      rw [upd_ne (Nat.ne_of_lt hb')]
      exact (hf b hb).1
  done := by
    intro X hP hw hK hc i pins s σ H E I hf st hg
    subst hP hw hK
    obtain ⟨⟨old, he⟩, hit, hne⟩ := st
    obtain ⟨f0, f1, f2, f3, f4, f5⟩ := hf it (by simp)
    have hg : i = x.cps.size := hg
    subst hg
    exact wpAny_pyNext_enum_endD (Draws.text (A := X.A.in1) (I.ok.hd hc) it x t) he hit fun h' eb => ⟨rfl, I.turned (t' := s.toks) (fun b o hb q => eb b o hb q) f0 f1 f3 f4 f5⟩
  self := fun A i s Q E st h => let ⟨⟨_, he⟩, _⟩ := st; wpAny_pyIter_enum he h
def iEnumS (ta : TA) : TI := fun σ H R => ta σ H fun vs H1 => ∃ x, vs = [.str x] ∧ R (Itse x) H1
theorem pi_enumS {X : Cx} {e : Expr} {ta : TA} {p pos tpos : Pos} {elts : List Expr} {kk : Nat} (hg : Gl X "enumerate") (hm : X.mg "enumerate" = none) (ha : PA X [e] ta) (hs : starEach [e] X.env = [(false, eval e X.env)] := by rfl) :
    PI X (.Tuple elts kk tpos) (.Call (.Name "enumerate" p) [e] [] pos) (iEnumS ta) := by
  refine ⟨fun pins s σ H R I h => ?_⟩
  refine Call_ (ld_blt I hg hm boot_enumerate (PyProof.Rows.callWith_type1 (thn (ha.run pos pins s σ H _ I h) fun us s1 ⟨vs, H1, I1, r1, q1⟩ => ?_) hs rfl))
  obtain ⟨x, ex, q⟩ := q1
  subst ex
  cases r1 with
  | cons r rr =>
    cases rr
    obtain ⟨t, rfl⟩ := r
    refine call_enumerate_str fun h' he hit hsz hk => wpAny_pyIter_enum he ?_
    have I2 : Inv X pins σ H1 { s1 with heap := h' } := I1.kept (t' := s1.toks) hk
    refine ⟨s1.heap.objs.size + 1, [s1.heap.objs.size + 1, s1.heap.objs.size], _, _, H1, rfl, I2, turn_enumS x t (s1.heap.objs.size + 1) s1.heap.objs.size, ⟨⟨.none, he⟩, hit, Nat.succ_ne_self _⟩, fun b hb => ?_, q⟩
    have e' : b = s1.heap.objs.size + 1 ∨ b = s1.heap.objs.size := by simpa using hb
    have hle : s1.heap.objs.size ≤ b := by
      rcases e' with z | z
      · rw [z]; exact Nat.le_add_right _ _
      · rw [z]; exact Nat.le_refl _
    exact I1.fpOk hle (I1.hok.fresh hle)
theorem w_enumS {σ : L2.St} {H : Hp} {ta : TA} {R : It → Hp → Prop} (k : ta σ H fun vs H1 => ∃ x, vs = [.str x] ∧ R (Itse x) H1) : iEnumS ta σ H R := k
end Sk

/-! Where line feeds stand in a text, and in a text so many times. -/
namespace Sk
open PySem PySem.Spec PyProof.Rows L2

/-- the places of line feeds, counted from k on -/
def fpF : Nat → List Nat → List Nat
  | _, [] => []
  | k, c :: l => if c = 10 then k :: fpF (k + 1) l else fpF (k + 1) l
abbrev fpos (l : List Nat) : List Nat := fpF 0 l
theorem fpF_app : ∀ (k : Nat) (a b : List Nat), fpF k (a ++ b) = fpF k a ++ fpF (k + a.length) b
  | k, [], b => by simp [fpF]
  | k, c :: a, b => by
    have ih := fpF_app (k + 1) a b
    have e : k + (c :: a).length = k + 1 + a.length := by simp; omega
    rw [List.cons_append, fpF, fpF, ih, e]
    split <;> rfl
theorem fpF_shift (j : Nat) : ∀ (k : Nat) (l : List Nat), fpF (k + j) l = (fpF k l).map (· + j)
  | _, [] => rfl
  | k, c :: l => by
    have ih := fpF_shift j (k + 1) l
    rw [show k + 1 + j = k + j + 1 by omega] at ih
    rw [fpF, fpF, ih]
    split <;> rfl
theorem fpF_len : ∀ (k : Nat) (l : List Nat), (fpF k l).length = l.count 10
  | _, [] => rfl
  | k, c :: l => by
    have ih := fpF_len (k + 1) l
    rw [fpF, List.count_cons]
    by_cases h : c = 10
    · rw [if_pos h, List.length_cons, ih, h]; rfl
    · rw [if_neg h, ih]
      have : (c == 10) = false := by simpa using h
      rw [this]; rfl
theorem fpF_at : ∀ {k : Nat} {l : List Nat} {i p : Nat}, (fpF k l)[i]? = some p → k ≤ p ∧ l[p - k]? = some 10 ∧ (l.take (p - k)).count 10 = i
  | _, [], i, p, h => by cases i <;> cases h
  | k, c :: l, i, p, h => by
    rw [fpF] at h
    by_cases e : c = 10
    · rw [if_pos e] at h
      cases i with
      | zero =>
        cases h
        rw [Nat.sub_self]
        exact ⟨Nat.le_refl _, by rw [e]; rfl, rfl⟩
      | succ i =>
        obtain ⟨h1, h2, h3⟩ := fpF_at (k := k + 1) (l := l) (i := i) (p := p) h
        have q : p - k = (p - (k + 1)) + 1 := by omega
        rw [q]
        exact ⟨by omega, h2, by rw [List.take_succ_cons, e, List.count_cons_self, h3]⟩
    · rw [if_neg e] at h
      obtain ⟨h1, h2, h3⟩ := fpF_at (k := k + 1) (l := l) (i := i) (p := p) h
      have q : p - k = (p - (k + 1)) + 1 := by omega
      rw [q]
      refine ⟨by omega, h2, ?_⟩
      rw [List.take_succ_cons, List.count_cons_of_ne (by simpa using e), h3]
theorem fpos_app (a b : List Nat) : fpos (a ++ b) = fpos a ++ (fpos b).map (· + a.length) := by
  show fpF 0 _ = _
  rw [fpF_app, ← fpF_shift]
theorem fpos_len (l : List Nat) : (fpos l).length = l.count 10 := fpF_len 0 l
theorem fpos_at {l : List Nat} {i p : Nat} (h : (fpos l)[i]? = some p) : l[p]? = some 10 ∧ (l.take p).count 10 = i := by
  obtain ⟨_, h1, h2⟩ := fpF_at h
  rw [Nat.sub_zero] at h1 h2
  exact ⟨h1, h2⟩
theorem fpos_lt {l : List Nat} {i p : Nat} (h : (fpos l)[i]? = some p) : p < l.length := (List.getElem?_eq_some_iff.mp (fpos_at h).1).1
theorem fpos_take {l : List Nat} {i : Nat} {c : Nat} (h : l[i]? = some c) : fpos (l.take (i + 1)) = if c = 10 then fpos (l.take i) ++ [i] else fpos (l.take i) := by
  have e : l.take (i + 1) = l.take i ++ [c] := by rw [List.take_add_one, h]; rfl
  have li : i < l.length := (List.getElem?_eq_some_iff.mp h).1
  have lt : (l.take i).length = i := by rw [List.length_take]; omega
  rw [e, fpos_app, lt]
  show _ ++ (fpF 0 [c]).map _ = _
  rw [fpF]
  by_cases h : c = 10
  · rw [if_pos h, if_pos h]; simp [fpF]
  · rw [if_neg h, if_neg h]; simp [fpF]
/-- where a row begins, and ends -/
def rowB (l : List Nat) (r : Nat) : Nat := if r = 0 then 0 else (fpos l).getD (r - 1) 0 + 1
def rowE (l : List Nat) (r : Nat) : Nat := if r = (fpos l).length then l.length else (fpos l).getD r 0
theorem getD_of {l : List Nat} {i p : Nat} (h : l[i]? = some p) : l.getD i 0 = p := by
  rw [List.getD_eq_getElem?_getD, h]; rfl
theorem get_in {l : List Nat} {i : Nat} (h : i < l.length) : ∃ p, l[i]? = some p := ⟨l[i], List.getElem?_eq_getElem h⟩
theorem rowB_le {l : List Nat} {r : Nat} (h : r ≤ l.count 10) : rowB l r ≤ l.length := by
  unfold rowB
  by_cases z : r = 0
  · rw [if_pos z]; omega
  · rw [if_neg z]
    obtain ⟨p, hp⟩ := get_in (l := fpos l) (i := r - 1) (by rw [fpos_len]; omega)
    rw [getD_of hp]
    have := fpos_lt hp
    omega
theorem rowE_le {l : List Nat} {r : Nat} (h : r ≤ l.count 10) : rowE l r ≤ l.length := by
  unfold rowE
  by_cases z : r = (fpos l).length
  · rw [if_pos z]; omega
  · rw [if_neg z]
    obtain ⟨p, hp⟩ := get_in (l := fpos l) (i := r) (by rw [fpos_len] at z ⊢; omega)
    rw [getD_of hp]
    have := fpos_lt hp
    omega
theorem count_take_succ {l : List Nat} {p : Nat} (h : l[p]? = some 10) : (l.take (p + 1)).count 10 = (l.take p).count 10 + 1 := by
  have e : l.take (p + 1) = l.take p ++ [10] := by rw [List.take_add_one, h]; rfl
  rw [e, List.count_append]; rfl
theorem count_take_mono {l : List Nat} {a b : Nat} (h : a ≤ b) : (l.take a).count 10 ≤ (l.take b).count 10 := by
  have : l.take a = (l.take b).take a := by rw [List.take_take]; congr 1; omega
  rw [this]
  exact (List.take_sublist a (l.take b)).count_le _
theorem rowB_cnt {l : List Nat} {r : Nat} (h : r ≤ l.count 10) : (l.take (rowB l r)).count 10 = r := by
  unfold rowB
  by_cases z : r = 0
  · rw [if_pos z, z]; rfl
  · rw [if_neg z]
    obtain ⟨p, hp⟩ := get_in (l := fpos l) (i := r - 1) (by rw [fpos_len]; omega)
    rw [getD_of hp, count_take_succ (fpos_at hp).1, (fpos_at hp).2]
    omega
theorem rowE_cnt {l : List Nat} {r : Nat} (h : r ≤ l.count 10) : (l.take (rowE l r)).count 10 = r := by
  unfold rowE
  by_cases z : r = (fpos l).length
  · rw [if_pos z, List.take_of_length_le (Nat.le_refl _), z, fpos_len]
  · rw [if_neg z]
    obtain ⟨p, hp⟩ := get_in (l := fpos l) (i := r) (by rw [fpos_len] at z ⊢; omega)
    rw [getD_of hp, (fpos_at hp).2]
/-- a place's row begins no later than it -/
theorem rowB_place {l : List Nat} {p : Nat} (h : p ≤ l.length) : rowB l ((l.take p).count 10) ≤ p := by
  apply Decidable.byContradiction
  intro n
  have hc : (l.take p).count 10 ≤ l.count 10 := (List.take_sublist _ _).count_le _
  obtain ⟨r, er⟩ : ∃ r, (l.take p).count 10 = r := ⟨_, rfl⟩
  rw [er] at n hc
  by_cases z : r = 0
  · rw [z] at n; unfold rowB at n; rw [if_pos rfl] at n; omega
  unfold rowB at n
  rw [if_neg z] at n
  obtain ⟨q, hq⟩ := get_in (l := fpos l) (i := r - 1) (by rw [fpos_len]; omega)
  rw [getD_of hq] at n
  obtain ⟨q1, q2⟩ := fpos_at hq
  have := count_take_mono (l := l) (show p ≤ q by omega)
  omega
theorem rowBE {l : List Nat} {r : Nat} (h : r ≤ l.count 10) : rowB l r ≤ rowE l r := by
  have := rowB_place (l := l) (p := rowE l r) (rowE_le h)
  rw [rowE_cnt h] at this
  exact this
/-- the row: no line feed stands in it -/
def rowT (l : List Nat) (r : Nat) : List Nat := (l.take (rowE l r)).drop (rowB l r)
theorem rowB_app_l {a b : List Nat} {r : Nat} (h : r ≤ a.count 10) : rowB (a ++ b) r = rowB a r := by
  unfold rowB
  by_cases z : r = 0
  · rw [if_pos z, if_pos z]
  · rw [if_neg z, if_neg z, fpos_app]
    obtain ⟨p, hp⟩ := get_in (l := fpos a) (i := r - 1) (by rw [fpos_len]; omega)
    rw [getD_of hp, getD_of (by rw [List.getElem?_append_left (by rw [fpos_len]; omega)]; exact hp)]
theorem rowB_app_r {a b : List Nat} {r : Nat} (h : a.count 10 < r) (h2 : r ≤ a.count 10 + b.count 10) : rowB (a ++ b) r = a.length + rowB b (r - a.count 10) := by
  unfold rowB
  rw [if_neg (by omega), if_neg (by omega), fpos_app]
  obtain ⟨p, hp⟩ := get_in (l := fpos b) (i := r - a.count 10 - 1) (by rw [fpos_len]; omega)
  rw [getD_of hp, getD_of (p := p + a.length) (by
    rw [List.getElem?_append_right (by rw [fpos_len]; omega), fpos_len, List.getElem?_map, show r - 1 - a.count 10 = r - a.count 10 - 1 by omega, hp]; rfl)]
  omega
/-! ### a text so many times -/
theorem rp_count (l : List Nat) : ∀ m, (rp m l).count 10 = m * l.count 10
  | 0 => by rw [Nat.zero_mul]; rfl
  | m + 1 => by rw [rp_succ, List.count_append, rp_count l m, Nat.succ_mul]; omega
theorem fpos_rp {l : List Nat} : ∀ {m k : Nat}, k < m * l.count 10 → (fpos (rp m l))[k]? = some (k / l.count 10 * l.length + (fpos l).getD (k % l.count 10) 0)
  | 0, k, h => by rw [Nat.zero_mul] at h; omega
  | m + 1, k, h => by
    have f0 : 0 < l.count 10 := by
      rcases Nat.eq_zero_or_pos (l.count 10) with z | z
      · rw [z, Nat.mul_zero] at h; omega
      · exact z
    rw [rp_succ, fpos_app]
    by_cases e : k < l.count 10
    · rw [List.getElem?_append_left (by rw [fpos_len]; exact e), Nat.div_eq_of_lt e, Nat.mod_eq_of_lt e, Nat.zero_mul, Nat.zero_add]
      obtain ⟨p, hp⟩ := get_in (l := fpos l) (i := k) (by rw [fpos_len]; exact e)
      rw [getD_of hp, hp]
    · have ih := fpos_rp (l := l) (m := m) (k := k - l.count 10) (by rw [Nat.succ_mul] at h; omega)
      rw [List.getElem?_append_right (by rw [fpos_len]; omega), List.getElem?_map, fpos_len, ih]
      have d : k / l.count 10 = (k - l.count 10) / l.count 10 + 1 := by
        rw [← Nat.add_div_right _ f0]; congr 1; omega
      have r : k % l.count 10 = (k - l.count 10) % l.count 10 := by
        rw [← Nat.add_mod_right (k - l.count 10)]; congr 1; omega
      rw [d, r, Nat.succ_mul]
      show some (_ + l.length) = some _
      congr 1
      omega
/-- where a row of a text so many times begins -/
theorem rowB_rp {l : List Nat} {m r : Nat} (h0 : 0 < r) (h : r ≤ m * l.count 10) : rowB (rp m l) r = (r - 1) / l.count 10 * l.length + (fpos l).getD ((r - 1) % l.count 10) 0 + 1 := by
  unfold rowB
  rw [if_neg (by omega), getD_of (fpos_rp (by omega))]
theorem rp_take_le {l : List Nat} {a b k : Nat} (h : k ≤ a * l.length) (ab : a ≤ b) : (rp b l).take k = (rp a l).take k := by
  obtain ⟨j, rfl⟩ : ∃ j, b = a + j := ⟨b - a, by omega⟩
  rw [rp_add, List.take_append_of_le_length (by rw [rp_len]; exact h)]
theorem rp_drop {l : List Nat} {m k : Nat} (h : k ≤ m) (s : Nat) : (rp m l).drop (k * l.length + s) = (rp (m - k) l).drop s := by
  obtain ⟨j, rfl⟩ : ∃ j, m = k + j := ⟨m - k, by omega⟩
  rw [rp_add, List.drop_append, rp_len, List.drop_eq_nil_of_le (by rw [rp_len]; omega), List.nil_append]
  congr 2 <;> omega
/-- how many line feeds stand ahead of a place -/
theorem rp_cnt {l : List Nat} {m p : Nat} (h : p ≤ m * l.length) (l0 : 0 < l.length) : ((rp m l).take p).count 10 = p / l.length * l.count 10 + (l.take (p % l.length)).count 10 := by
  by_cases e : p / l.length < m
  · have q := Nat.div_add_mod p l.length
    have s := take_rp (l := l) (m := m) (k := p / l.length) (s := p % l.length) e (Nat.le_of_lt (Nat.mod_lt _ l0))
    rw [Nat.mul_comm, q] at s
    rw [s, List.count_append, rp_count]
  · have q := Nat.div_add_mod p l.length
    have hm := Nat.div_le_of_le_mul (m := p) (k := l.length) (n := m) (by rw [Nat.mul_comm]; exact h)
    have e2 : p / l.length = m := by omega
    have e3 : p % l.length = 0 := by
      rw [e2, Nat.mul_comm] at q
      omega
    rw [e3, e2, List.take_of_length_le (by rw [rp_len]; rw [e2, e3, Nat.mul_comm] at q; omega), rp_count]
    rfl
/-- a row of a text so many times, by three times -/
theorem rowT_rp {l : List Nat} {m b e : Nat} (l0 : 0 < l.length) (be : b ≤ e) (h : e ≤ m * l.length) (s : e - b ≤ 2 * l.length) : ((rp m l).take e).drop b = ((rp 3 l).drop (b % l.length)).take (e - b) := by
  have q := Nat.div_add_mod b l.length
  have bm : b / l.length ≤ m := by
    apply Nat.div_le_of_le_mul
    rw [Nat.mul_comm]; omega
  have r := Nat.mod_lt b l0
  have hd := rp_drop (l := l) (m := m) (k := b / l.length) bm (b % l.length)
  rw [Nat.mul_comm, q] at hd
  have t : ((rp m l).take e).drop b = ((rp m l).drop b).take (e - b) := by rw [List.drop_take]
  rw [t, hd]
  have u : ∀ k, b % l.length + (e - b) ≤ k * l.length → ((rp k l).drop (b % l.length)).take (e - b) = ((rp k l).take (b % l.length + (e - b))).drop (b % l.length) := fun k _ => by
    rw [List.drop_take]; congr 1; omega
  have hk : b % l.length + (e - b) ≤ (m - b / l.length) * l.length := by
    have z : (m - b / l.length) * l.length = m * l.length - b / l.length * l.length := Nat.sub_mul ..
    have z2 : b / l.length * l.length = l.length * (b / l.length) := Nat.mul_comm ..
    omega
  have h3 : b % l.length + (e - b) ≤ 3 * l.length := by omega
  rw [u _ hk, u _ h3]
  congr 1
  by_cases c : m - b / l.length ≤ 3
  · exact (rp_take_le hk c).symm
  · exact rp_take_le h3 (by omega)
/-- no row is longer -/
theorem row_short {l : List Nat} {m r : Nat} (f0 : 0 < l.count 10) (h : r ≤ m * l.count 10) : rowE (rp m l) r - rowB (rp m l) r ≤ 2 * l.length := by
  have l0 : 0 < l.length := by
    rcases Nat.eq_zero_or_pos l.length with z | z
    · rw [List.length_eq_zero_iff.mp z] at f0; exact absurd f0 (by decide)
    · exact z
  have hr : r ≤ (rp m l).count 10 := by rw [rp_count]; exact h
  have c1 := rowB_cnt hr
  have c2 := rowE_cnt hr
  have be := rowBE hr
  have el := rowE_le hr
  rw [rp_len] at el
  generalize rowB (rp m l) r = b at c1 be ⊢
  generalize rowE (rp m l) r = e at c2 be el ⊢
  rw [rp_cnt (p := b) (by omega) l0] at c1
  rw [rp_cnt (p := e) (by omega) l0] at c2
  apply Decidable.byContradiction
  intro n
  have hm : b / l.length + 2 ≤ e / l.length := by
    have : (b + 2 * l.length) / l.length = b / l.length + 2 := Nat.add_mul_div_right _ _ l0
    rw [← this]
    exact Nat.div_le_div_right (by omega)
  have t1 : (l.take (b % l.length)).count 10 ≤ l.count 10 := (List.take_sublist _ _).count_le _
  have t2 : (b / l.length + 2) * l.count 10 ≤ e / l.length * l.count 10 := Nat.mul_le_mul_right _ hm
  rw [Nat.add_mul] at t2
  omega
end Sk

/-! Texts written and read, numbers in figures, rows of shelves: the plain side. -/
namespace Sk
open PySem PySem.Spec PyProof.Rows L2

/-! ### written texts -/
def wr (c : Nat) : List Nat := if c = 10 then [92, 110] else if c = 92 then [92, 92] else [c]
def W (l : List Nat) : List Nat := l.flatMap wr
/-- the text that is written so -/
def unW : List Nat → Option (List Nat)
  | [] => some []
  | [c] => if c = 92 then none else some [c]
  | c :: d :: s => if c = 92 then (if d = 110 then (unW s).map (10 :: ·) else if d = 92 then (unW s).map (92 :: ·) else none) else (unW (d :: s)).map (c :: ·)
theorem unW_cons {c : Nat} {s : List Nat} (h : c ≠ 92) : unW (c :: s) = (unW s).map (c :: ·) := by
  cases s with
  | nil => simp [unW, h]
  | cons d s => simp [unW, h]
theorem unW_W : ∀ l : List Nat, unW (W l) = some l
  | [] => rfl
  | c :: l => by
    have ih := unW_W l
    unfold W at ih ⊢
    rw [List.flatMap_cons]
    by_cases h1 : c = 10
    · have w1 : wr c = [92, 110] := by unfold wr; rw [if_pos h1]
      rw [w1]
      show unW (92 :: 110 :: l.flatMap wr) = _
      rw [unW, if_pos rfl, if_pos rfl, ih, h1]; rfl
    · by_cases h2 : c = 92
      · have w1 : wr c = [92, 92] := by unfold wr; rw [if_neg h1, if_pos h2]
        rw [w1]
        show unW (92 :: 92 :: l.flatMap wr) = _
        rw [unW, if_pos rfl, if_neg (by decide), if_pos rfl, ih, h2]; rfl
      · have w1 : wr c = [c] := by unfold wr; rw [if_neg h1, if_neg h2]
        rw [w1]
        show unW (c :: l.flatMap wr) = _
        rw [unW_cons h2, ih]; rfl
theorem W_plain {l : List Nat} (p : Plain l) : Plain (W l) := by
  intro c hc
  unfold W at hc
  obtain ⟨d, hd, h⟩ := List.mem_flatMap.mp hc
  unfold wr at h
  split at h
  · simp only [List.mem_cons, List.not_mem_nil, or_false] at h
    rcases h with rfl | rfl <;> decide
  · split at h
    · simp only [List.mem_cons, List.not_mem_nil, or_false] at h
      rcases h with rfl | rfl <;> decide
    · rw [List.mem_singleton] at h; rw [h]; exact p d hd
theorem W_no10 (l : List Nat) : 10 ∉ W l := by
  intro hc
  unfold W at hc
  obtain ⟨d, hd, h⟩ := List.mem_flatMap.mp hc
  unfold wr at h
  split at h
  · simp at h
  · split at h
    · simp at h
    · rw [List.mem_singleton] at h
      omega
theorem unW_plain : ∀ {x l : List Nat}, unW x = some l → Plain x → Plain l
  | [], l, h, _ => by cases h; exact fun _ z => nomatch z
  | [c], l, h, p => by
    unfold unW at h
    split at h
    · cases h
    · cases h; exact p
  | c :: d :: s, l, h, p => by
    unfold unW at h
    have ps : Plain s := fun z hz => p z (List.mem_cons_of_mem _ (List.mem_cons_of_mem _ hz))
    have pd : Plain (d :: s) := fun z hz => p z (List.mem_cons_of_mem _ hz)
    have cons : ∀ {y : List Nat} {e : Nat}, plainC e → Plain y → Plain (e :: y) := fun he hy z hz => by
      rcases List.mem_cons.mp hz with z1 | z1
      · rw [z1]; exact he
      · exact hy z z1
    split at h
    · split at h
      · cases e : unW s with
        | none => rw [e] at h; cases h
        | some y => rw [e] at h; cases h; exact cons (by decide) (unW_plain e ps)
      · split at h
        · cases e : unW s with
          | none => rw [e] at h; cases h
          | some y => rw [e] at h; cases h; exact cons (by decide) (unW_plain e ps)
        · cases h
    · cases e : unW (d :: s) with
      | none => rw [e] at h; cases h
      | some y => rw [e] at h; cases h; exact cons (p c List.mem_cons_self) (unW_plain e pd)
theorem unW_len : ∀ {x l : List Nat}, unW x = some l → l.length ≤ x.length
  | [], l, h => by cases h; exact Nat.le_refl _
  | [c], l, h => by
    unfold unW at h
    split at h
    · cases h
    · cases h; exact Nat.le_refl _
  | c :: d :: s, l, h => by
    unfold unW at h
    split at h
    · split at h
      · cases e : unW s with
        | none => rw [e] at h; cases h
        | some y => rw [e] at h; cases h; have := unW_len e; simp; omega
      · split at h
        · cases e : unW s with
          | none => rw [e] at h; cases h
          | some y => rw [e] at h; cases h; have := unW_len e; simp; omega
        · cases h
    · cases e : unW (d :: s) with
      | none => rw [e] at h; cases h
      | some y => rw [e] at h; cases h; have := unW_len e; simp at this ⊢; omega
def readW (x : List Nat) : Option (List Nat) := if Plain x ∧ 10 ∉ x then unW x else none
theorem readW_W {l : List Nat} (p : Plain l) : readW (W l) = some l := by
  unfold readW
  rw [if_pos ⟨W_plain p, W_no10 l⟩, unW_W]
theorem readW_plain {x l : List Nat} (h : readW x = some l) : Plain l ∧ l.length ≤ x.length := by
  unfold readW at h
  split at h
  · exact ⟨unW_plain h ‹Plain x ∧ _›.1, unW_len h⟩
  · cases h
/-! ### numbers in figures -/
def Figs (x : List Nat) : Prop := ∀ c ∈ x, 48 ≤ c ∧ c ≤ 57
instance (x : List Nat) : Decidable (Figs x) := by unfold Figs; infer_instance
def numIn (x : List Nat) : Option Nat := if (1 ≤ x.length ∧ x.length ≤ 30 ∧ Figs x) ∧ ¬ (x.head? = some 48 ∧ x ≠ [48]) then some (NumText.digitsVal x) else none
theorem numL_head {n : Nat} (h : 0 < n) : (TL.numL n).head? ≠ some 48 := by
  induction n using Nat.strongRecOn with
  | _ n ih =>
    by_cases h1 : n < 10
    · rw [TL.numL_lt h1]
      simp; omega
    · rw [TL.numL_step (by omega)]
      have := ih (n / 10) (by omega) (by omega)
      have ne := TL.numL_ne (n / 10)
      cases e : TL.numL (n / 10) with
      | nil => exact absurd e ne
      | cons a b => rw [e] at this; exact this
theorem numIn_numL {n : Nat} (h : n < 10 ^ 30) : numIn (TL.numL n) = some n := by
  unfold numIn
  have ne := TL.numL_ne n
  have l1 : 1 ≤ (TL.numL n).length := List.length_pos_iff.mpr ne
  have l2 := TL.numL_len (k := 30) (by decide) h
  have hc : ¬ ((TL.numL n).head? = some 48 ∧ TL.numL n ≠ [48]) := fun z => by
    by_cases n0 : n = 0
    · subst n0; exact z.2 (by rw [TL.numL_lt (by decide)])
    · exact numL_head (by omega) z.1
  rw [if_pos ⟨⟨l1, l2, TL.numL_digits n⟩, hc⟩, TL.numL_val]
theorem num_str (n : Nat) : (toString ((n : Nat) : Int) : Str) = sT (TL.numL n) := by
  rw [sT_of (toString ((n : Nat) : Int) : Str)]
  exact congrArg sT (TL.tl_num n)
theorem numIn_lt {x : List Nat} {n : Nat} (h : numIn x = some n) : n < 10 ^ 30 := by
  unfold numIn at h
  split at h
  · rename_i c
    cases h
    obtain ⟨⟨_, l, f⟩, _⟩ := c
    have key : ∀ (y : List Nat) (a k : Nat), Figs y → a < 10 ^ k → y.foldl (fun acc c => acc * 10 + (c - 48)) a < 10 ^ (k + y.length) := by
      intro y
      induction y with
      | nil => intro a k _ ha; exact ha
      | cons c y ih =>
        intro a k f ha
        have fc := f c List.mem_cons_self
        have := ih (a * 10 + (c - 48)) (k + 1) (fun d hd => f d (List.mem_cons_of_mem _ hd)) (by rw [Nat.pow_succ]; omega)
        rw [List.foldl_cons, List.length_cons]
        rw [show k + (y.length + 1) = k + 1 + y.length by omega]
        exact this
    have := key x 0 0 f (by decide)
    rw [Nat.zero_add] at this
    exact Nat.lt_of_lt_of_le this (Nat.pow_le_pow_right (by decide) l)
  · cases h
/-! ### rows of shelves -/
def leafW : List Nat := [108, 101, 97, 102]
def forkW : List Nat := [102, 111, 114, 107]
def nth (S : List Tr) (a : Nat) : Option Tr := if a = 0 then none else S[a - 1]?
open Classical in
/-- the shelf with a new piece, none where it cannot lie there -/
noncomputable def layT (S : List Tr) (t : Tr) : Option (List Tr) := if Ok t ∧ t ∉ S then some (S ++ [t]) else none
theorem layT_ok {S : List Tr} {t : Tr} (o : Ok t) (n : t ∉ S) : layT S t = some (S ++ [t]) := by unfold layT; rw [if_pos ⟨o, n⟩]
theorem layT_no {S : List Tr} {t : Tr} (h : ¬ (Ok t ∧ t ∉ S)) : layT S t = none := by unfold layT; rw [if_neg h]
/-- the shelf with the piece that a row tells, none where it tells none -/
noncomputable def layRow (S : List Tr) (x : List Nat) : Option (List Tr) :=
  match TL.par [32] [] x with
  | none => none
  | some (w, q) =>
    if w = leafW then (match readW q with
      | none => none
      | some l => layT S (.lf l))
    else if w = forkW then (match (TL.spl [32] 0 [] q).map numIn with
      | [some a, some b] => (match nth S a, nth S b with
        | some t, some u => layT S (.fk t u)
        | _, _ => none)
      | _ => none)
    else none
def rowsOf (x : List Nat) : List (List Nat) := if x = [] then [] else TL.spl [10] 0 [] x
noncomputable def readAll : Nat → List Tr → List (List Nat) → Except Nat (List Tr)
  | _, S, [] => .ok S
  | k, S, x :: xs => match layRow S x with
    | none => .error k
    | some S' => readAll (k + 1) S' xs
/-! ### the text of a shelf -/
def rowL' (S : List Tr) : Tr → List Nat
  | .lf l => leafW ++ ([32] ++ W l)
  | .fk a b => forkW ++ ([32] ++ (TL.numL (num S a).toNat ++ ([32] ++ TL.numL (num S b).toNat)))
theorem nth_num {S : List Tr} {t : Tr} (h : t ∈ S) : nth S (num S t).toNat = some t := by
  obtain ⟨i, e, z⟩ := nm_num h
  unfold nth
  rw [z, if_neg (by omega), show ((i : Int) + 1).toNat - 1 = i by omega]
  exact e
theorem lay_good {S R : List Tr} (gR : Good R) (hS : S.length ≤ 16000000) {t : Tr} {i : Nat} (e : R[i]? = some t) (hl : R.length ≤ 16000000) : layRow (R.take i) (rowL' R t) = some (R.take (i + 1)) := by
  have ts : R.take (i + 1) = R.take i ++ [t] := by rw [List.take_add_one, e]; rfl
  have nt : t ∉ R.take i := take_notin gR.nd e
  have ot := gR.ok t (List.mem_of_getElem? e)
  unfold layRow
  cases t with
  | lf l =>
    have p : TL.par [32] [] (rowL' R (.lf l)) = some (leafW, W l) := TL.par_part1 (S := []) (by decide)
    rw [p]
    dsimp only
    rw [if_pos rfl, readW_W ot.2.2]
    dsimp only
    rw [layT_ok ot nt, ts]
  | fk a b =>
    obtain ⟨⟨j, jl, ea⟩, ⟨k, kl, eb⟩⟩ := gR.pr i a b e
    have na := num_at gR ea
    have nb := num_at gR eb
    have lj := (List.getElem?_eq_some_iff.mp ea).1
    have lk := (List.getElem?_eq_some_iff.mp eb).1
    have p : TL.par [32] [] (rowL' R (.fk a b)) = some (forkW, TL.numL (num R a).toNat ++ ([32] ++ TL.numL (num R b).toNat)) := TL.par_part1 (S := []) (by decide)
    rw [p]
    dsimp only
    rw [if_neg (by decide), if_pos rfl]
    have sp : TL.spl [32] 0 [] (TL.numL (num R a).toNat ++ ([32] ++ TL.numL (num R b).toNat)) = [TL.numL (num R a).toNat, TL.numL (num R b).toNat] := by
      have := TL.spl_part1 (s := 32) (S := []) (acc := []) (p := TL.numL (num R a).toNat) (rest := TL.numL (num R b).toNat) (TL.numL_free (by decide))
      rw [this, List.nil_append, TL.spl_last1 (TL.numL_free (by decide)), List.nil_append]
    have big : ∀ m : Nat, m ≤ 16000000 → m + 1 < 10 ^ 30 := fun m hm => Nat.lt_of_le_of_lt (Nat.add_le_add_right hm 1) (by decide)
    rw [sp]
    simp only [List.map_cons, List.map_nil]
    have hj : (num R a).toNat = j + 1 := by rw [na]; omega
    have hk : (num R b).toNat = k + 1 := by rw [nb]; omega
    rw [numIn_numL (by rw [hj]; exact big j (by omega)), numIn_numL (by rw [hk]; exact big k (by omega)), hj, hk]
    dsimp only
    have n1 : nth (R.take i) (j + 1) = some a := by
      unfold nth
      rw [if_neg (by omega), Nat.add_sub_cancel, List.getElem?_take_of_lt jl]; exact ea
    have n2 : nth (R.take i) (k + 1) = some b := by
      unfold nth
      rw [if_neg (by omega), Nat.add_sub_cancel, List.getElem?_take_of_lt kl]; exact eb
    rw [n1, n2]
    dsimp only
    rw [layT_ok ot nt, ts]
theorem readAll_good {R : List Tr} (gR : Good R) (hl : R.length ≤ 16000000) : ∀ (n i k : Nat), i + n = R.length → readAll k (R.take i) ((R.drop i).map (rowL' R)) = .ok R
  | 0, i, k, h => by
    rw [List.drop_eq_nil_of_le (by omega), List.take_of_length_le (by omega)]; rfl
  | n + 1, i, k, h => by
    have hi : i < R.length := by omega
    rw [List.drop_eq_getElem_cons hi, List.map_cons]
    unfold readAll
    have := lay_good (S := []) gR (by simp) (t := R[i]) (i := i) (List.getElem?_eq_getElem hi) hl
    rw [this]
    exact readAll_good gR hl n (i + 1) (k + 1) (by omega)
theorem rowL_no10 (S : List Tr) (t : Tr) : 10 ∉ rowL' S t := by
  cases t with
  | lf l =>
    show 10 ∉ leafW ++ ([32] ++ W l)
    rw [List.mem_append, List.mem_append, not_or, not_or]
    exact ⟨by decide, by decide, W_no10 l⟩
  | fk a b =>
    show 10 ∉ forkW ++ ([32] ++ (TL.numL (num S a).toNat ++ ([32] ++ TL.numL (num S b).toNat)))
    simp only [List.mem_append, not_or]
    exact ⟨by decide, by decide, TL.numL_free (by decide), by decide, TL.numL_free (by decide)⟩
theorem rowL_ne (S : List Tr) (t : Tr) : rowL' S t ≠ [] := by
  cases t <;> (intro h; have := congrArg List.length h; simp [rowL', leafW, forkW] at this)
/-- the text of a shelf, by signs -/
def shTx (S : List Tr) : List Nat := TL.joinL [10] (S.map (rowL' S))
theorem rows_shTx {S : List Tr} : rowsOf (shTx S) = S.map (rowL' S) := by
  unfold rowsOf shTx
  cases S with
  | nil => rfl
  | cons t S =>
    rw [if_neg]
    · exact TL.spl_join (by simp) fun p hp => by
        obtain ⟨u, _, rfl⟩ := List.mem_map.mp hp
        exact rowL_no10 _ u
    · intro h
      cases S with
      | nil => exact rowL_ne _ _ h
      | cons u S =>
        have : rowL' (t :: u :: S) t ++ ([10] ++ TL.joinL [10] ((u :: S).map (rowL' (t :: u :: S)))) = [] := h
        exact rowL_ne _ _ (List.append_eq_nil_iff.mp this).1
theorem read_shTx {S : List Tr} (g : Good S) (h : S.length ≤ 16000000) : readAll 0 [] (rowsOf (shTx S)) = .ok S := by
  rw [rows_shTx]
  have := readAll_good g h S.length 0 0 (by omega)
  simpa using this
end Sk

/-! A shelf's pieces in another order: the leaves backwards, then the forks. -/
namespace Sk
open PySem PySem.Spec PyProof.Rows L2
def isLf : Tr → Bool | .lf _ => true | .fk _ _ => false
def lvs (S : List Tr) : List Tr := (S.filter isLf).reverse
def fks (S : List Tr) : List Tr := S.filter fun t => !isLf t
def ord (S : List Tr) : List Tr := lvs S ++ fks S
theorem mem_ord {S : List Tr} {t : Tr} : t ∈ ord S ↔ t ∈ S := by
  unfold ord lvs fks
  rw [List.mem_append, List.mem_reverse, List.mem_filter, List.mem_filter]
  cases h : isLf t <;> simp
theorem ord_len (S : List Tr) : (ord S).length = S.length := by
  unfold ord lvs fks
  rw [List.length_append, List.length_reverse]
  induction S with
  | nil => rfl
  | cons t S ih =>
    rw [List.filter_cons, List.filter_cons]
    cases h : isLf t <;> simp <;> omega
theorem ord_nd {S : List Tr} (g : Good S) : (ord S).Nodup := by
  unfold ord
  rw [List.nodup_append]
  refine ⟨?_, g.nd.sublist List.filter_sublist, fun a ha b hb e => ?_⟩
  · unfold lvs; exact (List.reverse_perm _).nodup_iff.mpr (g.nd.sublist List.filter_sublist)
  · unfold lvs at ha
    unfold fks at hb
    rw [List.mem_reverse, List.mem_filter] at ha
    rw [List.mem_filter] at hb
    rw [e] at ha
    rw [ha.2] at hb
    exact absurd hb.2 (by simp)
theorem lvs_get {S : List Tr} {a b : Tr} {i : Nat} (h : (ord S)[i]? = some (.fk a b)) : (lvs S).length ≤ i ∧ (fks S)[i - (lvs S).length]? = some (.fk a b) := by
  unfold ord at h
  by_cases l : i < (lvs S).length
  · rw [List.getElem?_append_left l] at h
    have := List.mem_of_getElem? h
    unfold lvs at this
    rw [List.mem_reverse, List.mem_filter] at this
    exact absurd this.2 (by simp [isLf])
  · rw [List.getElem?_append_right (by omega)] at h
    exact ⟨by omega, h⟩
theorem part_ahead {S : List Tr} (g : Good S) {a u : Tr} {i : Nat} (h : (ord S)[i]? = some u) (hu : isLf u = false) (ha : a ∈ S) (lt : num S a < num S u) : ∃ j, j < i ∧ (ord S)[j]? = some a := by
  obtain ⟨c, d, rfl⟩ : ∃ c d, u = .fk c d := by cases u with | lf l => cases hu | fk c d => exact ⟨c, d, rfl⟩
  obtain ⟨l1, l2⟩ := lvs_get h
  cases e : isLf a with
  | true =>
    have : a ∈ lvs S := by unfold lvs; rw [List.mem_reverse, List.mem_filter]; exact ⟨ha, e⟩
    obtain ⟨j, hj, ej⟩ := List.getElem_of_mem this
    exact ⟨j, by omega, by unfold ord; rw [List.getElem?_append_left hj, List.getElem?_eq_getElem hj, ej]⟩
  | false =>
    have : a ∈ fks S := by unfold fks; rw [List.mem_filter]; exact ⟨ha, by rw [e]; rfl⟩
    obtain ⟨j, hj, ej⟩ := List.getElem_of_mem this
    have pw : (fks S).Pairwise fun a b => num S a < num S b := (num_rising g).sublist List.filter_sublist
    refine ⟨(lvs S).length + j, ?_, by unfold ord; rw [List.getElem?_append_right (by omega), Nat.add_sub_cancel_left, List.getElem?_eq_getElem hj, ej]⟩
    obtain ⟨hi, ei⟩ := List.getElem?_eq_some_iff.mp l2
    apply Decidable.byContradiction
    intro n
    have nl : i - (lvs S).length ≤ j := by omega
    rcases Nat.lt_or_eq_of_le nl with z | z
    · have := List.pairwise_iff_getElem.mp pw (i - (lvs S).length) j hi hj z
      rw [ei, ej] at this
      omega
    · subst z
      rw [ei] at ej
      rw [← ej] at lt
      omega
theorem ord_good {S : List Tr} (g : Good S) : Good (ord S) := by
  refine ⟨ord_nd g, fun t h => g.ok t (mem_ord.mp h), fun i a b h => ?_⟩
  have m := mem_ord.mp (List.mem_of_getElem? h)
  obtain ⟨ha, hb⟩ := g.parts m
  obtain ⟨la, lb⟩ := g.before m
  exact ⟨part_ahead g h rfl ha la, part_ahead g h rfl hb lb⟩
/-- the leaves behind a place, backwards -/
theorem lvs_drop {S : List Tr} {k : Nat} {t : Tr} (e : S[k]? = some t) : lvs (S.drop k) = if isLf t = true then lvs (S.drop (k + 1)) ++ [t] else lvs (S.drop (k + 1)) := by
  obtain ⟨hk, ek⟩ := List.getElem?_eq_some_iff.mp e
  rw [List.drop_eq_getElem_cons hk, ek]
  unfold lvs
  rw [List.filter_cons]
  by_cases h : isLf t = true
  · rw [if_pos h, if_pos h, List.reverse_cons]
  · rw [if_neg h, if_neg h]
theorem fks_take {S : List Tr} {k : Nat} {t : Tr} (e : S[k]? = some t) : fks (S.take (k + 1)) = if isLf t = true then fks (S.take k) else fks (S.take k) ++ [t] := by
  have : S.take (k + 1) = S.take k ++ [t] := by rw [List.take_add_one, e]; rfl
  rw [this]
  unfold fks
  rw [List.filter_append]
  by_cases h : isLf t = true
  · rw [if_pos h]; simp [h]
  · rw [if_neg h]; simp [h]
theorem lvs_ext {S : List Tr} (k : Nat) : Ext (lvs (S.drop k)) (ord S) := by
  have : lvs S = lvs (S.drop k) ++ lvs (S.take k) := by
    unfold lvs
    rw [← List.reverse_append, ← List.filter_append, List.take_append_drop]
  unfold ord
  rw [this, List.append_assoc]
  exact List.prefix_append _ _
theorem fks_ext {S : List Tr} (k : Nat) : Ext (lvs S ++ fks (S.take k)) (ord S) := by
  have : fks S = fks (S.take k) ++ fks (S.drop k) := by
    unfold fks
    rw [← List.filter_append, List.take_append_drop]
  unfold ord
  rw [this, ← List.append_assoc]
  exact List.prefix_append _ _
theorem num_next {R S : List Tr} {t : Tr} (e : Ext (R ++ [t]) S) (nd : S.Nodup) : num S t = (R.length : Int) + 1 := by
  have h : S[R.length]? = some t := by
    obtain ⟨m, rfl⟩ := e
    rw [List.append_assoc, List.getElem?_append_right (Nat.le_refl _), Nat.sub_self]; rfl
  exact (Nm.num (S := S) (n := (R.length : Int) + 1) ⟨R.length, h, rfl⟩ nd).symm
theorem putK_le {c : List (Key × V)} {k : Key} {x : V} : (putK c k x).length ≤ c.length + 1 := by
  unfold putK
  split
  · rw [List.length_map]; omega
  · rw [List.length_append]; exact Nat.le_refl _
/-- the numbers told so far -/
def Told (S R : List Tr) (kvs : List (Key × V)) : Prop := ∀ t ∈ R, valV kvs (Sum.inl (num S t)) = some (.int (num (ord S) t))
theorem Told.put {S R : List Tr} {kvs : List (Key × V)} {t : Tr} (h : Told S R kvs) (g : Good S) (hR : ∀ u ∈ R, u ∈ S) (ht : t ∈ S) (e : Ext (R ++ [t]) (ord S)) : Told S (R ++ [t]) (putK kvs (Sum.inl (num S t)) (.int ((R.length : Int) + 1))) := by
  have nx := num_next e (ord_nd g)
  have nt : t ∉ R := fun hm => by
    have := (ord_nd g).sublist e.sublist
    rw [List.nodup_append] at this
    exact this.2.2 t hm t (by simp) rfl
  intro u hu
  rw [valV_put]
  rcases List.mem_append.mp hu with z | z
  · rw [if_neg (fun y => nt (by rw [← num_inj (hR u z) ht (Sum.inl.inj y)]; exact z))]
    exact h u z
  · rw [List.mem_singleton] at z
    rw [z, if_pos rfl, nx]
end Sk

/-! except clauses with a tuple of classes. -/
namespace Sk
open PySem PySem.Spec PyProof.Rows L2

section
open PySem.W
theorem exm_tup5 {M : Model} {K : Frag} {c1 c2 c3 c4 c5 cls : Value} {tp e : Addr} {b : Bool} {h : Heap} (X : K.In h) (LT : Looks M h (typeOf (.ref e)) cls) (hp : h.get? tp = some { cls := .type "tuple", data := .seq [c1, c2, c3, c4, c5].toArray }) (hx : exmAny K cls [c1, c2, c3, c4, c5] = some b) :
    Looks M h (excMatches (.ref e) (.ref tp)) b := by
  intro A Q E s k₀ q
  obtain ⟨hh, g, d, tk, os⟩ := s
  have k : ∀ b o, h.get? b = some o → hh.get? b = some o := k₀
  have LT0 : Looks M h (isInstance (.ref tp) (.type "tuple")) true := ((Looks.ld hp).andThen .now).andThen (Looks.of_pure isSubtype_tuple_tuple)
  obtain ⟨b1, d1, x1, y1, z1⟩ := exmAny_cons hx
  obtain ⟨e1, S1⟩ := exm_cls (M := M) X x1
  have e1 := e1.keeps k
  have S1 := S1.keeps k
  obtain ⟨b2, d2, x2, y2, z2⟩ := exmAny_cons y1
  obtain ⟨e2, S2⟩ := exm_cls (M := M) X x2
  have e2 := e2.keeps k
  have S2 := S2.keeps k
  obtain ⟨b3, d3, x3, y3, z3⟩ := exmAny_cons y2
  obtain ⟨e3, S3⟩ := exm_cls (M := M) X x3
  have e3 := e3.keeps k
  have S3 := S3.keeps k
  obtain ⟨b4, d4, x4, y4, z4⟩ := exmAny_cons y3
  obtain ⟨e4, S4⟩ := exm_cls (M := M) X x4
  have e4 := e4.keeps k
  have S4 := S4.keeps k
  obtain ⟨b5, d5, x5, y5, z5⟩ := exmAny_cons y4
  obtain ⟨e5, S5⟩ := exm_cls (M := M) X x5
  have e5 := e5.keeps k
  have S5 := S5.keeps k
  have w5 : some false = some d5 := y5
  cases w5
  have LT := LT.keeps k
  have LT0 := LT0.keeps k
  have hp' := k _ _ hp
  subst z1 z2 z3 z4 z5
  unfold excMatches
  refine wpAny_bind (LT0.at ?_)
  dsimp only
  rw [if_pos rfl]
  first
    | refine wpAny_bind (wpAny_seqItems hp' rfl ?_)
    | refine wpAny_bind (wpAny_bind (wpAny_seqItems hp' rfl (wpAny_pure ?_)))
  dsimp only [Option.getD_some, Option.getD]
  cases b1 <;> cases b2 <;> cases b3 <;> cases b4 <;> cases b5 <;> ((repeat (first | simp only [List.forIn_cons, List.forIn_nil, Bool.not_true, Bool.false_eq_true, if_false, if_true] | lk)); exact q)
end
theorem nm_ld {X : Cx} {x : Str} {c : Value} {np : Pos} {a : Addr} {oe : Obj} {pn : List (Addr × Obj)} {σ : L2.St} {H : Hp} {s : Shared} {Q : Value → Shared → Prop} {E : Value → Shared → Prop} (hc : Names X x c) (S : Inv (X.suite a ((a, oe) :: pn)) [] σ H s) (q : Q c s) :
    wpAny (model X.prog X.w) (X.A.mark (some (.ref a))) (eval (.Name x np) X.env) Q E s := by
  obtain ⟨hg, hdb, h1 | ⟨h1, h2, h3⟩⟩ := hc
  · exact ld_glob (X := X.suite a ((a, oe) :: pn)) S hg h1 q hdb
  · exact ld_blt (X := X.suite a ((a, oe) :: pn)) S hg h1 h2 q h3 hdb
theorem test_tup2 {X : Cx} {x1 x2 : Str} {c1 c2 : Value} {p1 p2 tpos : Pos} {kk : Nat} (n1 : Names X x1 c1) (n2 : Names X x2 c2) : TestOk X (.Tuple [.Name x1 p1, .Name x2 p2] kk tpos) (fun cls => PySem.W.exmAny X.K cls [c1, c2]) := by
  intro a oe pn σ H s b Q E S e q
  have there := (S.pin (a, oe) (List.mem_append.mpr (.inl List.mem_cons_self))).1
  have LT : PySem.W.Looks (model X.prog X.w) s.heap (typeOf (.ref a)) oe.cls := fun A Q E s k q => wpAny_typeOf_ref (k _ _ there) q
  refine wpAny_Tuple ?_
  refine wpAny_items_cons (nm_ld n1 S ?_)
  refine wpAny_items_cons (nm_ld n2 S ?_)
  refine wpAny_items_nil ⟨by show _ ≤ sizeLine; rw [sizeLine_eq]; simp, ?_⟩
  have kp : ∀ q o, s.heap.get? q = some o → (s.heap.push { cls := .type "tuple", data := .seq [c1, c2].toArray }).get? q = some o := fun _ _ z => Heap.get?_push_of_some _ z
  exact (PySem.W.exm_tup2 (S.kIn.keeps kp) (LT.keeps kp) (Heap.get?_push_size s.heap rfl) e).here (q _ kp)
theorem test_tup5 {X : Cx} {x1 x2 x3 x4 x5 : Str} {c1 c2 c3 c4 c5 : Value} {p1 p2 p3 p4 p5 tpos : Pos} {kk : Nat} (n1 : Names X x1 c1) (n2 : Names X x2 c2) (n3 : Names X x3 c3) (n4 : Names X x4 c4) (n5 : Names X x5 c5) :
    TestOk X (.Tuple [.Name x1 p1, .Name x2 p2, .Name x3 p3, .Name x4 p4, .Name x5 p5] kk tpos) (fun cls => PySem.W.exmAny X.K cls [c1, c2, c3, c4, c5]) := by
  intro a oe pn σ H s b Q E S e q
  have there := (S.pin (a, oe) (List.mem_append.mpr (.inl List.mem_cons_self))).1
  have LT : PySem.W.Looks (model X.prog X.w) s.heap (typeOf (.ref a)) oe.cls := fun A Q E s k q => wpAny_typeOf_ref (k _ _ there) q
  refine wpAny_Tuple ?_
  refine wpAny_items_cons (nm_ld n1 S ?_)
  refine wpAny_items_cons (nm_ld n2 S ?_)
  refine wpAny_items_cons (nm_ld n3 S ?_)
  refine wpAny_items_cons (nm_ld n4 S ?_)
  refine wpAny_items_cons (nm_ld n5 S ?_)
  refine wpAny_items_nil ⟨by show _ ≤ sizeLine; rw [sizeLine_eq]; simp, ?_⟩
  have kp : ∀ q o, s.heap.get? q = some o → (s.heap.push { cls := .type "tuple", data := .seq [c1, c2, c3, c4, c5].toArray }).get? q = some o := fun _ _ z => Heap.get?_push_of_some _ z
  exact (exm_tup5 (S.kIn.keeps kp) (LT.keeps kp) (Heap.get?_push_size s.heap rfl) e).here (q _ kp)
/-! what a tuple of classes catches -/
theorem any_nil {K : PySem.W.Frag} {cls : Value} : PySem.W.exmAny K cls [] = some false := rfl
theorem any_cons {K : PySem.W.Frag} {cls c : Value} {r : List Value} {b d : Bool} (h1 : PySem.W.exmOne K cls c = some b) (h2 : PySem.W.exmAny K cls r = some d) : PySem.W.exmAny K cls (c :: r) = some (b || d) := by
  show (match PySem.W.exmOne K cls c, PySem.W.exmAny K cls r with | some b, some d => some (b || d) | _, _ => none) = _
  rw [h1, h2]
end Sk

/-! Where a word stands in a text. -/
namespace Sk
open PySem PySem.Spec PyProof.Rows L2

def occL (w l : List Nat) : List Nat := (List.range l.length).filter fun p => decide ((l.drop p).take w.length = w)
def occ (w l : List Nat) : Nat := (occL w l).length
def hdW (w l : List Nat) : List Nat := l.take (w.length - 1)
def tlW (w l : List Nat) : List Nat := l.drop (l.length - (w.length - 1))
theorem mem_occL {w l : List Nat} {p : Nat} : p ∈ occL w l ↔ p < l.length ∧ (l.drop p).take w.length = w := by
  unfold occL
  rw [List.mem_filter, List.mem_range, decide_eq_true_eq]
theorem occL_sorted (w l : List Nat) : (occL w l).Pairwise (· < ·) := List.pairwise_lt_range.sublist List.filter_sublist
theorem sorted_ext : ∀ {a b : List Nat}, a.Pairwise (· < ·) → b.Pairwise (· < ·) → (∀ x, x ∈ a ↔ x ∈ b) → a = b
  | [], [], _, _, _ => rfl
  | [], y :: b, _, _, h => absurd ((h y).mpr List.mem_cons_self) (by simp)
  | x :: a, [], _, _, h => absurd ((h x).mp List.mem_cons_self) (by simp)
  | x :: a, y :: b, ha, hb, h => by
    have e : x = y := by
      have h1 := (h x).mp List.mem_cons_self
      have h2 := (h y).mpr List.mem_cons_self
      rcases List.mem_cons.mp h1 with z | z
      · exact z
      · rcases List.mem_cons.mp h2 with z2 | z2
        · exact z2.symm
        · have := (List.pairwise_cons.mp hb).1 x z
          have := (List.pairwise_cons.mp ha).1 y z2
          omega
    subst e
    congr 1
    refine sorted_ext (List.pairwise_cons.mp ha).2 (List.pairwise_cons.mp hb).2 fun z => ?_
    have hz := h z
    constructor
    · intro m
      have := (List.pairwise_cons.mp ha).1 z m
      rcases List.mem_cons.mp (hz.mp (List.mem_cons_of_mem _ m)) with y | y
      · omega
      · exact y
    · intro m
      have := (List.pairwise_cons.mp hb).1 z m
      rcases List.mem_cons.mp (hz.mpr (List.mem_cons_of_mem _ m)) with y | y
      · omega
      · exact y
theorem occL_fit {w l : List Nat} {p : Nat} (h : p ∈ occL w l) : p + w.length ≤ l.length := by
  obtain ⟨h1, h2⟩ := mem_occL.mp h
  have := congrArg List.length h2
  rw [List.length_take, List.length_drop] at this
  omega
theorem mem_occ' {w l : List Nat} {p : Nat} (hw : w ≠ []) : p ∈ occL w l ↔ (l.drop p).take w.length = w := by
  refine ⟨fun h => (mem_occL.mp h).2, fun h => mem_occL.mpr ⟨?_, h⟩⟩
  have l0 := List.length_pos_iff.mpr hw
  have := congrArg List.length h
  rw [List.length_take, List.length_drop] at this
  omega
theorem occL_none {w l : List Nat} (h : l.length < w.length) : occL w l = [] := by
  cases e : occL w l with
  | nil => rfl
  | cons p r =>
    have := occL_fit (w := w) (l := l) (p := p) (by rw [e]; exact List.mem_cons_self)
    omega
theorem tlW_len (w l : List Nat) : (tlW w l).length = min (w.length - 1) l.length := by unfold tlW; rw [List.length_drop]; omega
theorem hdW_len (w l : List Nat) : (hdW w l).length = min (w.length - 1) l.length := by unfold hdW; rw [List.length_take]
/-- the signs around the seam -/
theorem occL_app {w : List Nat} (hw : w ≠ []) (a b : List Nat) : occL w (a ++ b) = occL w a ++ (occL w (tlW w a ++ hdW w b)).map (· + (a.length - (tlW w a).length)) ++ (occL w b).map (· + a.length) := by
  have L0 := List.length_pos_iff.mpr hw
  have lt := tlW_len w a
  have lh := hdW_len w b
  obtain ⟨s, es⟩ : ∃ s, s = a.length - (tlW w a).length := ⟨_, rfl⟩
  have et : tlW w a = a.drop s := by rw [es, lt]; unfold tlW; congr 1; omega
  rw [← es]
  have mid : ∀ q, q ∈ occL w (tlW w a ++ hdW w b) → q < (tlW w a).length ∧ (tlW w a).length < q + w.length := fun q hq => by
    have f := occL_fit hq
    rw [List.length_append] at f
    have e := (mem_occL.mp hq).2
    omega
  refine sorted_ext (occL_sorted _ _) ?_ fun p => ?_
  · rw [List.pairwise_append, List.pairwise_append]
    refine ⟨⟨occL_sorted _ _, ?_, fun x hx y hy => ?_⟩, ?_, fun x hx y hy => ?_⟩
    · exact List.pairwise_map.mpr ((occL_sorted w _).imp fun h => by omega)
    · obtain ⟨q, hq, rfl⟩ := List.mem_map.mp hy
      have := occL_fit hx
      have := mid q hq
      omega
    · exact List.pairwise_map.mpr ((occL_sorted w b).imp fun h => by omega)
    · obtain ⟨q, hq, rfl⟩ := List.mem_map.mp hy
      rcases List.mem_append.mp hx with z | z
      · have := occL_fit z; omega
      · obtain ⟨r, hr, rfl⟩ := List.mem_map.mp z
        have := mid r hr
        omega
  · rw [mem_occ' hw, List.mem_append, List.mem_append]
    by_cases c1 : p + w.length ≤ a.length
    · have e : ((a ++ b).drop p).take w.length = (a.drop p).take w.length := by
        rw [List.drop_append_of_le_length (by omega), List.take_append_of_le_length (by rw [List.length_drop]; omega)]
      rw [e]
      constructor
      · intro h
        exact .inl (.inl ((mem_occ' hw).mpr h))
      · rintro ((h | h) | h)
        · exact (mem_occ' hw).mp h
        · obtain ⟨q, hq, rfl⟩ := List.mem_map.mp h
          have := mid q hq
          omega
        · obtain ⟨q, hq, rfl⟩ := List.mem_map.mp h
          omega
    by_cases c2 : a.length ≤ p
    · have e : (a ++ b).drop p = b.drop (p - a.length) := by
        rw [List.drop_append, List.drop_eq_nil_of_le c2, List.nil_append]
      rw [e]
      constructor
      · intro h
        exact .inr (List.mem_map.mpr ⟨p - a.length, (mem_occ' hw).mpr h, by omega⟩)
      · rintro ((h | h) | h)
        · have := occL_fit h; omega
        · obtain ⟨q, hq, rfl⟩ := List.mem_map.mp h
          have := mid q hq
          omega
        · obtain ⟨q, hq, rfl⟩ := List.mem_map.mp h
          rw [Nat.add_sub_cancel]
          exact (mem_occ' hw).mp hq
    have e : ((a ++ b).drop p).take w.length = ((tlW w a ++ hdW w b).drop (p - s)).take w.length := by
      have sp : s ≤ p := by omega
      have h1 : (a ++ b).drop p = a.drop p ++ b := by rw [List.drop_append_of_le_length (by omega)]
      have h2 : (tlW w a ++ hdW w b).drop (p - s) = a.drop p ++ b.take (w.length - 1) := by
        rw [List.drop_append_of_le_length (by omega), et, List.drop_drop, show s + (p - s) = p by omega]; rfl
      rw [h1, h2, List.take_append, List.take_append, List.take_take]
      congr 2
      rw [List.length_drop]
      omega
    rw [e]
    constructor
    · intro h
      exact .inl (.inr (List.mem_map.mpr ⟨p - s, (mem_occ' hw).mpr h, by omega⟩))
    · rintro ((h | h) | h)
      · have := occL_fit h; omega
      · obtain ⟨q, hq, rfl⟩ := List.mem_map.mp h
        rw [Nat.add_sub_cancel]
        exact (mem_occ' hw).mp hq
      · obtain ⟨q, hq, rfl⟩ := List.mem_map.mp h
        omega
theorem occ_app {w : List Nat} (hw : w ≠ []) (a b : List Nat) : occ w (a ++ b) = occ w a + occ w (tlW w a ++ hdW w b) + occ w b := by
  unfold occ
  rw [occL_app hw, List.length_append, List.length_append, List.length_map, List.length_map]
theorem hdW_app (w a b : List Nat) : hdW w (a ++ b) = (hdW w a ++ hdW w b).take (w.length - 1) := by
  unfold hdW
  rw [List.take_append, List.take_append, List.take_take, List.take_take, List.length_take]
  congr 2
  · omega
  · omega
theorem tlW_app (w a b : List Nat) : tlW w (a ++ b) = (tlW w a ++ tlW w b).drop ((tlW w a ++ tlW w b).length - (w.length - 1)) := by
  have la := tlW_len w a
  have lb := tlW_len w b
  obtain ⟨k, ek⟩ : ∃ k, k = w.length - 1 := ⟨_, rfl⟩
  rw [← ek] at la lb
  unfold tlW at la lb ⊢
  rw [← ek] at la lb ⊢
  by_cases c : b.length < k
  · have e1 : b.drop (b.length - k) = b := by rw [show b.length - k = 0 by omega]; rfl
    rw [e1] at lb ⊢
    rw [List.length_append, List.length_append, List.drop_append, List.drop_append, List.drop_drop]
    rw [la]
    congr 1
    · congr 1; omega
    · congr 1; omega
  · rw [List.length_append, List.length_append, List.drop_append, List.drop_append]
    rw [List.drop_eq_nil_of_le (as := a) (by omega), List.drop_eq_nil_of_le (as := a.drop _) (by rw [la, lb]; omega), List.nil_append, List.nil_append, List.drop_drop]
    congr 1
    rw [la, lb]; omega
end Sk

/-! A finder in the heap. -/
namespace Sk
open PySem PySem.Spec PyProof.Rows L2

/-- keys that are texts, each once -/
structure KeyOk (S : List Tr) (kvs : List (Key × V)) : Prop where
  nd : (kvs.map (·.1)).Nodup
  all : ∀ k ∈ kvs.map (·.1), ∃ m : Int, k = Sum.inl m ∧ inR S m
theorem keys_put {kvs : List (Key × V)} {k : Key} {v : V} : (putK kvs k v).map (·.1) = if (kvs.any fun kv => decide (kv.1 = k)) = true then kvs.map (·.1) else kvs.map (·.1) ++ [k] := by
  unfold putK
  split
  · rw [List.map_map]
    refine List.map_congr_left fun x _ => ?_
    show (if x.1 = k then (x.1, v) else x).1 = x.1
    split <;> rfl
  · rw [List.map_append]; rfl
theorem KeyOk.put {S : List Tr} {kvs : List (Key × V)} (h : KeyOk S kvs) {m : Int} (hm : inR S m) (v : V) : KeyOk S (putK kvs (Sum.inl m) v) := by
  constructor
  · rw [keys_put]
    split
    · exact h.nd
    · rename_i c
      refine List.nodup_append.mpr ⟨h.nd, List.nodup_cons.mpr ⟨(fun z => nomatch z), List.nodup_nil⟩, fun x hx y hy e => c ?_⟩
      rw [List.mem_singleton] at hy
      subst hy; subst e
      obtain ⟨kv, mk, ek⟩ := List.mem_map.mp hx
      exact List.any_eq_true.mpr ⟨kv, mk, by simpa using ek⟩
  · intro k hk
    rw [keys_put] at hk
    split at hk
    · exact h.all k hk
    · rcases List.mem_append.mp hk with z | z
      · exact h.all k z
      · rw [List.mem_singleton] at z
        exact ⟨m, z, hm⟩
theorem nodup_sub {α : Type} [DecidableEq α] : ∀ {a b : List α}, a.Nodup → (∀ u ∈ a, u ∈ b) → a.length ≤ b.length
  | [], _, _, _ => Nat.zero_le _
  | u :: r, b, nd, sub => by
    have hu := sub u List.mem_cons_self
    have nd := List.nodup_cons.mp nd
    have := nodup_sub (a := r) (b := b.erase u) nd.2 fun x hx => (List.mem_erase_of_ne (fun z => nd.1 (by rw [← z]; exact hx))).mpr (sub x (List.mem_cons_of_mem _ hx))
    rw [List.length_erase_of_mem hu] at this
    have : 0 < b.length := List.length_pos_of_mem hu
    rw [List.length_cons]; omega
theorem KeyOk.len {S : List Tr} {kvs : List (Key × V)} (h : KeyOk S kvs) : kvs.length ≤ S.length + 1 := by
  have := nodup_sub (a := kvs.map (·.1)) (b := (List.range (S.length + 1)).map fun n : Nat => (Sum.inl (n : Int) : Key)) h.nd fun k hk => by
    obtain ⟨m, rfl, h0, h1⟩ := h.all k hk
    exact List.mem_map.mpr ⟨m.toNat, List.mem_range.mpr (by omega), by rw [Int.toNat_of_nonneg h0]⟩
  rwa [List.length_map, List.length_map, List.length_range] at this
theorem KeyOk.nil (S : List Tr) : KeyOk S [] := ⟨List.nodup_nil, fun _ h => nomatch h⟩

structure Fc where
  a : Addr
  dx : Addr
  kn : Addr
  en : Addr
abbrev fflds (wood : Addr) (w : List Nat) (f : Fc) : List (Str × V) := [("wood", .ref wood), ("word", .str (sT w)), ("known", .ref f.kn), ("ends_known", .ref f.en)]
/-- a finder of the word w on the shelf at c -/
structure FiAt (CF : Addr) (f : Fc) (c : Cells) (S : List Tr) (w : List Nat) (H : Hp) : Prop where
  ob : H f.a = some (.ins CF f.dx (fflds c.a w f))
  ow : H f.dx = some (.own f.a)
  kn : ∃ kvs, H f.kn = some (.dK kvs) ∧ KeyOk S kvs ∧ valV kvs (Sum.inl 0) = some (.int 0) ∧ ∀ (m : Int) v, valV kvs (Sum.inl m) = some v → ∀ o, Tx S m o → v = .int (occ w (oX o) : Nat)
  en : ∃ kvs, H f.en = some (.dK kvs) ∧ KeyOk S kvs ∧ ∀ (m : Int) v, valV kvs (Sum.inl m) = some v → ∀ o, Tx S m o → ∃ r, v = .ref r ∧ H r = some (.tup [.str (sT (hdW w (oX o))), .str (sT (tlW w (oX o)))])
  ne : f.kn ≠ f.en
  ko : f.kn ∉ c.all
  eo : f.en ∉ c.all
theorem FiAt.same {CF : Addr} {f : Fc} {c : Cells} {S : List Tr} {w : List Nat} {H H' : Hp} (x : FiAt CF f c S w H) (s : Same H H') : FiAt CF f c S w H' :=
  ⟨s _ _ x.ob, s _ _ x.ow, let ⟨k, h1, h2⟩ := x.kn; ⟨k, s _ _ h1, h2⟩, let ⟨k, h1, h2, h3⟩ := x.en; ⟨k, s _ _ h1, h2, fun m v e o t => let ⟨r, e1, e2⟩ := h3 m v e o t; ⟨r, e1, s _ _ e2⟩⟩, x.ne, x.ko, x.eo⟩
theorem tup_updK {H : Hp} {a : Addr} {kvs : List (Key × V)} {o : HO} (h : H a = some (.dK kvs)) : ∀ b ys, H b = some (.tup ys) → upd H a o b = some (.tup ys) := fun b ys e => by
  rw [upd_ne (ne_of e h (by intro z; cases z))]; exact e
/-- the finder knows how often the word stands in one more text -/
theorem FiAt.know {CF : Addr} {f : Fc} {c : Cells} {S : List Tr} {w : List Nat} {H : Hp} {kvs : List (Key × V)} {m : Int} {o : Option Tr} (x : FiAt CF f c S w H) (h : H f.kn = some (.dK kvs)) (t : Tx S m o) :
    FiAt CF f c S w (upd H f.kn (.dK (putK kvs (Sum.inl m) (.int (occ w (oX o) : Nat))))) := by
  obtain ⟨k1, h1, h2, h3, h4⟩ := x.kn
  obtain ⟨k2, g1, g2, g3⟩ := x.en
  rw [h] at h1; cases h1
  refine ⟨?_, ?_, ⟨_, upd_same, h2.put t.inR _, ?_, ?_⟩, ⟨k2, by rw [upd_ne x.ne.symm]; exact g1, g2, ?_⟩, x.ne, x.ko, x.eo⟩
  · rw [upd_ne (ne_of x.ob h (by intro z; cases z))]; exact x.ob
  · rw [upd_ne (ne_of x.ow h (by intro z; cases z))]; exact x.ow
  · rw [valV_put]
    split
    · rename_i e
      cases e
      cases (show Tx S 0 none from rfl).uni t
      rfl
    · exact h3
  · intro m' v e o' t'
    rw [valV_put] at e
    split at e
    · rename_i z
      cases z
      cases e
      cases t.uni t'
      rfl
    · exact h4 m' v e o' t'
  · intro m' v e o' t'
    obtain ⟨r, e1, e2⟩ := g3 m' v e o' t'
    exact ⟨r, e1, tup_updK h _ _ e2⟩
/-- the finder knows the ends of one more text -/
theorem FiAt.knowE {CF : Addr} {f : Fc} {c : Cells} {S : List Tr} {w : List Nat} {H : Hp} {kvs : List (Key × V)} {m : Int} {o : Option Tr} {r : Addr} (x : FiAt CF f c S w H) (h : H f.en = some (.dK kvs)) (t : Tx S m o)
    (hr : H r = some (.tup [.str (sT (hdW w (oX o))), .str (sT (tlW w (oX o)))])) : FiAt CF f c S w (upd H f.en (.dK (putK kvs (Sum.inl m) (.ref r)))) := by
  obtain ⟨k1, h1, h2, h3⟩ := x.kn
  obtain ⟨k2, g1, g2, g3⟩ := x.en
  rw [h] at g1; cases g1
  refine ⟨?_, ?_, ⟨k1, by rw [upd_ne x.ne]; exact h1, h2, h3⟩, ⟨_, upd_same, g2.put t.inR _, ?_⟩, x.ne, x.ko, x.eo⟩
  · rw [upd_ne (ne_of x.ob h (by intro z; cases z))]; exact x.ob
  · rw [upd_ne (ne_of x.ow h (by intro z; cases z))]; exact x.ow
  · intro m' v e o' t'
    rw [valV_put] at e
    split at e
    · rename_i z
      cases z
      cases e
      cases t.uni t'
      exact ⟨r, rfl, tup_updK h _ _ hr⟩
    · obtain ⟨r', e1, e2⟩ := g3 m' v e o' t'
      exact ⟨r', e1, tup_updK h _ _ e2⟩
/-- what a finder's walk leaves: all but its two dicts -/
structure FiGo (CF : Addr) (f : Fc) (c : Cells) (S : List Tr) (w : List Nat) (H H' : Hp) : Prop where
  fi : FiAt CF f c S w H'
  kp : KeepL [f.kn, f.en] H H'
theorem FiGo.tup {CF : Addr} {f : Fc} {c : Cells} {S : List Tr} {w : List Nat} {H H' : Hp} (x : FiAt CF f c S w H) (g : FiGo CF f c S w H H') : ∀ b ys, H b = some (.tup ys) → H' b = some (.tup ys) := fun b ys e => by
  obtain ⟨k1, h1, _⟩ := x.kn
  obtain ⟨k2, g1, _⟩ := x.en
  refine g.kp b _ ?_ e
  simp only [List.mem_cons, List.not_mem_nil, or_false, not_or]
  exact ⟨ne_of e h1 (by intro z; cases z), ne_of e g1 (by intro z; cases z)⟩
theorem FiGo.sh {CF C : Addr} {f : Fc} {c : Cells} {S : List Tr} {w : List Nat} {H H' : Hp} (x : FiAt CF f c S w H) (g : FiGo CF f c S w H H') (s : ShAt C c H S) : ShAt C c H' S :=
  s.keepL g.kp (fun b hb => by
    simp only [List.mem_cons, List.not_mem_nil, or_false] at hb
    rcases hb with e | e
    · rw [e]; exact x.ko
    · rw [e]; exact x.eo) (g.tup x)
theorem FiGo.refl {CF : Addr} {f : Fc} {c : Cells} {S : List Tr} {w : List Nat} {H : Hp} (x : FiAt CF f c S w H) : FiGo CF f c S w H H := ⟨x, KeepL.refl _ _⟩
theorem FiGo.trans {CF : Addr} {f : Fc} {c : Cells} {S : List Tr} {w : List Nat} {H H1 H2 : Hp} (x : FiGo CF f c S w H H1) (y : FiGo CF f c S w H1 H2) : FiGo CF f c S w H H2 := ⟨y.fi, x.kp.trans y.kp⟩
theorem FiGo.same {CF : Addr} {f : Fc} {c : Cells} {S : List Tr} {w : List Nat} {H H1 H2 : Hp} (x : FiGo CF f c S w H H1) (y : Same H1 H2) : FiGo CF f c S w H H2 := ⟨x.fi.same y, fun b o n e => y _ _ (x.kp b o n e)⟩
end Sk

/-! The end of a law's row: what the top leaves, with its great constants. -/
namespace Sk
open PySem PySem.Spec PyProof.Rows L2

theorem kint_loose {p : Program} {lv : List (Str × PySem.W.WData)} {mg : Str → Option Value} {h : Heap} (x : PySem.W.XL p lv mg h) {n : Str} {i : Int} (m : (n, PySem.W.WData.int i) ∈ lv) : KInt mg n i := by
  obtain ⟨v, e, r⟩ := x.2.val _ m
  cases r
  exact ⟨_, e⟩
theorem kint_of {K : PySem.W.Frag} {h : Heap} {mg : Str → Option Value} {n : Str} {i : Int} {t : Tok} (X : K.In h) (G : h.Ns mainGlobals mg) (e : PySem.W.nsIn K mainGlobals n = some (some (.int i t))) : KInt mg n i := ⟨t, PySem.W.mg_of X G e⟩
theorem kstr_of {K : PySem.W.Frag} {h : Heap} {mg : Str → Option Value} {n x : Str} {t : Tok} (X : K.In h) (G : h.Ns mainGlobals mg) (e : PySem.W.nsIn K mainGlobals n = some (some (.str x t))) : KStr mg n x := ⟨t, PySem.W.mg_of X G e⟩
/-- the law's call, where the promise is kept over any base; what is loose at the top is handed on -/
theorem walkX {l : PySem.W.OpenLaw} {k : Nat} {q : Program} {loose : List Str} {XP : (Str → Option Value) → Heap → Prop} {YP : World → Heap → Prop} {d : DefRec} {K : Params → PySem.W.Frag} {sp : PySem.W.Frag → Sp}
    (hn : l.most = some 63) (hdf : d.params.defaults = []) (hr : Room k callerA) (hY : ∀ (w : World) (h : Heap), YP w h → (K w.params).In h)
    (F : ∀ (w : World) (mg : Str → Option Value) (fa : Addr) (h : Heap), (K w.params).In h → h.Ns mainGlobals mg → XP mg h → mg d.name = some (.ref fa) →
      ∃ fd : FuncData, (∀ (s : Shared) (u : Value), BindsTo s fd ⟨[u], []⟩ [("script", u)]) ∧ ∀ base : Heap, (K w.params).In base → base.Ns mainGlobals mg → FnOk l.prog w (K w.params) mg base (L2.CX l.prog w) k fa fd ["script"] (sp (K w.params)))
    (hsp : ∀ (K : PySem.W.Frag) (H : Hp) (a : Addr) (ns : List Int), ns.length ≤ 63 → SqL K H a (ns.map V.int) → sp K [.ref a] H (fun v _ => v = .bl true) fun _ _ _ => False) :
    PySem.W.WalkO q loose XP YP l.row.toRowW d [] (fun f vs => PySem.call f vs) :=
  Att.attach_call hn hdf fun w s₀ s₁ mg mb fa o pm cd doc a vs ns G Y ho hd hcd hmg hobj hints hlen hg => by
    have KX := hY w _ Y
    obtain ⟨fd, hb, hF⟩ := F w mg fa _ KX G.T.g G.X hmg
    refine law_call KX G.T.g G.T.b G.T.builtins G.T.nolimit hg hobj hints ?_ hr hF hb (fun H _ hS => hsp _ H a ns hlen hS) fun H e s' hc => ?_
    · have := cap_line; unfold cap at this; omega
    · obtain ⟨_, _, _, _, _, _, _, _, _, _, _, _, z⟩ := hc
      exact z.elim
end Sk

namespace Sk
open PySem PySem.Spec PyProof.Rows L2
/-! one step of the walk: what has just one way -/
local macro_rules | `(tactic| walk_at "go1") => `(tactic| first
  | (with_reducible refine w_varx ?_; refine ⟨_, rfl, ?_⟩)
  | with_reducible refine w_op ?_
  | with_reducible refine w_c ?_
  | with_reducible refine w_rI0 ?_
  | with_reducible refine w_eqI ?_
  | with_reducible refine w_neI ?_
  | with_reducible refine w_bl ?_
  | with_reducible refine w_test ?_
  | with_reducible refine w_tB ?_
  | with_reducible refine w_tNot ?_
  | with_reducible refine w_tAnd ?_
  | with_reducible refine w_tOr ?_
  | with_reducible refine w_tIf ?_
  | with_reducible refine w_ret ?_
  | with_reducible refine w_drop ?_
  | with_reducible refine w_ifS ?_
  | with_reducible refine w_asg ?_
  | with_reducible refine w_nil ?_
  | with_reducible refine w_cons ?_
  | with_reducible refine w_call ?_
  | with_reducible refine w_cb ?_
  | with_reducible refine w_bm ?_
  | with_reducible refine w_bm0 ?_
  | with_reducible refine w_meth ?_
  | with_reducible refine w_fld ?_
  | with_reducible refine w_make ?_
  | with_reducible refine w_lst ?_
  | with_reducible refine w_tup ?_
  | with_reducible refine w_for ?_
  | with_reducible refine w_rng3 ?_
  | with_reducible refine w_rng1 ?_
  | with_reducible refine w_sl ?_
  | with_reducible refine w_part ?_
  | with_reducible refine w_nop ?_
  | with_reducible refine w_rng2 ?_
  | with_reducible refine w_ilist ?_
  | with_reducible refine w_istr ?_
  | with_reducible refine w_lc ?_
  | with_reducible refine w_chain ?_)
local macro_rules | `(tactic| walk_at "go") => `(tactic| repeat (walk_at "go1"))
local macro_rules | `(tactic| walk_at "st") => `(tactic| (with_reducible refine w_seq ?_; repeat (walk_at "go1")))
local macro_rules | `(tactic| walk_at "nx") => `(tactic| first | (with_reducible refine w_gname ?_; try dsimp only) | dsimp only)
local macro_rules | `(tactic| walk_at "sk") => `(tactic| (with_reducible refine w_next ?_; dsimp only))
/-! the same, methods of shelves too -/
local macro_rules | `(tactic| walk_at "w1") => `(tactic| first
  | walk_at "go1"
  | with_reducible refine w_sm (by assumption) (by decide +kernel) ?_
  | with_reducible refine w_callS ?_
  | with_reducible refine w_lrg3 ?_
  | with_reducible refine w_chain3 ?_
  | with_reducible refine w_revL ?_
  | with_reducible refine w_un ?_
  | with_reducible refine w_rU ?_
  | with_reducible refine w_eqS ?_
  | with_reducible refine w_neS ?_)
local macro_rules | `(tactic| walk_at "w") => `(tactic| repeat (walk_at "w1"))
local macro_rules | `(tactic| walk_at "s") => `(tactic| (with_reducible refine w_seq ?_; repeat (walk_at "w1")))
/-! more of the same -/
local macro_rules | `(tactic| walk_at "W1") => `(tactic| first
  | walk_at "w1"
  | (with_reducible refine w_zip ?_)
  | (with_reducible refine w_enum ?_)
  | (with_reducible refine w_rev ?_)
  | (with_reducible refine w_m1 ?_)
  | (with_reducible refine w_m0 ?_)
  | (with_reducible refine w_enumS ?_)
  | (with_reducible refine w_tAndV ?_)
  | (with_reducible refine w_tOrV ?_)
  | (with_reducible refine w_tNotV ?_))
local macro_rules | `(tactic| walk_at "W") => `(tactic| repeat (walk_at "W1"))
local macro_rules | `(tactic| walk_at "S") => `(tactic| (with_reducible refine w_seq ?_; repeat (walk_at "W1")))
def top (i : Nat) : Stmt := PySem.Challenge.pw_skeinwood_k87_shelves_read.main.body.getD i (.Pass ⟨0, 0, 0, 0⟩)
abbrev s_is_plain : Stmt := top 9
abbrev s_ends_in : Stmt := top 10
abbrev s_Shelf___init__ : Stmt := inClass (top 14) 0
abbrev s_Shelf_want : Stmt := inClass (top 14) 1
abbrev s_Shelf_want_piece : Stmt := inClass (top 14) 2
abbrev s_Shelf_many : Stmt := inClass (top 14) 3
abbrev s_Shelf_piece : Stmt := inClass (top 14) 4
abbrev s_Shelf_signs : Stmt := inClass (top 14) 5
abbrev s_Shelf_ends : Stmt := inClass (top 14) 6
abbrev s_Shelf_leaves : Stmt := inClass (top 14) 7
abbrev s_Shelf_height : Stmt := inClass (top 14) 8
abbrev s_Shelf_first_leaf : Stmt := inClass (top 14) 9
abbrev s_Shelf_last_leaf : Stmt := inClass (top 14) 10
abbrev s_Shelf_laid : Stmt := inClass (top 14) 11
abbrev s_Shelf_leaf : Stmt := inClass (top 14) 12
abbrev s_Shelf_fork : Stmt := inClass (top 14) 13
abbrev s_Shelf_is_loose : Stmt := inClass (top 14) 14
abbrev s_written : Stmt := top 18
abbrev s_read_written : Stmt := top 19
abbrev s_number_in : Stmt := top 20
abbrev s_piece_row : Stmt := top 21
abbrev s_shelf_text : Stmt := top 22
abbrev s_laid_by : Stmt := top 23
abbrev s_lies_anew : Stmt := top 24
abbrev s_read_shelf : Stmt := top 25
abbrev s_built_of : Stmt := top 28
abbrev s_built : Stmt := top 29
abbrev s__law_mixed : Stmt := top 31
abbrev s__law_stream : Stmt := top 32
abbrev s__law_digit : Stmt := top 33
abbrev s__law_letters : Stmt := top 34
abbrev s__law_tree : Stmt := top 35
abbrev s__law_text : Stmt := top 36
abbrev s__law_long : Stmt := top 37
abbrev s__law_drawn_shelf : Stmt := top 38
abbrev s__law_written : Stmt := top 39
abbrev s__law_shelf_text : Stmt := top 40
abbrev s__law_same : Stmt := top 41
abbrev s__law_other_order : Stmt := top 42
abbrev s_law : Stmt := top 43
abbrev p_is_plain : List Str := ["thing"]
abbrev p_ends_in : List Str := ["plain"]
abbrev p_Shelf___init__ : List Str := ["self"]
abbrev p_Shelf_want : List Str := ["self", "text"]
abbrev p_Shelf_want_piece : List Str := ["self", "number"]
abbrev p_Shelf_many : List Str := ["self"]
abbrev p_Shelf_piece : List Str := ["self", "number"]
abbrev p_Shelf_signs : List Str := ["self", "text"]
abbrev p_Shelf_ends : List Str := ["self", "text"]
abbrev p_Shelf_leaves : List Str := ["self", "text"]
abbrev p_Shelf_height : List Str := ["self", "text"]
abbrev p_Shelf_first_leaf : List Str := ["self", "text"]
abbrev p_Shelf_last_leaf : List Str := ["self", "text"]
abbrev p_Shelf_laid : List Str := ["self", "piece", "signs", "ends", "leaves", "height"]
abbrev p_Shelf_leaf : List Str := ["self", "plain"]
abbrev p_Shelf_fork : List Str := ["self", "one", "other"]
abbrev p_Shelf_is_loose : List Str := ["self", "one", "other"]
abbrev p_written : List Str := ["plain"]
abbrev p_read_written : List Str := ["word"]
abbrev p_number_in : List Str := ["word"]
abbrev p_piece_row : List Str := ["piece"]
abbrev p_shelf_text : List Str := ["shelf"]
abbrev p_laid_by : List Str := ["shelf", "row"]
abbrev p_lies_anew : List Str := ["shelf", "row"]
abbrev p_read_shelf : List Str := ["plain"]
abbrev p_built_of : List Str := ["shelf", "leaves"]
abbrev p_built : List Str := ["shelf", "plain"]
abbrev p__law_mixed : List Str := ["cell", "k"]
abbrev p__law_stream : List Str := ["script", "k"]
abbrev p__law_digit : List Str := ["row", "many"]
abbrev p__law_letters : List Str := ["row"]
abbrev p__law_tree : List Str := ["shelf", "row", "letters", "height", "last"]
abbrev p__law_text : List Str := ["shelf", "row", "most"]
abbrev p__law_long : List Str := ["shelf", "row"]
abbrev p__law_drawn_shelf : List Str := ["script"]
abbrev p__law_written : List Str := ["plain"]
abbrev p__law_shelf_text : List Str := ["shelf"]
abbrev p__law_same : List Str := ["one", "other"]
abbrev p__law_other_order : List Str := ["shelf"]
abbrev p_law : List Str := ["script"]
structure Ad where
  C_Shelf : Addr
  C_Loose : Addr
  C_NoPiece : Addr
  C_NoText : Addr
  C_TooLong : Addr
  C_Unlevel : Addr
  f_is_plain : Addr
  d_is_plain : FuncData
  f_ends_in : Addr
  d_ends_in : FuncData
  f_Shelf___init__ : Addr
  d_Shelf___init__ : FuncData
  f_Shelf_want : Addr
  d_Shelf_want : FuncData
  f_Shelf_want_piece : Addr
  d_Shelf_want_piece : FuncData
  f_Shelf_many : Addr
  d_Shelf_many : FuncData
  f_Shelf_piece : Addr
  d_Shelf_piece : FuncData
  f_Shelf_signs : Addr
  d_Shelf_signs : FuncData
  f_Shelf_ends : Addr
  d_Shelf_ends : FuncData
  f_Shelf_leaves : Addr
  d_Shelf_leaves : FuncData
  f_Shelf_height : Addr
  d_Shelf_height : FuncData
  f_Shelf_first_leaf : Addr
  d_Shelf_first_leaf : FuncData
  f_Shelf_last_leaf : Addr
  d_Shelf_last_leaf : FuncData
  f_Shelf_laid : Addr
  d_Shelf_laid : FuncData
  f_Shelf_leaf : Addr
  d_Shelf_leaf : FuncData
  f_Shelf_fork : Addr
  d_Shelf_fork : FuncData
  f_Shelf_is_loose : Addr
  d_Shelf_is_loose : FuncData
  f_written : Addr
  d_written : FuncData
  f_read_written : Addr
  d_read_written : FuncData
  f_number_in : Addr
  d_number_in : FuncData
  f_piece_row : Addr
  d_piece_row : FuncData
  f_shelf_text : Addr
  d_shelf_text : FuncData
  f_laid_by : Addr
  d_laid_by : FuncData
  f_lies_anew : Addr
  d_lies_anew : FuncData
  f_read_shelf : Addr
  d_read_shelf : FuncData
  f_built_of : Addr
  d_built_of : FuncData
  f_built : Addr
  d_built : FuncData
  f__law_mixed : Addr
  d__law_mixed : FuncData
  f__law_stream : Addr
  d__law_stream : FuncData
  f__law_digit : Addr
  d__law_digit : FuncData
  f__law_letters : Addr
  d__law_letters : FuncData
  f__law_tree : Addr
  d__law_tree : FuncData
  f__law_text : Addr
  d__law_text : FuncData
  f__law_long : Addr
  d__law_long : FuncData
  f__law_drawn_shelf : Addr
  d__law_drawn_shelf : FuncData
  f__law_written : Addr
  d__law_written : FuncData
  f__law_shelf_text : Addr
  d__law_shelf_text : FuncData
  f__law_same : Addr
  d__law_same : FuncData
  f__law_other_order : Addr
  d__law_other_order : FuncData
  f_law : Addr
  d_law : FuncData
structure Txt (K : PySem.W.Frag) (mg : Str → Option Value) (A : Ad) : Prop where
  cl_Shelf : Cls K A.C_Shelf
  mg_Shelf : mg "Shelf" = some (.ref A.C_Shelf)
  na_Shelf_pieces : NoAttr K A.C_Shelf "pieces"
  na_Shelf_numbers : NoAttr K A.C_Shelf "numbers"
  na_Shelf_told_signs : NoAttr K A.C_Shelf "told_signs"
  na_Shelf_told_ends : NoAttr K A.C_Shelf "told_ends"
  na_Shelf_told_leaves : NoAttr K A.C_Shelf "told_leaves"
  na_Shelf_told_heights : NoAttr K A.C_Shelf "told_heights"
  na_Shelf_firsts : NoAttr K A.C_Shelf "firsts"
  na_Shelf_lasts : NoAttr K A.C_Shelf "lasts"
  mk_Shelf : Mk K A.C_Shelf A.f_Shelf___init__
  ex_Loose : ExTx K mg "Loose" A.C_Loose
  ex_NoPiece : ExTx K mg "NoPiece" A.C_NoPiece
  ex_NoText : ExTx K mg "NoText" A.C_NoText
  ex_TooLong : ExTx K mg "TooLong" A.C_TooLong
  ex_Unlevel : ExTx K mg "Unlevel" A.C_Unlevel
  ic_Shelf : InsC K A.C_Shelf
  hx_NoText : PySem.W.hasDictIn K A.C_NoText = true
  hx_NoPiece : PySem.W.hasDictIn K A.C_NoPiece = true
  hx_Loose : PySem.W.hasDictIn K A.C_Loose = true
  hx_Unlevel : PySem.W.hasDictIn K A.C_Unlevel = true
  hx_TooLong : PySem.W.hasDictIn K A.C_TooLong = true
  sb_NoPiece_NoText : PySem.W.subIn K (.ref A.C_NoPiece) (.ref A.C_NoText) = some false
  sb_NoPiece_NoPiece : PySem.W.subIn K (.ref A.C_NoPiece) (.ref A.C_NoPiece) = some true
  sb_NoPiece_Loose : PySem.W.subIn K (.ref A.C_NoPiece) (.ref A.C_Loose) = some false
  sb_NoPiece_Unlevel : PySem.W.subIn K (.ref A.C_NoPiece) (.ref A.C_Unlevel) = some false
  sb_NoPiece_TooLong : PySem.W.subIn K (.ref A.C_NoPiece) (.ref A.C_TooLong) = some false
  sb_NoText_NoText : PySem.W.subIn K (.ref A.C_NoText) (.ref A.C_NoText) = some true
  sb_NoText_NoPiece : PySem.W.subIn K (.ref A.C_NoText) (.ref A.C_NoPiece) = some false
  sb_NoText_Loose : PySem.W.subIn K (.ref A.C_NoText) (.ref A.C_Loose) = some false
  sb_NoText_Unlevel : PySem.W.subIn K (.ref A.C_NoText) (.ref A.C_Unlevel) = some false
  sb_NoText_TooLong : PySem.W.subIn K (.ref A.C_NoText) (.ref A.C_TooLong) = some false
  sb_Loose_NoText : PySem.W.subIn K (.ref A.C_Loose) (.ref A.C_NoText) = some false
  sb_Loose_NoPiece : PySem.W.subIn K (.ref A.C_Loose) (.ref A.C_NoPiece) = some false
  sb_Loose_Loose : PySem.W.subIn K (.ref A.C_Loose) (.ref A.C_Loose) = some true
  sb_Loose_Unlevel : PySem.W.subIn K (.ref A.C_Loose) (.ref A.C_Unlevel) = some false
  sb_Loose_TooLong : PySem.W.subIn K (.ref A.C_Loose) (.ref A.C_TooLong) = some false
  sb_Unlevel_NoText : PySem.W.subIn K (.ref A.C_Unlevel) (.ref A.C_NoText) = some false
  sb_Unlevel_NoPiece : PySem.W.subIn K (.ref A.C_Unlevel) (.ref A.C_NoPiece) = some false
  sb_Unlevel_Loose : PySem.W.subIn K (.ref A.C_Unlevel) (.ref A.C_Loose) = some false
  sb_Unlevel_Unlevel : PySem.W.subIn K (.ref A.C_Unlevel) (.ref A.C_Unlevel) = some true
  sb_Unlevel_TooLong : PySem.W.subIn K (.ref A.C_Unlevel) (.ref A.C_TooLong) = some false
  sb_TooLong_NoText : PySem.W.subIn K (.ref A.C_TooLong) (.ref A.C_NoText) = some false
  sb_TooLong_NoPiece : PySem.W.subIn K (.ref A.C_TooLong) (.ref A.C_NoPiece) = some false
  sb_TooLong_Loose : PySem.W.subIn K (.ref A.C_TooLong) (.ref A.C_Loose) = some false
  sb_TooLong_Unlevel : PySem.W.subIn K (.ref A.C_TooLong) (.ref A.C_Unlevel) = some false
  sb_TooLong_TooLong : PySem.W.subIn K (.ref A.C_TooLong) (.ref A.C_TooLong) = some true
  fn_is_plain : Fun K "is_plain" "is_plain" s_is_plain A.f_is_plain A.d_is_plain
  bi_is_plain : Binds K A.d_is_plain p_is_plain []
  mg_is_plain : mg "is_plain" = some (.ref A.f_is_plain)
  fn_ends_in : Fun K "ends_in" "ends_in" s_ends_in A.f_ends_in A.d_ends_in
  bi_ends_in : Binds K A.d_ends_in p_ends_in []
  mg_ends_in : mg "ends_in" = some (.ref A.f_ends_in)
  fn_Shelf___init__ : Fun K "__init__" "Shelf.__init__" s_Shelf___init__ A.f_Shelf___init__ A.d_Shelf___init__
  bi_Shelf___init__ : Binds K A.d_Shelf___init__ p_Shelf___init__ []
  fn_Shelf_want : Fun K "want" "Shelf.want" s_Shelf_want A.f_Shelf_want A.d_Shelf_want
  bi_Shelf_want : Binds K A.d_Shelf_want p_Shelf_want []
  me_Shelf_want : Meth K A.C_Shelf "want" A.f_Shelf_want
  fn_Shelf_want_piece : Fun K "want_piece" "Shelf.want_piece" s_Shelf_want_piece A.f_Shelf_want_piece A.d_Shelf_want_piece
  bi_Shelf_want_piece : Binds K A.d_Shelf_want_piece p_Shelf_want_piece []
  me_Shelf_want_piece : Meth K A.C_Shelf "want_piece" A.f_Shelf_want_piece
  fn_Shelf_many : Fun K "many" "Shelf.many" s_Shelf_many A.f_Shelf_many A.d_Shelf_many
  bi_Shelf_many : Binds K A.d_Shelf_many p_Shelf_many []
  me_Shelf_many : Meth K A.C_Shelf "many" A.f_Shelf_many
  fn_Shelf_piece : Fun K "piece" "Shelf.piece" s_Shelf_piece A.f_Shelf_piece A.d_Shelf_piece
  bi_Shelf_piece : Binds K A.d_Shelf_piece p_Shelf_piece []
  me_Shelf_piece : Meth K A.C_Shelf "piece" A.f_Shelf_piece
  fn_Shelf_signs : Fun K "signs" "Shelf.signs" s_Shelf_signs A.f_Shelf_signs A.d_Shelf_signs
  bi_Shelf_signs : Binds K A.d_Shelf_signs p_Shelf_signs []
  me_Shelf_signs : Meth K A.C_Shelf "signs" A.f_Shelf_signs
  fn_Shelf_ends : Fun K "ends" "Shelf.ends" s_Shelf_ends A.f_Shelf_ends A.d_Shelf_ends
  bi_Shelf_ends : Binds K A.d_Shelf_ends p_Shelf_ends []
  me_Shelf_ends : Meth K A.C_Shelf "ends" A.f_Shelf_ends
  fn_Shelf_leaves : Fun K "leaves" "Shelf.leaves" s_Shelf_leaves A.f_Shelf_leaves A.d_Shelf_leaves
  bi_Shelf_leaves : Binds K A.d_Shelf_leaves p_Shelf_leaves []
  me_Shelf_leaves : Meth K A.C_Shelf "leaves" A.f_Shelf_leaves
  fn_Shelf_height : Fun K "height" "Shelf.height" s_Shelf_height A.f_Shelf_height A.d_Shelf_height
  bi_Shelf_height : Binds K A.d_Shelf_height p_Shelf_height []
  me_Shelf_height : Meth K A.C_Shelf "height" A.f_Shelf_height
  fn_Shelf_first_leaf : Fun K "first_leaf" "Shelf.first_leaf" s_Shelf_first_leaf A.f_Shelf_first_leaf A.d_Shelf_first_leaf
  bi_Shelf_first_leaf : Binds K A.d_Shelf_first_leaf p_Shelf_first_leaf []
  me_Shelf_first_leaf : Meth K A.C_Shelf "first_leaf" A.f_Shelf_first_leaf
  fn_Shelf_last_leaf : Fun K "last_leaf" "Shelf.last_leaf" s_Shelf_last_leaf A.f_Shelf_last_leaf A.d_Shelf_last_leaf
  bi_Shelf_last_leaf : Binds K A.d_Shelf_last_leaf p_Shelf_last_leaf []
  me_Shelf_last_leaf : Meth K A.C_Shelf "last_leaf" A.f_Shelf_last_leaf
  fn_Shelf_laid : Fun K "laid" "Shelf.laid" s_Shelf_laid A.f_Shelf_laid A.d_Shelf_laid
  bi_Shelf_laid : Binds K A.d_Shelf_laid p_Shelf_laid []
  me_Shelf_laid : Meth K A.C_Shelf "laid" A.f_Shelf_laid
  fn_Shelf_leaf : Fun K "leaf" "Shelf.leaf" s_Shelf_leaf A.f_Shelf_leaf A.d_Shelf_leaf
  bi_Shelf_leaf : Binds K A.d_Shelf_leaf p_Shelf_leaf []
  me_Shelf_leaf : Meth K A.C_Shelf "leaf" A.f_Shelf_leaf
  fn_Shelf_fork : Fun K "fork" "Shelf.fork" s_Shelf_fork A.f_Shelf_fork A.d_Shelf_fork
  bi_Shelf_fork : Binds K A.d_Shelf_fork p_Shelf_fork []
  me_Shelf_fork : Meth K A.C_Shelf "fork" A.f_Shelf_fork
  fn_Shelf_is_loose : Fun K "is_loose" "Shelf.is_loose" s_Shelf_is_loose A.f_Shelf_is_loose A.d_Shelf_is_loose
  bi_Shelf_is_loose : Binds K A.d_Shelf_is_loose p_Shelf_is_loose []
  me_Shelf_is_loose : Meth K A.C_Shelf "is_loose" A.f_Shelf_is_loose
  fn_written : Fun K "written" "written" s_written A.f_written A.d_written
  bi_written : Binds K A.d_written p_written []
  mg_written : mg "written" = some (.ref A.f_written)
  fn_read_written : Fun K "read_written" "read_written" s_read_written A.f_read_written A.d_read_written
  bi_read_written : Binds K A.d_read_written p_read_written []
  mg_read_written : mg "read_written" = some (.ref A.f_read_written)
  fn_number_in : Fun K "number_in" "number_in" s_number_in A.f_number_in A.d_number_in
  bi_number_in : Binds K A.d_number_in p_number_in []
  mg_number_in : mg "number_in" = some (.ref A.f_number_in)
  fn_piece_row : Fun K "piece_row" "piece_row" s_piece_row A.f_piece_row A.d_piece_row
  bi_piece_row : Binds K A.d_piece_row p_piece_row []
  mg_piece_row : mg "piece_row" = some (.ref A.f_piece_row)
  fn_shelf_text : Fun K "shelf_text" "shelf_text" s_shelf_text A.f_shelf_text A.d_shelf_text
  bi_shelf_text : Binds K A.d_shelf_text p_shelf_text []
  mg_shelf_text : mg "shelf_text" = some (.ref A.f_shelf_text)
  fn_laid_by : Fun K "laid_by" "laid_by" s_laid_by A.f_laid_by A.d_laid_by
  bi_laid_by : Binds K A.d_laid_by p_laid_by []
  mg_laid_by : mg "laid_by" = some (.ref A.f_laid_by)
  fn_lies_anew : Fun K "lies_anew" "lies_anew" s_lies_anew A.f_lies_anew A.d_lies_anew
  bi_lies_anew : Binds K A.d_lies_anew p_lies_anew []
  mg_lies_anew : mg "lies_anew" = some (.ref A.f_lies_anew)
  fn_read_shelf : Fun K "read_shelf" "read_shelf" s_read_shelf A.f_read_shelf A.d_read_shelf
  bi_read_shelf : Binds K A.d_read_shelf p_read_shelf []
  mg_read_shelf : mg "read_shelf" = some (.ref A.f_read_shelf)
  fn_built_of : Fun K "built_of" "built_of" s_built_of A.f_built_of A.d_built_of
  bi_built_of : Binds K A.d_built_of p_built_of []
  mg_built_of : mg "built_of" = some (.ref A.f_built_of)
  fn_built : Fun K "built" "built" s_built A.f_built A.d_built
  bi_built : Binds K A.d_built p_built []
  mg_built : mg "built" = some (.ref A.f_built)
  fn__law_mixed : Fun K "_law_mixed" "_law_mixed" s__law_mixed A.f__law_mixed A.d__law_mixed
  bi__law_mixed : Binds K A.d__law_mixed p__law_mixed []
  mg__law_mixed : mg "_law_mixed" = some (.ref A.f__law_mixed)
  fn__law_stream : Fun K "_law_stream" "_law_stream" s__law_stream A.f__law_stream A.d__law_stream
  bi__law_stream : Binds K A.d__law_stream p__law_stream []
  mg__law_stream : mg "_law_stream" = some (.ref A.f__law_stream)
  fn__law_digit : Fun K "_law_digit" "_law_digit" s__law_digit A.f__law_digit A.d__law_digit
  bi__law_digit : Binds K A.d__law_digit p__law_digit []
  mg__law_digit : mg "_law_digit" = some (.ref A.f__law_digit)
  fn__law_letters : Fun K "_law_letters" "_law_letters" s__law_letters A.f__law_letters A.d__law_letters
  bi__law_letters : Binds K A.d__law_letters p__law_letters []
  mg__law_letters : mg "_law_letters" = some (.ref A.f__law_letters)
  fn__law_tree : Fun K "_law_tree" "_law_tree" s__law_tree A.f__law_tree A.d__law_tree
  bi__law_tree : Binds K A.d__law_tree p__law_tree []
  mg__law_tree : mg "_law_tree" = some (.ref A.f__law_tree)
  fn__law_text : Fun K "_law_text" "_law_text" s__law_text A.f__law_text A.d__law_text
  bi__law_text : Binds K A.d__law_text p__law_text []
  mg__law_text : mg "_law_text" = some (.ref A.f__law_text)
  fn__law_long : Fun K "_law_long" "_law_long" s__law_long A.f__law_long A.d__law_long
  bi__law_long : Binds K A.d__law_long p__law_long []
  mg__law_long : mg "_law_long" = some (.ref A.f__law_long)
  fn__law_drawn_shelf : Fun K "_law_drawn_shelf" "_law_drawn_shelf" s__law_drawn_shelf A.f__law_drawn_shelf A.d__law_drawn_shelf
  bi__law_drawn_shelf : Binds K A.d__law_drawn_shelf p__law_drawn_shelf []
  mg__law_drawn_shelf : mg "_law_drawn_shelf" = some (.ref A.f__law_drawn_shelf)
  fn__law_written : Fun K "_law_written" "_law_written" s__law_written A.f__law_written A.d__law_written
  bi__law_written : Binds K A.d__law_written p__law_written []
  mg__law_written : mg "_law_written" = some (.ref A.f__law_written)
  fn__law_shelf_text : Fun K "_law_shelf_text" "_law_shelf_text" s__law_shelf_text A.f__law_shelf_text A.d__law_shelf_text
  bi__law_shelf_text : Binds K A.d__law_shelf_text p__law_shelf_text []
  mg__law_shelf_text : mg "_law_shelf_text" = some (.ref A.f__law_shelf_text)
  fn__law_same : Fun K "_law_same" "_law_same" s__law_same A.f__law_same A.d__law_same
  bi__law_same : Binds K A.d__law_same p__law_same []
  mg__law_same : mg "_law_same" = some (.ref A.f__law_same)
  fn__law_other_order : Fun K "_law_other_order" "_law_other_order" s__law_other_order A.f__law_other_order A.d__law_other_order
  bi__law_other_order : Binds K A.d__law_other_order p__law_other_order []
  mg__law_other_order : mg "_law_other_order" = some (.ref A.f__law_other_order)
  fn_law : Fun K "law" "law" s_law A.f_law A.d_law
  bi_law : Binds K A.d_law p_law []
  mg_law : mg "law" = some (.ref A.f_law)
  k_MOST_IN_LEAF : KInt mg "MOST_IN_LEAF" 8
  k_MOST_SIGNS : KInt mg "MOST_SIGNS" 1000000000000000000
  k_FIGURES : KStr mg "FIGURES" "0123456789"
  k_MOST_FIGURES : KInt mg "MOST_FIGURES" 30
  k_MOST_WRITTEN : KInt mg "MOST_WRITTEN" 10000
  z_len : mg "len" = none
  z_max : mg "max" = none
  z_min : mg "min" = none
  z_range : mg "range" = none
  z_isinstance : mg "isinstance" = none
  z_all : mg "all" = none
  z_sum : mg "sum" = none
  z_str : mg "str" = none
  z_int : mg "int" = none
  z_enumerate : mg "enumerate" = none
/-! ### Shelf: the promises -/
section
variable {C : Addr}
/-- what is refused by its number -/
def eN (E : XK) (CN : Addr) (H : Hp) : Prop := E (.ref CN) none H
def spGet (C CN : Addr) (f : List Tr → Option Tr → V) : Sp := fun vs H Q E => ∃ c S n, vs = [.ref (Cells.a c), .int n] ∧ ShAt C c H S ∧ ((∃ o, Tx S n o ∧ Q (f S o) H) ∨ (¬ inR S n ∧ E (.ref CN) none H))
def gOne (S : List Tr) : Option Tr → V := fun _ => .non
def gSg (S : List Tr) : Option Tr → V | none => .int 0 | some t => .int t.sg
def gEn (S : List Tr) : Option Tr → V | none => .int 0 | some t => .int t.en
def gLv (S : List Tr) : Option Tr → V | none => .int 0 | some t => .int t.lv
def gHt (S : List Tr) : Option Tr → V | none => .int (-1) | some t => .int t.ht
def gFi (S : List Tr) : Option Tr → V | none => .int 0 | some t => .int (num S t.fi)
def gLa (S : List Tr) : Option Tr → V | none => .int 0 | some t => .int (num S t.la)
theorem c_get {CN : Addr} {f : List Tr → Option Tr → V} {c : Cells} {S : List Tr} {n : Int} {o : Option Tr} {H : Hp} {Q : VK} {E : XK} (s : ShAt C c H S) (h : Tx S n o) (k : Q (f S o) H) : spGet C CN f [.ref c.a, .int n] H Q E :=
  ⟨c, S, n, rfl, s, .inl ⟨o, h, k⟩⟩
theorem c_getN {CN : Addr} {f : List Tr → Option Tr → V} {c : Cells} {S : List Tr} {n : Int} {t : Tr} {H : Hp} {Q : VK} {E : XK} (s : ShAt C c H S) (h : Nm S n t) (k : Q (f S (some t)) H) : spGet C CN f [.ref c.a, .int n] H Q E := c_get s (o := some t) h k
/-- want_piece -/
def spWantP (C CN : Addr) : Sp := fun vs H Q E => ∃ c S n, vs = [.ref (Cells.a c), .int n] ∧ ShAt C c H S ∧ ((∃ t, Nm S n t ∧ Q .non H) ∨ ((∀ t, ¬ Nm S n t) ∧ E (.ref CN) none H))
def spMany (C : Addr) : Sp := fun vs H Q _ => ∃ c S, vs = [.ref (Cells.a c)] ∧ ShAt C c H S ∧ Q (.int S.length) H
def spPiece (C CN : Addr) : Sp := fun vs H Q E => ∃ c S n, vs = [.ref (Cells.a c), .int n] ∧ ShAt C c H S ∧ ((∃ t, Nm S n t ∧ ∀ r, H r = some (.tup (pvals S t)) → Q (.ref r) H) ∨ ((∀ t, ¬ Nm S n t) ∧ E (.ref CN) none H))
theorem c_many {c : Cells} {S : List Tr} {H : Hp} {Q : VK} {E : XK} (s : ShAt C c H S) (k : Q (.int S.length) H) : spMany C [.ref c.a] H Q E := ⟨c, S, rfl, s, k⟩
theorem c_piece {CN : Addr} {c : Cells} {S : List Tr} {n : Int} {t : Tr} {H : Hp} {Q : VK} {E : XK} (s : ShAt C c H S) (h : Nm S n t) (k : ∀ r, H r = some (.tup (pvals S t)) → Q (.ref r) H) : spPiece C CN [.ref c.a, .int n] H Q E := ⟨c, S, n, rfl, s, .inl ⟨t, h, k⟩⟩
theorem c_wantP {CN : Addr} {c : Cells} {S : List Tr} {n : Int} {t : Tr} {H : Hp} {Q : VK} {E : XK} (s : ShAt C c H S) (h : Nm S n t) (k : Q .non H) : spWantP C CN [.ref c.a, .int n] H Q E := ⟨c, S, n, rfl, s, .inl ⟨t, h, k⟩⟩
theorem not_nm {S : List Tr} {n : Int} (h : ∀ t, ¬ Nm S n t) : ¬ (0 < n ∧ n ≤ S.length) := fun z => let ⟨t, x⟩ := Nm.of z.1 z.2; h t x
end
section
variable {P : Program} {w : World} {K : PySem.W.Frag} {mg : Str → Option Value} {base : Heap} {A : Ad}

abbrev n_Shelf_want : List Str := ["self", "text"]
theorem sc_Shelf_want : FnScope n_Shelf_want p_Shelf_want (defScope s_Shelf_want) := ⟨rfl, rfl, rfl, by decide +kernel, rfl, by decide +kernel, by decide +kernel⟩
theorem ok_Shelf_want (T : Txt K mg A) : FnOk P w K mg base (L2.CX P w) 1 A.f_Shelf_want A.d_Shelf_want p_Shelf_want (spGet A.C_Shelf A.C_NoPiece gOne) := by
  refine T.fn_Shelf_want.okX sc_Shelf_want (fun vs H Q E h => ?_) (fun cdv B outer s H vs Q E hr h => ?_)
  · obtain ⟨c, S, n, rfl, _⟩ := h; rfl
  obtain ⟨c, S, n, rfl, hS, h⟩ := h
  refine ⟨_, (pss_one (ps_if (pt_not (pt_chain op_le op_lt pe_int (pv 1) (pe_callB call_len_seq (by rfl) T.z_len bt_len (pa_cons (pe_fld (pv 0) rfl) pa_nil)))) (pss_one (ps_raise0 rfl T.ex_NoPiece (takes_of rfl rfl rfl rfl) rfl)) pss_nil)), ?_⟩
  obtain ⟨rs, p1, p2, _⟩ := hS.pc
  have len : (V.non :: rs.map V.ref).length = S.length + 1 := by simp [p2]
  refine w_ifS (w_tNot (w_test (w_chain (w_c (w_var rfl (w_rI0 ⟨_, rfl, ite_d (fun h0 => ?_) (fun h0 => ?_)⟩))))))
  · refine w_cb (w_cons (w_fld (w_var rfl ⟨c.a, _, _, _, _, rfl, hS.ob, T.cl_Shelf, T.na_Shelf_pieces, fl_pieces c, w_nil ⟨_, _, rfl, .inl (SqL.of p1), w_rI0 ⟨_, rfl, ite_n (fun h1 => ?_) (fun h1 => ?_)⟩⟩⟩)))
    · rcases h with ⟨o, h, _⟩ | ⟨_, h⟩
      · have := Tx.inR h; rw [len] at h1; exact absurd (by have := this.2; omega) h1
      · exact h
    · rcases h with ⟨o, h, k⟩ | ⟨h, _⟩
      · exact k
      · rw [len] at h1; exact absurd ⟨h0, by omega⟩ h
  · refine ⟨_, rfl, iteT ?_⟩
    rcases h with ⟨o, h, _⟩ | ⟨_, h⟩
    · exact absurd (Tx.inR h).1 h0
    · exact h
abbrev n_Shelf_want_piece : List Str := ["self", "number"]
theorem sc_Shelf_want_piece : FnScope n_Shelf_want_piece p_Shelf_want_piece (defScope s_Shelf_want_piece) := ⟨rfl, rfl, rfl, by decide +kernel, rfl, by decide +kernel, by decide +kernel⟩
theorem ok_Shelf_want_piece (T : Txt K mg A) : FnOk P w K mg base (L2.CX P w) 1 A.f_Shelf_want_piece A.d_Shelf_want_piece p_Shelf_want_piece (spWantP A.C_Shelf A.C_NoPiece) := by
  refine T.fn_Shelf_want_piece.okX sc_Shelf_want_piece (fun vs H Q E h => ?_) (fun cdv B outer s H vs Q E hr h => ?_)
  · obtain ⟨c, S, n, rfl, _⟩ := h; rfl
  obtain ⟨c, S, n, rfl, hS, h⟩ := h
  refine ⟨_, (pss_one (ps_if (pt_not (pt_chain op_lt op_lt pe_int (pv 1) (pe_callB call_len_seq (by rfl) T.z_len bt_len (pa_cons (pe_fld (pv 0) rfl) pa_nil)))) (pss_one (ps_raise0 rfl T.ex_NoPiece (takes_of rfl rfl rfl rfl) rfl)) pss_nil)), ?_⟩
  obtain ⟨rs, p1, p2, _⟩ := hS.pc
  have len : (V.non :: rs.map V.ref).length = S.length + 1 := by simp [p2]
  refine w_ifS (w_tNot (w_test (w_chain (w_c (w_var rfl (w_rI0 ⟨_, rfl, ite_d (fun h0 => ?_) (fun h0 => ?_)⟩))))))
  · refine w_cb (w_cons (w_fld (w_var rfl ⟨c.a, _, _, _, _, rfl, hS.ob, T.cl_Shelf, T.na_Shelf_pieces, fl_pieces c, w_nil ⟨_, _, rfl, .inl (SqL.of p1), w_rI0 ⟨_, rfl, ite_n (fun h1 => ?_) (fun h1 => ?_)⟩⟩⟩)))
    · rcases h with ⟨o, h, _⟩ | ⟨_, h⟩
      · have := Nm.pos h; rw [len] at h1; exact absurd (by have := this.2; omega) h1
      · exact h
    · rcases h with ⟨o, h, k⟩ | ⟨h, _⟩
      · exact k
      · rw [len] at h1; exact absurd ⟨h0, by omega⟩ (not_nm h)
  · refine ⟨_, rfl, iteT ?_⟩
    rcases h with ⟨o, h, _⟩ | ⟨_, h⟩
    · exact absurd (Nm.pos h).1 h0
    · exact h

abbrev n_Shelf_many : List Str := ["self"]
theorem sc_Shelf_many : FnScope n_Shelf_many p_Shelf_many (defScope s_Shelf_many) := ⟨rfl, rfl, rfl, by decide +kernel, rfl, by decide +kernel, by decide +kernel⟩
theorem ok_Shelf_many (T : Txt K mg A) : FnOk P w K mg base (L2.CX P w) 1 A.f_Shelf_many A.d_Shelf_many p_Shelf_many (spMany A.C_Shelf) := by
  refine T.fn_Shelf_many.okX sc_Shelf_many (fun vs H Q E h => ?_) (fun cdv B outer s H vs Q E hr h => ?_)
  · obtain ⟨c, S, rfl, _⟩ := h; rfl
  obtain ⟨c, S, rfl, hS, h⟩ := h
  refine ⟨_, (pss_one (ps_ret (pe_op op_sub (pe_callB call_len_seq (by rfl) T.z_len bt_len (pa_cons (pe_fld (pv 0) rfl) pa_nil)) pe_int))), ?_⟩
  obtain ⟨rs, p1, p2, _⟩ := hS.pc
  have len : ((V.non :: rs.map V.ref).length : Int) - 1 = S.length := by simp [p2]
  refine w_ret (w_op (w_cb (w_cons (w_fld (w_var rfl ⟨c.a, _, _, _, _, rfl, hS.ob, T.cl_Shelf, T.na_Shelf_pieces, fl_pieces c, w_nil ⟨_, _, rfl, .inl (SqL.of p1), w_c (w_rI0 ?_)⟩⟩)))))
  rw [len]; exact h
abbrev n_Shelf_piece : List Str := ["self", "number"]
theorem sc_Shelf_piece : FnScope n_Shelf_piece p_Shelf_piece (defScope s_Shelf_piece) := ⟨rfl, rfl, rfl, by decide +kernel, rfl, by decide +kernel, by decide +kernel⟩
theorem ok_Shelf_piece (T : Txt K mg A) : FnOk P w K mg base (L2.CX P w) 2 A.f_Shelf_piece A.d_Shelf_piece p_Shelf_piece (spPiece A.C_Shelf A.C_NoPiece) := by
  refine T.fn_Shelf_piece.okX sc_Shelf_piece (fun vs H Q E h => ?_) (fun cdv B outer s H vs Q E hr h => ?_)
  · obtain ⟨c, S, n, rfl, _⟩ := h; rfl
  obtain ⟨c, S, n, rfl, hS, h⟩ := h
  refine ⟨_, (pss_cons (ps_expr (pe_meth (pv 0) T.cl_Shelf T.me_Shelf_want_piece (ok_Shelf_want_piece T) (hr.mono (by omega)) T.bi_Shelf_want_piece .nil (passes_call (takes_of rfl rfl rfl rfl) (fun _ _ _ _ h => h)) (pa_cons (pv 1) pa_nil)))
      (pss_one (ps_ret (pe_ix ix_list (pe_fld (pv 0) rfl) (pv 1) (fun _ _ => rfl))))), ?_⟩
  refine w_seq (w_drop (w_meth (w_var rfl ⟨c.a, c.dx, _, rfl, hS.ob, fl_no (by decide +kernel), w_cons (w_var rfl (w_nil ?_))⟩)))
  rcases h with ⟨t, h, k⟩ | ⟨h, k⟩
  · refine c_wantP hS h ?_
    obtain ⟨xs, r, p1, _, p3, p4⟩ := piece_at hS h
    exact w_ret (w_op (w_fld (w_var rfl ⟨c.a, _, _, _, _, rfl, hS.ob, T.cl_Shelf, T.na_Shelf_pieces, fl_pieces c, w_var rfl (w_ixl (SqL.of p1) p3 (k r p4))⟩)))
  · exact ⟨c, S, n, rfl, hS, .inr ⟨h, k⟩⟩
abbrev n_Shelf_signs : List Str := ["self", "text"]
theorem sc_Shelf_signs : FnScope n_Shelf_signs p_Shelf_signs (defScope s_Shelf_signs) := ⟨rfl, rfl, rfl, by decide +kernel, rfl, by decide +kernel, by decide +kernel⟩
theorem ok_Shelf_signs (T : Txt K mg A) : FnOk P w K mg base (L2.CX P w) 2 A.f_Shelf_signs A.d_Shelf_signs p_Shelf_signs (spGet A.C_Shelf A.C_NoPiece gSg) := by
  refine T.fn_Shelf_signs.okX sc_Shelf_signs (fun vs H Q E h => ?_) (fun cdv B outer s H vs Q E hr h => ?_)
  · obtain ⟨c, S, n, rfl, _⟩ := h; rfl
  obtain ⟨c, S, n, rfl, hS, h⟩ := h
  refine ⟨_, (pss_cons (ps_expr (pe_meth (pv 0) T.cl_Shelf T.me_Shelf_want (ok_Shelf_want T) (hr.mono (by omega)) T.bi_Shelf_want .nil (passes_call (takes_of rfl rfl rfl rfl) (fun _ _ _ _ h => h)) (pa_cons (pv 1) pa_nil)))
      (pss_one (ps_ret (pe_ix ix_list (pe_fld (pv 0) rfl) (pv 1) (fun _ _ => rfl))))), ?_⟩
  refine w_seq (w_drop (w_meth (w_var rfl ⟨c.a, c.dx, _, rfl, hS.ob, fl_no (by decide +kernel), w_cons (w_var rfl (w_nil ?_))⟩)))
  rcases h with ⟨o, h, k⟩ | ⟨h, k⟩
  · refine c_get hS h ?_
    refine w_ret (w_op (w_fld (w_var rfl ⟨c.a, _, _, _, _, rfl, hS.ob, T.cl_Shelf, T.na_Shelf_told_signs, fl_signs c, w_var rfl (w_ixl (SqL.of hS.sg) (atI_tx h) ?_)⟩)))
    cases o <;> exact k
  · exact ⟨c, S, n, rfl, hS, .inr ⟨h, k⟩⟩
abbrev n_Shelf_ends : List Str := ["self", "text"]
theorem sc_Shelf_ends : FnScope n_Shelf_ends p_Shelf_ends (defScope s_Shelf_ends) := ⟨rfl, rfl, rfl, by decide +kernel, rfl, by decide +kernel, by decide +kernel⟩
theorem ok_Shelf_ends (T : Txt K mg A) : FnOk P w K mg base (L2.CX P w) 2 A.f_Shelf_ends A.d_Shelf_ends p_Shelf_ends (spGet A.C_Shelf A.C_NoPiece gEn) := by
  refine T.fn_Shelf_ends.okX sc_Shelf_ends (fun vs H Q E h => ?_) (fun cdv B outer s H vs Q E hr h => ?_)
  · obtain ⟨c, S, n, rfl, _⟩ := h; rfl
  obtain ⟨c, S, n, rfl, hS, h⟩ := h
  refine ⟨_, (pss_cons (ps_expr (pe_meth (pv 0) T.cl_Shelf T.me_Shelf_want (ok_Shelf_want T) (hr.mono (by omega)) T.bi_Shelf_want .nil (passes_call (takes_of rfl rfl rfl rfl) (fun _ _ _ _ h => h)) (pa_cons (pv 1) pa_nil)))
      (pss_one (ps_ret (pe_ix ix_list (pe_fld (pv 0) rfl) (pv 1) (fun _ _ => rfl))))), ?_⟩
  refine w_seq (w_drop (w_meth (w_var rfl ⟨c.a, c.dx, _, rfl, hS.ob, fl_no (by decide +kernel), w_cons (w_var rfl (w_nil ?_))⟩)))
  rcases h with ⟨o, h, k⟩ | ⟨h, k⟩
  · refine c_get hS h ?_
    refine w_ret (w_op (w_fld (w_var rfl ⟨c.a, _, _, _, _, rfl, hS.ob, T.cl_Shelf, T.na_Shelf_told_ends, fl_ends c, w_var rfl (w_ixl (SqL.of hS.en) (atI_tx h) ?_)⟩)))
    cases o <;> exact k
  · exact ⟨c, S, n, rfl, hS, .inr ⟨h, k⟩⟩
abbrev n_Shelf_leaves : List Str := ["self", "text"]
theorem sc_Shelf_leaves : FnScope n_Shelf_leaves p_Shelf_leaves (defScope s_Shelf_leaves) := ⟨rfl, rfl, rfl, by decide +kernel, rfl, by decide +kernel, by decide +kernel⟩
theorem ok_Shelf_leaves (T : Txt K mg A) : FnOk P w K mg base (L2.CX P w) 2 A.f_Shelf_leaves A.d_Shelf_leaves p_Shelf_leaves (spGet A.C_Shelf A.C_NoPiece gLv) := by
  refine T.fn_Shelf_leaves.okX sc_Shelf_leaves (fun vs H Q E h => ?_) (fun cdv B outer s H vs Q E hr h => ?_)
  · obtain ⟨c, S, n, rfl, _⟩ := h; rfl
  obtain ⟨c, S, n, rfl, hS, h⟩ := h
  refine ⟨_, (pss_cons (ps_expr (pe_meth (pv 0) T.cl_Shelf T.me_Shelf_want (ok_Shelf_want T) (hr.mono (by omega)) T.bi_Shelf_want .nil (passes_call (takes_of rfl rfl rfl rfl) (fun _ _ _ _ h => h)) (pa_cons (pv 1) pa_nil)))
      (pss_one (ps_ret (pe_ix ix_list (pe_fld (pv 0) rfl) (pv 1) (fun _ _ => rfl))))), ?_⟩
  refine w_seq (w_drop (w_meth (w_var rfl ⟨c.a, c.dx, _, rfl, hS.ob, fl_no (by decide +kernel), w_cons (w_var rfl (w_nil ?_))⟩)))
  rcases h with ⟨o, h, k⟩ | ⟨h, k⟩
  · refine c_get hS h ?_
    refine w_ret (w_op (w_fld (w_var rfl ⟨c.a, _, _, _, _, rfl, hS.ob, T.cl_Shelf, T.na_Shelf_told_leaves, fl_leaves c, w_var rfl (w_ixl (SqL.of hS.lv) (atI_tx h) ?_)⟩)))
    cases o <;> exact k
  · exact ⟨c, S, n, rfl, hS, .inr ⟨h, k⟩⟩
abbrev n_Shelf_height : List Str := ["self", "text"]
theorem sc_Shelf_height : FnScope n_Shelf_height p_Shelf_height (defScope s_Shelf_height) := ⟨rfl, rfl, rfl, by decide +kernel, rfl, by decide +kernel, by decide +kernel⟩
theorem ok_Shelf_height (T : Txt K mg A) : FnOk P w K mg base (L2.CX P w) 2 A.f_Shelf_height A.d_Shelf_height p_Shelf_height (spGet A.C_Shelf A.C_NoPiece gHt) := by
  refine T.fn_Shelf_height.okX sc_Shelf_height (fun vs H Q E h => ?_) (fun cdv B outer s H vs Q E hr h => ?_)
  · obtain ⟨c, S, n, rfl, _⟩ := h; rfl
  obtain ⟨c, S, n, rfl, hS, h⟩ := h
  refine ⟨_, (pss_cons (ps_expr (pe_meth (pv 0) T.cl_Shelf T.me_Shelf_want (ok_Shelf_want T) (hr.mono (by omega)) T.bi_Shelf_want .nil (passes_call (takes_of rfl rfl rfl rfl) (fun _ _ _ _ h => h)) (pa_cons (pv 1) pa_nil)))
      (pss_one (ps_ret (pe_ix ix_list (pe_fld (pv 0) rfl) (pv 1) (fun _ _ => rfl))))), ?_⟩
  refine w_seq (w_drop (w_meth (w_var rfl ⟨c.a, c.dx, _, rfl, hS.ob, fl_no (by decide +kernel), w_cons (w_var rfl (w_nil ?_))⟩)))
  rcases h with ⟨o, h, k⟩ | ⟨h, k⟩
  · refine c_get hS h ?_
    refine w_ret (w_op (w_fld (w_var rfl ⟨c.a, _, _, _, _, rfl, hS.ob, T.cl_Shelf, T.na_Shelf_told_heights, fl_heights c, w_var rfl (w_ixl (SqL.of hS.ht) (atI_tx h) ?_)⟩)))
    cases o <;> exact k
  · exact ⟨c, S, n, rfl, hS, .inr ⟨h, k⟩⟩
abbrev n_Shelf_first_leaf : List Str := ["self", "text"]
theorem sc_Shelf_first_leaf : FnScope n_Shelf_first_leaf p_Shelf_first_leaf (defScope s_Shelf_first_leaf) := ⟨rfl, rfl, rfl, by decide +kernel, rfl, by decide +kernel, by decide +kernel⟩
theorem ok_Shelf_first_leaf (T : Txt K mg A) : FnOk P w K mg base (L2.CX P w) 2 A.f_Shelf_first_leaf A.d_Shelf_first_leaf p_Shelf_first_leaf (spGet A.C_Shelf A.C_NoPiece gFi) := by
  refine T.fn_Shelf_first_leaf.okX sc_Shelf_first_leaf (fun vs H Q E h => ?_) (fun cdv B outer s H vs Q E hr h => ?_)
  · obtain ⟨c, S, n, rfl, _⟩ := h; rfl
  obtain ⟨c, S, n, rfl, hS, h⟩ := h
  refine ⟨_, (pss_cons (ps_expr (pe_meth (pv 0) T.cl_Shelf T.me_Shelf_want (ok_Shelf_want T) (hr.mono (by omega)) T.bi_Shelf_want .nil (passes_call (takes_of rfl rfl rfl rfl) (fun _ _ _ _ h => h)) (pa_cons (pv 1) pa_nil)))
      (pss_one (ps_ret (pe_ix ix_list (pe_fld (pv 0) rfl) (pv 1) (fun _ _ => rfl))))), ?_⟩
  refine w_seq (w_drop (w_meth (w_var rfl ⟨c.a, c.dx, _, rfl, hS.ob, fl_no (by decide +kernel), w_cons (w_var rfl (w_nil ?_))⟩)))
  rcases h with ⟨o, h, k⟩ | ⟨h, k⟩
  · refine c_get hS h ?_
    refine w_ret (w_op (w_fld (w_var rfl ⟨c.a, _, _, _, _, rfl, hS.ob, T.cl_Shelf, T.na_Shelf_firsts, fl_firsts c, w_var rfl (w_ixl (SqL.of hS.fi) (atI_tx h) ?_)⟩)))
    cases o <;> exact k
  · exact ⟨c, S, n, rfl, hS, .inr ⟨h, k⟩⟩
abbrev n_Shelf_last_leaf : List Str := ["self", "text"]
theorem sc_Shelf_last_leaf : FnScope n_Shelf_last_leaf p_Shelf_last_leaf (defScope s_Shelf_last_leaf) := ⟨rfl, rfl, rfl, by decide +kernel, rfl, by decide +kernel, by decide +kernel⟩
theorem ok_Shelf_last_leaf (T : Txt K mg A) : FnOk P w K mg base (L2.CX P w) 2 A.f_Shelf_last_leaf A.d_Shelf_last_leaf p_Shelf_last_leaf (spGet A.C_Shelf A.C_NoPiece gLa) := by
  refine T.fn_Shelf_last_leaf.okX sc_Shelf_last_leaf (fun vs H Q E h => ?_) (fun cdv B outer s H vs Q E hr h => ?_)
  · obtain ⟨c, S, n, rfl, _⟩ := h; rfl
  obtain ⟨c, S, n, rfl, hS, h⟩ := h
  refine ⟨_, (pss_cons (ps_expr (pe_meth (pv 0) T.cl_Shelf T.me_Shelf_want (ok_Shelf_want T) (hr.mono (by omega)) T.bi_Shelf_want .nil (passes_call (takes_of rfl rfl rfl rfl) (fun _ _ _ _ h => h)) (pa_cons (pv 1) pa_nil)))
      (pss_one (ps_ret (pe_ix ix_list (pe_fld (pv 0) rfl) (pv 1) (fun _ _ => rfl))))), ?_⟩
  refine w_seq (w_drop (w_meth (w_var rfl ⟨c.a, c.dx, _, rfl, hS.ob, fl_no (by decide +kernel), w_cons (w_var rfl (w_nil ?_))⟩)))
  rcases h with ⟨o, h, k⟩ | ⟨h, k⟩
  · refine c_get hS h ?_
    refine w_ret (w_op (w_fld (w_var rfl ⟨c.a, _, _, _, _, rfl, hS.ob, T.cl_Shelf, T.na_Shelf_lasts, fl_lasts c, w_var rfl (w_ixl (SqL.of hS.la) (atI_tx h) ?_)⟩)))
    cases o <;> exact k
  · exact ⟨c, S, n, rfl, hS, .inr ⟨h, k⟩⟩
end

/-! ### Shelf: laid, leaf, fork -/
theorem lt1 {a b : Nat} : ([a] : List Nat) < [b] ↔ a < b := by rw [List.cons_lt_cons_iff]; simp
theorem dlt1 {a b : Nat} : (!decide (([a] : List Nat) < [b])) = decide (b ≤ a) := by
  by_cases h : a < b
  · rw [decide_eq_true (lt1.mpr h), decide_eq_false (by omega)]; rfl
  · rw [decide_eq_false (fun z => h (lt1.mp z)), decide_eq_true (by omega)]; rfl
theorem one_sT {a b : Nat} : ((⟨#[a]⟩ : Str) = sT [b]) ↔ a = b := by
  constructor
  · intro h; have := sT_inj (l := [a]) (m := [b]) h; simpa using this
  · intro h; rw [h]
theorem sT_bl : (" " : Str) = sT [32] := by decide +kernel
theorem sT_ti : ("~" : Str) = sT [126] := by decide +kernel
theorem all_plain (l : List Nat) : (l.map fun c => decide (plainC c)).all id = decide (Plain l) := by
  by_cases h : Plain l
  · rw [decide_eq_true h, List.all_eq_true]
    intro b hb
    obtain ⟨c, hc, rfl⟩ := List.mem_map.mp hb
    simpa using h c hc
  · rw [decide_eq_false h, List.all_eq_false]
    have : ∃ c, c ∈ l ∧ ¬ plainC c := by
      refine Classical.byContradiction fun z => h fun c hc => ?_
      exact Classical.byContradiction fun y => z ⟨c, hc, y⟩
    obtain ⟨c, hc, hn⟩ := this
    exact ⟨_, List.mem_map.mpr ⟨c, hc, rfl⟩, by simpa using hn⟩
theorem take_snoc {α : Type} {l : List α} {i : Nat} {x : α} (h : l[i]? = some x) : l.take (i + 1) = l.take i ++ [x] := by
  obtain ⟨hl, e⟩ := List.getElem?_eq_some_iff.mp h
  rw [List.take_succ, h]; rfl
def spPlain (K : PySem.W.Frag) : Sp := fun vs H Q _ => ∃ v, vs = [v] ∧ ((∃ l : List Nat, v = .str (sT l) ∧ l.length ≤ cap ∧ ∀ H', Same H H' → Q (.bl (decide (Plain l))) H') ∨
  (∃ t, TyX K H v t ∧ PySem.W.kitOne K t (.type "str") = some false ∧ Q (.bl false) H))
theorem c_plain {K : PySem.W.Frag} {l : List Nat} {H : Hp} {Q : VK} {E : XK} (hl : l.length ≤ cap) (k : ∀ H', Same H H' → Q (.bl (decide (Plain l))) H') : spPlain K [.str (sT l)] H Q E := ⟨_, rfl, .inl ⟨l, rfl, hl, k⟩⟩
def spEnds : Sp := fun vs H Q _ => ∃ l : List Nat, vs = [.str (sT l)] ∧ Q (.int (l.count 10 : Nat)) H
theorem c_ends {l : List Nat} {H : Hp} {Q : VK} {E : XK} (k : Q (.int (l.count 10 : Nat)) H) : spEnds [.str (sT l)] H Q E := ⟨l, rfl, k⟩
section
variable {C : Addr}
def spLaid (C : Addr) : Sp := fun vs H Q _ => ∃ c S t p xs, vs = [.ref (Cells.a c), .ref p, .int (t : Tr).sg, .int t.en, .int t.lv, .int t.ht] ∧ ShAt C c H S ∧ H p = some (.tup (pvals S t)) ∧ S.length < cap ∧ H c.pc = some (.lst xs) ∧ Q (.int (S.length + 1)) (laidH c H xs S t p)
def spLeaf (C CT : Addr) : Sp := fun vs H Q E => ∃ c S l, vs = [.ref (Cells.a c), .str (sT l)] ∧ ShAt C c H S ∧ l.length ≤ cap ∧ ((Ok (.lf l) ∧ S.length < cap ∧ ∀ H', ShAt C c H' (put S (.lf l)) → Keep c H H' → Q (.int (num (put S (.lf l)) (.lf l))) H') ∨
  (¬ Ok (.lf l) ∧ ∀ H', Same H H' → E (.ref CT) none H'))
theorem c_leaf {CT : Addr} {c : Cells} {S : List Tr} {l : List Nat} {H : Hp} {Q : VK} {E : XK} (s : ShAt C c H S) (o : Ok (.lf l)) (h : S.length < cap) (k : ∀ H', ShAt C c H' (put S (.lf l)) → Keep c H H' → Q (.int (num (put S (.lf l)) (.lf l))) H') :
    spLeaf C CT [.ref c.a, .str (sT l)] H Q E := ⟨c, S, l, rfl, s, by have := o.2.1; unfold cap; omega, .inl ⟨o, h, k⟩⟩
def spLoose (C : Addr) : Sp := fun vs H Q _ => ∃ c S n m a b, vs = [.ref (Cells.a c), .int n, .int m] ∧ ShAt C c H S ∧ Nm S n a ∧ Nm S m b ∧ Q (.bl (decide (a.la.sg + b.fi.sg ≤ 8))) H
theorem c_loose {c : Cells} {S : List Tr} {n m : Int} {a b : Tr} {H : Hp} {Q : VK} {E : XK} (s : ShAt C c H S) (ha : Nm S n a) (hb : Nm S m b) (k : Q (.bl (decide (a.la.sg + b.fi.sg ≤ 8))) H) : spLoose C [.ref c.a, .int n, .int m] H Q E := ⟨c, S, n, m, a, b, rfl, s, ha, hb, k⟩
/-- what a fork of two numbers comes to -/
def spFork (C CN CL CU CT : Addr) : Sp := fun vs H Q E => ∃ c S n m, vs = [.ref (Cells.a c), .int n, .int m] ∧ ShAt C c H S ∧
  ((((∀ t, ¬ Nm S n t) ∨ (∀ t, ¬ Nm S m t)) ∧ E (.ref CN) none H) ∨ ∃ a b, Nm S n a ∧ Nm S m b ∧
    ((a.la.sg + b.fi.sg ≤ 8 ∧ E (.ref CL) none H) ∨
     (8 < a.la.sg + b.fi.sg ∧ (b.ht + 1 < a.ht ∨ a.ht + 1 < b.ht) ∧ ∀ H', Same H H' → E (.ref CU) none H') ∨
     (8 < a.la.sg + b.fi.sg ∧ a.ht ≤ b.ht + 1 ∧ b.ht ≤ a.ht + 1 ∧ mostSg < a.sg + b.sg ∧ ∀ H', Same H H' → E (.ref CT) none H') ∨
     (Ok (.fk a b) ∧ S.length < cap ∧ ∀ H', ShAt C c H' (put S (.fk a b)) → Keep c H H' → Q (.int (num (put S (.fk a b)) (.fk a b))) H')))
theorem c_fork {CN CL CU CT : Addr} {c : Cells} {S : List Tr} {n m : Int} {a b : Tr} {H : Hp} {Q : VK} {E : XK} (s : ShAt C c H S) (ha : Nm S n a) (hb : Nm S m b) (o : Ok (.fk a b)) (h : S.length < cap)
    (k : ∀ H', ShAt C c H' (put S (.fk a b)) → Keep c H H' → Q (.int (num (put S (.fk a b)) (.fk a b))) H') : spFork C CN CL CU CT [.ref c.a, .int n, .int m] H Q E :=
  ⟨c, S, n, m, rfl, s, .inr ⟨a, b, ha, hb, .inr (.inr (.inr ⟨o, h, k⟩))⟩⟩
def spShelf (C : Addr) : Sp := fun vs H Q _ => ∃ p dx, vs = [.ref p] ∧ H p = some (.ins C dx []) ∧ H dx = some (.own p) ∧ dx ≠ p ∧ ∀ c H', c.a = p → ShAt C c H' [] → (∀ b o, H b = some o → b ≠ p → H' b = some o) → (∀ b ∈ c.all, b = p ∨ b = dx ∨ H b = none) → Q .non H'
end
theorem c_new {C : Addr} {H1 : Hp} {R : Addr → Hp → Prop} {E : XK} (k : ∀ c H', ShAt C c H' [] → Same H1 H' → (∀ b ∈ c.all, H1 b = none) → R c.a H') :
    ∀ x dx, H1 x = none → H1 dx = none → dx ≠ x → spShelf C (.ref x :: ([] ++ [])) (upd (upd H1 dx (.own x)) x (.ins C dx [])) (fun v H2 => v = .non ∧ R x H2) E := by
  intro x dx hx hdx ne
  refine ⟨x, dx, rfl, upd_same, by rw [upd_ne ne]; exact upd_same, ne, fun c H' ea hS kp fresh => ⟨rfl, ?_⟩⟩
  rw [← ea]
  refine k c H' hS (fun b o e => kp b o ?_ (ne_of_none e hx)) fun b hb => ?_
  · rw [upd_ne (ne_of_none e hx), upd_ne (ne_of_none e hdx)]; exact e
  · rcases fresh b hb with e | e | e
    · rw [e]; exact hx
    · rw [e]; exact hdx
    · cases q : H1 b with
      | none => rfl
      | some o =>
        rw [upd_ne (ne_of_none q hx), upd_ne (ne_of_none q hdx), q] at e
        cases e
section
variable {P : Program} {w : World} {K : PySem.W.Frag} {mg : Str → Option Value} {base : Heap} {A : Ad}
abbrev n_is_plain : List Str := ["thing", "sign"]
theorem sc_is_plain : FnScope n_is_plain p_is_plain (defScope s_is_plain) := ⟨rfl, rfl, rfl, by decide +kernel, rfl, by decide +kernel, by decide +kernel⟩
theorem ok_is_plain (T : Txt K mg A) : FnOk P w K mg base (L2.CX P w) 1 A.f_is_plain A.d_is_plain p_is_plain (spPlain K) := by
  refine T.fn_is_plain.okX sc_is_plain (fun vs H Q E h => ?_) (fun cdv B outer s H vs Q E hr h => ?_)
  · obtain ⟨v, rfl, _⟩ := h; rfl
  obtain ⟨v, rfl, h⟩ := h
  refine ⟨_, (pss_cons (ps_if (pt_not (pt_val (pe_callB call_isi (by rfl) T.z_isinstance bt_isinstance (pa_cons (pv 0) (pa_cons (pe_bltn (v := .ty "str") (u := .type "str") (by rfl) T.z_str bt_str rfl) pa_nil))))) (pss_one (ps_ret pe_bl)) pss_nil)
      (pss_one (ps_ret (pe_callB (cr_all rfl) (by rfl) T.z_all bt_all (pa_cons (pe_lc (own := [("sign", 1)]) (g := gName 1) (tt := tYes) rfl sc_is_plain.nd (pi_str (pv 0)) (blkOk_by (own := [("sign", 1)]) (N := n_is_plain) (sc := defScope s_is_plain) (by decide +kernel)) (fun _ _ _ _ _ => (pg_name (i := 1) sc_is_plain.nd rfl (Or.inl rfl))) (fun _ _ _ _ _ => pts_nil) (fun _ _ _ _ _ => (pe_or (pe_chain op_le_str op_le_str pe_str (pv 1) pe_str) (pe_one (pe_cmpR op_eq (pv 1) pe_str (nomark _)))))) pa_nil))))), ?_⟩
  refine w_seq (w_ifS (w_tNot (w_tB (w_cb (w_cons (w_var rfl (w_cons (w_c (w_nil ?_)))))))))
  rcases h with ⟨l, rfl, hl, k⟩ | ⟨t, ty, e, k⟩
  · refine ⟨_, _, _, _, true, rfl, .ty _, .base (.str _), kit_ty (by decide +kernel), w_bl (iteF ?_)⟩
    refine w_next ?_
    dsimp only
    refine w_ret (w_cb (w_cons ?_))
    refine ⟨_, rfl, _, rfl, fun D hD => ?_⟩
    refine lc_it walk_str (fun i H' => Same H H' ∧ H' D = some (.lst ((l.take i).map fun c => .bl (decide (plainC c))))) ⟨fun b o e => by rw [upd_ne (ne_of_none e hD)]; exact e, upd_same⟩ (fun _ _ _ _ => trivial) ?_ ?_
    · rintro i x H1 H2 hi ⟨q1, q2⟩ ⟨rfl, c, hc, rfl⟩
      have hc : l[i]? = some c := by simpa using hc
      have hi : i < l.length := by simpa using hi
      have key : ∀ (b : Bool), b = decide (plainC c) → ∃ acc, H2 D = some (.lst acc) ∧ acc.length < sizeLine ∧ Same H (upd H2 D (.lst (acc ++ [V.bl b]))) ∧ (upd H2 D (.lst (acc ++ [V.bl b]))) D = some (.lst ((l.take (i + 1)).map fun c => V.bl (decide (plainC c)))) := fun b eb => by
        refine ⟨_, q2, ?_, fun d o e => ?_, ?_⟩
        · have := cap_line; simp; omega
        · rw [upd_ne (ne_of_none e hD)]; exact q1 d o e
        · rw [upd_same, take_snoc hc, eb]; simp
      refine w_gname ⟨rfl, ?_⟩
      refine w_yes (iteT ?_)
      refine w_tOrV (w_chain (w_c (w_var rfl ⟨_, _, rfl, rfl, _, rfl, ?_⟩)))
      rw [sT_bl]
      show (if (!decide (([c] : List Nat) < [32])) = true then _ else _)
      rw [dlt1]
      refine ite_d (fun h1 => ?_) fun h1 => ?_
      · refine w_c ⟨_, _, rfl, rfl, _, rfl, ?_⟩
        rw [sT_ti]
        show (if (!decide (([126] : List Nat) < [c])) = true then _ else _)
        rw [dlt1]
        refine ite_d (fun h2 => ?_) fun h2 => ?_
        · exact key true (by rw [decide_eq_true]; exact .inl ⟨h1, h2⟩)
        · refine w_op (w_var rfl (w_c (w_eqS (key _ ?_))))
          rw [sT_lf]
          refine decide_eq_decide.mpr ⟨fun z => .inr (one_sT.mp z), fun z => one_sT.mpr ?_⟩
          rcases z with z | z
          · exact absurd z.2 h2
          · exact z
      · refine ⟨_, rfl, iteF ?_⟩
        refine w_op (w_var rfl (w_c (w_eqS (key _ ?_))))
        rw [sT_lf]
        refine decide_eq_decide.mpr ⟨fun z => .inr (one_sT.mp z), fun z => one_sT.mpr ?_⟩
        rcases z with z | z
        · exact absurd z.1 h1
        · exact z
    · rintro H1 ⟨q1, q2⟩
      refine w_nil ⟨D, l.map fun c => decide (plainC c), rfl, ?_, ?_⟩
      · rw [List.map_map]
        have : l.take (sT l).cps.size = l := List.take_of_length_le (by simp)
        rw [this] at q2
        exact SqL.of q2
      · rw [all_plain]; exact k H1 q1
  · exact ⟨_, _, _, _, false, rfl, .ty _, ty, e, w_bl (iteT (w_ret (w_c k)))⟩
abbrev n_ends_in : List Str := ["plain"]
theorem sc_ends_in : FnScope n_ends_in p_ends_in (defScope s_ends_in) := ⟨rfl, rfl, rfl, by decide +kernel, rfl, by decide +kernel, by decide +kernel⟩
theorem ok_ends_in (T : Txt K mg A) : FnOk P w K mg base (L2.CX P w) 1 A.f_ends_in A.d_ends_in p_ends_in spEnds := by
  refine T.fn_ends_in.okX sc_ends_in (fun vs H Q E h => ?_) (fun cdv B outer s H vs Q E hr h => ?_)
  · obtain ⟨l, rfl, _⟩ := h; rfl
  obtain ⟨l, rfl, h⟩ := h
  refine ⟨_, (pss_one (ps_ret (pe_m1 PySem.F.slot_str_count PySem.F.type_str_count mt_count (pv 0) pe_str))), ?_⟩
  refine w_ret ⟨_, rfl, ⟨_, rfl⟩, _, _, rfl, rfl, ?_⟩
  rw [sT_lf, count_one]; exact h
abbrev n_Shelf_laid : List Str := ["self", "piece", "signs", "ends", "leaves", "height", "number"]
theorem sc_Shelf_laid : FnScope n_Shelf_laid p_Shelf_laid (defScope s_Shelf_laid) := ⟨rfl, rfl, rfl, by decide +kernel, rfl, by decide +kernel, by decide +kernel⟩
theorem ok_Shelf_laid (T : Txt K mg A) : FnOk P w K mg base (L2.CX P w) 1 A.f_Shelf_laid A.d_Shelf_laid p_Shelf_laid (spLaid A.C_Shelf) := by
  refine T.fn_Shelf_laid.okX sc_Shelf_laid (fun vs H Q E h => ?_) (fun cdv B outer s H vs Q E hr h => ?_)
  · obtain ⟨c, S, t, p, xs, rfl, _⟩ := h; rfl
  obtain ⟨c, S, t, p, xs, rfl, hS, hp, cp, hx, k⟩ := h
  have hu := hu_of hr
  refine ⟨_, (pss_cons (ps_set (i := 6) sc_Shelf_laid.nd rfl (Or.inl rfl) (pe_callB call_len_seq (by rfl) T.z_len bt_len (pa_cons (pe_fld (pv 0) rfl) pa_nil)))
      (pss_cons (ps_expr (pe_bm PySem.F.plainAttrs_list PySem.F.slot_list_append PySem.F.type_list_append mt_append (pe_fld (pv 0) rfl) (pa_cons (pv 1) pa_nil)))
      (pss_cons (ps_dput hu (pe_fld (pv 0) rfl) (pv 1) (pv 6) rfl)
      (pss_cons (ps_expr (pe_bm PySem.F.plainAttrs_list PySem.F.slot_list_append PySem.F.type_list_append mt_append (pe_fld (pv 0) rfl) (pa_cons (pv 2) pa_nil)))
      (pss_cons (ps_expr (pe_bm PySem.F.plainAttrs_list PySem.F.slot_list_append PySem.F.type_list_append mt_append (pe_fld (pv 0) rfl) (pa_cons (pv 3) pa_nil)))
      (pss_cons (ps_expr (pe_bm PySem.F.plainAttrs_list PySem.F.slot_list_append PySem.F.type_list_append mt_append (pe_fld (pv 0) rfl) (pa_cons (pv 4) pa_nil)))
      (pss_cons (ps_expr (pe_bm PySem.F.plainAttrs_list PySem.F.slot_list_append PySem.F.type_list_append mt_append (pe_fld (pv 0) rfl) (pa_cons (pv 5) pa_nil)))
      (pss_one (ps_ret (pv 6)))))))))), ?_⟩
  have nd := hS.nd
  have pp : p ≠ c.pc := ne_of hp hx (by intro z; cases z)
  have lx : xs.length = S.length + 1 := by
    obtain ⟨rs, h1, h2, _⟩ := hS.pc
    rw [h1] at hx; injection hx with z; injection z with z; rw [← z]; simp [h2]
  have ob := hS.ob
  have sz : S.length + 1 < sizeLine := by have := cap_line; omega
  have szm : ∀ (z : V) (F : Tr → V), (z :: S.map F).length < sizeLine := fun z F => by simp; omega
  have szk : (kvs S).length < sizeLine := by unfold kvs; simp; omega
  refine w_seq (w_asg (w_cb (w_cons (w_fld (w_var rfl ⟨c.a, _, _, _, _, rfl, ob, T.cl_Shelf, T.na_Shelf_pieces, fl_pieces c, w_nil ⟨_, _, rfl, .inl (SqL.of hx), w_gname ?_⟩⟩)))))
  rw [show ((xs.length : Nat) : Int) = (S.length : Int) + 1 from by omega]
  dsimp only
  refine w_seq ?_
  refine w_drop (w_bm (w_fld (w_var rfl ⟨c.a, _, _, _, _, rfl, ob, T.cl_Shelf, T.na_Shelf_pieces, fl_pieces c, .inl ⟨rfl, _, SqL.of hx⟩, w_cons (w_var rfl (w_nil ⟨c.pc, xs, _, rfl, rfl, hx, by omega, ?_⟩))⟩)))
  dsimp only
  refine w_seq ?_
  refine ⟨_, rfl, _, rfl, c.a, _, _, _, _, rfl, (uc nd 0 2 ob), T.cl_Shelf, T.na_Shelf_numbers, fl_numbers c, _, rfl, c.nb, _, rfl, DPut.t (uc nd 3 2 hS.nb) (by rw [upd_ne pp]; exact hp) szk, ?_⟩
  dsimp only
  refine w_seq ?_
  refine w_drop (w_bm (w_fld (w_var rfl ⟨c.a, _, _, _, _, rfl, (uc nd 0 3 (uc nd 0 2 ob)), T.cl_Shelf, T.na_Shelf_told_signs, fl_signs c, .inl ⟨rfl, _, SqL.of (uc nd 4 3 (uc nd 4 2 hS.sg))⟩, w_cons (w_var rfl (w_nil ⟨c.sg, _, _, rfl, rfl, (uc nd 4 3 (uc nd 4 2 hS.sg)), szm _ _, ?_⟩))⟩)))
  dsimp only
  refine w_seq ?_
  refine w_drop (w_bm (w_fld (w_var rfl ⟨c.a, _, _, _, _, rfl, (uc nd 0 4 (uc nd 0 3 (uc nd 0 2 ob))), T.cl_Shelf, T.na_Shelf_told_ends, fl_ends c, .inl ⟨rfl, _, SqL.of (uc nd 5 4 (uc nd 5 3 (uc nd 5 2 hS.en)))⟩, w_cons (w_var rfl (w_nil ⟨c.en, _, _, rfl, rfl, (uc nd 5 4 (uc nd 5 3 (uc nd 5 2 hS.en))), szm _ _, ?_⟩))⟩)))
  dsimp only
  refine w_seq ?_
  refine w_drop (w_bm (w_fld (w_var rfl ⟨c.a, _, _, _, _, rfl, (uc nd 0 5 (uc nd 0 4 (uc nd 0 3 (uc nd 0 2 ob)))), T.cl_Shelf, T.na_Shelf_told_leaves, fl_leaves c, .inl ⟨rfl, _, SqL.of (uc nd 6 5 (uc nd 6 4 (uc nd 6 3 (uc nd 6 2 hS.lv))))⟩, w_cons (w_var rfl (w_nil ⟨c.lv, _, _, rfl, rfl, (uc nd 6 5 (uc nd 6 4 (uc nd 6 3 (uc nd 6 2 hS.lv)))), szm _ _, ?_⟩))⟩)))
  dsimp only
  refine w_seq ?_
  refine w_drop (w_bm (w_fld (w_var rfl ⟨c.a, _, _, _, _, rfl, (uc nd 0 6 (uc nd 0 5 (uc nd 0 4 (uc nd 0 3 (uc nd 0 2 ob))))), T.cl_Shelf, T.na_Shelf_told_heights, fl_heights c, .inl ⟨rfl, _, SqL.of (uc nd 7 6 (uc nd 7 5 (uc nd 7 4 (uc nd 7 3 (uc nd 7 2 hS.ht)))))⟩, w_cons (w_var rfl (w_nil ⟨c.ht, _, _, rfl, rfl, (uc nd 7 6 (uc nd 7 5 (uc nd 7 4 (uc nd 7 3 (uc nd 7 2 hS.ht))))), szm _ _, ?_⟩))⟩)))
  dsimp only
  exact w_ret (w_var rfl k)
end

section
variable {P : Program} {w : World} {K : PySem.W.Frag} {mg : Str → Option Value} {base : Heap} {A : Ad}
theorem put_num_new {S : List Tr} {t : Tr} (h : t ∉ S) : num (put S t) t = S.length + 1 := by rw [put_new h, num_last h]
abbrev n_Shelf_leaf : List Str := ["self", "plain", "piece", "number"]
theorem sc_Shelf_leaf : FnScope n_Shelf_leaf p_Shelf_leaf (defScope s_Shelf_leaf) := ⟨rfl, rfl, rfl, by decide +kernel, rfl, by decide +kernel, by decide +kernel⟩
theorem ok_Shelf_leaf (T : Txt K mg A) : FnOk P w K mg base (L2.CX P w) 2 A.f_Shelf_leaf A.d_Shelf_leaf p_Shelf_leaf (spLeaf A.C_Shelf A.C_NoText) := by
  refine T.fn_Shelf_leaf.okX sc_Shelf_leaf (fun vs H Q E h => ?_) (fun cdv B outer s H vs Q E hr h => ?_)
  · obtain ⟨c, S, l, rfl, _⟩ := h; rfl
  obtain ⟨c, S, l, rfl, hS, hl, h⟩ := h
  have hu := hu_of hr
  refine ⟨_, (pss_cons (ps_if (PW.pt (pw_or (pt_not (pt_val (pe_call (ok_is_plain T) (hr.mono (by omega)) (by rfl) T.mg_is_plain T.fn_is_plain.kp T.bi_is_plain .nil (passes_call (takes_of rfl rfl rfl rfl) (fun _ _ _ _ h => h)) (pa_cons (pv 1) pa_nil)))) (pw_or1 (pt_not (pt_chain op_le op_le pe_int (pe_callB call_len_str (by rfl) T.z_len bt_len (pa_cons (pv 1) pa_nil)) (pe_kint T.k_MOST_IN_LEAF (by rfl))))))) (pss_one (ps_raise0 rfl T.ex_NoText (takes_of rfl rfl rfl rfl) rfl)) pss_nil)
      (pss_cons (ps_set (i := 2) sc_Shelf_leaf.nd rfl (Or.inl rfl) (pe_tup (pa_cons pe_str (pa_cons (pv 1) pa_nil))))
      (pss_cons (ps_if (pt_cmp (pc_din hu (pv 2) (pe_fld (pv 0) rfl))) (pss_one (ps_ret (pe_dget hu (pe_fld (pv 0) rfl) (pv 2) (fun _ _ => rfl)))) pss_nil)
      (pss_cons (ps_set (i := 3) sc_Shelf_leaf.nd rfl (Or.inl rfl) (pe_meth (pv 0) T.cl_Shelf T.me_Shelf_laid (ok_Shelf_laid T) (hr.mono (by omega)) T.bi_Shelf_laid .nil (passes_call (takes_of rfl rfl rfl rfl) (fun _ _ _ _ h => h)) (pa_cons (pv 2) (pa_cons (pe_callB call_len_str (by rfl) T.z_len bt_len (pa_cons (pv 1) pa_nil)) (pa_cons (pe_call (ok_ends_in T) (hr.mono (by omega)) (by rfl) T.mg_ends_in T.fn_ends_in.kp T.bi_ends_in .nil (passes_call (takes_of rfl rfl rfl rfl) (fun _ _ _ _ h => h)) (pa_cons (pv 1) pa_nil)) (pa_cons pe_int (pa_cons pe_int pa_nil)))))))
      (pss_cons (ps_expr (pe_bm PySem.F.plainAttrs_list PySem.F.slot_list_append PySem.F.type_list_append mt_append (pe_fld (pv 0) rfl) (pa_cons (pv 3) pa_nil)))
      (pss_cons (ps_expr (pe_bm PySem.F.plainAttrs_list PySem.F.slot_list_append PySem.F.type_list_append mt_append (pe_fld (pv 0) rfl) (pa_cons (pv 3) pa_nil)))
      (pss_one (ps_ret (pv 3))))))))), ?_⟩
  have lline : l.length ≤ sizeLine := by have := cap_line; omega
  refine w_seq ?_
  refine w_ifS (w_tOr (w_tNot (w_tB (w_call (w_cons (w_var rfl (w_nil (c_plain hl fun H1 s1 => w_bl (ite_n (fun hn => ?_) (fun hp => ?_))))))))))
  · refine iteT ?_
    rcases h with ⟨o, _⟩ | ⟨_, k⟩
    · exact absurd o.2.2 hn
    · exact k H1 s1
  refine w_tNot (w_test (w_chain (w_c (w_cb (w_cons (w_var rfl (w_nil ⟨_, rfl, (by rw [sT_len]; exact lline), w_rI0 ⟨_, rfl, ite_d (fun h1 => ?_) (fun h1 => ?_)⟩⟩)))))))
  rotate_left
  · refine ⟨_, rfl, iteT ?_⟩
    rcases h with ⟨o, _⟩ | ⟨_, k⟩
    · exact absurd (by rw [sT_len]; have := o.1; omega) h1
    · exact k H1 s1
  refine w_c (w_rI0 ⟨_, rfl, ite_n (fun h2 => ?_) (fun h2 => ?_)⟩)
  · rcases h with ⟨o, _⟩ | ⟨_, k⟩
    · exact absurd (by rw [sT_len]; have := o.2.1; omega) h2
    · exact k H1 s1
  rw [sT_len] at h1 h2
  have ok : Ok (.lf l) := ⟨by omega, by omega, hp⟩
  rcases h with ⟨_, hc, k⟩ | ⟨n, _⟩
  rotate_left
  · exact absurd ok n
  have hS1 := hS.same s1
  refine w_next ?_
  dsimp only
  refine w_seq ?_
  refine w_asg (w_tup (w_cons (w_c (w_cons (w_var rfl (w_nil (w_mkt (by show 2 ≤ sizeLine; rw [sizeLine_eq]; decide) fun p H2 np s2 hp2 => w_gname ?_)))))))
  dsimp only
  have hS2 := hS1.same s2
  have kt : ∀ a b, Tr.lf l = .fk a b → a ∈ S ∧ b ∈ S := fun _ _ z => nomatch z
  have hp2' : H2 p = some (.tup ((key S (.lf l)).map kV)) := hp2
  refine w_seq ?_
  refine ⟨_, rfl, _, rfl, c.a, _, _, _, _, rfl, hS2.ob, T.cl_Shelf, T.na_Shelf_numbers, fl_numbers c, c.nb, _, rfl, DGet.t (k := key S (.lf l)) hS2.nb hp2', _, rfl, ?_⟩
  rw [valV_kvs hS.gd kt]
  by_cases hm : Tr.lf l ∈ S
  · rw [if_pos hm]
    refine iteT (w_ret ?_)
    refine ⟨_, rfl, c.a, _, _, _, _, rfl, hS2.ob, T.cl_Shelf, T.na_Shelf_numbers, fl_numbers c, _, rfl, c.nb, V.int (num S (.lf l)), rfl, ?_, ?_⟩
    · have := DGet.t (k := key S (.lf l)) hS2.nb hp2'
      rw [valV_kvs hS.gd kt, if_pos hm] at this; exact this
    · have := k H2 (by rw [put_in hm]; exact hS2) (Keep.of (s1.trans s2))
      rw [put_in hm] at this; exact this
  rw [if_neg hm]
  refine iteF (w_next ?_)
  dsimp only
  obtain ⟨rs, q1, q2, q3⟩ := hS2.pc
  refine w_seq ?_
  refine w_asg (w_meth (w_var rfl ⟨c.a, c.dx, _, rfl, hS2.ob, fl_no (by decide +kernel), w_cons (w_var rfl (w_cons (w_cb (w_cons (w_var rfl (w_nil ⟨_, rfl, (by rw [sT_len]; exact lline), ?_⟩)))))) ⟩))
  rw [sT_len]
  refine w_cons (w_call (w_cons (w_var rfl (w_nil (c_ends (w_cons (w_c (w_cons (w_c (w_nil ?_))))))))))
  refine ⟨c, S, .lf l, p, _, rfl, hS2, hp2', hc, q1, w_gname ?_⟩
  dsimp only
  have nd := hS.nd
  have szm : ∀ (z : V) (F : Tr → V), (z :: S.map F).length < sizeLine := fun z F => by have := cap_line; simp; omega
  refine w_seq ?_
  refine w_drop (w_bm (w_fld (w_var rfl ⟨c.a, _, _, _, _, rfl, (laid_at nd 0).trans hS2.ob, T.cl_Shelf, T.na_Shelf_firsts, fl_firsts c, ?_⟩)))
  have hfi := (laid_at (xs := .non :: rs.map V.ref) (t := .lf l) (p := p) (S := S) nd 8).trans hS2.fi
  refine ⟨.inl ⟨rfl, _, SqL.of hfi⟩, w_cons (w_var rfl (w_nil ⟨c.fi, _, _, rfl, rfl, hfi, szm _ _, ?_⟩))⟩
  dsimp only
  refine w_seq ?_
  refine w_drop (w_bm (w_fld (w_var rfl ⟨c.a, _, _, _, _, rfl, uc nd 0 8 ((laid_at nd 0).trans hS2.ob), T.cl_Shelf, T.na_Shelf_lasts, fl_lasts c, ?_⟩)))
  have hla := (laid_at (xs := .non :: rs.map V.ref) (t := .lf l) (p := p) (S := S) nd 9).trans hS2.la
  refine ⟨.inl ⟨rfl, _, SqL.of (uc nd 9 8 hla)⟩, w_cons (w_var rfl (w_nil ⟨c.la, _, _, rfl, rfl, uc nd 9 8 hla, szm _ _, ?_⟩))⟩
  dsimp only
  refine w_ret (w_var rfl ?_)
  have en : (S.length : Int) + 1 = num (S ++ [Tr.lf l]) (.lf l) := (num_last hm).symm
  obtain ⟨x1, x2⟩ := lain_ok hS2 q1 hp2' ok hm kt hc (f := S.length + 1) (l := S.length + 1) en en
  have := k _ (by rw [put_new hm]; exact x1) ((Keep.of (s1.trans s2)).trans x2)
  rw [put_num_new hm] at this
  exact this
abbrev n_Shelf_is_loose : List Str := ["self", "one", "other"]
theorem sc_Shelf_is_loose : FnScope n_Shelf_is_loose p_Shelf_is_loose (defScope s_Shelf_is_loose) := ⟨rfl, rfl, rfl, by decide +kernel, rfl, by decide +kernel, by decide +kernel⟩
theorem ok_Shelf_is_loose (T : Txt K mg A) : FnOk P w K mg base (L2.CX P w) 1 A.f_Shelf_is_loose A.d_Shelf_is_loose p_Shelf_is_loose (spLoose A.C_Shelf) := by
  refine T.fn_Shelf_is_loose.okX sc_Shelf_is_loose (fun vs H Q E h => ?_) (fun cdv B outer s H vs Q E hr h => ?_)
  · obtain ⟨c, S, n, m, a, b, rfl, _⟩ := h; rfl
  obtain ⟨c, S, n, m, a, b, rfl, hS, ha, hb, k⟩ := h
  refine ⟨_, (pss_one (ps_ret (pe_cmpR op_le (pe_op op_add (pe_ix ix_list (pe_fld (pv 0) rfl) (pe_ix ix_list (pe_fld (pv 0) rfl) (pv 1) (fun _ _ => rfl)) (fun _ _ => rfl)) (pe_ix ix_list (pe_fld (pv 0) rfl) (pe_ix ix_list (pe_fld (pv 0) rfl) (pv 2) (fun _ _ => rfl)) (fun _ _ => rfl))) (pe_kint T.k_MOST_IN_LEAF (by rfl)) (nomark _)))), ?_⟩
  refine w_ret (w_op (w_op (w_op (w_fld (w_var rfl ⟨c.a, _, _, _, _, rfl, hS.ob, T.cl_Shelf, T.na_Shelf_told_signs, fl_signs c, w_op (w_fld (w_var rfl ⟨c.a, _, _, _, _, rfl, hS.ob, T.cl_Shelf, T.na_Shelf_lasts, fl_lasts c, w_var rfl (w_ixl (SqL.of hS.la) (atI_nm ha) (w_ixl (SqL.of hS.sg) (atI_nm (nm_num (hS.gd.la ha.mem))) ?_))⟩))⟩)))))
  refine w_op (w_fld (w_var rfl ⟨c.a, _, _, _, _, rfl, hS.ob, T.cl_Shelf, T.na_Shelf_told_signs, fl_signs c, w_op (w_fld (w_var rfl ⟨c.a, _, _, _, _, rfl, hS.ob, T.cl_Shelf, T.na_Shelf_firsts, fl_firsts c, w_var rfl (w_ixl (SqL.of hS.fi) (atI_nm hb) (w_ixl (SqL.of hS.sg) (atI_nm (nm_num (hS.gd.fi hb.mem))) (w_rI0 (w_c (w_rI0 ?_)))))⟩))⟩))
  rw [show decide ((a.la.sg : Int) + (b.fi.sg : Int) ≤ 8) = decide (a.la.sg + b.fi.sg ≤ 8) from decide_eq_decide.mpr (by omega)]
  exact k
theorem mem2 {x a b : Int} (h : x ∈ [a, b]) : x = a ∨ x = b := by simpa using h
abbrev n_Shelf_fork : List Str := ["self", "one", "other", "heights", "signs", "piece", "ends", "leaves", "number"]
theorem sc_Shelf_fork : FnScope n_Shelf_fork p_Shelf_fork (defScope s_Shelf_fork) := ⟨rfl, rfl, rfl, by decide +kernel, rfl, by decide +kernel, by decide +kernel⟩
theorem ok_Shelf_fork (T : Txt K mg A) : FnOk P w K mg base (L2.CX P w) 2 A.f_Shelf_fork A.d_Shelf_fork p_Shelf_fork (spFork A.C_Shelf A.C_NoPiece A.C_Loose A.C_Unlevel A.C_TooLong) := by
  refine T.fn_Shelf_fork.okX sc_Shelf_fork (fun vs H Q E h => ?_) (fun cdv B outer s H vs Q E hr h => ?_)
  · obtain ⟨c, S, n, m, rfl, _⟩ := h; rfl
  obtain ⟨c, S, n, m, rfl, hS, h⟩ := h
  have hu := hu_of hr
  refine ⟨_, (pss_cons (ps_expr (pe_meth (pv 0) T.cl_Shelf T.me_Shelf_want_piece (ok_Shelf_want_piece T) (hr.mono (by omega)) T.bi_Shelf_want_piece .nil (passes_call (takes_of rfl rfl rfl rfl) (fun _ _ _ _ h => h)) (pa_cons (pv 1) pa_nil)))
      (pss_cons (ps_expr (pe_meth (pv 0) T.cl_Shelf T.me_Shelf_want_piece (ok_Shelf_want_piece T) (hr.mono (by omega)) T.bi_Shelf_want_piece .nil (passes_call (takes_of rfl rfl rfl rfl) (fun _ _ _ _ h => h)) (pa_cons (pv 2) pa_nil)))
      (pss_cons (ps_if (pt_val (pe_meth (pv 0) T.cl_Shelf T.me_Shelf_is_loose (ok_Shelf_is_loose T) (hr.mono (by omega)) T.bi_Shelf_is_loose .nil (passes_call (takes_of rfl rfl rfl rfl) (fun _ _ _ _ h => h)) (pa_cons (pv 1) (pa_cons (pv 2) pa_nil)))) (pss_one (ps_raise0 rfl T.ex_Loose (takes_of rfl rfl rfl rfl) rfl)) pss_nil)
      (pss_cons (ps_set (i := 3) sc_Shelf_fork.nd rfl (Or.inl rfl) (pe_lst (pa_cons (pe_ix ix_list (pe_fld (pv 0) rfl) (pv 1) (fun _ _ => rfl)) (pa_cons (pe_ix ix_list (pe_fld (pv 0) rfl) (pv 2) (fun _ _ => rfl)) pa_nil))))
      (pss_cons (ps_if (pt_cmpR op_gt (pe_op op_sub (pe_callB (cr_max rfl) (by rfl) T.z_max bt_max (pa_cons (pv 3) pa_nil)) (pe_callB (cr_min rfl) (by rfl) T.z_min bt_min (pa_cons (pv 3) pa_nil))) pe_int (nomark _)) (pss_one (ps_raise0 rfl T.ex_Unlevel (takes_of rfl rfl rfl rfl) rfl)) pss_nil)
      (pss_cons (ps_set (i := 4) sc_Shelf_fork.nd rfl (Or.inl rfl) (pe_op op_add (pe_ix ix_list (pe_fld (pv 0) rfl) (pv 1) (fun _ _ => rfl)) (pe_ix ix_list (pe_fld (pv 0) rfl) (pv 2) (fun _ _ => rfl))))
      (pss_cons (ps_if (pt_cmpR op_gt (pv 4) (pe_kint T.k_MOST_SIGNS (by rfl)) (nomark _)) (pss_one (ps_raise0 rfl T.ex_TooLong (takes_of rfl rfl rfl rfl) rfl)) pss_nil)
      (pss_cons (ps_set (i := 5) sc_Shelf_fork.nd rfl (Or.inl rfl) (pe_tup (pa_cons pe_str (pa_cons (pv 1) (pa_cons (pv 2) pa_nil)))))
      (pss_cons (ps_if (pt_cmp (pc_din hu (pv 5) (pe_fld (pv 0) rfl))) (pss_one (ps_ret (pe_dget hu (pe_fld (pv 0) rfl) (pv 5) (fun _ _ => rfl)))) pss_nil)
      (pss_cons (ps_set (i := 6) sc_Shelf_fork.nd rfl (Or.inl rfl) (pe_op op_add (pe_ix ix_list (pe_fld (pv 0) rfl) (pv 1) (fun _ _ => rfl)) (pe_ix ix_list (pe_fld (pv 0) rfl) (pv 2) (fun _ _ => rfl))))
      (pss_cons (ps_set (i := 7) sc_Shelf_fork.nd rfl (Or.inl rfl) (pe_op op_add (pe_ix ix_list (pe_fld (pv 0) rfl) (pv 1) (fun _ _ => rfl)) (pe_ix ix_list (pe_fld (pv 0) rfl) (pv 2) (fun _ _ => rfl))))
      (pss_cons (ps_set (i := 8) sc_Shelf_fork.nd rfl (Or.inl rfl) (pe_meth (pv 0) T.cl_Shelf T.me_Shelf_laid (ok_Shelf_laid T) (hr.mono (by omega)) T.bi_Shelf_laid .nil (passes_call (takes_of rfl rfl rfl rfl) (fun _ _ _ _ h => h)) (pa_cons (pv 5) (pa_cons (pv 4) (pa_cons (pv 6) (pa_cons (pv 7) (pa_cons (pe_op op_add pe_int (pe_callB (cr_max rfl) (by rfl) T.z_max bt_max (pa_cons (pv 3) pa_nil))) pa_nil)))))))
      (pss_cons (ps_expr (pe_bm PySem.F.plainAttrs_list PySem.F.slot_list_append PySem.F.type_list_append mt_append (pe_fld (pv 0) rfl) (pa_cons (pe_ix ix_list (pe_fld (pv 0) rfl) (pv 1) (fun _ _ => rfl)) pa_nil)))
      (pss_cons (ps_expr (pe_bm PySem.F.plainAttrs_list PySem.F.slot_list_append PySem.F.type_list_append mt_append (pe_fld (pv 0) rfl) (pa_cons (pe_ix ix_list (pe_fld (pv 0) rfl) (pv 2) (fun _ _ => rfl)) pa_nil)))
      (pss_one (ps_ret (pv 8))))))))))))))))), ?_⟩
  have no : ∀ {x : Str}, (x == "pieces" || x == "numbers" || x == "told_signs" || x == "told_ends" || x == "told_leaves" || x == "told_heights" || x == "firsts" || x == "lasts") = false → (flds c).lookup x = none := fl_no
  refine w_seq ?_
  refine w_drop (w_meth (w_var rfl ⟨c.a, c.dx, _, rfl, hS.ob, fl_no (by decide +kernel), w_cons (w_var rfl (w_nil ?_))⟩))
  by_cases e1 : ∃ a, Nm S n a
  rotate_left
  · have e1 : ∀ t, ¬ Nm S n t := fun t z => e1 ⟨t, z⟩
    rcases h with ⟨_, h⟩ | ⟨a, _, ha, _⟩
    · exact ⟨c, S, n, rfl, hS, .inr ⟨e1, h⟩⟩
    · exact absurd ha (e1 a)
  obtain ⟨a, ha⟩ := e1
  refine c_wantP hS ha ?_
  dsimp only
  refine w_seq ?_
  refine w_drop (w_meth (w_var rfl ⟨c.a, c.dx, _, rfl, hS.ob, fl_no (by decide +kernel), w_cons (w_var rfl (w_nil ?_))⟩))
  by_cases e2 : ∃ a, Nm S m a
  rotate_left
  · have e2 : ∀ t, ¬ Nm S m t := fun t z => e2 ⟨t, z⟩
    rcases h with ⟨_, h⟩ | ⟨_, b, _, hb, _⟩
    · exact ⟨c, S, m, rfl, hS, .inr ⟨e2, h⟩⟩
    · exact absurd hb (e2 b)
  obtain ⟨b, hb⟩ := e2
  refine c_wantP hS hb ?_
  dsimp only
  rcases h with ⟨z, _⟩ | ⟨a', b', ha', hb', h⟩
  · rcases z with z | z
    · exact absurd ha (z a)
    · exact absurd hb (z b)
  have ea := ha'.uni ha
  have eb := hb'.uni hb
  subst ea eb
  refine w_seq ?_
  refine w_ifS (w_tB (w_meth (w_var rfl ⟨c.a, c.dx, _, rfl, hS.ob, fl_no (by decide +kernel), w_cons (w_var rfl (w_cons (w_var rfl (w_nil (c_loose hS ha hb (w_bl (ite_d (fun l1 => ?_) (fun l1 => ?_)))))))) ⟩)))
  · rcases h with ⟨_, h⟩ | ⟨z, _⟩ | ⟨z, _⟩ | ⟨o, _⟩
    · exact h
    · omega
    · omega
    · have := o.2.2.2.2.1; omega
  refine w_next ?_
  dsimp only
  have hh : ∀ {x : Int} {t : Tr}, Nm S x t → atI (V.int (-1) :: S.map fun t => V.int t.ht) x = some (.int t.ht) := fun z => atI_nm z
  refine w_seq ?_
  refine w_asg (w_lst (w_cons (w_op (w_fld (w_var rfl ⟨c.a, _, _, _, _, rfl, hS.ob, T.cl_Shelf, T.na_Shelf_told_heights, fl_heights c, w_var rfl (w_ixl (SqL.of hS.ht) (hh ha) ?_)⟩)))))
  refine w_cons (w_op (w_fld (w_var rfl ⟨c.a, _, _, _, _, rfl, hS.ob, T.cl_Shelf, T.na_Shelf_told_heights, fl_heights c, w_var rfl (w_ixl (SqL.of hS.ht) (hh hb) (w_nil (w_mkl (by show 2 ≤ sizeLine; rw [sizeLine_eq]; decide) fun hl H1 nh s1 hh1 => w_gname ?_)))⟩)))
  dsimp only
  have hS1 := hS.same s1
  have hq : SqL K H1 hl (([(a'.ht : Int), (b'.ht : Int)] : List Int).map V.int) := SqL.of hh1
  refine w_seq ?_
  refine w_ifS (w_test (w_op (w_op (w_cb (w_cons (w_var rfl (w_nil ⟨hl, _, rfl, hq, by simp, fun M hM hM2 => ?_⟩)))))))
  refine w_cb (w_cons (w_var rfl (w_nil ⟨hl, _, rfl, hq, by simp, fun N hN hN2 => w_rI0 (w_c (w_rI0 ⟨_, rfl, ?_⟩))⟩)))
  have M1 := hM2 a'.ht (by simp)
  have M2 := hM2 b'.ht (by simp)
  have N1 := hN2 a'.ht (by simp)
  have N2 := hN2 b'.ht (by simp)
  have M3 := mem2 hM
  have N3 := mem2 hN
  refine ite_d (fun l2 => ?_) (fun l2 => ?_)
  · rcases h with ⟨z, _⟩ | ⟨_, _, h⟩ | ⟨_, _, _, _⟩ | ⟨o, _⟩
    · exact absurd z l1
    · exact h H1 s1
    · omega
    · have := o.2.2.1; have := o.2.2.2.1; omega
  refine w_next ?_
  dsimp only
  refine w_seq ?_
  refine w_asg (w_op (w_op (w_fld (w_var rfl ⟨c.a, _, _, _, _, rfl, hS1.ob, T.cl_Shelf, T.na_Shelf_told_signs, fl_signs c, w_var rfl (w_ixl (SqL.of hS1.sg) (atI_nm ha) ?_)⟩))))
  refine w_op (w_fld (w_var rfl ⟨c.a, _, _, _, _, rfl, hS1.ob, T.cl_Shelf, T.na_Shelf_told_signs, fl_signs c, w_var rfl (w_ixl (SqL.of hS1.sg) (atI_nm hb) (w_rI0 (w_gname ?_)))⟩))
  dsimp only
  refine w_seq ?_
  refine w_ifS (w_test (w_op (w_var rfl (w_c (w_rI0 ⟨_, rfl, ite_d (fun l3 => ?_) (fun l3 => ?_)⟩)))))
  · rcases h with ⟨z, _⟩ | ⟨_, z, _⟩ | ⟨_, _, _, _, h⟩ | ⟨o, _⟩
    · exact absurd z l1
    · omega
    · exact h H1 s1
    · have := o.2.2.2.2.2; unfold mostSg at this; omega
  refine w_next ?_
  dsimp only
  rcases h with ⟨z, _⟩ | ⟨_, z, _⟩ | ⟨_, _, _, z, _⟩ | ⟨o, hc, k⟩
  · exact absurd z l1
  · omega
  · unfold mostSg at z; omega
  have en : n = num S a' := ha.num hS.gd.nd
  have em : m = num S b' := hb.num hS.gd.nd
  have kt : ∀ x y, Tr.fk a' b' = .fk x y → x ∈ S ∧ y ∈ S := fun x y z => by
    injection z with z1 z2
    subst z1 z2
    exact ⟨ha.mem, hb.mem⟩
  refine w_seq ?_
  refine w_asg (w_tup (w_cons (w_c (w_cons (w_var rfl (w_cons (w_var rfl (w_nil (w_mkt (by show 3 ≤ sizeLine; rw [sizeLine_eq]; decide) fun p H2 np s2 hp2 => w_gname ?_)))))))))
  dsimp only
  have hS2 := hS1.same s2
  have hp2' : H2 p = some (.tup ((key S (.fk a' b')).map kV)) := by
    rw [hp2, key_fk, en, em]; rfl
  refine w_seq ?_
  refine ⟨_, rfl, _, rfl, c.a, _, _, _, _, rfl, hS2.ob, T.cl_Shelf, T.na_Shelf_numbers, fl_numbers c, c.nb, _, rfl, DGet.t (k := key S (.fk a' b')) hS2.nb hp2', _, rfl, ?_⟩
  rw [valV_kvs hS.gd kt]
  by_cases hm : Tr.fk a' b' ∈ S
  · rw [if_pos hm]
    refine iteT (w_ret ?_)
    refine ⟨_, rfl, c.a, _, _, _, _, rfl, hS2.ob, T.cl_Shelf, T.na_Shelf_numbers, fl_numbers c, _, rfl, c.nb, V.int (num S (.fk a' b')), rfl, ?_, ?_⟩
    · have := DGet.t (k := key S (.fk a' b')) hS2.nb hp2'
      rw [valV_kvs hS.gd kt, if_pos hm] at this; exact this
    · have := k H2 (by rw [put_in hm]; exact hS2) (Keep.of (s1.trans s2))
      rw [put_in hm] at this; exact this
  rw [if_neg hm]
  refine iteF (w_next ?_)
  dsimp only
  refine w_seq ?_
  refine w_asg (w_op (w_op (w_fld (w_var rfl ⟨c.a, _, _, _, _, rfl, hS2.ob, T.cl_Shelf, T.na_Shelf_told_ends, fl_ends c, w_var rfl (w_ixl (SqL.of hS2.en) (atI_nm ha) ?_)⟩))))
  refine w_op (w_fld (w_var rfl ⟨c.a, _, _, _, _, rfl, hS2.ob, T.cl_Shelf, T.na_Shelf_told_ends, fl_ends c, w_var rfl (w_ixl (SqL.of hS2.en) (atI_nm hb) (w_rI0 (w_gname ?_)))⟩))
  dsimp only
  refine w_seq ?_
  refine w_asg (w_op (w_op (w_fld (w_var rfl ⟨c.a, _, _, _, _, rfl, hS2.ob, T.cl_Shelf, T.na_Shelf_told_leaves, fl_leaves c, w_var rfl (w_ixl (SqL.of hS2.lv) (atI_nm ha) ?_)⟩))))
  refine w_op (w_fld (w_var rfl ⟨c.a, _, _, _, _, rfl, hS2.ob, T.cl_Shelf, T.na_Shelf_told_leaves, fl_leaves c, w_var rfl (w_ixl (SqL.of hS2.lv) (atI_nm hb) (w_rI0 (w_gname ?_)))⟩))
  dsimp only
  obtain ⟨rs, q1, q2, q3⟩ := hS2.pc
  have hq2 : SqL K H2 hl (([(a'.ht : Int), (b'.ht : Int)] : List Int).map V.int) := SqL.of (s2 _ _ hh1)
  refine w_seq ?_
  refine w_asg (w_meth (w_var rfl ⟨c.a, c.dx, _, rfl, hS2.ob, fl_no (by decide +kernel), w_cons (w_var rfl (w_cons (w_var rfl (w_cons (w_var rfl (w_cons (w_var rfl ?_))))))) ⟩))
  refine w_cons (w_op (w_c (w_cb (w_cons (w_var rfl (w_nil ⟨hl, _, rfl, hq2, by simp, fun M' hM' hM2' => w_rI0 (w_nil ?_)⟩))))))
  have M1' := hM2' a'.ht (by simp)
  have M2' := hM2' b'.ht (by simp)
  have M3' := mem2 hM'
  have eht : (1 : Int) + M' = ((Tr.fk a' b').ht : Int) := by rw [Tr.ht]; omega
  have esg : (a'.sg : Int) + b'.sg = ((Tr.fk a' b').sg : Int) := by rw [Tr.sg]; omega
  have een : (a'.en : Int) + b'.en = ((Tr.fk a' b').en : Int) := by rw [Tr.en]; omega
  have elv : (a'.lv : Int) + b'.lv = ((Tr.fk a' b').lv : Int) := by rw [Tr.lv]; omega
  rw [eht, esg, een, elv]
  refine ⟨c, S, .fk a' b', p, _, rfl, hS2, hp2', hc, q1, w_gname ?_⟩
  dsimp only
  have nd := hS.nd
  have szm : ∀ (z : V) (F : Tr → V), (z :: S.map F).length < sizeLine := fun z F => by have := cap_line; simp; omega
  have hob := (laid_at (xs := .non :: rs.map V.ref) (t := .fk a' b') (p := p) (S := S) nd 0).trans hS2.ob
  have hfi := (laid_at (xs := .non :: rs.map V.ref) (t := .fk a' b') (p := p) (S := S) nd 8).trans hS2.fi
  have hla := (laid_at (xs := .non :: rs.map V.ref) (t := .fk a' b') (p := p) (S := S) nd 9).trans hS2.la
  refine w_seq ?_
  refine w_drop (w_bm (w_fld (w_var rfl ⟨c.a, _, _, _, _, rfl, hob, T.cl_Shelf, T.na_Shelf_firsts, fl_firsts c, .inl ⟨rfl, _, SqL.of hfi⟩, ?_⟩)))
  refine w_cons (w_op (w_fld (w_var rfl ⟨c.a, _, _, _, _, rfl, hob, T.cl_Shelf, T.na_Shelf_firsts, fl_firsts c, w_var rfl (w_ixl (SqL.of hfi) (atI_nm ha) (w_nil ⟨c.fi, _, _, rfl, rfl, hfi, szm _ _, ?_⟩))⟩)))
  dsimp only
  refine w_seq ?_
  refine w_drop (w_bm (w_fld (w_var rfl ⟨c.a, _, _, _, _, rfl, uc nd 0 8 hob, T.cl_Shelf, T.na_Shelf_lasts, fl_lasts c, .inl ⟨rfl, _, SqL.of (uc nd 9 8 hla)⟩, ?_⟩)))
  refine w_cons (w_op (w_fld (w_var rfl ⟨c.a, _, _, _, _, rfl, uc nd 0 8 hob, T.cl_Shelf, T.na_Shelf_lasts, fl_lasts c, w_var rfl (w_ixl (SqL.of (uc nd 9 8 hla)) (atI_nm hb) (w_nil ⟨c.la, _, _, rfl, rfl, uc nd 9 8 hla, szm _ _, ?_⟩))⟩)))
  dsimp only
  refine w_ret (w_var rfl ?_)
  have ex : Ext S (S ++ [Tr.fk a' b']) := List.prefix_append _ _
  obtain ⟨x1, x2⟩ := lain_ok hS2 q1 hp2' o hm kt hc (f := num S a'.fi) (l := num S b'.la) (num_ext ex (hS.gd.fi ha.mem)).symm (num_ext ex (hS.gd.la hb.mem)).symm
  have := k _ (by rw [put_new hm]; exact x1) ((Keep.of (s1.trans s2)).trans x2)
  rw [put_num_new hm] at this
  exact this
end

section
variable {P : Program} {w : World} {K : PySem.W.Frag} {mg : Str → Option Value} {base : Heap} {A : Ad}
abbrev n_Shelf___init__ : List Str := ["self"]
theorem sc_Shelf___init__ : FnScope n_Shelf___init__ p_Shelf___init__ (defScope s_Shelf___init__) := ⟨rfl, rfl, rfl, by decide +kernel, rfl, by decide +kernel, by decide +kernel⟩
theorem ok_Shelf___init__ (T : Txt K mg A) : FnOk P w K mg base (L2.CX P w) 1 A.f_Shelf___init__ A.d_Shelf___init__ p_Shelf___init__ (spShelf A.C_Shelf) := by
  refine T.fn_Shelf___init__.okX sc_Shelf___init__ (fun vs H Q E h => ?_) (fun cdv B outer s H vs Q E hr h => ?_)
  · obtain ⟨p, dx, rfl, _⟩ := h; rfl
  obtain ⟨p, dx, rfl, hp, hd, hne, k⟩ := h
  refine ⟨_, (pss_cons (ps_fld (pv 0) (pe_lst (pa_cons pe_non pa_nil)) rfl)
      (pss_cons (ps_fld (pv 0) pe_dnewT rfl)
      (pss_cons (ps_fld (pv 0) (pe_lst (pa_cons pe_int pa_nil)) rfl)
      (pss_cons (ps_fld (pv 0) (pe_lst (pa_cons pe_int pa_nil)) rfl)
      (pss_cons (ps_fld (pv 0) (pe_lst (pa_cons pe_int pa_nil)) rfl)
      (pss_cons (ps_fld (pv 0) (pe_lst (pa_cons (pe_un un_neg pe_int) pa_nil)) rfl)
      (pss_cons (ps_fld (pv 0) (pe_lst (pa_cons pe_int pa_nil)) rfl)
      (pss_one (ps_fld (pv 0) (pe_lst (pa_cons pe_int pa_nil)) rfl))))))))), ?_⟩
  have l1 : ∀ x : V, [x].length ≤ sizeLine := fun x => by show 1 ≤ sizeLine; rw [sizeLine_eq]; decide
  refine w_seq ?_
  refine w_lst (w_cons (w_c (w_nil ⟨l1 _, fun zpc npc => ?_⟩)))
  have ppc : zpc ≠ p := (ne_of_none hp npc).symm
  refine ⟨_, rfl, p, _, dx, _, rfl, (by rw [upd_ne ppc.symm]; exact hp), T.cl_Shelf, T.na_Shelf_pieces, (by show 0 < 1000; decide), ?_⟩
  rw [show putF "pieces" (V.ref zpc) ([] : List (Str × V)) = [(("pieces" : Str), V.ref zpc)] from putF_new (ks := ([] : List Str)) rfl (by decide +kernel)]
  generalize e0 : upd (upd H zpc (HO.lst [.non])) p (.ins A.C_Shelf dx [(("pieces" : Str), V.ref zpc)]) = H0
  have g0 : H0 p = some (.ins A.C_Shelf dx [(("pieces" : Str), V.ref zpc)]) := by rw [← e0]; exact upd_same
  have hd_0 : H0 dx = some (.own p) := by rw [← e0]; exact mkS npc hne hd
  have cpc_0 : H0 zpc = some (.lst [.non]) := by rw [← e0]; exact mkN ppc
  have fr0 : ∀ b o, H b = some o → b ≠ p → H0 b = some o := fun b o e nb => by rw [← e0]; exact mkS npc nb e
  have opc : H zpc = none := by cases e : H zpc with | none => rfl | some o => exact absurd (e.symm.trans npc) (by simp)
  dsimp only
  have ddxpc : dx ≠ zpc := ne_of_none hd npc
  refine w_seq ?_
  refine fun znb nnb => ?_
  have pnb : znb ≠ p := (ne_of_none g0 nnb).symm
  refine ⟨_, rfl, p, _, dx, _, rfl, (by rw [upd_ne pnb.symm]; exact g0), T.cl_Shelf, T.na_Shelf_numbers, (by show 1 < 1000; decide), ?_⟩
  rw [show putF "numbers" (V.ref znb) ([(("pieces" : Str), V.ref zpc)] : List (Str × V)) = [(("pieces" : Str), V.ref zpc), (("numbers" : Str), V.ref znb)] from putF_new (ks := (["pieces"] : List Str)) rfl (by decide +kernel)]
  generalize e1 : upd (upd H0 znb (HO.dT [])) p (.ins A.C_Shelf dx [(("pieces" : Str), V.ref zpc), (("numbers" : Str), V.ref znb)]) = H1
  have g1 : H1 p = some (.ins A.C_Shelf dx [(("pieces" : Str), V.ref zpc), (("numbers" : Str), V.ref znb)]) := by rw [← e1]; exact upd_same
  have hd_1 : H1 dx = some (.own p) := by rw [← e1]; exact mkS nnb hne hd_0
  have cpc_1 : H1 zpc = some (.lst [.non]) := by rw [← e1]; exact mkS nnb ppc cpc_0
  have cnb_1 : H1 znb = some (.dT []) := by rw [← e1]; exact mkN pnb
  have fr1 : ∀ b o, H b = some o → b ≠ p → H1 b = some o := fun b o e nb => by rw [← e1]; exact mkS nnb nb (fr0 b o e nb)
  have onb : H znb = none := by cases e : H znb with | none => rfl | some o => exact absurd ((fr0 _ o e (fun z => by rw [z, hp] at e; exact pnb z)).symm.trans nnb) (by simp)
  dsimp only
  have dpcnb : zpc ≠ znb := ne_of_none cpc_0 nnb
  have ddxnb : dx ≠ znb := ne_of_none hd_0 nnb
  refine w_seq ?_
  refine w_lst (w_cons (w_c (w_nil ⟨l1 _, fun zsg nsg => ?_⟩)))
  have psg : zsg ≠ p := (ne_of_none g1 nsg).symm
  refine ⟨_, rfl, p, _, dx, _, rfl, (by rw [upd_ne psg.symm]; exact g1), T.cl_Shelf, T.na_Shelf_told_signs, (by show 2 < 1000; decide), ?_⟩
  rw [show putF "told_signs" (V.ref zsg) ([(("pieces" : Str), V.ref zpc), (("numbers" : Str), V.ref znb)] : List (Str × V)) = [(("pieces" : Str), V.ref zpc), (("numbers" : Str), V.ref znb), (("told_signs" : Str), V.ref zsg)] from putF_new (ks := (["pieces", "numbers"] : List Str)) rfl (by decide +kernel)]
  generalize e2 : upd (upd H1 zsg (HO.lst [.int 0])) p (.ins A.C_Shelf dx [(("pieces" : Str), V.ref zpc), (("numbers" : Str), V.ref znb), (("told_signs" : Str), V.ref zsg)]) = H2
  have g2 : H2 p = some (.ins A.C_Shelf dx [(("pieces" : Str), V.ref zpc), (("numbers" : Str), V.ref znb), (("told_signs" : Str), V.ref zsg)]) := by rw [← e2]; exact upd_same
  have hd_2 : H2 dx = some (.own p) := by rw [← e2]; exact mkS nsg hne hd_1
  have cpc_2 : H2 zpc = some (.lst [.non]) := by rw [← e2]; exact mkS nsg ppc cpc_1
  have cnb_2 : H2 znb = some (.dT []) := by rw [← e2]; exact mkS nsg pnb cnb_1
  have csg_2 : H2 zsg = some (.lst [.int 0]) := by rw [← e2]; exact mkN psg
  have fr2 : ∀ b o, H b = some o → b ≠ p → H2 b = some o := fun b o e nb => by rw [← e2]; exact mkS nsg nb (fr1 b o e nb)
  have osg : H zsg = none := by cases e : H zsg with | none => rfl | some o => exact absurd ((fr1 _ o e (fun z => by rw [z, hp] at e; exact psg z)).symm.trans nsg) (by simp)
  dsimp only
  have dpcsg : zpc ≠ zsg := ne_of_none cpc_1 nsg
  have dnbsg : znb ≠ zsg := ne_of_none cnb_1 nsg
  have ddxsg : dx ≠ zsg := ne_of_none hd_1 nsg
  refine w_seq ?_
  refine w_lst (w_cons (w_c (w_nil ⟨l1 _, fun zen nen => ?_⟩)))
  have pen : zen ≠ p := (ne_of_none g2 nen).symm
  refine ⟨_, rfl, p, _, dx, _, rfl, (by rw [upd_ne pen.symm]; exact g2), T.cl_Shelf, T.na_Shelf_told_ends, (by show 3 < 1000; decide), ?_⟩
  rw [show putF "told_ends" (V.ref zen) ([(("pieces" : Str), V.ref zpc), (("numbers" : Str), V.ref znb), (("told_signs" : Str), V.ref zsg)] : List (Str × V)) = [(("pieces" : Str), V.ref zpc), (("numbers" : Str), V.ref znb), (("told_signs" : Str), V.ref zsg), (("told_ends" : Str), V.ref zen)] from putF_new (ks := (["pieces", "numbers", "told_signs"] : List Str)) rfl (by decide +kernel)]
  generalize e3 : upd (upd H2 zen (HO.lst [.int 0])) p (.ins A.C_Shelf dx [(("pieces" : Str), V.ref zpc), (("numbers" : Str), V.ref znb), (("told_signs" : Str), V.ref zsg), (("told_ends" : Str), V.ref zen)]) = H3
  have g3 : H3 p = some (.ins A.C_Shelf dx [(("pieces" : Str), V.ref zpc), (("numbers" : Str), V.ref znb), (("told_signs" : Str), V.ref zsg), (("told_ends" : Str), V.ref zen)]) := by rw [← e3]; exact upd_same
  have hd_3 : H3 dx = some (.own p) := by rw [← e3]; exact mkS nen hne hd_2
  have cpc_3 : H3 zpc = some (.lst [.non]) := by rw [← e3]; exact mkS nen ppc cpc_2
  have cnb_3 : H3 znb = some (.dT []) := by rw [← e3]; exact mkS nen pnb cnb_2
  have csg_3 : H3 zsg = some (.lst [.int 0]) := by rw [← e3]; exact mkS nen psg csg_2
  have cen_3 : H3 zen = some (.lst [.int 0]) := by rw [← e3]; exact mkN pen
  have fr3 : ∀ b o, H b = some o → b ≠ p → H3 b = some o := fun b o e nb => by rw [← e3]; exact mkS nen nb (fr2 b o e nb)
  have oen : H zen = none := by cases e : H zen with | none => rfl | some o => exact absurd ((fr2 _ o e (fun z => by rw [z, hp] at e; exact pen z)).symm.trans nen) (by simp)
  dsimp only
  have dpcen : zpc ≠ zen := ne_of_none cpc_2 nen
  have dnben : znb ≠ zen := ne_of_none cnb_2 nen
  have dsgen : zsg ≠ zen := ne_of_none csg_2 nen
  have ddxen : dx ≠ zen := ne_of_none hd_2 nen
  refine w_seq ?_
  refine w_lst (w_cons (w_c (w_nil ⟨l1 _, fun zlv nlv => ?_⟩)))
  have plv : zlv ≠ p := (ne_of_none g3 nlv).symm
  refine ⟨_, rfl, p, _, dx, _, rfl, (by rw [upd_ne plv.symm]; exact g3), T.cl_Shelf, T.na_Shelf_told_leaves, (by show 4 < 1000; decide), ?_⟩
  rw [show putF "told_leaves" (V.ref zlv) ([(("pieces" : Str), V.ref zpc), (("numbers" : Str), V.ref znb), (("told_signs" : Str), V.ref zsg), (("told_ends" : Str), V.ref zen)] : List (Str × V)) = [(("pieces" : Str), V.ref zpc), (("numbers" : Str), V.ref znb), (("told_signs" : Str), V.ref zsg), (("told_ends" : Str), V.ref zen), (("told_leaves" : Str), V.ref zlv)] from putF_new (ks := (["pieces", "numbers", "told_signs", "told_ends"] : List Str)) rfl (by decide +kernel)]
  generalize e4 : upd (upd H3 zlv (HO.lst [.int 0])) p (.ins A.C_Shelf dx [(("pieces" : Str), V.ref zpc), (("numbers" : Str), V.ref znb), (("told_signs" : Str), V.ref zsg), (("told_ends" : Str), V.ref zen), (("told_leaves" : Str), V.ref zlv)]) = H4
  have g4 : H4 p = some (.ins A.C_Shelf dx [(("pieces" : Str), V.ref zpc), (("numbers" : Str), V.ref znb), (("told_signs" : Str), V.ref zsg), (("told_ends" : Str), V.ref zen), (("told_leaves" : Str), V.ref zlv)]) := by rw [← e4]; exact upd_same
  have hd_4 : H4 dx = some (.own p) := by rw [← e4]; exact mkS nlv hne hd_3
  have cpc_4 : H4 zpc = some (.lst [.non]) := by rw [← e4]; exact mkS nlv ppc cpc_3
  have cnb_4 : H4 znb = some (.dT []) := by rw [← e4]; exact mkS nlv pnb cnb_3
  have csg_4 : H4 zsg = some (.lst [.int 0]) := by rw [← e4]; exact mkS nlv psg csg_3
  have cen_4 : H4 zen = some (.lst [.int 0]) := by rw [← e4]; exact mkS nlv pen cen_3
  have clv_4 : H4 zlv = some (.lst [.int 0]) := by rw [← e4]; exact mkN plv
  have fr4 : ∀ b o, H b = some o → b ≠ p → H4 b = some o := fun b o e nb => by rw [← e4]; exact mkS nlv nb (fr3 b o e nb)
  have olv : H zlv = none := by cases e : H zlv with | none => rfl | some o => exact absurd ((fr3 _ o e (fun z => by rw [z, hp] at e; exact plv z)).symm.trans nlv) (by simp)
  dsimp only
  have dpclv : zpc ≠ zlv := ne_of_none cpc_3 nlv
  have dnblv : znb ≠ zlv := ne_of_none cnb_3 nlv
  have dsglv : zsg ≠ zlv := ne_of_none csg_3 nlv
  have denlv : zen ≠ zlv := ne_of_none cen_3 nlv
  have ddxlv : dx ≠ zlv := ne_of_none hd_3 nlv
  refine w_seq ?_
  refine w_lst (w_cons (w_un (w_c (w_rU (w_nil ⟨l1 _, fun zht nht => ?_⟩)))))
  have pht : zht ≠ p := (ne_of_none g4 nht).symm
  refine ⟨_, rfl, p, _, dx, _, rfl, (by rw [upd_ne pht.symm]; exact g4), T.cl_Shelf, T.na_Shelf_told_heights, (by show 5 < 1000; decide), ?_⟩
  rw [show putF "told_heights" (V.ref zht) ([(("pieces" : Str), V.ref zpc), (("numbers" : Str), V.ref znb), (("told_signs" : Str), V.ref zsg), (("told_ends" : Str), V.ref zen), (("told_leaves" : Str), V.ref zlv)] : List (Str × V)) = [(("pieces" : Str), V.ref zpc), (("numbers" : Str), V.ref znb), (("told_signs" : Str), V.ref zsg), (("told_ends" : Str), V.ref zen), (("told_leaves" : Str), V.ref zlv), (("told_heights" : Str), V.ref zht)] from putF_new (ks := (["pieces", "numbers", "told_signs", "told_ends", "told_leaves"] : List Str)) rfl (by decide +kernel)]
  generalize e5 : upd (upd H4 zht (HO.lst [.int (-1)])) p (.ins A.C_Shelf dx [(("pieces" : Str), V.ref zpc), (("numbers" : Str), V.ref znb), (("told_signs" : Str), V.ref zsg), (("told_ends" : Str), V.ref zen), (("told_leaves" : Str), V.ref zlv), (("told_heights" : Str), V.ref zht)]) = H5
  have g5 : H5 p = some (.ins A.C_Shelf dx [(("pieces" : Str), V.ref zpc), (("numbers" : Str), V.ref znb), (("told_signs" : Str), V.ref zsg), (("told_ends" : Str), V.ref zen), (("told_leaves" : Str), V.ref zlv), (("told_heights" : Str), V.ref zht)]) := by rw [← e5]; exact upd_same
  have hd_5 : H5 dx = some (.own p) := by rw [← e5]; exact mkS nht hne hd_4
  have cpc_5 : H5 zpc = some (.lst [.non]) := by rw [← e5]; exact mkS nht ppc cpc_4
  have cnb_5 : H5 znb = some (.dT []) := by rw [← e5]; exact mkS nht pnb cnb_4
  have csg_5 : H5 zsg = some (.lst [.int 0]) := by rw [← e5]; exact mkS nht psg csg_4
  have cen_5 : H5 zen = some (.lst [.int 0]) := by rw [← e5]; exact mkS nht pen cen_4
  have clv_5 : H5 zlv = some (.lst [.int 0]) := by rw [← e5]; exact mkS nht plv clv_4
  have cht_5 : H5 zht = some (.lst [.int (-1)]) := by rw [← e5]; exact mkN pht
  have fr5 : ∀ b o, H b = some o → b ≠ p → H5 b = some o := fun b o e nb => by rw [← e5]; exact mkS nht nb (fr4 b o e nb)
  have oht : H zht = none := by cases e : H zht with | none => rfl | some o => exact absurd ((fr4 _ o e (fun z => by rw [z, hp] at e; exact pht z)).symm.trans nht) (by simp)
  dsimp only
  have dpcht : zpc ≠ zht := ne_of_none cpc_4 nht
  have dnbht : znb ≠ zht := ne_of_none cnb_4 nht
  have dsght : zsg ≠ zht := ne_of_none csg_4 nht
  have denht : zen ≠ zht := ne_of_none cen_4 nht
  have dlvht : zlv ≠ zht := ne_of_none clv_4 nht
  have ddxht : dx ≠ zht := ne_of_none hd_4 nht
  refine w_seq ?_
  refine w_lst (w_cons (w_c (w_nil ⟨l1 _, fun zfi nfi => ?_⟩)))
  have pfi : zfi ≠ p := (ne_of_none g5 nfi).symm
  refine ⟨_, rfl, p, _, dx, _, rfl, (by rw [upd_ne pfi.symm]; exact g5), T.cl_Shelf, T.na_Shelf_firsts, (by show 6 < 1000; decide), ?_⟩
  rw [show putF "firsts" (V.ref zfi) ([(("pieces" : Str), V.ref zpc), (("numbers" : Str), V.ref znb), (("told_signs" : Str), V.ref zsg), (("told_ends" : Str), V.ref zen), (("told_leaves" : Str), V.ref zlv), (("told_heights" : Str), V.ref zht)] : List (Str × V)) = [(("pieces" : Str), V.ref zpc), (("numbers" : Str), V.ref znb), (("told_signs" : Str), V.ref zsg), (("told_ends" : Str), V.ref zen), (("told_leaves" : Str), V.ref zlv), (("told_heights" : Str), V.ref zht), (("firsts" : Str), V.ref zfi)] from putF_new (ks := (["pieces", "numbers", "told_signs", "told_ends", "told_leaves", "told_heights"] : List Str)) rfl (by decide +kernel)]
  generalize e6 : upd (upd H5 zfi (HO.lst [.int 0])) p (.ins A.C_Shelf dx [(("pieces" : Str), V.ref zpc), (("numbers" : Str), V.ref znb), (("told_signs" : Str), V.ref zsg), (("told_ends" : Str), V.ref zen), (("told_leaves" : Str), V.ref zlv), (("told_heights" : Str), V.ref zht), (("firsts" : Str), V.ref zfi)]) = H6
  have g6 : H6 p = some (.ins A.C_Shelf dx [(("pieces" : Str), V.ref zpc), (("numbers" : Str), V.ref znb), (("told_signs" : Str), V.ref zsg), (("told_ends" : Str), V.ref zen), (("told_leaves" : Str), V.ref zlv), (("told_heights" : Str), V.ref zht), (("firsts" : Str), V.ref zfi)]) := by rw [← e6]; exact upd_same
  have hd_6 : H6 dx = some (.own p) := by rw [← e6]; exact mkS nfi hne hd_5
  have cpc_6 : H6 zpc = some (.lst [.non]) := by rw [← e6]; exact mkS nfi ppc cpc_5
  have cnb_6 : H6 znb = some (.dT []) := by rw [← e6]; exact mkS nfi pnb cnb_5
  have csg_6 : H6 zsg = some (.lst [.int 0]) := by rw [← e6]; exact mkS nfi psg csg_5
  have cen_6 : H6 zen = some (.lst [.int 0]) := by rw [← e6]; exact mkS nfi pen cen_5
  have clv_6 : H6 zlv = some (.lst [.int 0]) := by rw [← e6]; exact mkS nfi plv clv_5
  have cht_6 : H6 zht = some (.lst [.int (-1)]) := by rw [← e6]; exact mkS nfi pht cht_5
  have cfi_6 : H6 zfi = some (.lst [.int 0]) := by rw [← e6]; exact mkN pfi
  have fr6 : ∀ b o, H b = some o → b ≠ p → H6 b = some o := fun b o e nb => by rw [← e6]; exact mkS nfi nb (fr5 b o e nb)
  have ofi : H zfi = none := by cases e : H zfi with | none => rfl | some o => exact absurd ((fr5 _ o e (fun z => by rw [z, hp] at e; exact pfi z)).symm.trans nfi) (by simp)
  dsimp only
  have dpcfi : zpc ≠ zfi := ne_of_none cpc_5 nfi
  have dnbfi : znb ≠ zfi := ne_of_none cnb_5 nfi
  have dsgfi : zsg ≠ zfi := ne_of_none csg_5 nfi
  have denfi : zen ≠ zfi := ne_of_none cen_5 nfi
  have dlvfi : zlv ≠ zfi := ne_of_none clv_5 nfi
  have dhtfi : zht ≠ zfi := ne_of_none cht_5 nfi
  have ddxfi : dx ≠ zfi := ne_of_none hd_5 nfi
  refine w_lst (w_cons (w_c (w_nil ⟨l1 _, fun zla nla => ?_⟩)))
  have pla : zla ≠ p := (ne_of_none g6 nla).symm
  refine ⟨_, rfl, p, _, dx, _, rfl, (by rw [upd_ne pla.symm]; exact g6), T.cl_Shelf, T.na_Shelf_lasts, (by show 7 < 1000; decide), ?_⟩
  rw [show putF "lasts" (V.ref zla) ([(("pieces" : Str), V.ref zpc), (("numbers" : Str), V.ref znb), (("told_signs" : Str), V.ref zsg), (("told_ends" : Str), V.ref zen), (("told_leaves" : Str), V.ref zlv), (("told_heights" : Str), V.ref zht), (("firsts" : Str), V.ref zfi)] : List (Str × V)) = [(("pieces" : Str), V.ref zpc), (("numbers" : Str), V.ref znb), (("told_signs" : Str), V.ref zsg), (("told_ends" : Str), V.ref zen), (("told_leaves" : Str), V.ref zlv), (("told_heights" : Str), V.ref zht), (("firsts" : Str), V.ref zfi), (("lasts" : Str), V.ref zla)] from putF_new (ks := (["pieces", "numbers", "told_signs", "told_ends", "told_leaves", "told_heights", "firsts"] : List Str)) rfl (by decide +kernel)]
  generalize e7 : upd (upd H6 zla (HO.lst [.int 0])) p (.ins A.C_Shelf dx [(("pieces" : Str), V.ref zpc), (("numbers" : Str), V.ref znb), (("told_signs" : Str), V.ref zsg), (("told_ends" : Str), V.ref zen), (("told_leaves" : Str), V.ref zlv), (("told_heights" : Str), V.ref zht), (("firsts" : Str), V.ref zfi), (("lasts" : Str), V.ref zla)]) = H7
  have g7 : H7 p = some (.ins A.C_Shelf dx [(("pieces" : Str), V.ref zpc), (("numbers" : Str), V.ref znb), (("told_signs" : Str), V.ref zsg), (("told_ends" : Str), V.ref zen), (("told_leaves" : Str), V.ref zlv), (("told_heights" : Str), V.ref zht), (("firsts" : Str), V.ref zfi), (("lasts" : Str), V.ref zla)]) := by rw [← e7]; exact upd_same
  have hd_7 : H7 dx = some (.own p) := by rw [← e7]; exact mkS nla hne hd_6
  have cpc_7 : H7 zpc = some (.lst [.non]) := by rw [← e7]; exact mkS nla ppc cpc_6
  have cnb_7 : H7 znb = some (.dT []) := by rw [← e7]; exact mkS nla pnb cnb_6
  have csg_7 : H7 zsg = some (.lst [.int 0]) := by rw [← e7]; exact mkS nla psg csg_6
  have cen_7 : H7 zen = some (.lst [.int 0]) := by rw [← e7]; exact mkS nla pen cen_6
  have clv_7 : H7 zlv = some (.lst [.int 0]) := by rw [← e7]; exact mkS nla plv clv_6
  have cht_7 : H7 zht = some (.lst [.int (-1)]) := by rw [← e7]; exact mkS nla pht cht_6
  have cfi_7 : H7 zfi = some (.lst [.int 0]) := by rw [← e7]; exact mkS nla pfi cfi_6
  have cla_7 : H7 zla = some (.lst [.int 0]) := by rw [← e7]; exact mkN pla
  have fr7 : ∀ b o, H b = some o → b ≠ p → H7 b = some o := fun b o e nb => by rw [← e7]; exact mkS nla nb (fr6 b o e nb)
  have ola : H zla = none := by cases e : H zla with | none => rfl | some o => exact absurd ((fr6 _ o e (fun z => by rw [z, hp] at e; exact pla z)).symm.trans nla) (by simp)
  dsimp only
  have dpcla : zpc ≠ zla := ne_of_none cpc_6 nla
  have dnbla : znb ≠ zla := ne_of_none cnb_6 nla
  have dsgla : zsg ≠ zla := ne_of_none csg_6 nla
  have denla : zen ≠ zla := ne_of_none cen_6 nla
  have dlvla : zlv ≠ zla := ne_of_none clv_6 nla
  have dhtla : zht ≠ zla := ne_of_none cht_6 nla
  have dfila : zfi ≠ zla := ne_of_none cfi_6 nla
  have ddxla : dx ≠ zla := ne_of_none hd_6 nla
  refine k ⟨p, dx, zpc, znb, zsg, zen, zlv, zht, zfi, zla⟩ H7 rfl ⟨g7, hd_7, ⟨[], cpc_7, rfl, fun i r t e => by simp at e⟩, cnb_7, csg_7, cen_7, clv_7, cht_7, cfi_7, cla_7, good_nil, ?_, Nat.zero_le _⟩ fr7 ?_
  · simp only [Cells.all, List.nodup_cons, List.mem_cons, List.not_mem_nil, or_false, not_or, List.nodup_nil, not_false_eq_true, and_true]
    exact ⟨⟨hne.symm, ppc.symm, pnb.symm, psg.symm, pen.symm, plv.symm, pht.symm, pfi.symm, pla.symm⟩, ⟨ddxpc, ddxnb, ddxsg, ddxen, ddxlv, ddxht, ddxfi, ddxla⟩, ⟨dpcnb, dpcsg, dpcen, dpclv, dpcht, dpcfi, dpcla⟩, ⟨dnbsg, dnben, dnblv, dnbht, dnbfi, dnbla⟩, ⟨dsgen, dsglv, dsght, dsgfi, dsgla⟩, ⟨denlv, denht, denfi, denla⟩, ⟨dlvht, dlvfi, dlvla⟩, ⟨dhtfi, dhtla⟩, dfila⟩
  · intro b hb
    simp only [Cells.all, List.mem_cons, List.not_mem_nil, or_false] at hb
    rcases hb with e | e | e | e | e | e | e | e | e | e
    · exact .inl e
    · exact .inr (.inl e)
    all_goals (rw [e]; refine .inr (.inr ?_); assumption)
end

/-! ### joining -/
structure Grow (C : Addr) (c : Cells) (H : Hp) (S : List Tr) (H' : Hp) (S' : List Tr) (more M : Nat) : Prop where
  sh : ShAt C c H' S'
  ex : Ext S S'
  len : S'.length ≤ S.length + more
  kp : Keep c H H'
  nw : ∀ t ∈ S', t ∈ S ∨ t.sg ≤ M
theorem Grow.refl {C : Addr} {c : Cells} {H : Hp} {S : List Tr} (s : ShAt C c H S) : Grow C c H S H S 0 0 := ⟨s, List.prefix_refl _, Nat.le_refl _, Keep.refl _ _, fun _ h => .inl h⟩
theorem Grow.trans {C : Addr} {c : Cells} {H H1 H2 : Hp} {S S1 S2 : List Tr} {m k M N : Nat} (g : Grow C c H S H1 S1 m M) (h : Grow C c H1 S1 H2 S2 k N) : Grow C c H S H2 S2 (m + k) (max M N) :=
  ⟨h.sh, g.ex.trans h.ex, by have := g.len; have := h.len; omega, g.kp.trans h.kp, fun t ht => (h.nw t ht).elim (fun z => (g.nw t z).elim .inl fun y => .inr (by omega)) fun y => .inr (by omega)⟩
theorem Grow.same {C : Addr} {c : Cells} {H H1 H2 : Hp} {S S1 : List Tr} {m M : Nat} (g : Grow C c H S H1 S1 m M) (s : Same H1 H2) : Grow C c H S H2 S1 m M := ⟨g.sh.same s, g.ex, g.len, g.kp.trans (Keep.of s), g.nw⟩
theorem Grow.mono {C : Addr} {c : Cells} {H H1 : Hp} {S S1 : List Tr} {m k M N : Nat} (g : Grow C c H S H1 S1 m M) (h : m ≤ k) (hM : M ≤ N) : Grow C c H S H1 S1 k N := ⟨g.sh, g.ex, Nat.le_trans g.len (Nat.add_le_add_left h _), g.kp, fun t ht => (g.nw t ht).imp id fun y => Nat.le_trans y hM⟩
theorem put_nw {S : List Tr} {t : Tr} : ∀ u ∈ put S t, u ∈ S ∨ u.sg ≤ t.sg := fun u hu => by
  unfold put at hu
  split at hu
  · exact .inl hu
  · rcases List.mem_append.mp hu with z | z
    · exact .inl z
    · rw [List.mem_singleton] at z; rw [z]; exact .inr (Nat.le_refl _)
theorem c_forkG {C CN CL CU CT : Addr} {c : Cells} {S : List Tr} {n m : Int} {a b : Tr} {H : Hp} {Q : VK} {E : XK} (s : ShAt C c H S) (ha : Nm S n a) (hb : Nm S m b) (o : Ok (.fk a b)) (h : S.length + 1 ≤ cap)
    (k : ∀ H' S' n', Grow C c H S H' S' 1 (Tr.fk a b).sg → Nm S' n' (.fk a b) → Q (.int n') H') : spFork C CN CL CU CT [.ref c.a, .int n, .int m] H Q E :=
  c_fork s ha hb o (by omega) fun H' s' k' => k H' _ _ ⟨s', put_ext, put_len, k', put_nw⟩ (nm_num put_mem)
theorem c_leafG {C CT : Addr} {c : Cells} {S : List Tr} {l : List Nat} {H : Hp} {Q : VK} {E : XK} (s : ShAt C c H S) (o : Ok (.lf l)) (h : S.length + 1 ≤ cap)
    (k : ∀ H' S' n', Grow C c H S H' S' 1 (Tr.lf l).sg → Nm S' n' (.lf l) → Q (.int n') H') : spLeaf C CT [.ref c.a, .str (sT l)] H Q E :=
  c_leaf s o (by omega) fun H' s' k' => k H' _ _ ⟨s', put_ext, put_len, k', put_nw⟩ (nm_num put_mem)
theorem Good.okO {S : List Tr} (g : Good S) {n : Int} {o : Option Tr} (h : Tx S n o) : OkO o := fun t e => by
  subst e; exact g.ok t (Nm.mem h)
theorem Good.parts2 {S : List Tr} (g : Good S) {n : Int} {a b : Tr} (h : Nm S n (.fk a b)) : Nm S (num S a) a ∧ Nm S (num S b) b := ⟨nm_num (g.parts h.mem).1, nm_num (g.parts h.mem).2⟩
theorem c_htN {C CN : Addr} {c : Cells} {S : List Tr} {n : Int} {t : Tr} {H : Hp} {Q : VK} {E : XK} (s : ShAt C c H S) (h : Nm S n t) (k : Q (.int t.ht) H) : spGet C CN gHt [.ref c.a, .int n] H Q E := c_getN s h k
theorem c_sgN {C CN : Addr} {c : Cells} {S : List Tr} {n : Int} {t : Tr} {H : Hp} {Q : VK} {E : XK} (s : ShAt C c H S) (h : Nm S n t) (k : Q (.int t.sg) H) : spGet C CN gSg [.ref c.a, .int n] H Q E := c_getN s h k
theorem c_fiN {C CN : Addr} {c : Cells} {S : List Tr} {n : Int} {t : Tr} {H : Hp} {Q : VK} {E : XK} (s : ShAt C c H S) (h : Nm S n t) (k : Q (.int (num S t.fi)) H) : spGet C CN gFi [.ref c.a, .int n] H Q E := c_getN s h k
theorem c_laN {C CN : Addr} {c : Cells} {S : List Tr} {n : Int} {t : Tr} {H : Hp} {Q : VK} {E : XK} (s : ShAt C c H S) (h : Nm S n t) (k : Q (.int (num S t.la)) H) : spGet C CN gLa [.ref c.a, .int n] H Q E := c_getN s h k
theorem c_sgO {C CN : Addr} {c : Cells} {S : List Tr} {n : Int} {o : Option Tr} {H : Hp} {Q : VK} {E : XK} (s : ShAt C c H S) (h : Tx S n o) (k : Q (.int (oS o)) H) : spGet C CN gSg [.ref c.a, .int n] H Q E := c_get s h (by cases o <;> exact k)
def oHi : Option Tr → Int | none => -1 | some t => t.ht
theorem c_htO {C CN : Addr} {c : Cells} {S : List Tr} {n : Int} {o : Option Tr} {H : Hp} {Q : VK} {E : XK} (s : ShAt C c H S) (h : Tx S n o) (k : Q (.int (oHi o)) H) : spGet C CN gHt [.ref c.a, .int n] H Q E := c_get s h (by cases o <;> exact k)
def oE : Option Tr → Nat | none => 0 | some t => t.en
theorem c_enO {C CN : Addr} {c : Cells} {S : List Tr} {n : Int} {o : Option Tr} {H : Hp} {Q : VK} {E : XK} (s : ShAt C c H S) (h : Tx S n o) (k : Q (.int (oE o)) H) : spGet C CN gEn [.ref c.a, .int n] H Q E := c_get s h (by cases o <;> exact k)
def oL : Option Tr → Nat | none => 0 | some t => t.lv
theorem c_lvO {C CN : Addr} {c : Cells} {S : List Tr} {n : Int} {o : Option Tr} {H : Hp} {Q : VK} {E : XK} (s : ShAt C c H S) (h : Tx S n o) (k : Q (.int (oL o)) H) : spGet C CN gLv [.ref c.a, .int n] H Q E := c_get s h (by cases o <;> exact k)
section
variable {C : Addr}
def spIsLeaf (C : Addr) : Sp := fun vs H Q _ => ∃ c S n t, vs = [.ref (Cells.a c), .int n] ∧ ShAt C c H S ∧ Nm S n t ∧ Q (.bl (decide (t.ht = 0))) H
theorem c_isLeaf {c : Cells} {S : List Tr} {n : Int} {t : Tr} {H : Hp} {Q : VK} {E : XK} (s : ShAt C c H S) (h : Nm S n t) (k : Q (.bl (decide (t.ht = 0))) H) : spIsLeaf C [.ref c.a, .int n] H Q E := ⟨c, S, n, t, rfl, s, h, k⟩
def spParts (C : Addr) : Sp := fun vs H Q _ => ∃ c S n a b, vs = [.ref (Cells.a c), .int n] ∧ ShAt C c H S ∧ Nm S n (.fk a b) ∧ ∀ p H', H p = none → Same H H' → H' p = some (.tup [.int (num S a), .int (num S b)]) → Q (.ref p) H'
theorem c_parts {c : Cells} {S : List Tr} {n : Int} {a b : Tr} {H : Hp} {Q : VK} {E : XK} (s : ShAt C c H S) (h : Nm S n (.fk a b)) (k : ∀ p H', H p = none → Same H H' → H' p = some (.tup [.int (num S a), .int (num S b)]) → Q (.ref p) H') : spParts C [.ref c.a, .int n] H Q E := ⟨c, S, n, a, b, rfl, s, h, k⟩
def spLeafText (C : Addr) : Sp := fun vs H Q _ => ∃ c S n l, vs = [.ref (Cells.a c), .int n] ∧ ShAt C c H S ∧ Nm S n (.lf l) ∧ Q (.str (sT l)) H
theorem c_leafText {c : Cells} {S : List Tr} {n : Int} {l : List Nat} {H : Hp} {Q : VK} {E : XK} (s : ShAt C c H S) (h : Nm S n (.lf l)) (k : Q (.str (sT l)) H) : spLeafText C [.ref c.a, .int n] H Q E := ⟨c, S, n, l, rfl, s, h, k⟩
/-- two texts levelled: f tells on which side -/
def spTurn (C : Addr) (f : Tr → Tr → Prop) : Sp := fun vs H Q _ => ∃ c S n m a b, vs = [.ref (Cells.a c), .int n, .int m] ∧ ShAt C c H S ∧ Nm S n a ∧ Nm S m b ∧ Jn a b ∧ f a b ∧ (a.ht ≤ b.ht + 2 ∧ b.ht ≤ a.ht + 2) ∧ S.length + 3 ≤ cap ∧
  ∀ H' S' n', Grow C c H S H' S' (clev a b) (a.sg + b.sg) → Nm S' n' (levelled a b) → Q (.int n') H'
theorem c_turn {f : Tr → Tr → Prop} {c : Cells} {S : List Tr} {n m : Int} {a b : Tr} {H : Hp} {Q : VK} {E : XK} (s : ShAt C c H S) (ha : Nm S n a) (hb : Nm S m b) (j : Jn a b) (hf : f a b) (h1 : a.ht ≤ b.ht + 2) (h2 : b.ht ≤ a.ht + 2) (cp : S.length + 3 ≤ cap)
    (k : ∀ H' S' n', Grow C c H S H' S' (clev a b) (a.sg + b.sg) → Nm S' n' (levelled a b) → Q (.int n') H') : spTurn C f [.ref c.a, .int n, .int m] H Q E := ⟨c, S, n, m, a, b, rfl, s, ha, hb, j, hf, ⟨h1, h2⟩, cp, k⟩
def spLinked (C : Addr) (N : Nat) : Sp := fun vs H Q _ => ∃ c S n m o p, vs = [.ref (Cells.a c), .int n, .int m] ∧ ShAt C c H S ∧ Tx S n o ∧ Tx S m p ∧ 1 ≤ N ∧ (∀ a b, o = some a → p = some b → Jn a b ∧ a.ht + 1 ≤ b.ht + N ∧ b.ht + 1 ≤ a.ht + N) ∧ S.length + clinkO o p + 3 ≤ cap ∧
  ∀ H' S' n', Grow C c H S H' S' (clinkO o p) (oS o + oS p) → Tx S' n' (linkedO o p) → Q (.int n') H'
theorem c_linked {N : Nat} {c : Cells} {S : List Tr} {n m : Int} {o p : Option Tr} {H : Hp} {Q : VK} {E : XK} (s : ShAt C c H S) (ho : Tx S n o) (hp : Tx S m p) (hN : 1 ≤ N) (j : ∀ a b, o = some a → p = some b → Jn a b ∧ a.ht + 1 ≤ b.ht + N ∧ b.ht + 1 ≤ a.ht + N) (cp : S.length + clinkO o p + 3 ≤ cap)
    (k : ∀ H' S' n', Grow C c H S H' S' (clinkO o p) (oS o + oS p) → Tx S' n' (linkedO o p) → Q (.int n') H') : spLinked C N [.ref c.a, .int n, .int m] H Q E := ⟨c, S, n, m, o, p, rfl, s, ho, hp, hN, j, cp, k⟩
def spWl (C : Addr) (f : Tr → Option Tr) (g : Tr → Nat) (N : Nat) : Sp := fun vs H Q _ => ∃ c S n t, vs = [.ref (Cells.a c), .int n] ∧ ShAt C c H S ∧ Nm S n t ∧ t.ht < N ∧ S.length + g t + 3 ≤ cap ∧ ∀ H' S' n', Grow C c H S H' S' (g t) t.sg → Tx S' n' (f t) → Q (.int n') H'
def spPour (C : Addr) : Sp := fun vs H Q _ => ∃ c S n m a b, vs = [.ref (Cells.a c), .int n, .int m] ∧ ShAt C c H S ∧ Nm S n a ∧ Nm S m b ∧ a.la.sg + b.fi.sg ≤ 8 ∧ a.sg + b.sg ≤ mostSg ∧ S.length + cpour a b + 3 ≤ cap ∧
  ∀ H' S' n', Grow C c H S H' S' (cpour a b) (a.sg + b.sg) → Tx S' n' (poured a b) → Q (.int n') H'
/-- joined -/
def spJoined (C CN CT : Addr) : Sp := fun vs H Q E => ∃ c S n m, vs = [.ref (Cells.a c), .int n, .int m] ∧ ShAt C c H S ∧
  (((¬ inR S n ∨ ¬ inR S m) ∧ E (.ref CN) none H) ∨ ∃ o p, Tx S n o ∧ Tx S m p ∧ ((mostSg < oS o + oS p ∧ E (.ref CT) none H) ∨ (oS o + oS p ≤ mostSg ∧ S.length + cjoin o p + 3 ≤ cap ∧ ∀ H' S' n', Grow C c H S H' S' (cjoin o p) (oS o + oS p) → Tx S' n' (joinedO o p) → Q (.int n') H')))
theorem c_joined {CN CT : Addr} {c : Cells} {S : List Tr} {n m : Int} {o p : Option Tr} {H : Hp} {Q : VK} {E : XK} (s : ShAt C c H S) (ho : Tx S n o) (hp : Tx S m p) (h : oS o + oS p ≤ mostSg) (cp : S.length + 1000 ≤ cap)
    (k : ∀ H' S' n', Grow C c H S H' S' (cjoin o p) (oS o + oS p) → Tx S' n' (joinedO o p) → Q (.int n') H') : spJoined C CN CT [.ref c.a, .int n, .int m] H Q E := by
  have oo := s.gd.okO ho
  have op := s.gd.okO hp
  have := (joinedO_ok oo op h).2.2.1
  have := oo.low
  have := op.low
  exact ⟨c, S, n, m, rfl, s, .inr ⟨o, p, ho, hp, .inr ⟨h, by omega, k⟩⟩⟩
end
section
variable {P : Program} {w : World} {K : PySem.W.Frag} {mg : Str → Option Value} {base : Heap} {A : Ad}
theorem nevr_ok {f : Addr} {fd : FuncData} {ps : List Str} {k : Nat} {sp : Sp} (h : ∀ vs H Q E, ¬ sp vs H Q E) : FnOk P w K mg base (L2.CX P w) k f fd ps sp :=
  ⟨fun vs H Q E z => (h _ _ _ _ z).elim, fun _ _ _ _ _ _ _ _ _ _ _ _ _ z => (h _ _ _ _ z).elim⟩
end

/-! ### built -/
/-- numbers of these trees, in their order -/
def Nms (S : List Tr) : List Int → List Tr → Prop
  | [], [] => True
  | n :: ns, t :: ts => Nm S n t ∧ Nms S ns ts
  | _, _ => False
theorem Nms.len {S : List Tr} : ∀ {ns : List Int} {ts : List Tr}, Nms S ns ts → ns.length = ts.length
  | [], [], _ => rfl
  | n :: ns, t :: ts, h => by rw [List.length_cons, List.length_cons, Nms.len h.2]
  | [], _ :: _, h => h.elim
  | _ :: _, [], h => h.elim
theorem Nms.ext {S S' : List Tr} (e : Ext S S') : ∀ {ns : List Int} {ts : List Tr}, Nms S ns ts → Nms S' ns ts
  | [], [], _ => trivial
  | n :: ns, t :: ts, h => ⟨h.1.ext e, Nms.ext e h.2⟩
  | [], _ :: _, h => h.elim
  | _ :: _, [], h => h.elim
theorem Nms.take {S : List Tr} : ∀ {k : Nat} {ns : List Int} {ts : List Tr}, Nms S ns ts → Nms S (ns.take k) (ts.take k)
  | 0, _, _, _ => by rw [List.take_zero, List.take_zero]; trivial
  | k + 1, [], [], _ => trivial
  | k + 1, n :: ns, t :: ts, h => ⟨h.1, Nms.take (k := k) h.2⟩
  | _ + 1, [], _ :: _, h => h.elim
  | _ + 1, _ :: _, [], h => h.elim
theorem Nms.drop {S : List Tr} : ∀ {k : Nat} {ns : List Int} {ts : List Tr}, Nms S ns ts → Nms S (ns.drop k) (ts.drop k)
  | 0, _, _, h => h
  | k + 1, [], [], _ => trivial
  | k + 1, n :: ns, t :: ts, h => Nms.drop (k := k) h.2
  | _ + 1, [], _ :: _, h => h.elim
  | _ + 1, _ :: _, [], h => h.elim
theorem Nms.snoc {S : List Tr} {n : Int} {t : Tr} (hn : Nm S n t) : ∀ {ns : List Int} {ts : List Tr}, Nms S ns ts → Nms S (ns ++ [n]) (ts ++ [t])
  | [], [], _ => ⟨hn, trivial⟩
  | _ :: _, _ :: _, h => ⟨h.1, Nms.snoc hn h.2⟩
  | [], _ :: _, h => h.elim
  | _ :: _, [], h => h.elim
theorem sIx_nn {n d : Nat} {i : Int} (h0 : 0 ≤ i) (h : i ≤ n) : HT.sIx n d (some i) = i.toNat := by
  show (if i < 0 then (i + n).toNat else min i.toNat n) = i.toNat
  rw [if_neg (by omega)]; omega
theorem cutV_pre {xs : List V} {i : Int} (h0 : 0 ≤ i) (h : i ≤ xs.length) : cutV xs none (some i) = xs.take i.toNat := by
  unfold cutV
  rw [sIx_nn h0 h]
  rfl
theorem cutV_suf {xs : List V} {i : Int} (h0 : 0 ≤ i) (h : i ≤ xs.length) : cutV xs (some i) none = xs.drop i.toNat := by
  unfold cutV
  rw [sIx_nn h0 h]
  show (xs.drop i.toNat).take (xs.length - i.toNat) = _
  rw [List.take_of_length_le (by rw [List.length_drop]; exact Nat.le_refl _)]
def spBuiltOf (C : Addr) (N : Nat) : Sp := fun vs H Q _ => ∃ c S r ns ls M, vs = [.ref (Cells.a c), .ref r] ∧ ShAt C c H S ∧ r ∉ c.all ∧ H r = some (.lst ((ns : List Int).map V.int)) ∧ Nms S ns ls ∧ Row ls ∧ M + 1 = N ∧ ls.length ≤ 2 ^ M ∧ (ls.flatMap Tr.txt).length ≤ mostSg ∧ S.length + ls.length ≤ cap ∧ ns.length ≤ 100000 ∧
  ∀ H' S' n', Grow C c H S H' S' (ls.length - 1) (ls.flatMap Tr.txt).length → Nm S' n' (bo M ls) → Q (.int n') H'
def spBuilt (K : PySem.W.Frag) (C CX CT : Addr) : Sp := fun vs H Q E => ∃ c S v, vs = [.ref (Cells.a c), v] ∧ ShAt C c H S ∧ ((∃ l : List Nat, v = .str (sT l) ∧ l.length ≤ cap ∧ ((¬ Plain l ∧ ∀ H', Same H H' → E (.ref CX) none H') ∨ (Plain l ∧ 10000 < l.length ∧ ∀ H', Same H H' → E (.ref CT) none H') ∨
   (Plain l ∧ l.length ≤ 10000 ∧ S.length + cb l ≤ cap ∧ ∀ H' S' n', Grow C c H S H' S' (cb l) l.length → Tx S' n' (bld l) → Q (.int n') H'))) ∨
  (∃ t, TyX K H v t ∧ PySem.W.kitOne K t (.type "str") = some false ∧ E (.ref CX) none H))
theorem c_built {K : PySem.W.Frag} {C CX CT : Addr} {c : Cells} {S : List Tr} {l : List Nat} {H : Hp} {Q : VK} {E : XK} (s : ShAt C c H S) (p : Plain l) (h : l.length ≤ 10000) (cp : S.length + cb l ≤ cap)
    (k : ∀ H' S' n', Grow C c H S H' S' (cb l) l.length → Tx S' n' (bld l) → Q (.int n') H') : spBuilt K C CX CT [.ref c.a, .str (sT l)] H Q E := ⟨c, S, _, rfl, s, .inl ⟨l, rfl, by unfold cap; omega, .inr (.inr ⟨p, h, cp, k⟩)⟩⟩
section
variable {P : Program} {w : World} {K : PySem.W.Frag} {mg : Str → Option Value} {base : Heap} {A : Ad}
abbrev n_built_of : List Str := ["shelf", "leaves", "half"]
theorem sc_built_of : FnScope n_built_of p_built_of (defScope s_built_of) := ⟨rfl, rfl, rfl, by decide +kernel, rfl, by decide +kernel, by decide +kernel⟩
theorem ok_built_of (T : Txt K mg A) : ∀ N, FnOk P w K mg base (L2.CX P w) (N + 3) A.f_built_of A.d_built_of p_built_of (spBuiltOf A.C_Shelf N) := by
  intro N
  induction N with
  | zero => exact nevr_ok fun vs H Q E ⟨_, _, _, _, _, _, _, _, _, _, _, _, z, _⟩ => by omega
  | succ N ih =>
  refine T.fn_built_of.okX sc_built_of (fun vs H Q E h => ?_) (fun cdv B outer s H vs Q E hr h => ?_)
  · obtain ⟨c, S, r, ns, ls, M, rfl, _⟩ := h; rfl
  obtain ⟨c, S, r, ns, ls, M, rfl, hS, hrc, hr1, nm, row, hM, h2, hs, cp, nl, q⟩ := h
  obtain rfl : M = N := by omega
  refine ⟨_, (pss_cons (ps_if (pt_cmpR op_eq (pe_callB call_len_seq (by rfl) T.z_len bt_len (pa_cons (pv 1) pa_nil)) pe_int (nomark _)) (pss_one (ps_ret (pe_ix ix_list (pv 1) pe_int (fun _ _ => rfl)))) pss_nil)
      (pss_cons (ps_set (i := 2) sc_built_of.nd rfl (Or.inl rfl) (pe_op op_fdivW (pe_callB call_len_seq (by rfl) T.z_len bt_len (pa_cons (pv 1) pa_nil)) pe_int))
      (pss_one (ps_ret (pe_meth (pv 0) T.cl_Shelf T.me_Shelf_fork (ok_Shelf_fork T) (hr.mono (by omega)) T.bi_Shelf_fork .nil (passes_call (takes_of rfl rfl rfl rfl) (fun _ _ _ _ h => h)) (pa_cons (pe_call ih (hr.mono (by omega)) (by rfl) T.mg_built_of T.fn_built_of.kp T.bi_built_of .nil (passes_call (takes_of rfl rfl rfl rfl) (fun _ _ _ _ h => h)) (pa_cons (pv 0) (pa_cons (pe_slice sl_list (pv 1) po_none (po_some (pv 2))) pa_nil))) (pa_cons (pe_call ih (hr.mono (by omega)) (by rfl) T.mg_built_of T.fn_built_of.kp T.bi_built_of .nil (passes_call (takes_of rfl rfl rfl rfl) (fun _ _ _ _ h => h)) (pa_cons (pv 0) (pa_cons (pe_slice sl_list (pv 1) (po_some (pv 2)) po_none) pa_nil))) pa_nil))))))), ?_⟩
  have ll := nm.len
  have lpos : 0 < ls.length := by
    cases ls with
    | nil => exact absurd rfl row.ne
    | cons a b => simp
  walk_at "st"
  refine ⟨_, _, rfl, .inl (SqL.of hr1), ?_⟩
  walk_at "go"
  refine ite_d (fun h1 => ?_) (fun h1 => ?_)
  · have h1 : ns.length = 1 := by rw [List.length_map] at h1; omega
    obtain ⟨n, rfl⟩ := List.length_eq_one_iff.mp h1
    obtain ⟨t, rfl⟩ := List.length_eq_one_iff.mp (ll.symm.trans h1)
    have i0 : atI (([n] : List Int).map V.int) 0 = some (.int n) := rfl
    walk_at "go"
    refine w_ixl (SqL.of hr1) i0 ?_
    refine q H S n ((Grow.refl hS).mono (Nat.zero_le _) (Nat.zero_le _)) ?_
    have : bo M [t] = t := by cases M <;> rfl
    rw [this]; exact nm.1
  have h1 : ns.length ≠ 1 := fun z => h1 (by rw [List.length_map]; omega)
  walk_at "sk"
  walk_at "st"
  refine ⟨_, _, rfl, .inl (SqL.of hr1), ?_⟩
  walk_at "go"
  refine w_rI (divW_small (by decide) (by decide)) ?_
  have eh : (((ns.map V.int).length : Nat) : Int) / 2 = ((ls.length / 2 : Nat) : Int) := by rw [List.length_map, ll]; omega
  rw [eh]
  walk_at "nx"
  cases M with
  | zero =>
    have : ls.length ≤ 1 := h2
    omega
  | succ M =>
  rw [Nat.pow_succ] at h2
  have eb : bo (M + 1) ls = .fk (bo M (ls.take (ls.length / 2))) (bo M (ls.drop (ls.length / 2))) := by
    show (if ls.length ≤ 1 then _ else _) = _
    rw [if_neg (by omega)]
  have l1 : (ls.take (ls.length / 2)).length = ls.length / 2 := by rw [List.length_take]; omega
  have l2 : (ls.drop (ls.length / 2)).length = ls.length - ls.length / 2 := by rw [List.length_drop]
  have fl := congrArg List.length (flat_split ls (ls.length / 2))
  rw [List.length_append] at fl
  have ok := (bo_ok (M + 1) ls row (by rw [Nat.pow_succ]; exact h2) hs).ok
  rw [eb] at q ok
  walk_at "go"
  refine ⟨c.a, c.dx, _, rfl, hS.ob, fl_no (by decide +kernel), ?_⟩
  walk_at "go"
  refine ⟨_, rfl, ?_⟩
  refine ⟨r, _, rfl, SqL.of hr1, fun p1 np1 => ?_⟩
  obtain ⟨H1, e1, s1, hp1⟩ := new_of (o := .lst (cutV (ns.map V.int) none (some ((ls.length / 2 : Nat) : Int)))) np1
  rw [e1]
  rw [cutV_pre (by omega) (by rw [List.length_map, ll]; omega)] at hp1
  have ei : (((ls.length / 2 : Nat) : Int)).toNat = ls.length / 2 := by omega
  rw [ei, ← List.map_take] at hp1
  have hS1 := hS.same s1
  refine ⟨c, S, p1, _, ls.take (ls.length / 2), M, rfl, hS1, hS.apart np1, hp1, nm.take, row.take (by omega), rfl, by rw [l1]; omega, by omega, by rw [l1]; omega, by rw [List.length_take]; omega, fun H2 S2 n2 g2 m2 => ?_⟩
  rw [l1] at g2
  have hr2 : H2 r = some (.lst (ns.map V.int)) := by
    exact g2.kp _ _ hrc (s1 _ _ hr1)
  have len2 := g2.len
  walk_at "go"
  refine ⟨_, rfl, ?_⟩
  walk_at "go"
  refine ⟨r, _, rfl, SqL.of hr2, fun p3 np3 => ?_⟩
  obtain ⟨H3, e3, s3, hp3⟩ := new_of (o := .lst (cutV (ns.map V.int) (some ((ls.length / 2 : Nat) : Int)) none)) np3
  rw [e3]
  rw [cutV_suf (by omega) (by rw [List.length_map, ll]; omega)] at hp3
  rw [ei, ← List.map_drop] at hp3
  have hS3 := g2.sh.same s3
  refine ⟨c, S2, p3, _, ls.drop (ls.length / 2), M, rfl, hS3, g2.sh.apart np3, hp3, (nm.drop).ext g2.ex, row.drop (by omega), rfl, by rw [l2]; omega, by omega, by rw [l2]; omega, by rw [List.length_drop]; omega, fun H4 S4 n4 g4 m4 => ?_⟩
  rw [l2] at g4
  have len4 := g4.len
  have g24 := ((Grow.refl hS).same s1).trans ((g2.same s3).trans g4)
  walk_at "go"
  refine c_forkG g4.sh (m2.ext g4.ex) m4 ok (by omega) fun H5 S5 n5 g5 m5 => ?_
  exact q H5 S5 n5 ((g24.trans g5).mono (by omega) (by have := sg_txt (bo (M + 1) ls); rw [(bo_ok (M + 1) ls row (by rw [Nat.pow_succ]; exact h2) hs).tx, eb] at this; omega)) m5
abbrev n_built : List Str := ["shelf", "plain", "leaves", "start"]
theorem sc_built : FnScope n_built p_built (defScope s_built) := ⟨rfl, rfl, rfl, by decide +kernel, rfl, by decide +kernel, by decide +kernel⟩
theorem ok_built (T : Txt K mg A) : FnOk P w K mg base (L2.CX P w) 20 A.f_built A.d_built p_built (spBuilt K A.C_Shelf A.C_NoText A.C_TooLong) := by
  have GB := ok_built_of (P := P) (w := w) (base := base) T 12
  refine T.fn_built.okX sc_built (fun vs H Q E h => ?_) (fun cdv B outer s H vs Q E hr h => ?_)
  · obtain ⟨c, S, v, rfl, _⟩ := h; rfl
  obtain ⟨c, S, v, rfl, hS, h⟩ := h
  refine ⟨_, (pss_cons (ps_if (pt_not (pt_val (pe_call (ok_is_plain T) (hr.mono (by omega)) (by rfl) T.mg_is_plain T.fn_is_plain.kp T.bi_is_plain .nil (passes_call (takes_of rfl rfl rfl rfl) (fun _ _ _ _ h => h)) (pa_cons (pv 1) pa_nil)))) (pss_one (ps_raise0 rfl T.ex_NoText (takes_of rfl rfl rfl rfl) rfl)) pss_nil)
      (pss_cons (ps_if (pt_cmpR op_gt (pe_callB call_len_str (by rfl) T.z_len bt_len (pa_cons (pv 1) pa_nil)) (pe_kint T.k_MOST_WRITTEN (by rfl)) (nomark _)) (pss_one (ps_raise0 rfl T.ex_TooLong (takes_of rfl rfl rfl rfl) rfl)) pss_nil)
      (pss_cons (ps_if (pt_cmpR op_eq (pv 1) pe_str (nomark _)) (pss_one (ps_ret pe_int)) pss_nil)
      (pss_cons (ps_set (i := 2) sc_built.nd rfl (Or.inl rfl) (pe_lst pa_nil))
      (pss_cons (ps_for (passes_of rfl) rfl (pi_range3 (by rfl) T.z_range (pa_cons pe_int (pa_cons (pe_callB call_len_str (by rfl) T.z_len bt_len (pa_cons (pv 1) pa_nil)) (pa_cons (pe_kint T.k_MOST_IN_LEAF (by rfl)) pa_nil)))) (pg_name (i := 3) sc_built.nd rfl (Or.inl rfl))
      (pss_one (ps_expr (pe_bm PySem.F.plainAttrs_list PySem.F.slot_list_append PySem.F.type_list_append mt_append (pv 2) (pa_cons (pe_meth (pv 0) T.cl_Shelf T.me_Shelf_leaf (ok_Shelf_leaf T) (hr.mono (by omega)) T.bi_Shelf_leaf .nil (passes_call (takes_of rfl rfl rfl rfl) (fun _ _ _ _ h => h)) (pa_cons (pe_slice sl_str (pv 1) (po_some (pv 3)) (po_some (pe_op op_add (pv 3) (pe_kint T.k_MOST_IN_LEAF (by rfl))))) pa_nil)) pa_nil)))))
      (pss_one (ps_ret (pe_call GB (hr.mono (by omega)) (by rfl) T.mg_built_of T.fn_built_of.kp T.bi_built_of .nil (passes_call (takes_of rfl rfl rfl rfl) (fun _ _ _ _ h => h)) (pa_cons (pv 0) (pa_cons (pv 2) pa_nil)))))))))), ?_⟩
  walk_at "st"
  rcases h with ⟨l, rfl, hl, h⟩ | ⟨t, ty, e, h⟩
  rotate_left
  · refine ⟨_, rfl, .inr ⟨t, ty, e, w_bl (iteT h)⟩⟩
  refine c_plain hl fun H1 s1 => w_bl (ite_n (fun hn => ?_) (fun hp => ?_))
  · rcases h with ⟨_, k⟩ | ⟨p, _⟩ | ⟨p, _⟩
    · exact k H1 s1
    · exact absurd p hn
    · exact absurd p hn
  rcases h with ⟨z, _⟩ | h
  · exact absurd hp z
  have hline : l.length ≤ sizeLine := by have := cap_line; omega
  walk_at "sk"
  walk_at "st"
  refine ⟨_, rfl, by rw [sT_len]; exact hline, ?_⟩
  rw [sT_len]
  walk_at "go"
  refine ite_d (fun h1 => ?_) (fun h1 => ?_)
  · rcases h with ⟨_, _, k⟩ | ⟨_, z, _⟩
    · exact k H1 s1
    · omega
  rcases h with ⟨_, z, _⟩ | ⟨_, h2, cp, q⟩
  · omega
  have hS1 := hS.same s1
  walk_at "sk"
  walk_at "st"
  refine w_eqS ?_
  rw [sT_nil]
  walk_at "go"
  refine ite_d (fun h3 => ?_) (fun h3 => ?_)
  · have : l = [] := sT_inj h3
    subst this
    walk_at "go"
    exact q H1 S 0 (((Grow.refl hS).same s1).mono (Nat.zero_le _) (Nat.zero_le _)) rfl
  have ln : l ≠ [] := fun z => h3 (by rw [z])
  have lpos : 0 < l.length := by
    cases l with
    | nil => exact absurd rfl ln
    | cons a b => simp
  walk_at "sk"
  walk_at "st"
  refine w_mkl (line_of (n := 0) rfl (by decide)) fun D H2 nD s2 hD2 => ?_
  walk_at "nx"
  have hS2 := hS1.same s2
  have Dc : D ∉ c.all := hS1.apart nD
  walk_at "st"
  refine ⟨_, rfl, by rw [sT_len]; exact hline, ?_⟩
  rw [sT_len]
  walk_at "go"
  obtain ⟨n, rg, rn, rk⟩ := rgC (i := 0) (j := l.length) (c := 8) (by decide) (by decide) (by decide) (by decide) (by omega) (by omega)
  have en : n = (l.length + 7) / 8 := by
    have h := rg.2.2.2
    unfold Builtin.Range.rangeSize at h
    rw [if_pos (by decide), if_pos (by omega)] at h
    omega
  refine ⟨_, _, _, n, rfl, rg, ?_⟩
  have ecb : cb l = 2 * n := by unfold cb; rw [en]
  rw [ecb] at cp q
  refine for_it walk_rangeC (fun i σ H' => ∃ (S' : List Tr) (ns : List Int) (x : Option V), σ = [some (.ref c.a), some (.str (sT l)), some (.ref D), x] ∧ Grow A.C_Shelf c H1 S H' S' i l.length ∧ Nms S' ns (ch l i) ∧ H' D = some (.lst (ns.map V.int))) ⟨S, [], none, rfl, ((Grow.refl hS1).same s2).mono (Nat.le_refl _) (Nat.zero_le _), trivial, hD2⟩ (fun _ _ _ _ _ => trivial) ?_ ?_
  · rintro i z σ H3 H4 hi ⟨S3, ns, x, rfl, g3, m3, hD3⟩ ⟨rfl, rfl⟩
    have hk := rk i hi
    have len3 := g3.len
    refine w_gname ?_
    walk_at "go"
    refine ⟨.inl ⟨rfl, _, SqL.of hD3⟩, ?_⟩
    walk_at "go"
    refine ⟨c.a, c.dx, _, rfl, g3.sh.ob, fl_no (by decide +kernel), ?_⟩
    walk_at "go"
    refine ⟨_, rfl, ?_⟩
    walk_at "go"
    refine ⟨_, rfl, sT l, rfl, by rw [sT_len]; exact hline, ?_⟩
    rw [show (0 : Int) + (i : Int) * 8 = ((8 * i : Nat) : Int) by omega, show ((8 * i : Nat) : Int) + 8 = ((8 * i + 8 : Nat) : Int) by omega, cutS_some, show 8 * i + 8 - 8 * i = 8 by omega]
    walk_at "go"
    refine c_leafG g3.sh (piece_ok hp (by omega)) (by omega) fun H5 S5 n5 g5 m5 => ?_
    have hD5 := g5.kp _ _ Dc hD3
    refine ⟨D, _, _, rfl, rfl, hD5, ?_, ?_⟩
    · have := m3.len
      rw [ch_len] at this
      rw [List.length_map, sizeLine_eq]; omega
    refine ⟨S5, ns ++ [n5], _, rfl, ?_, by rw [ch_succ]; exact Nms.snoc m5 (m3.ext g5.ex), by rw [upd_same, List.map_append]; rfl⟩
    have g35 := (g3.trans g5).mono (Nat.le_refl _) (N := l.length) (by show max l.length ((l.drop (8 * i)).take 8).length ≤ l.length; rw [List.length_take, List.length_drop]; omega)
    refine ⟨g35.sh.keepL (l := [D]) (KeepL.upd (by simp)) (fun b hb => by rw [List.mem_singleton] at hb; rw [hb]; exact Dc) (tup_upd hD5), g35.ex, g35.len, fun b o nb e => ?_, g35.nw⟩
    rw [upd_ne (ne_of_none e nD)]
    exact g35.kp b o nb e
  rintro σ H3 ⟨S3, ns, x, rfl, g3, m3, hD3⟩
  have len3 := g3.len
  dsimp only
  walk_at "go"
  rw [en] at m3
  have row := chs_row hp ln
  have lch : (chs l).length = n := by unfold chs; rw [ch_len, en]
  refine ⟨c, S3, D, ns, chs l, 11, rfl, g3.sh, Dc, hD3, m3, row, rfl, by rw [lch]; show n ≤ 2048; omega, by rw [chs_txt]; unfold mostSg; omega, by rw [lch]; omega, by rw [m3.len, ch_len]; omega, fun H4 S4 n4 g4 m4 => ?_⟩
  rw [lch] at g4
  have eb : bld l = some (bo 11 (chs l)) := by unfold bld; rw [if_neg ln]
  rw [eb] at q
  exact q H4 S4 n4 ((((Grow.refl hS).same s1).trans (g3.trans g4)).mono (by omega) (by rw [chs_txt]; omega)) m4
end

/-! ### the draws -/
def spMixed : Sp := fun vs H Q _ => ∃ x k : Int, vs = [.int x, .int k] ∧ 0 ≤ k ∧ k < 1000000 ∧ ∀ r : Int, 0 ≤ r → r < 2147483647 → Q (.int r) H
theorem c_mixed {x k : Int} {H : Hp} {Q : VK} {E : XK} (h1 : 0 ≤ k) (h2 : k < 1000000) (q : ∀ r : Int, 0 ≤ r → r < 2147483647 → Q (.int r) H) : spMixed [.int x, .int k] H Q E := ⟨x, k, rfl, h1, h2, q⟩
def spStream (K : PySem.W.Frag) : Sp := fun vs H Q _ => ∃ (a : Addr) (ns : List Int) (k : Int), vs = [.ref a, .int k] ∧ SqL K H a (ns.map V.int) ∧ ns.length ≤ 63 ∧ 0 ≤ k ∧ k < 1000 ∧ ∀ (H' : Hp) (p : Addr) (n : Int), Same H H' → H p = none → H' p = some (.lst [.int n]) → 0 ≤ n → Q (.ref p) H'
def spDigit : Sp := fun vs H Q _ => ∃ (r : Addr) (n m : Int), vs = [.ref r, .int m] ∧ H r = some (.lst [.int n]) ∧ 0 ≤ n ∧ 0 < m ∧ m < 1180591620717411303424 ∧ ∀ d n' : Int, 0 ≤ d → d < m → 0 ≤ n' → Q (.int d) (upd H r (.lst [.int n']))
theorem c_digit {r : Addr} {n m : Int} {H : Hp} {Q : VK} {E : XK} (h : H r = some (.lst [.int n])) (h0 : 0 ≤ n) (h1 : 0 < m) (h2 : m < 1180591620717411303424) (q : ∀ d n' : Int, 0 ≤ d → d < m → 0 ≤ n' → Q (.int d) (upd H r (.lst [.int n']))) : spDigit [.ref r, .int m] H Q E := ⟨r, n, m, rfl, h, h0, h1, h2, q⟩
section
variable {P : Program} {w : World} {K : PySem.W.Frag} {mg : Str → Option Value} {base : Heap} {A : Ad}
abbrev n__law_mixed : List Str := ["cell", "k", "stir"]
theorem sc__law_mixed : FnScope n__law_mixed p__law_mixed (defScope s__law_mixed) := ⟨rfl, rfl, rfl, by decide +kernel, rfl, by decide +kernel, by decide +kernel⟩
theorem ok__law_mixed (T : Txt K mg A) : FnOk P w K mg base (L2.CX P w) 1 A.f__law_mixed A.d__law_mixed p__law_mixed spMixed := by
  refine T.fn__law_mixed.okX sc__law_mixed (fun vs H Q E h => ?_) (fun cdv B outer s H vs Q E hr h => ?_)
  · obtain ⟨x, k, rfl, _⟩ := h; rfl
  obtain ⟨x, k, rfl, k0, k1, q⟩ := h
  refine ⟨_, (pss_cons (ps_set (i := 2) sc__law_mixed.nd rfl (Or.inl rfl) (pe_op op_mod (pe_op op_mulW (pe_op op_add (pe_op op_add (pe_op op_mod (pv 0) pe_int) (pe_op op_mulW pe_int (pv 1))) pe_int) pe_int) pe_int))
      (pss_one (ps_ret (pe_op op_mod (pe_op op_mulW (pe_op op_mod (pe_op op_mulW (pv 2) (pv 2)) pe_int) pe_int) pe_int)))), ?_⟩
  walk_at "st"
  refine w_rI (by decide) ?_
  walk_at "go"
  refine w_rI (mulW_small (by decide) (by decide) (by omega) (by omega)) ?_
  walk_at "go"
  refine w_rI (mulW_small (by omega) (by omega) (by decide) (by decide)) ?_
  walk_at "go"
  refine w_rI (by decide) ?_
  walk_at "nx"
  generalize e : ((x % 1000000007 + 7919 * k + _) * 48271) % 2147483647 = z
  have z0 : 0 ≤ z := by omega
  have z1 : z < 2147483647 := by omega
  walk_at "go"
  refine w_rI (mulW_small (by omega) (by omega) (by omega) (by omega)) ?_
  walk_at "go"
  refine w_rI (by decide) ?_
  walk_at "go"
  refine w_rI (mulW_small (by omega) (by omega) (by decide) (by decide)) ?_
  walk_at "go"
  refine w_rI (by decide) ?_
  exact q _ (by omega) (by omega)
abbrev n__law_digit : List Str := ["row", "many", "digit"]
theorem sc__law_digit : FnScope n__law_digit p__law_digit (defScope s__law_digit) := ⟨rfl, rfl, rfl, by decide +kernel, rfl, by decide +kernel, by decide +kernel⟩
theorem ok__law_digit (T : Txt K mg A) : FnOk P w K mg base (L2.CX P w) 1 A.f__law_digit A.d__law_digit p__law_digit spDigit := by
  refine T.fn__law_digit.okX sc__law_digit (fun vs H Q E h => ?_) (fun cdv B outer s H vs Q E hr h => ?_)
  · obtain ⟨r, n, m, rfl, _⟩ := h; rfl
  obtain ⟨r, n, m, rfl, h, h0, h1, h2, q⟩ := h
  refine ⟨_, (pss_cons (ps_set (i := 2) sc__law_digit.nd rfl (Or.inl rfl) (pe_op op_mod (pe_ix ix_list (pv 0) pe_int (fun _ _ => rfl)) (pv 1)))
      (pss_cons (ps_asg (pe_op op_fdivW (pe_ix ix_list (pv 0) pe_int (fun _ _ => rfl)) (pv 1)) (pg_sub (pv 0) pe_int set_list))
      (pss_one (ps_ret (pv 2))))), ?_⟩
  have a0 : atI [V.int n] 0 = some (.int n) := rfl
  walk_at "st"
  refine w_ixl (SqL.of h) a0 ?_
  walk_at "go"
  refine w_rI h1 ?_
  walk_at "nx"
  walk_at "st"
  refine w_ixl (SqL.of h) a0 ?_
  walk_at "go"
  refine w_rI (divW_small h1 h2) ?_
  refine ⟨_, rfl, r, _, 0, 0, rfl, rfl, h, rfl, ?_⟩
  dsimp only
  exact w_ret (w_var rfl (q _ _ (Int.emod_nonneg _ (by omega)) (Int.emod_lt_of_pos _ h1) (Int.ediv_nonneg h0 (by omega))))
abbrev n__law_stream : List Str := ["script", "k", "cell", "j", "found", "one"]
theorem sc__law_stream : FnScope n__law_stream p__law_stream (defScope s__law_stream) := ⟨rfl, rfl, rfl, by decide +kernel, rfl, by decide +kernel, by decide +kernel⟩
theorem ok__law_stream (T : Txt K mg A) : FnOk P w K mg base (L2.CX P w) 2 A.f__law_stream A.d__law_stream p__law_stream (spStream K) := by
  refine T.fn__law_stream.okX sc__law_stream (fun vs H Q E h => ?_) (fun cdv B outer s H vs Q E hr h => ?_)
  · obtain ⟨a, ns, k, rfl, _⟩ := h; rfl
  obtain ⟨a, ns, k, rfl, hs, hl, k0, k1, q⟩ := h
  refine ⟨_, (pss_cons (ps_set (i := 2) sc__law_stream.nd rfl (Or.inl rfl) pe_int)
      (pss_cons (ps_for (passes_of rfl) rfl (pi_range3 (by rfl) T.z_range (pa_cons (pv 1) (pa_cons (pe_callB call_len_seq (by rfl) T.z_len bt_len (pa_cons (pv 0) pa_nil)) (pa_cons pe_int pa_nil)))) (pg_name (i := 3) sc__law_stream.nd rfl (Or.inl rfl))
      (pss_one (ps_set (i := 2) sc__law_stream.nd rfl (Or.inl rfl) (pe_op op_add (pe_op op_mulW (pv 2) (pe_op op_pow pe_int pe_int)) (pe_op op_mod (pe_ix ix_list (pv 0) (pv 3) (fun _ _ => rfl)) (pe_op op_pow pe_int pe_int))))))
      (pss_cons (ps_if (pt_cmpR op_ge (pv 2) (pe_op op_pow pe_int pe_int) (nomark _)) (pss_one (ps_ret (pe_lst (pa_cons (pv 2) pa_nil)))) pss_nil)
      (pss_cons (ps_set (i := 2) sc__law_stream.nd rfl (Or.inl rfl) (pe_op op_add (pv 2) (pe_callB (cr_sum rfl) (by rfl) T.z_sum bt_sum (pa_cons (pe_lc (own := [("one", 5)]) (g := gName 5) (tt := tYes) rfl sc__law_stream.nd (pi_list (pv 0)) (blkOk_by (own := [("one", 5)]) (N := n__law_stream) (sc := defScope s__law_stream) (by decide +kernel)) (fun _ _ _ _ _ => (pg_name (i := 5) sc__law_stream.nd rfl (Or.inl rfl))) (fun _ _ _ _ _ => pts_nil) (fun _ _ _ _ _ => (pe_op op_mod (pv 5) (pe_op op_pow pe_int pe_int)))) pa_nil))))
      (pss_cons (ps_set (i := 4) sc__law_stream.nd rfl (Or.inl rfl) pe_int)
      (pss_cons (ps_for (passes_of rfl) rfl (pi_range1 (by rfl) T.z_range (pa_cons pe_int pa_nil)) (pg_name (i := 3) sc__law_stream.nd rfl (Or.inl rfl))
      (pss_one (ps_set (i := 4) sc__law_stream.nd rfl (Or.inl rfl) (pe_op op_add (pe_op op_mulW (pv 4) pe_int) (pe_call (ok__law_mixed T) (hr.mono (by omega)) (by rfl) T.mg__law_mixed T.fn__law_mixed.kp T.bi__law_mixed .nil (passes_call (takes_of rfl rfl rfl rfl) (fun _ _ _ _ h => h)) (pa_cons (pe_op op_add (pe_op op_add (pv 2) (pe_op op_mulW pe_int (pv 1))) (pe_callB call_len_seq (by rfl) T.z_len bt_len (pa_cons (pv 0) pa_nil))) (pa_cons (pv 3) pa_nil)))))))
      (pss_one (ps_ret (pe_lst (pa_cons (pe_op op_fdivW (pv 4) pe_int) pa_nil)))))))))), ?_⟩
  have ll : (ns.map V.int).length = ns.length := by simp
  have line : ∀ n : Int, [V.int n].length ≤ sizeLine := fun n => by show 1 ≤ sizeLine; rw [sizeLine_eq]; decide
  have p60 : (10 : Int) ^ (Int.toNat 60) = 1000000000000000000000000000000000000000000000000000000000000 := by decide +kernel
  have cp : CPow 10 60 := ⟨by decide, by decide, by decide⟩
  walk_at "st"
  walk_at "nx"
  obtain ⟨n, rg, rn, rk⟩ := rgC (i := k) (j := ns.length) (c := 5) (by decide) (by decide) k0 (by omega) (by omega) (by omega)
  walk_at "st"
  refine ⟨_, _, rfl, .inl hs, ?_⟩
  rw [ll]
  walk_at "go"
  refine ⟨_, _, _, n, rfl, rg, ?_⟩
  refine for_it walk_rangeC (fun i σ H' => ∃ (c : Int) (j : Option V), σ = [some (.ref a), some (.int k), some (.int c), j, none, none] ∧ H' = H ∧ 0 ≤ c ∧ c < 2 ^ (200 * i + 1)) ⟨0, _, rfl, rfl, by decide, by decide⟩ (fun _ _ _ _ _ => trivial) ?_ ?_
  · rintro i x σ H1 H2 hi ⟨c, j, rfl, rfl, c0, c1⟩ ⟨rfl, rfl⟩
    have hk := rk i hi
    have hx : (k + (i : Int) * 5).toNat < ns.length := by omega
    have at1 : atI (ns.map V.int) (k + (i : Int) * 5) = some (.int ns[(k + (i : Int) * 5).toNat]) := at_of (j := (k + (i : Int) * 5).toNat) (by omega) (by rw [List.getElem?_map, List.getElem?_eq_getElem hx]; rfl)
    refine w_gname ?_
    walk_at "go"
    refine w_rI cp ?_
    rw [p60]
    refine w_rI (mulW_big c0 c1 (by decide) (by decide : (1000000000000000000000000000000000000000000000000000000000000 : Int) < 2 ^ 200) (by omega) (by decide) (by omega)) ?_
    walk_at "go"
    refine w_ixl hs at1 ?_
    walk_at "go"
    refine w_rI cp ?_
    rw [p60]
    refine w_rI (by decide) (w_rI0 (w_gname ?_))
    obtain ⟨e1, e2⟩ := step_big (b := 200) c0 c1 (Int.emod_nonneg ns[(k + (i : Int) * 5).toNat] (by decide)) (Int.emod_lt_of_pos ns[(k + (i : Int) * 5).toNat] (by decide : (0 : Int) < 1000000000000000000000000000000000000000000000000000000000000)) (by decide)
    exact ⟨_, _, rfl, rfl, e1, by rw [show 200 * (i + 1) + 1 = 200 * i + 1 + 200 by omega]; exact e2⟩
  rintro σ H1 ⟨c, j, rfl, rfl, c0, c1⟩
  dsimp only
  walk_at "st"
  refine w_rI ⟨by decide, by decide, by decide⟩ ?_
  walk_at "go"
  refine ite_d (fun _ => ?_) (fun _ => ?_)
  · walk_at "go"
    refine w_mkl (line _) fun p H2 np s2 hp2 => q H2 p c s2 np hp2 c0
  walk_at "sk"
  walk_at "st"
  refine ⟨a, rfl, ⟨_, hs⟩, fun D hD => ?_⟩
  refine lc_it walk_list (fun i H' => Same H1 H' ∧ H' D = some (.lst ((ns.take i).map fun x => V.int (x % 1000000000000000000)))) ⟨fun b o e => by rw [upd_ne (ne_of_none e hD)]; exact e, upd_same⟩ (fun i H' _ z => z.1.seq hs) ?_ ?_
  · rintro i x H2 H3 hi ⟨s2, hD2⟩ ⟨rfl, hx⟩
    rw [List.getElem?_map] at hx
    have hi' : i < ns.length := by rw [ll] at hi; exact hi
    rw [List.getElem?_eq_getElem hi'] at hx
    cases hx
    refine w_gname ⟨rfl, w_yes (iteT ?_)⟩
    walk_at "go"
    refine w_rI ⟨by decide, by decide, by decide⟩ ?_
    rw [pow_sg]
    refine w_rI (by decide) ⟨_, hD2, ?_, fun b o e => ?_, ?_⟩
    · have := cap_line; unfold cap at this; simp; omega
    · rw [upd_ne (ne_of_none e hD)]; exact s2 b o e
    · rw [upd_same, take_snoc (List.getElem?_eq_getElem hi'), List.map_append]; rfl
  rintro H2 ⟨s2, hD2⟩
  walk_at "go"
  refine ⟨D, ns.map fun x => x % 1000000000000000000, rfl, ?_, ?_⟩
  · rw [ll, List.take_length] at hD2
    rw [List.map_map]; exact SqL.of hD2
  walk_at "go"
  walk_at "nx"
  generalize c + _ = c'
  walk_at "st"
  walk_at "nx"
  walk_at "st"
  refine ⟨30, rfl, by decide, by decide, ?_⟩
  have hs2 := s2.seq hs
  refine for_it walk_range (fun i σ H' => ∃ (f : Int) (j x : Option V), σ = [some (.ref a), some (.int k), some (.int c'), j, some (.int f), x] ∧ H' = H2 ∧ 0 ≤ f ∧ f < 2 ^ (31 * i + 1)) ⟨0, _, _, rfl, rfl, by decide, by decide⟩ (fun _ _ _ _ _ => trivial) ?_ ?_
  · rintro i x σ H3 H4 hi ⟨f, j, y, rfl, rfl, f0, f1⟩ ⟨rfl, rfl⟩
    have hi : i < 30 := hi
    refine w_gname ?_
    walk_at "go"
    refine w_rI (mulW_big f0 f1 (by decide) (by decide : (2147483647 : Int) < 2 ^ 31) (by omega) (by decide) (by omega)) ?_
    walk_at "go"
    refine w_rI (mulW_small (by decide) (by decide) (by omega) (by omega)) ?_
    walk_at "go"
    refine ⟨_, _, rfl, .inl hs2, ?_⟩
    walk_at "go"
    refine c_mixed (by omega) (by omega) fun r r0 r1 => w_rI0 (w_gname ?_)
    obtain ⟨e1, e2⟩ := step_big (b := 31) f0 f1 r0 r1 (by decide)
    exact ⟨_, _, _, rfl, rfl, e1, by rw [show 31 * (i + 1) + 1 = 31 * i + 1 + 31 by omega]; exact e2⟩
  rintro σ H3 ⟨f, j, y, rfl, rfl, f0, f1⟩
  dsimp only
  walk_at "go"
  refine w_rI (divW_small (by decide) (by decide)) ?_
  walk_at "go"
  refine w_mkl (line _) fun p H4 np s4 hp4 => q H4 p _ (s2.trans s4) ?_ hp4 (Int.ediv_nonneg f0 (by decide))
  cases e : H1 p with
  | none => rfl
  | some o => exact absurd ((s2 _ _ e).symm.trans np) (by simp)
end

/-! ### drawn trees -/
def spLetters : Sp := fun vs H Q _ => ∃ (r : Addr) (n : Int), vs = [.ref r] ∧ H r = some (.lst [.int n]) ∧ 0 ≤ n ∧ ∀ (x : Str) (H' : Hp) (n' : Int), GoodL x → KeepL [r] H H' → H' r = some (.lst [.int n']) → 0 ≤ n' → Q (.str x) H'
def spTree (C : Addr) (N : Nat) : Sp := fun vs H Q _ => ∃ (c : Cells) (S : List Tr) (r : Addr) (n : Int) (x : Str) (h : Nat) (l : Nat), vs = [.ref c.a, .ref r, .str x, .int h, .int l] ∧ ShAt C c H S ∧ r ∉ c.all ∧ H r = some (.lst [.int n]) ∧ 0 ≤ n ∧
  GoodL x ∧ h < N ∧ h ≤ 10 ∧ 1 ≤ l ∧ l ≤ 8 ∧ S.length + 2 ^ (h + 1) ≤ cap ∧
  ∀ (H' : Hp) (S' : List Tr) (n' y : Int) (t : Tr) (p : Addr), Grown C c r H H' S S' n' (2 ^ (h + 1) - 1) → Nm S' y t → Ok t → t.ht = h → 8 < l + t.fi.sg → t.sg ≤ 8 * 2 ^ h → H p = none → H' p = some (.tup [.int y, .str (sT t.txt), .int t.la.sg]) → Q (.ref p) H'
section
variable {P : Program} {w : World} {K : PySem.W.Frag} {mg : Str → Option Value} {base : Heap} {A : Ad}
abbrev n__law_letters : List Str := ["row", "every", "some"]
theorem sc__law_letters : FnScope n__law_letters p__law_letters (defScope s__law_letters) := ⟨rfl, rfl, rfl, by decide +kernel, rfl, by decide +kernel, by decide +kernel⟩
theorem ok__law_letters (T : Txt K mg A) : FnOk P w K mg base (L2.CX P w) 2 A.f__law_letters A.d__law_letters p__law_letters spLetters := by
  refine T.fn__law_letters.okX sc__law_letters (fun vs H Q E h => ?_) (fun cdv B outer s H vs Q E hr h => ?_)
  · obtain ⟨r, n, rfl, _⟩ := h; rfl
  obtain ⟨r, n, rfl, h, h0, q⟩ := h
  refine ⟨_, (pss_cons (ps_set (i := 1) sc__law_letters.nd rfl (Or.inl rfl) pe_str)
      (pss_cons (ps_set (i := 1) sc__law_letters.nd rfl (Or.inl rfl) (pe_op op_add_str (pv 1) pe_str))
      (pss_cons (ps_set (i := 2) sc__law_letters.nd rfl (Or.inl rfl) (pe_lst (pa_cons pe_str (pa_cons pe_str (pa_cons pe_str (pa_cons (pv 1) (pa_cons pe_str pa_nil)))))))
      (pss_one (ps_ret (pe_ix ix_list (pv 2) (pe_call (ok__law_digit T) (hr.mono (by omega)) (by rfl) T.mg__law_digit T.fn__law_digit.kp T.bi__law_digit .nil (passes_call (takes_of rfl rfl rfl rfl) (fun _ _ _ _ h => h)) (pa_cons (pv 0) (pa_cons pe_int pa_nil))) (fun _ _ => rfl))))))), ?_⟩
  walk_at "st"
  walk_at "nx"
  walk_at "st"
  refine ⟨_, _, rfl, rfl, (by decide +kernel), ?_⟩
  walk_at "nx"
  walk_at "st"
  refine w_mkl (by show 5 ≤ sizeLine; rw [sizeLine_eq]; decide) fun p H1 np s1 hp => ?_
  walk_at "nx"
  walk_at "go"
  obtain ⟨L, hL, l5, all⟩ : ∃ L, H1 p = some (.lst L) ∧ L.length = 5 ∧ ∀ v ∈ L, ∃ x, v = V.str x ∧ GoodL x := ⟨_, hp, rfl, fun v hv => by
    simp only [List.mem_cons, List.not_mem_nil, or_false] at hv
    rcases hv with e | e | e | e | e
    all_goals exact ⟨_, e, by decide +kernel⟩⟩
  refine c_digit (s1 _ _ h) h0 (by decide) (by decide) fun d n' d0 d1 n0 => ?_
  obtain ⟨v, hv, ha⟩ := at_in (xs := L) d0 (by omega)
  obtain ⟨x, rfl, gx⟩ := all v hv
  refine w_ixl (SqL.of (by rw [upd_ne (ne_of_none h np).symm]; exact hL)) ha ?_
  exact q x _ n' gx (fun b o nb e => by
    rw [upd_ne (by rintro rfl; exact nb (by simp))]; exact s1 b o e) upd_same n0
abbrev n__law_tree : List Str := ["shelf", "row", "letters", "height", "last", "least", "many", "plain", "lower", "turn", "one", "other", "k"]
theorem sc__law_tree : FnScope n__law_tree p__law_tree (defScope s__law_tree) := ⟨rfl, rfl, rfl, by decide +kernel, rfl, by decide +kernel, by decide +kernel⟩
theorem sum_ones : ∀ L : List Nat, ((L.map fun c => (⟨#[c]⟩ : Str)).map (·.length)).sum = L.length
  | [] => rfl
  | c :: r => by
    rw [List.map_cons, List.map_cons, List.sum_cons, sum_ones r]
    show 1 + r.length = r.length + 1
    omega
theorem never_ok {f : Addr} {fd : FuncData} {ps : List Str} {k : Nat} {sp : Sp} (h : ∀ vs H Q E, ¬ sp vs H Q E) : FnOk P w K mg base (L2.CX P w) k f fd ps sp :=
  ⟨fun vs H Q E z => (h _ _ _ _ z).elim, fun _ _ _ _ _ _ _ _ _ _ _ _ _ z => (h _ _ _ _ z).elim⟩
theorem two_add {a b h : Nat} (ha : a + 1 ≤ h) (hb : b + 1 ≤ h) : (2 ^ (a + 1) - 1) + (2 ^ (b + 1) - 1) + 1 ≤ 2 ^ (h + 1) - 1 ∧ 2 ^ (a + 1) ≤ 2 ^ (h + 1) ∧ 2 ^ a + 2 ^ b ≤ 2 ^ h := by
  have e1 : 2 ^ (a + 1) ≤ 2 ^ h := Nat.pow_le_pow_right (by decide) ha
  have e2 : 2 ^ (b + 1) ≤ 2 ^ h := Nat.pow_le_pow_right (by decide) hb
  have e3 : 2 ^ (h + 1) = 2 ^ h + 2 ^ h := by rw [Nat.pow_succ]; omega
  have e4 : 2 ^ (a + 1) = 2 ^ a + 2 ^ a := by rw [Nat.pow_succ]; omega
  have e5 : 2 ^ (b + 1) = 2 ^ b + 2 ^ b := by rw [Nat.pow_succ]; omega
  have p1 : 0 < 2 ^ (a + 1) := Nat.pow_pos (by decide)
  have p2 : 0 < 2 ^ (b + 1) := Nat.pow_pos (by decide)
  omega
theorem ok__law_tree (T : Txt K mg A) : ∀ N, FnOk P w K mg base (L2.CX P w) (N + 4) A.f__law_tree A.d__law_tree p__law_tree (spTree A.C_Shelf N) := by
  intro N
  induction N with
  | zero => exact never_ok fun vs H Q E ⟨_, _, _, _, _, _, _, _, _, _, _, _, _, z, _⟩ => by omega
  | succ N ih =>
  refine T.fn__law_tree.okX sc__law_tree (fun vs H Q E h => ?_) (fun cdv B outer s H vs Q E hr h => ?_)
  · obtain ⟨c, S, r, n, x, h, l, rfl, _⟩ := h; rfl
  obtain ⟨c, S, r, n, x, h, l, rfl, hS, hrc, hn, n0, gx, hN, h10, l1, l8, cp, q⟩ := h
  refine ⟨_, (pss_cons (ps_if (pt_cmpR op_eq (pv 3) pe_int (nomark _)) (pss_cons (ps_set (i := 5) sc__law_tree.nd rfl (Or.inl rfl) (pe_callB (call_max2 rfl) (by rfl) T.z_max bt_max (pa_cons pe_int (pa_cons (pe_op op_sub pe_int (pv 4)) pa_nil))))
      (pss_cons (ps_set (i := 6) sc__law_tree.nd rfl (Or.inl rfl) (pe_op op_add (pv 5) (pe_call (ok__law_digit T) (hr.mono (by omega)) (by rfl) T.mg__law_digit T.fn__law_digit.kp T.bi__law_digit .nil (passes_call (takes_of rfl rfl rfl rfl) (fun _ _ _ _ h => h)) (pa_cons (pv 1) (pa_cons (pe_op op_sub pe_int (pv 5)) pa_nil)))))
      (pss_cons (ps_set (i := 7) sc__law_tree.nd rfl (Or.inl rfl) (pe_join pe_str (pe_lc (own := [("k", 12)]) (g := gName 12) (tt := tYes) rfl sc__law_tree.nd (pi_range1 (by rfl) T.z_range (pa_cons (pv 6) pa_nil)) (blkOk_by (own := [("k", 12)]) (N := n__law_tree) (sc := defScope s__law_tree) (by decide +kernel)) (fun _ _ _ _ _ => (pg_name (i := 12) sc__law_tree.nd rfl (Or.inl rfl))) (fun _ _ _ _ _ => pts_nil) (fun _ _ _ _ _ => (pe_ix ix_str (pv 2) (pe_call (ok__law_digit T) (hr.mono (by omega)) (by rfl) T.mg__law_digit T.fn__law_digit.kp T.bi__law_digit .nil passL (pa_cons (pv 1) (pa_cons (pe_callB call_len_str (by rfl) T.z_len bt_len (pa_cons (pv 2) pa_nil)) pa_nil))) (fun _ _ => rfl))))))
      (pss_one (ps_ret (pe_tup (pa_cons (pe_meth (pv 0) T.cl_Shelf T.me_Shelf_leaf (ok_Shelf_leaf T) (hr.mono (by omega)) T.bi_Shelf_leaf .nil (passes_call (takes_of rfl rfl rfl rfl) (fun _ _ _ _ h => h)) (pa_cons (pv 7) pa_nil)) (pa_cons (pv 7) (pa_cons (pv 6) pa_nil))))))))) pss_nil)
      (pss_cons (ps_set (i := 8) sc__law_tree.nd rfl (Or.inl rfl) (pe_op op_mulW (pe_ix ix_list (pe_lst (pa_cons pe_int (pa_cons pe_int (pa_cons pe_int pa_nil)))) (pe_call (ok__law_digit T) (hr.mono (by omega)) (by rfl) T.mg__law_digit T.fn__law_digit.kp T.bi__law_digit .nil (passes_call (takes_of rfl rfl rfl rfl) (fun _ _ _ _ h => h)) (pa_cons (pv 1) (pa_cons pe_int pa_nil))) (fun _ _ => rfl)) (pe_callTy call_int1 (by rfl) T.z_int bt_int (pa_cons (pe_cmpR op_gt (pv 3) pe_int (nomark _)) pa_nil))))
      (pss_cons (ps_set (i := 9) sc__law_tree.nd rfl (Or.inl rfl) (pe_call (ok__law_digit T) (hr.mono (by omega)) (by rfl) T.mg__law_digit T.fn__law_digit.kp T.bi__law_digit .nil (passes_call (takes_of rfl rfl rfl rfl) (fun _ _ _ _ h => h)) (pa_cons (pv 1) (pa_cons pe_int pa_nil))))
      (pss_cons (ps_set (i := 10) sc__law_tree.nd rfl (Or.inl rfl) (pe_call ih (hr.mono (by omega)) (by rfl) T.mg__law_tree T.fn__law_tree.kp T.bi__law_tree .nil (passes_call (takes_of rfl rfl rfl rfl) (fun _ _ _ _ h => h)) (pa_cons (pv 0) (pa_cons (pv 1) (pa_cons (pv 2) (pa_cons (pe_op op_sub (pe_op op_sub (pv 3) pe_int) (pe_op op_mulW (pv 8) (pv 9))) (pa_cons (pv 4) pa_nil)))))))
      (pss_cons (ps_set (i := 11) sc__law_tree.nd rfl (Or.inl rfl) (pe_call ih (hr.mono (by omega)) (by rfl) T.mg__law_tree T.fn__law_tree.kp T.bi__law_tree .nil (passes_call (takes_of rfl rfl rfl rfl) (fun _ _ _ _ h => h)) (pa_cons (pv 0) (pa_cons (pv 1) (pa_cons (pv 2) (pa_cons (pe_op op_sub (pe_op op_sub (pv 3) pe_int) (pe_op op_mulW (pv 8) (pe_op op_sub pe_int (pv 9)))) (pa_cons (pe_ix ix_tup (pv 10) pe_int (fun _ _ => rfl)) pa_nil)))))))
      (pss_one (ps_ret (pe_tup (pa_cons (pe_meth (pv 0) T.cl_Shelf T.me_Shelf_fork (ok_Shelf_fork T) (hr.mono (by omega)) T.bi_Shelf_fork .nil (passes_call (takes_of rfl rfl rfl rfl) (fun _ _ _ _ h => h)) (pa_cons (pe_ix ix_tup (pv 10) pe_int (fun _ _ => rfl)) (pa_cons (pe_ix ix_tup (pv 11) pe_int (fun _ _ => rfl)) pa_nil))) (pa_cons (pe_op op_add_str (pe_ix ix_tup (pv 10) pe_int (fun _ _ => rfl)) (pe_ix ix_tup (pv 11) pe_int (fun _ _ => rfl))) (pa_cons (pe_ix ix_tup (pv 11) pe_int (fun _ _ => rfl)) pa_nil))))))))))), ?_⟩
  have G0 := Grown.refl hS hn n0
  have xl : 1 ≤ x.cps.toList.length := by
    cases e : x.cps.toList with
    | nil => exact absurd e gx.1
    | cons a b => simp
  have xl2 : x.length ≤ sizeLine := by
    have := gx.2.2; have := cap_line; unfold cap at this
    have : x.length = x.cps.toList.length := by simp [Str.length]
    omega
  have xle : x.length = x.cps.toList.length := by simp [Str.length]
  walk_at "st"
  refine ite_d (fun hz => ?_) (fun hz => ?_)
  · have h0 : h = 0 := by omega
    subst h0
    walk_at "st"
    refine ⟨_, _, rfl, ?_⟩
    walk_at "nx"
    obtain ⟨le, hle, le1, le2, le3⟩ : ∃ le : Int, (if (9 - (l : Int)) > 1 then 9 - (l : Int) else 1) = le ∧ 1 ≤ le ∧ le ≤ 8 ∧ 8 < le + l := ⟨_, rfl, by split <;> omega, by split <;> omega, by split <;> omega⟩
    rw [hle]
    walk_at "st"
    refine c_digit hn n0 (by omega) (by omega) fun d n1 d0 d1 n10 => ?_
    have G1 := G0.digit hrc n10
    walk_at "go"
    walk_at "nx"
    obtain ⟨m, em⟩ : ∃ m : Nat, le + d = m := ⟨(le + d).toNat, by omega⟩
    rw [em]
    walk_at "st"
    refine ⟨⟨_, rfl⟩, ?_⟩
    walk_at "go"
    refine ⟨_, rfl, by omega, by omega, fun D hD => ?_⟩
    have Dr : D ≠ r := (ne_of_none G1.ro hD).symm
    have Dc : D ∉ c.all := G1.sh.apart hD
    refine lc_it walk_range (fun i H' => ∃ (L : List Nat) (n' : Int), Grown A.C_Shelf c r H H' S S n' 0 ∧ L.length = i ∧ Plain L ∧ H' D = some (.lst (L.map fun c => V.str ⟨#[c]⟩))) ⟨[], n1, G1.same (fun b o e => by rw [upd_ne (ne_of_none e hD)]; exact e), rfl, (fun _ z => nomatch z), upd_same⟩ (fun _ _ _ _ => trivial) ?_ ?_
    · rintro i y H1 H2 hi ⟨L, n', G, ll, pl, hDl⟩ ⟨rfl, rfl⟩
      refine w_gname ⟨rfl, w_yes (iteT ?_)⟩
      walk_at "go"
      refine ⟨_, rfl, xl2, ?_⟩
      walk_at "go"
      have := gx.2.2
      refine c_digit G.ro G.pos (by omega) (by omega) fun d2 n2 e0 e1 n20 => ?_
      obtain ⟨ch, hch, ha⟩ := at_in (xs := x.cps.toList) e0 (by omega)
      refine ⟨_, _, ch, rfl, rfl, xl2, ha, ?_⟩
      refine ⟨_, by rw [upd_ne Dr]; exact hDl, ?_, L ++ [ch], n2, ?_, by simp [ll], ?_, by rw [upd_same, List.map_append]; rfl⟩
      · have := cap_line; unfold cap at this
        have hi' : i < (m : Int).toNat := hi
        simp; omega
      · have G2 := G.digit hrc n20
        refine ⟨G2.sh.keepL (l := [D]) (KeepL.upd (by simp)) (fun b hb => by rw [List.mem_singleton] at hb; rw [hb]; exact Dc) (fun b ys e => ?_), G2.ex, G2.len, fun b o nb e => ?_, by rw [upd_ne Dr.symm]; exact G2.ro, n20⟩
        · rw [upd_ne (ne_of e (by rw [upd_ne Dr]; exact hDl) (by intro z; cases z))]; exact e
        · have e2 := G2.kp b o nb e
          rw [upd_ne ?_]; exact e2
          rintro rfl
          exact absurd (G0.kp b o nb e |>.symm.trans (G1.free hD)) (by simp)
      · intro c' hc'
        rcases List.mem_append.mp hc' with hc' | hc'
        · exact pl c' hc'
        · rw [List.mem_singleton] at hc'; rw [hc']; exact gx.2.1 ch hch
    · rintro H1 ⟨L, n', G, ll, pl, hDl⟩
      have ll : L.length = m := by rw [ll]; omega
      have Ln : L ≠ [] := by intro z; rw [z] at ll; simp at ll; omega
      refine ⟨_, D, L.map fun c => (⟨#[c]⟩ : Str), rfl, rfl, .inl (SqL.of (by rw [List.map_map]; exact hDl)), ?_, ?_⟩
      · rw [sum_ones, sT_nil, sT_len]; simp; omega
      rw [sT_nil, join_signs Ln]
      walk_at "nx"
      have ok : Ok (.lf L) := ⟨by omega, by omega, pl⟩
      have one2 : (2 : Nat) ^ (0 + 1) = 2 := rfl
      rw [one2] at cp
      walk_at "go"
      refine ⟨c.a, c.dx, _, rfl, G.sh.ob, fl_no (by decide +kernel), ?_⟩
      walk_at "go"
      refine c_leaf G.sh ok (by omega) fun H2 hS2 k2 => ?_
      have G2 := G.put hrc hS2 k2
      walk_at "go"
      refine w_mkt (by show 3 ≤ sizeLine; rw [sizeLine_eq]; decide) fun p H3 np s3 hp3 => ?_
      refine q H3 _ n' _ (.lf L) p (G2.same s3) (nm_num put_mem) ok rfl (by show 8 < l + L.length; omega) (by show L.length ≤ 8 * 1; omega) (G2.free np) ?_
      rw [hp3]
      show some (HO.tup [_, _, V.int m]) = some (HO.tup [_, _, V.int L.length])
      rw [ll]; rfl
  walk_at "sk"
  have hp0 : 0 < h := by omega
  walk_at "st"
  refine ⟨line_of rfl (by decide), fun p np => ?_⟩
  obtain ⟨H1, eH, s1, hp⟩ := new_of (o := .lst [.int 0, .int 0, .int 1]) np
  rw [eH]
  obtain ⟨L, hL, l3, all⟩ : ∃ L, H1 p = some (.lst L) ∧ L.length = 3 ∧ ∀ v ∈ L, ∃ z : Int, v = V.int z ∧ 0 ≤ z ∧ z ≤ 1 := ⟨_, hp, rfl, fun v hv => by
    simp only [List.mem_cons, List.not_mem_nil, or_false] at hv
    rcases hv with e | e | e
    all_goals exact ⟨_, e, by decide, by decide⟩⟩
  have G1 := G0.same s1
  walk_at "go"
  refine c_digit G1.ro G1.pos (by decide) (by decide) fun d n2 d0 d1 n20 => ?_
  obtain ⟨v, hv, ha⟩ := at_in (xs := L) d0 (by omega)
  obtain ⟨z, rfl, z0, z1⟩ := all v hv
  have G2 := G1.digit hrc n20
  refine w_ixl (SqL.of (by rw [upd_ne (ne_of_none hn np).symm]; exact hL)) ha ?_
  walk_at "go"
  refine .inr ⟨_, rfl, ?_⟩
  refine w_rI (mulW_small (by omega) (by omega) (by split <;> decide) (by split <;> decide)) ?_
  obtain ⟨lw, hlw, w0, w1, w2⟩ : ∃ lw : Int, z * (if decide ((1 : Int) < h) = true then 1 else 0) = lw ∧ 0 ≤ lw ∧ lw ≤ 1 ∧ (lw = 1 → 2 ≤ h) := by
    refine ⟨_, rfl, ?_⟩
    by_cases e : (1 : Int) < h
    · rw [if_pos (decide_eq_true e)]; omega
    · rw [if_neg (by simpa using e)]; omega
  rw [hlw]
  walk_at "nx"
  walk_at "st"
  refine c_digit G2.ro G2.pos (by decide) (by decide) fun tn n3 t0 t1 n30 => ?_
  have G3 := G2.digit hrc n30
  walk_at "nx"
  obtain ⟨a, b, ea, eb, ha1, hb1, hab, hba, hm⟩ : ∃ a b : Nat, ((h : Int) - 1 - lw * tn = a) ∧ ((h : Int) - 1 - lw * (1 - tn) = b) ∧ a + 1 ≤ h ∧ b + 1 ≤ h ∧ a ≤ b + 1 ∧ b ≤ a + 1 ∧ (a + 1 = h ∨ b + 1 = h) := by
    have e1 : lw = 0 ∨ lw = 1 := by omega
    have e2 : tn = 0 ∨ tn = 1 := by omega
    rcases e1 with rfl | rfl
    · exact ⟨h - 1, h - 1, by omega, by omega, by omega, by omega, by omega, by omega, by omega⟩
    · have := w2 rfl
      rcases e2 with rfl | rfl
      · exact ⟨h - 1, h - 2, by omega, by omega, by omega, by omega, by omega, by omega, by omega⟩
      · exact ⟨h - 2, h - 1, by omega, by omega, by omega, by omega, by omega, by omega, by omega⟩
  obtain ⟨tw1, tw2, tw3⟩ := two_add ha1 hb1
  have hp2 : 0 < 2 ^ (a + 1) := Nat.pow_pos (by decide)
  have hp3 : 0 < 2 ^ (b + 1) := Nat.pow_pos (by decide)
  have hph : 0 < 2 ^ (h + 1) := Nat.pow_pos (by decide)
  walk_at "st"
  refine w_rI (mulW_small (by omega) (by omega) (by omega) (by omega)) ?_
  walk_at "go"
  rw [ea]
  refine ⟨c, S, r, n3, x, a, l, rfl, G3.sh, hrc, G3.ro, n30, gx, by omega, by omega, l1, l8, by omega, fun H4 S4 n4 y4 t4 p4 G4 m4 o4 h4 f4 g4 np4 hp4 => ?_⟩
  have G4' := G3.trans G4
  have len4 := G4.len
  walk_at "nx"
  walk_at "st"
  refine w_rI (mulW_small (by omega) (by omega) (by omega) (by omega)) ?_
  walk_at "go"
  rw [eb]
  have a2 : atI [V.int y4, V.str (sT t4.txt), V.int t4.la.sg] 2 = some (.int t4.la.sg) := rfl
  refine w_ixt (SqT.of hp4) a2 ?_
  walk_at "go"
  have lo := o4.la
  have l4a : 1 ≤ t4.la.sg := lo.pos
  have l4b : t4.la.sg ≤ 8 := by
    obtain ⟨m, em⟩ := la_leaf t4
    rw [em] at lo ⊢
    exact lo.2.1
  refine ⟨c, S4, r, n4, x, b, t4.la.sg, rfl, G4.sh, hrc, G4.ro, G4.pos, gx, by omega, by omega, l4a, l4b, by omega, fun H5 S5 n5 y5 t5 p5 G5 m5 o5 h5 f5 g5 np5 hp5 => ?_⟩
  have G5' := G4'.trans G5
  have len5 := G5.len
  have pne : p4 ≠ r := fun e => by rw [e, G4.ro] at hp4; cases hp4
  have hp45 : H5 p4 = some (.tup [V.int y4, V.str (sT t4.txt), V.int t4.la.sg]) := G5.kp p4 _ (by
    rw [List.mem_cons, not_or]; exact ⟨pne, G4.sh.apart_tup hp4⟩) hp4
  have m45 := m4.ext G5.ex
  have e8 : (8 : Nat) * 2 ^ h ≤ 8192 := by
    have : 2 ^ h ≤ 2 ^ 10 := Nat.pow_le_pow_right (by decide) h10
    omega
  have sgs : t4.sg + t5.sg ≤ 8 * 2 ^ h := by omega
  have ok : Ok (.fk t4 t5) := ⟨o4, o5, by omega, by omega, f5, by unfold mostSg; omega⟩
  have i0 : atI [V.int y4, V.str (sT t4.txt), V.int t4.la.sg] 0 = some (.int y4) := rfl
  have i1 : atI [V.int y4, V.str (sT t4.txt), V.int t4.la.sg] 1 = some (.str (sT t4.txt)) := rfl
  have j0 : atI [V.int y5, V.str (sT t5.txt), V.int t5.la.sg] 0 = some (.int y5) := rfl
  have j1 : atI [V.int y5, V.str (sT t5.txt), V.int t5.la.sg] 1 = some (.str (sT t5.txt)) := rfl
  have j2 : atI [V.int y5, V.str (sT t5.txt), V.int t5.la.sg] 2 = some (.int t5.la.sg) := rfl
  walk_at "nx"
  walk_at "go"
  refine ⟨c.a, c.dx, _, rfl, G5.sh.ob, fl_no (by decide +kernel), ?_⟩
  walk_at "go"
  refine w_ixt (SqT.of hp45) i0 ?_
  walk_at "go"
  refine w_ixt (SqT.of hp5) j0 ?_
  walk_at "go"
  refine c_fork G5.sh m45 m5 ok (by omega) fun H6 hS6 k6 => ?_
  have G6 := G5'.put hrc hS6 k6
  have q45 : H6 p4 = some (.tup [V.int y4, V.str (sT t4.txt), V.int t4.la.sg]) := k6 _ _ (G4.sh.apart_tup hp4) hp45
  have q5 : H6 p5 = some (.tup [V.int y5, V.str (sT t5.txt), V.int t5.la.sg]) := k6 _ _ (G5.sh.apart_tup hp5) hp5
  walk_at "go"
  refine w_ixt (SqT.of q45) i1 ?_
  walk_at "go"
  refine w_ixt (SqT.of q5) j1 ?_
  refine ⟨_, _, rfl, rfl, ?_, ?_⟩
  · rw [sT_len, sT_len, sg_txt, sg_txt]; have := cap_line; unfold cap at this; omega
  walk_at "go"
  refine w_ixt (SqT.of q5) j2 ?_
  walk_at "go"
  refine w_mkt (by show 3 ≤ sizeLine; rw [sizeLine_eq]; decide) fun p7 H7 np7 s7 hp7 => ?_
  have G7 := G6.same s7
  refine q H7 _ n5 _ (.fk t4 t5) p7 ⟨G7.sh, G7.ex, by have := G7.len; omega, G7.kp, G7.ro, G7.pos⟩ (nm_num put_mem) ok (by rw [ht_fk]; omega) f4 (by show t4.sg + t5.sg ≤ _; exact sgs) (G6.free np7) ?_
  rw [hp7, sT_app]; rfl
end

/-! ### drawn texts -/
def oTxt : Option Tr → List Nat | none => [] | some t => t.txt
def dbl : Nat → Tr → Tr | 0, t => t | k + 1, t => .fk (dbl k t) (dbl k t)
theorem dbl_fi (t : Tr) : ∀ k, (dbl k t).fi = t.fi | 0 => rfl | k + 1 => dbl_fi t k
theorem dbl_la (t : Tr) : ∀ k, (dbl k t).la = t.la | 0 => rfl | k + 1 => dbl_la t k
theorem dbl_sg (t : Tr) : ∀ k, (dbl k t).sg = t.sg * 2 ^ k
  | 0 => by show t.sg = t.sg * 1; omega
  | k + 1 => by
    show (dbl k t).sg + (dbl k t).sg = _
    rw [dbl_sg t k, Nat.pow_succ, ← Nat.mul_assoc]; omega
def spText (C : Addr) : Sp := fun vs H Q _ => ∃ (c : Cells) (S : List Tr) (r : Addr) (n : Int) (m : Nat), vs = [.ref c.a, .ref r, .int m] ∧ ShAt C c H S ∧ r ∉ c.all ∧ H r = some (.lst [.int n]) ∧ 0 ≤ n ∧ m ≤ 8 ∧ S.length + 2 ^ (m + 1) ≤ cap ∧
  ∀ (H' : Hp) (S' : List Tr) (n' y : Int) (o : Option Tr) (p : Addr), Grown C c r H H' S S' n' (2 ^ (m + 1)) → Tx S' y o → (∀ t, o = some t → Ok t ∧ t.sg ≤ 8 * 2 ^ m) → H p = none → H' p = some (.tup [.int y, .str (sT (oTxt o))]) → Q (.ref p) H'
def spLong (C : Addr) : Sp := fun vs H Q _ => ∃ (c : Cells) (S : List Tr) (r : Addr) (n : Int), vs = [.ref c.a, .ref r] ∧ ShAt C c H S ∧ r ∉ c.all ∧ H r = some (.lst [.int n]) ∧ 0 ≤ n ∧ S.length + 100 ≤ cap ∧
  ∀ (H' : Hp) (S' : List Tr) (n' y : Int) (t : Tr) (k : Nat) (p : Addr), Grown C c r H H' S S' n' 100 → Nm S' y (dbl k t) → Ok (dbl k t) → t.sg ≤ 64 → k ≤ 60 → H p = none → H' p = some (.tup [.int y, .str (sT t.txt), .int (2 ^ k : Nat)]) → Q (.ref p) H'
theorem pow_le {a b : Nat} (h : a ≤ b) : 2 ^ a ≤ 2 ^ b := Nat.pow_le_pow_right (by decide) h
section
variable {P : Program} {w : World} {K : PySem.W.Frag} {mg : Str → Option Value} {base : Heap} {A : Ad}
theorem Grown.letters {C : Addr} {c : Cells} {r : Addr} {H H1 : Hp} {S : List Tr} {n n' : Int} (s : ShAt C c H S) (hr : r ∉ c.all) (h : H r = some (.lst [.int n])) (k : KeepL [r] H H1) (e : H1 r = some (.lst [.int n'])) (n0 : 0 ≤ n') : Grown C c r H H1 S S n' 0 :=
  ⟨s.keepL k (fun b hb => by rw [List.mem_singleton] at hb; rw [hb]; exact hr) (fun b xs z => k b _ (by rw [List.mem_singleton]; exact ne_of z h (by intro y; cases y)) z), List.prefix_refl _, Nat.le_refl _, k.mono fun b hb => by rw [List.mem_singleton] at hb; rw [hb]; exact List.mem_cons_self, e, n0⟩
abbrev n__law_text : List Str := ["shelf", "row", "most", "letters", "found"]
theorem sc__law_text : FnScope n__law_text p__law_text (defScope s__law_text) := ⟨rfl, rfl, rfl, by decide +kernel, rfl, by decide +kernel, by decide +kernel⟩
theorem ok__law_text (T : Txt K mg A) : FnOk P w K mg base (L2.CX P w) 15 A.f__law_text A.d__law_text p__law_text (spText A.C_Shelf) := by
  have G := ok__law_tree (P := P) (w := w) (base := base) T 10
  refine T.fn__law_text.okX sc__law_text (fun vs H Q E h => ?_) (fun cdv B outer s H vs Q E hr h => ?_)
  · obtain ⟨c, S, r, n, m, rfl, _⟩ := h; rfl
  obtain ⟨c, S, r, n, m, rfl, hS, hrc, hn, n0, m8, cp, q⟩ := h
  have hpm : 0 < 2 ^ (m + 1) := Nat.pow_pos (by decide)
  refine ⟨_, (pss_cons (ps_set (i := 3) sc__law_text.nd rfl (Or.inl rfl) (pe_call (ok__law_letters T) (hr.mono (by omega)) (by rfl) T.mg__law_letters T.fn__law_letters.kp T.bi__law_letters .nil (passes_call (takes_of rfl rfl rfl rfl) (fun _ _ _ _ h => h)) (pa_cons (pv 1) pa_nil)))
      (pss_cons (ps_if (pt_cmpR op_eq (pe_call (ok__law_digit T) (hr.mono (by omega)) (by rfl) T.mg__law_digit T.fn__law_digit.kp T.bi__law_digit .nil (passes_call (takes_of rfl rfl rfl rfl) (fun _ _ _ _ h => h)) (pa_cons (pv 1) (pa_cons pe_int pa_nil))) pe_int (nomark _)) (pss_one (ps_ret (pe_tup (pa_cons pe_int (pa_cons pe_str pa_nil))))) pss_nil)
      (pss_cons (ps_set (i := 4) sc__law_text.nd rfl (Or.inl rfl) (pe_call G (hr.mono (by omega)) (by rfl) T.mg__law_tree T.fn__law_tree.kp T.bi__law_tree .nil (passes_call (takes_of rfl rfl rfl rfl) (fun _ _ _ _ h => h)) (pa_cons (pv 0) (pa_cons (pv 1) (pa_cons (pv 3) (pa_cons (pe_call (ok__law_digit T) (hr.mono (by omega)) (by rfl) T.mg__law_digit T.fn__law_digit.kp T.bi__law_digit .nil (passes_call (takes_of rfl rfl rfl rfl) (fun _ _ _ _ h => h)) (pa_cons (pv 1) (pa_cons (pe_op op_add (pv 2) pe_int) pa_nil))) (pa_cons pe_int pa_nil)))))))
      (pss_one (ps_ret (pe_tup (pa_cons (pe_ix ix_tup (pv 4) pe_int (fun _ _ => rfl)) (pa_cons (pe_ix ix_tup (pv 4) pe_int (fun _ _ => rfl)) pa_nil)))))))), ?_⟩
  walk_at "st"
  refine ⟨r, n, rfl, hn, n0, fun x H1 n1 gx k1 e1 n10 => ?_⟩
  have G1 := Grown.letters hS hrc hn k1 e1 n10
  walk_at "nx"
  walk_at "st"
  refine c_digit e1 n10 (by decide) (by decide) fun d n2 d0 d1 n20 => ?_
  have G2 := G1.digit hrc n20
  walk_at "go"
  refine ite_d (fun _ => ?_) (fun _ => ?_)
  · walk_at "go"
    refine w_mkt (line_of (n := 2) rfl (by decide)) fun p H3 np s3 hp3 => ?_
    have G3 := G2.same s3
    exact q H3 S n2 0 none p ⟨G3.sh, G3.ex, by have := G3.len; exact Nat.le_trans this (Nat.add_le_add_left (Nat.zero_le _) _), G3.kp, G3.ro, G3.pos⟩ rfl (fun t z => nomatch z) (G2.free np) hp3
  walk_at "sk"
  walk_at "st"
  refine c_digit G2.ro n20 (by omega) (by omega) fun d n3 d0' d1' n30 => ?_
  have G3 := G2.digit hrc n30
  walk_at "go"
  obtain ⟨h, eh⟩ : ∃ h : Nat, d = h := ⟨d.toNat, by omega⟩
  subst eh
  have hh : h ≤ m := by omega
  have hpw : 2 ^ (h + 1) ≤ 2 ^ (m + 1) := pow_le (by omega)
  have hpw2 : 2 ^ h ≤ 2 ^ m := pow_le hh
  have hpos : 0 < 2 ^ (h + 1) := Nat.pow_pos (by decide)
  refine ⟨c, S, r, n3, x, h, 8, rfl, G3.sh, hrc, G3.ro, n30, gx, by omega, by omega, by decide, by decide, by omega, fun H4 S4 n4 y t p G4 m4 o4 h4 f4 g4 np4 hp4 => ?_⟩
  have G4' := G3.trans G4
  have i0 : atI [V.int y, V.str (sT t.txt), V.int t.la.sg] 0 = some (.int y) := rfl
  have i1 : atI [V.int y, V.str (sT t.txt), V.int t.la.sg] 1 = some (.str (sT t.txt)) := rfl
  walk_at "nx"
  walk_at "go"
  refine w_ixt (SqT.of hp4) i0 ?_
  walk_at "go"
  refine w_ixt (SqT.of hp4) i1 ?_
  walk_at "go"
  refine w_mkt (line_of (n := 2) rfl (by decide)) fun p5 H5 np5 s5 hp5 => ?_
  have G5 := G4'.same s5
  exact q H5 S4 n4 y (some t) p5 ⟨G5.sh, G5.ex, by have := G5.len; omega, G5.kp, G5.ro, G5.pos⟩ m4 (fun t' z => by cases z; exact ⟨o4, by omega⟩) (G4'.free np5) hp5
abbrev n__law_long : List Str := ["shelf", "row", "letters", "number", "plain", "last", "many", "turn"]
theorem sc__law_long : FnScope n__law_long p__law_long (defScope s__law_long) := ⟨rfl, rfl, rfl, by decide +kernel, rfl, by decide +kernel, by decide +kernel⟩
theorem ok__law_long (T : Txt K mg A) : FnOk P w K mg base (L2.CX P w) 15 A.f__law_long A.d__law_long p__law_long (spLong A.C_Shelf) := by
  have G := ok__law_tree (P := P) (w := w) (base := base) T 10
  refine T.fn__law_long.okX sc__law_long (fun vs H Q E h => ?_) (fun cdv B outer s H vs Q E hr h => ?_)
  · obtain ⟨c, S, r, n, rfl, _⟩ := h; rfl
  obtain ⟨c, S, r, n, rfl, hS, hrc, hn, n0, cp, q⟩ := h
  refine ⟨_, (pss_cons (ps_set (i := 2) sc__law_long.nd rfl (Or.inl rfl) (pe_call (ok__law_letters T) (hr.mono (by omega)) (by rfl) T.mg__law_letters T.fn__law_letters.kp T.bi__law_letters .nil (passes_call (takes_of rfl rfl rfl rfl) (fun _ _ _ _ h => h)) (pa_cons (pv 1) pa_nil)))
      (pss_cons (ps_asg (pe_call G (hr.mono (by omega)) (by rfl) T.mg__law_tree T.fn__law_tree.kp T.bi__law_tree .nil (passes_call (takes_of rfl rfl rfl rfl) (fun _ _ _ _ h => h)) (pa_cons (pv 0) (pa_cons (pv 1) (pa_cons (pv 2) (pa_cons (pe_call (ok__law_digit T) (hr.mono (by omega)) (by rfl) T.mg__law_digit T.fn__law_digit.kp T.bi__law_digit .nil (passes_call (takes_of rfl rfl rfl rfl) (fun _ _ _ _ h => h)) (pa_cons (pv 1) (pa_cons pe_int pa_nil))) (pa_cons pe_int pa_nil)))))) (pg_tup rfl (pgs_cons (pg_name (i := 3) sc__law_long.nd rfl (Or.inl rfl)) (pgs_cons (pg_name (i := 4) sc__law_long.nd rfl (Or.inl rfl)) (pgs_cons (pg_name (i := 5) sc__law_long.nd rfl (Or.inl rfl)) pgs_nil)))))
      (pss_cons (ps_set (i := 6) sc__law_long.nd rfl (Or.inl rfl) pe_int)
      (pss_cons (ps_for (passes_of rfl) rfl (pi_range1 (by rfl) T.z_range (pa_cons (pe_call (ok__law_digit T) (hr.mono (by omega)) (by rfl) T.mg__law_digit T.fn__law_digit.kp T.bi__law_digit .nil (passes_call (takes_of rfl rfl rfl rfl) (fun _ _ _ _ h => h)) (pa_cons (pv 1) (pa_cons pe_int pa_nil))) pa_nil)) (pg_name (i := 7) sc__law_long.nd rfl (Or.inl rfl))
      (pss_one (ps_if (pt_cmpR op_le (pe_op op_mulW (pe_op op_mulW (pe_callB call_len_str (by rfl) T.z_len bt_len (pa_cons (pv 4) pa_nil)) (pv 6)) pe_int) (pe_op op_pow pe_int pe_int) (nomark _)) (pss_cons (ps_set (i := 3) sc__law_long.nd rfl (Or.inl rfl) (pe_meth (pv 0) T.cl_Shelf T.me_Shelf_fork (ok_Shelf_fork T) (hr.mono (by omega)) T.bi_Shelf_fork .nil (passes_call (takes_of rfl rfl rfl rfl) (fun _ _ _ _ h => h)) (pa_cons (pv 3) (pa_cons (pv 3) pa_nil))))
      (pss_one (ps_set (i := 6) sc__law_long.nd rfl (Or.inl rfl) (pe_op op_mulW (pv 6) pe_int)))) pss_nil)))
      (pss_one (ps_ret (pe_tup (pa_cons (pv 3) (pa_cons (pv 4) (pa_cons (pv 6) pa_nil)))))))))), ?_⟩
  walk_at "st"
  refine ⟨r, n, rfl, hn, n0, fun x H1 n1 gx k1 e1 n10 => ?_⟩
  have G1 := Grown.letters hS hrc hn k1 e1 n10
  walk_at "nx"
  walk_at "st"
  refine c_digit e1 n10 (by decide) (by decide) fun d n2 d0 d1 n20 => ?_
  have G2 := G1.digit hrc n20
  walk_at "go"
  obtain ⟨h, eh⟩ : ∃ h : Nat, d = h := ⟨d.toNat, by omega⟩
  subst eh
  have hh : h ≤ 3 := by omega
  have hpw : 2 ^ (h + 1) ≤ 2 ^ (3 + 1) := pow_le (by omega)
  have hpw2 : 2 ^ h ≤ 2 ^ 3 := pow_le hh
  have hpos : 0 < 2 ^ (h + 1) := Nat.pow_pos (by decide)
  refine ⟨c, S, r, n2, x, h, 1, rfl, G2.sh, hrc, G2.ro, n20, gx, by omega, by omega, by decide, by decide, by omega, fun H4 S4 n4 y t p G4 m4 o4 h4 f4 g4 np4 hp4 => ?_⟩
  have G4' := G2.trans G4
  have len4 := G4.len
  refine w_gtup (SqT.of hp4) rfl (w_gcons (w_gname (w_gcons (w_gname (w_gcons (w_gname (w_gnil ?_)))))))
  dsimp only
  walk_at "st"
  walk_at "nx"
  walk_at "st"
  refine c_digit G4'.ro G4'.pos (by decide) (by decide) fun d5 n5 d50 d51 n50 => ?_
  have G5 := G4'.digit hrc n50
  walk_at "go"
  refine ⟨_, rfl, by omega, by omega, ?_⟩
  have sg1 : 1 ≤ t.sg := o4.pos
  refine for_it walk_range (fun i σ H' => ∃ (k M : Nat) (S' : List Tr) (y' : Int) (tn : Option V), σ = [some (.ref c.a), some (.ref r), some (.str x), some (.int y'), some (.str (sT t.txt)), some (.int t.la.sg), some (.int (M : Nat)), tn] ∧ M = 2 ^ k ∧ k ≤ i ∧ Grown A.C_Shelf c r H H' S S' n5 (15 + i) ∧ Nm S' y' (dbl k t) ∧ Ok (dbl k t))
    ⟨0, 1, S4, y, none, rfl, rfl, Nat.le_refl _, ⟨G5.sh, G5.ex, by have := G5.len; omega, G5.kp, G5.ro, G5.pos⟩, m4, o4⟩ (fun _ _ _ _ _ => trivial) ?_ ?_
  · rintro i z σ H6 H7 hi ⟨k, M, S6, y6, tn, rfl, hM, hk, G6, m6, o6⟩ ⟨rfl, rfl⟩
    have hi : i < d5.toNat := hi
    have len6 := G6.len
    have e60 : (2 : Nat) ^ 60 = 1152921504606846976 := by decide
    have pk : M ≤ 1152921504606846976 := by rw [hM, ← e60]; exact pow_le (by omega)
    have sgk := dbl_sg t k
    rw [← hM] at sgk
    have t64 : t.sg ≤ 64 := by omega
    refine w_gname ?_
    walk_at "go"
    refine ⟨_, rfl, by rw [sT_len, sg_txt]; have := cap_line; unfold cap at this; omega, ?_⟩
    rw [sT_len, sg_txt]
    walk_at "go"
    refine w_rI (mulW_small (by omega) (by omega) (by omega) (by omega)) ?_
    walk_at "go"
    have em : (t.sg : Int) * (M : Int) = ((t.sg * M : Nat) : Int) := by push_cast; rfl
    have eb : t.sg * M ≤ 64 * 1152921504606846976 := Nat.mul_le_mul t64 pk
    rw [em]
    generalize t.sg * M = tm at sgk eb ⊢
    refine w_rI (mulW_small (by omega) (by omega) (by decide) (by decide)) ?_
    walk_at "go"
    refine w_rI ⟨by decide, by decide, by decide⟩ ?_
    rw [pow_sg]
    walk_at "go"
    refine ite_d (fun h1 => ?_) (fun h1 => ?_)
    · have okf : Ok (.fk (dbl k t) (dbl k t)) := ⟨o6, o6, by omega, by omega, by rw [dbl_la, dbl_fi]; have := o4.la.pos; omega, by unfold mostSg; omega⟩
      walk_at "st"
      refine ⟨c.a, c.dx, _, rfl, G6.sh.ob, fl_no (by decide +kernel), ?_⟩
      walk_at "go"
      refine c_fork G6.sh m6 m6 okf (by omega) fun H8 hS8 k8 => ?_
      have G8 := G6.put hrc hS8 k8
      walk_at "nx"
      walk_at "go"
      refine w_rI (mulW_small (by omega) (by omega) (by decide) (by decide)) (w_gname ?_)
      refine ⟨k + 1, M * 2, _, _, _, rfl, by rw [hM, Nat.pow_succ], by omega, ⟨G8.sh, G8.ex, by have := G8.len; omega, G8.kp, G8.ro, G8.pos⟩, nm_num put_mem, okf⟩
    · exact ⟨k, M, _, _, _, rfl, hM, by omega, ⟨G6.sh, G6.ex, by have := G6.len; omega, G6.kp, G6.ro, G6.pos⟩, m6, o6⟩
  rintro σ H6 ⟨k, M, S6, y6, tn, rfl, hM, hk, G6, m6, o6⟩
  dsimp only
  walk_at "go"
  refine w_mkt (line_of (n := 3) rfl (by decide)) fun p7 H7 np7 s7 hp7 => ?_
  have G7 := G6.same s7
  exact q H7 S6 n5 y6 t k p7 ⟨G7.sh, G7.ex, by have := G7.len; omega, G7.kp, G7.ro, G7.pos⟩ m6 o6 (by omega) (by omega) (G6.free np7) (by rw [← hM]; exact hp7)
end

/-! ### texts written, rows of pieces -/
theorem replL_one {c : Nat} {z : List Nat} : ∀ l : List Nat, StrLaws.replL [c] z l = l.flatMap fun d => if d = c then z else [d]
  | [] => StrLaws.replL_nil
  | d :: r => by
    rw [List.flatMap_cons]
    by_cases h : d = c
    · subst h
      rw [StrLaws.replL_hit (by simp) (by simp), if_pos rfl]
      show z ++ StrLaws.replL [d] z r = _
      rw [replL_one r]
    · rw [StrLaws.replL_miss (by simpa using h), if_neg h, replL_one r]; rfl
theorem W_eq (l : List Nat) : (l.flatMap fun d => if d = 92 then [92, 92] else [d]).flatMap (fun d => if d = 10 then [92, 110] else [d]) = W l := by
  rw [List.flatMap_assoc]
  unfold W
  congr 1
  funext c
  unfold wr
  by_cases h1 : c = 92
  · subst h1; simp
  · by_cases h2 : c = 10
    · subst h2; simp
    · simp [h1, h2]
theorem wr_len (c : Nat) : (wr c).length ≤ 2 := by unfold wr; split; simp; split <;> simp
theorem W_len : ∀ l : List Nat, (W l).length ≤ 2 * l.length
  | [] => by simp [W]
  | c :: r => by
    have := W_len r
    have := wr_len c
    unfold W at *
    rw [List.flatMap_cons, List.length_append, List.length_cons]; omega
theorem sT_bs : ("\\" : Str) = sT [92] := by decide +kernel
theorem sT_bb : ("\\\\" : Str) = sT [92, 92] := by decide +kernel
theorem sT_bn : ("\\n" : Str) = sT [92, 110] := by decide +kernel
theorem repl_len {c : Nat} {z : List Nat} (hz : z.length ≤ 2) : ∀ l : List Nat, (l.flatMap fun d => if d = c then z else [d]).length ≤ 2 * l.length
  | [] => by simp
  | d :: r => by
    have := repl_len (c := c) hz r
    have k : (if d = c then z else [d]).length ≤ 2 := by split; exact hz; simp
    rw [List.flatMap_cons, List.length_append, List.length_cons]
    omega
theorem replace_one {l : List Nat} {c : Nat} {z : List Nat} : Txt.replace (sT l) (sT [c]) (sT z) = sT (l.flatMap fun d => if d = c then z else [d]) := by
  rw [sT_of (Txt.replace (sT l) (sT [c]) (sT z)), StrLaws.replace_list (by show 1 ≤ 1; omega)]
  show sT (StrLaws.replL [c] z l) = _
  rw [replL_one]
def rowOf (S : List Tr) : Tr → Str
  | .lf l => "leaf " ++ sT (W l)
  | .fk a b => (("fork " ++ (toString (num S a) : Str)) ++ " ") ++ (toString (num S b) : Str)
def shelfTxt (S : List Tr) : Str := Txt.join "\n" (S.map (rowOf S))
theorem app_len (x y : Str) : (x ++ y).length = x.length + y.length := by
  show (Str.append x y).length = _
  unfold Str.append Str.length
  simp
theorem empty_app (x : Str) : Str.empty ++ x = x := PySem.Str.append_left_empty (by decide +kernel)
theorem num_len {n : Int} (h0 : 0 ≤ n) (h : n ≤ 16000001) : (toString n : Str).length ≤ 8 ∧ n.natAbs.log2 < 1920 := by
  refine ⟨toString_length_le h0 (by decide) (by omega), ?_⟩
  have : n.natAbs.log2 < 64 := PySem.Flt.log2_lt_of (by decide) (by omega)
  omega
theorem rowOf_len {S : List Tr} (g : Good S) (cp : S.length ≤ cap) {t : Tr} (h : t ∈ S) : (rowOf S t).length ≤ 40 := by
  cases t with
  | lf l =>
    have o := g.ok _ h
    have := W_len l
    have := o.2.1
    show (("leaf " : Str) ++ sT (W l)).length ≤ 40
    have e5 : ("leaf " : Str).length = 5 := by decide +kernel
    rw [app_len, e5, sT_len]
    omega
  | fk a b =>
    obtain ⟨ha, hb⟩ := g.parts h
    have p := (nm_num ha).pos
    have q := (nm_num hb).pos
    unfold cap at cp
    have l1 := (num_len (n := num S a) (by omega) (by omega)).1
    have l2 := (num_len (n := num S b) (by omega) (by omega)).1
    show ((("fork " ++ (toString (num S a) : Str)) ++ " ") ++ (toString (num S b) : Str)).length ≤ 40
    rw [app_len, app_len, app_len]
    have e1 : ("fork " : Str).length = 5 := by decide +kernel
    have e2 : (" " : Str).length = 1 := by decide +kernel
    omega
def spWritten : Sp := fun vs H Q _ => ∃ l : List Nat, vs = [.str (sT l)] ∧ l.length ≤ 1000000 ∧ Q (.str (sT (W l))) H
theorem c_written {l : List Nat} {H : Hp} {Q : VK} {E : XK} (h : l.length ≤ 1000000) (k : Q (.str (sT (W l))) H) : spWritten [.str (sT l)] H Q E := ⟨l, rfl, h, k⟩
/-- a row of a piece; some objects may be made by the way -/
def spRow : Sp := fun vs H Q _ => ∃ p S t, vs = [.ref p] ∧ H p = some (.tup (pvals S t)) ∧ Good S ∧ S.length ≤ cap ∧ t ∈ S ∧ Q (.str (rowOf S t)) H
def spShTxt (C : Addr) : Sp := fun vs H Q _ => ∃ c S, vs = [.ref (Cells.a c)] ∧ ShAt C c H S ∧ S.length ≤ 300000 ∧ ∀ H', Same H H' → Q (.str (shelfTxt S)) H'
theorem c_shTxt {C : Addr} {c : Cells} {S : List Tr} {H : Hp} {Q : VK} {E : XK} (s : ShAt C c H S) (h : S.length ≤ 300000) (k : ∀ H', Same H H' → Q (.str (shelfTxt S)) H') : spShTxt C [.ref c.a] H Q E := ⟨c, S, rfl, s, h, k⟩
section
variable {P : Program} {w : World} {K : PySem.W.Frag} {mg : Str → Option Value} {base : Heap} {A : Ad}
abbrev n_written : List Str := ["plain"]
theorem sc_written : FnScope n_written p_written (defScope s_written) := ⟨rfl, rfl, rfl, by decide +kernel, rfl, by decide +kernel, by decide +kernel⟩
theorem ok_written (T : Txt K mg A) : FnOk P w K mg base (L2.CX P w) 1 A.f_written A.d_written p_written spWritten := by
  obtain ⟨oc, od, kV, doc, pm, an, cdv, ct, osl, e, lk, hcd⟩ := T.fn_written.ex
  rw [e] at lk ⊢
  refine fn_ofT lk hcd sc_written (by decide +kernel) (by decide) (fun vs H Q E h => ?_) (fun B outer s H vs Q E hr h => ?_)
  · obtain ⟨l, rfl, _⟩ := h; rfl
  obtain ⟨l, rfl, hl, q⟩ := h
  refine ⟨_, CwR.psst_one (CwR.pst_ret (CwR.pet_replT (CwR.pet_replC (pv 0)))), ?_⟩
  refine w_ret ?_
  refine ⟨_, rfl, sT l, rfl, ?_, ?_⟩
  · rw [sT_bb, sT_len, sT_len]; show l.length + (l.length + 1) * 2 ≤ 16777216; omega
  rw [sT_bs, sT_bb, replace_one]
  refine ⟨_, rfl, ?_, ?_⟩
  · have := repl_len (c := 92) (z := [92, 92]) (by decide) l
    rw [sT_bn, sT_len, sT_len]; show _ + (_ + 1) * 2 ≤ 16777216; omega
  rw [sT_lf, sT_bn, replace_one, W_eq]
  exact q
abbrev n_piece_row : List Str := ["piece", "word", "one", "other"]
theorem sc_piece_row : FnScope n_piece_row p_piece_row (defScope s_piece_row) := ⟨rfl, rfl, rfl, by decide +kernel, rfl, by decide +kernel, by decide +kernel⟩
theorem ok_piece_row (T : Txt K mg A) : FnOk P w K mg base (L2.CX P w) 2 A.f_piece_row A.d_piece_row p_piece_row spRow := by
  refine T.fn_piece_row.okX sc_piece_row (fun vs H Q E h => ?_) (fun cdv B outer s H vs Q E hr h => ?_)
  · obtain ⟨p, S, t, rfl, _⟩ := h; rfl
  obtain ⟨p, S, t, rfl, hp, g, cp, ht, q⟩ := h
  refine ⟨_, (pss_cons (ps_if (pt_cmpR op_eq (pe_ix ix_tup (pv 0) pe_int (fun _ _ => rfl)) pe_str (nomark _)) (pss_one (ps_ret (pe_op op_add_str pe_str (pe_call (ok_written T) (hr.mono (by omega)) (by rfl) T.mg_written T.fn_written.kp T.bi_written .nil (passes_call (takes_of rfl rfl rfl rfl) (fun _ _ _ _ h => h)) (pa_cons (pe_ix ix_tup (pv 0) pe_int (fun _ _ => rfl)) pa_nil))))) pss_nil)
      (pss_cons (ps_asg (pv 0) (pg_tup rfl (pgs_cons (pg_name (i := 1) sc_piece_row.nd rfl (Or.inl rfl)) (pgs_cons (pg_name (i := 2) sc_piece_row.nd rfl (Or.inl rfl)) (pgs_cons (pg_name (i := 3) sc_piece_row.nd rfl (Or.inl rfl)) pgs_nil)))))
      (pss_one (ps_ret (pe_joined (PJ.cons pe_str (PJ.cons (pe_fmt (pv 2)) (PJ.cons pe_str (PJ.cons (pe_fmt (pv 3)) PJ.nil))))))))), ?_⟩
  have hline := cap_line
  cases t with
  | lf l =>
    have o := g.ok _ ht
    have i0 : atI (pvals S (.lf l)) 0 = some (.str "leaf") := rfl
    have i1 : atI (pvals S (.lf l)) 1 = some (.str (sT l)) := rfl
    walk_at "st"
    refine w_ixt (SqT.of hp) i0 ?_
    walk_at "go"
    refine w_eqS ?_
    walk_at "go"
    refine ite_d (fun _ => ?_) (fun z => absurd rfl z)
    walk_at "go"
    refine w_ixt (SqT.of hp) i1 ?_
    walk_at "go"
    refine c_written (by have := o.2.1; omega) ?_
    refine ⟨_, _, rfl, rfl, ?_, q⟩
    have := W_len l
    have := o.2.1
    have e5 : ("leaf " : Str).length = 5 := by decide +kernel
    rw [e5, sT_len]; unfold cap at hline; omega
  | fk a b =>
    obtain ⟨ha, hb⟩ := g.parts ht
    have pa := (nm_num ha).pos
    have pb := (nm_num hb).pos
    unfold cap at cp
    have l1 := num_len (n := num S a) (by omega) (by omega)
    have l2 := num_len (n := num S b) (by omega) (by omega)
    have i0 : atI (pvals S (.fk a b)) 0 = some (.str "fork") := rfl
    have e1 : ("fork " : Str).length = 5 := by decide +kernel
    have e2 : (" " : Str).length = 1 := by decide +kernel
    unfold cap at hline
    walk_at "st"
    refine w_ixt (SqT.of hp) i0 ?_
    walk_at "go"
    refine w_eqS ?_
    walk_at "go"
    refine ite_d (fun z => absurd z.symm leaf_ne_fork) (fun _ => ?_)
    walk_at "sk"
    walk_at "st"
    refine w_gtup (SqT.of hp) rfl (w_gcons (w_gname (w_gcons (w_gname (w_gcons (w_gname (w_gnil ?_)))))))
    dsimp only
    refine w_ret ?_
    refine ⟨_, rfl, by rw [empty_app, e1]; omega, ?_⟩
    rw [empty_app]
    refine ⟨_, rfl, .inr ⟨_, rfl, l1.2, _, rfl, by rw [app_len, e1]; omega, ?_⟩⟩
    refine ⟨_, rfl, by rw [app_len, app_len, e1, e2]; omega, ?_⟩
    refine ⟨_, rfl, .inr ⟨_, rfl, l2.2, _, rfl, by rw [app_len, app_len, app_len, e1, e2]; omega, q⟩⟩
end

section
variable {P : Program} {w : World} {K : PySem.W.Frag} {mg : Str → Option Value} {base : Heap} {A : Ad}
theorem sum_le {l : List Nat} {k : Nat} (h : ∀ x ∈ l, x ≤ k) : l.sum ≤ l.length * k := by
  induction l with
  | nil => simp
  | cons a b ih =>
    have := ih fun x hx => h x (List.mem_cons_of_mem _ hx)
    have := h a List.mem_cons_self
    rw [List.sum_cons, List.length_cons, Nat.add_mul, Nat.one_mul]; omega
theorem rows_fit {S : List Tr} (g : Good S) (cp : S.length ≤ 300000) : ((S.map (rowOf S)).map (·.length)).sum + (S.map (rowOf S)).length * ("\n" : Str).length ≤ 16777216 := by
  have h1 : ((S.map (rowOf S)).map (·.length)).sum ≤ ((S.map (rowOf S)).map (·.length)).length * 40 := sum_le fun x hx => by
    obtain ⟨y, hy, rfl⟩ := List.mem_map.mp hx
    obtain ⟨t, ht, rfl⟩ := List.mem_map.mp hy
    exact rowOf_len g (by unfold cap; omega) ht
  have e1 : ("\n" : Str).length = 1 := by decide +kernel
  rw [e1]
  simp only [List.length_map] at h1 ⊢
  omega
abbrev n_shelf_text : List Str := ["shelf", "number"]
theorem sc_shelf_text : FnScope n_shelf_text p_shelf_text (defScope s_shelf_text) := ⟨rfl, rfl, rfl, by decide +kernel, rfl, by decide +kernel, by decide +kernel⟩
theorem ok_shelf_text (T : Txt K mg A) : FnOk P w K mg base (L2.CX P w) 3 A.f_shelf_text A.d_shelf_text p_shelf_text (spShTxt A.C_Shelf) := by
  refine T.fn_shelf_text.okX sc_shelf_text (fun vs H Q E h => ?_) (fun cdv B outer s H vs Q E hr h => ?_)
  · obtain ⟨c, S, rfl, _⟩ := h; rfl
  obtain ⟨c, S, rfl, hS, cp, q⟩ := h
  refine ⟨_, (pss_one (ps_ret (pe_join pe_str (pe_lc (own := [("number", 1)]) (g := gName 1) (tt := tYes) rfl sc_shelf_text.nd (pi_range1 (by rfl) T.z_range (pa_cons (pe_meth0 (pv 0) T.cl_Shelf T.me_Shelf_many (ok_Shelf_many T) (hr.mono (by omega)) T.bi_Shelf_many .nil (passes_call (takes_of rfl rfl rfl rfl) (fun _ _ _ _ h => h))) pa_nil)) (blkOk_by (own := [("number", 1)]) (N := n_shelf_text) (sc := defScope s_shelf_text) (by decide +kernel)) (fun _ _ _ _ _ => (pg_name (i := 1) sc_shelf_text.nd rfl (Or.inl rfl))) (fun _ _ _ _ _ => pts_nil) (fun _ _ _ _ _ => (pe_call (ok_piece_row T) (hr.mono (by omega)) (by rfl) T.mg_piece_row T.fn_piece_row.kp T.bi_piece_row .nil passL (pa_cons (pe_meth (pv 0) T.cl_Shelf T.me_Shelf_piece (ok_Shelf_piece T) (hr.mono (by omega)) T.bi_Shelf_piece .nil passL (pa_cons (pe_op op_add (pv 1) pe_int) pa_nil)) pa_nil))))))), ?_⟩
  refine w_ret ⟨⟨_, rfl⟩, ?_⟩
  walk_at "go"
  refine ⟨c.a, c.dx, _, rfl, hS.ob, fl_no (by decide +kernel), ?_⟩
  walk_at "go"
  refine c_many hS ?_
  refine ⟨_, rfl, by omega, by omega, fun D hD => ?_⟩
  have nS : ((S.length : Int)).toNat = S.length := by omega
  refine lc_it walk_range (fun i H' => Same H H' ∧ H' D = some (.lst (((S.take i).map (rowOf S)).map V.str))) ⟨fun b o e => by rw [upd_ne (ne_of_none e hD)]; exact e, upd_same⟩ (fun _ _ _ _ => trivial) ?_ ?_
  · rintro i x H1 H2 hi ⟨s1, hD1⟩ ⟨rfl, rfl⟩
    rw [nS] at hi
    have hS1 := hS.same s1
    have et := List.getElem?_eq_getElem hi
    have nm : Nm S (0 + (i : Int) + 1) S[i] := ⟨i, et, by omega⟩
    refine w_gname ⟨rfl, w_yes (iteT ?_)⟩
    walk_at "go"
    refine ⟨c.a, c.dx, _, rfl, hS1.ob, fl_no (by decide +kernel), ?_⟩
    walk_at "go"
    refine c_piece hS1 nm fun r hr1 => ?_
    walk_at "go"
    refine ⟨r, S, S[i], rfl, hr1, hS.gd, by unfold cap; omega, List.getElem_mem hi, ?_⟩
    refine ⟨_, hD1, ?_, fun b o e => ?_, ?_⟩
    · have := cap_line; unfold cap at this; simp; omega
    · rw [upd_ne (ne_of_none e hD)]; exact s1 b o e
    · rw [upd_same, take_snoc et, List.map_append, List.map_append]; rfl
  · rintro H1 ⟨s1, hD1⟩
    rw [nS, List.take_length] at hD1
    exact ⟨_, D, S.map (rowOf S), rfl, rfl, .inl (SqL.of hD1), rows_fit hS.gd cp, q H1 s1⟩
end

/-! ### shelves drawn, and written by the law -/
def spDrawn (K : PySem.W.Frag) (C : Addr) : Sp := fun vs H Q _ => ∃ (a : Addr) (ns : List Int), vs = [.ref a] ∧ SqL K H a (ns.map V.int) ∧ ns.length ≤ 63 ∧ ∀ (c : Cells) (S : List Tr) (H' : Hp), ShAt C c H' S → S.length ≤ 1000 → Same H H' → (∀ b ∈ c.all, H b = none) → Q (.ref c.a) H'
theorem Same.keepL' {l : List Addr} {H H1 H2 : Hp} (s : Same H H1) (k : KeepL l H1 H2) (h : ∀ b ∈ l, H b = none) : Same H H2 := fun b o e => k b o (fun z => by rw [h b z] at e; cases e) (s b o e)
section
variable {P : Program} {w : World} {K : PySem.W.Frag} {mg : Str → Option Value} {base : Heap} {A : Ad}
abbrev n__law_drawn_shelf : List Str := ["script", "shelf", "row", "k"]
theorem sc__law_drawn_shelf : FnScope n__law_drawn_shelf p__law_drawn_shelf (defScope s__law_drawn_shelf) := ⟨rfl, rfl, rfl, by decide +kernel, rfl, by decide +kernel, by decide +kernel⟩
theorem ok__law_drawn_shelf (T : Txt K mg A) : FnOk P w K mg base (L2.CX P w) 16 A.f__law_drawn_shelf A.d__law_drawn_shelf p__law_drawn_shelf (spDrawn K A.C_Shelf) := by
  refine T.fn__law_drawn_shelf.okX sc__law_drawn_shelf (fun vs H Q E h => ?_) (fun cdv B outer s H vs Q E hr h => ?_)
  · obtain ⟨a, ns, rfl, _⟩ := h; rfl
  obtain ⟨a, ns, rfl, hs, hl, q⟩ := h
  refine ⟨_, (pss_cons (ps_set (i := 1) sc__law_drawn_shelf.nd rfl (Or.inl rfl) (pe_make0 T.mk_Shelf (ok_Shelf___init__ T) (hr.mono (by omega)) rfl T.mg_Shelf T.bi_Shelf___init__ .nil (passes_call (takes_of rfl rfl rfl rfl) (fun _ _ _ _ h => h))))
      (pss_cons (ps_set (i := 2) sc__law_drawn_shelf.nd rfl (Or.inl rfl) (pe_call (ok__law_stream T) (hr.mono (by omega)) (by rfl) T.mg__law_stream T.fn__law_stream.kp T.bi__law_stream .nil (passes_call (takes_of rfl rfl rfl rfl) (fun _ _ _ _ h => h)) (pa_cons (pv 0) (pa_cons pe_int pa_nil))))
      (pss_cons (ps_for (passes_of rfl) rfl (pi_range1 (by rfl) T.z_range (pa_cons (pe_call (ok__law_digit T) (hr.mono (by omega)) (by rfl) T.mg__law_digit T.fn__law_digit.kp T.bi__law_digit .nil (passes_call (takes_of rfl rfl rfl rfl) (fun _ _ _ _ h => h)) (pa_cons (pv 2) (pa_cons pe_int pa_nil))) pa_nil)) (pg_name (i := 3) sc__law_drawn_shelf.nd rfl (Or.inl rfl))
      (pss_one (ps_expr (pe_call (ok__law_text T) (hr.mono (by omega)) (by rfl) T.mg__law_text T.fn__law_text.kp T.bi__law_text .nil (passes_call (takes_of rfl rfl rfl rfl) (fun _ _ _ _ h => h)) (pa_cons (pv 1) (pa_cons (pv 2) (pa_cons pe_int pa_nil)))))))
      (pss_cons (ps_if (pt_cmpR op_eq (pe_call (ok__law_digit T) (hr.mono (by omega)) (by rfl) T.mg__law_digit T.fn__law_digit.kp T.bi__law_digit .nil (passes_call (takes_of rfl rfl rfl rfl) (fun _ _ _ _ h => h)) (pa_cons (pv 2) (pa_cons pe_int pa_nil))) pe_int (nomark _)) (pss_one (ps_expr (pe_call (ok__law_long T) (hr.mono (by omega)) (by rfl) T.mg__law_long T.fn__law_long.kp T.bi__law_long .nil (passes_call (takes_of rfl rfl rfl rfl) (fun _ _ _ _ h => h)) (pa_cons (pv 1) (pa_cons (pe_call (ok__law_stream T) (hr.mono (by omega)) (by rfl) T.mg__law_stream T.fn__law_stream.kp T.bi__law_stream .nil (passes_call (takes_of rfl rfl rfl rfl) (fun _ _ _ _ h => h)) (pa_cons (pv 0) (pa_cons pe_int pa_nil))) pa_nil))))) pss_nil)
      (pss_one (ps_ret (pv 1))))))), ?_⟩
  walk_at "st"
  refine c_new fun c H1 hS1 s1 f1 => ?_
  walk_at "nx"
  walk_at "st"
  refine ⟨a, ns, 0, rfl, s1.seq hs, hl, by decide, by decide, fun H2 r n s2 nr hr2 n0 => ?_⟩
  walk_at "nx"
  have hS2 := hS1.same s2
  have hrc : r ∉ c.all := hS1.apart nr
  have nrH : H r = none := s1.free nr
  have all0 : ∀ b ∈ r :: c.all, H b = none := fun b hb => by
    rcases List.mem_cons.mp hb with e | e
    · rw [e]; exact nrH
    · exact f1 b e
  have s12 := s1.trans s2
  have G2 := Grown.refl hS2 hr2 n0
  walk_at "st"
  refine c_digit hr2 n0 (by decide) (by decide) fun d n3 d0 d1 n30 => ?_
  have G3 := G2.digit hrc n30
  walk_at "go"
  refine ⟨_, rfl, by omega, by omega, ?_⟩
  have hcap : (cap : Nat) = 16000000 := rfl
  refine for_it walk_range (fun i σ H' => ∃ (S' : List Tr) (n' : Int) (k : Option V), σ = [some (.ref a), some (.ref c.a), some (.ref r), k] ∧ Grown A.C_Shelf c r H2 H' [] S' n' (32 * i)) ⟨[], n3, none, rfl, G3⟩ (fun _ _ _ _ _ => trivial) ?_ ?_
  · rintro i z σ H4 H5 hi ⟨S4, n4, k, rfl, G4⟩ ⟨rfl, rfl⟩
    have hi : i < d.toNat := hi
    have l4 := G4.len
    simp only [List.length_nil] at l4
    refine w_gname ?_
    walk_at "go"
    refine ⟨c, S4, r, n4, 4, rfl, G4.sh, hrc, G4.ro, G4.pos, by decide, by omega, fun H6 S6 n6 y o p G6 _ _ _ _ => ?_⟩
    exact ⟨S6, n6, _, rfl, G4.trans G6⟩
  rintro σ H4 ⟨S4, n4, k, rfl, G4⟩
  have l4 := G4.len
  simp only [List.length_nil] at l4
  dsimp only
  walk_at "st"
  refine c_digit G4.ro G4.pos (by decide) (by decide) fun d5 n5 d50 d51 n50 => ?_
  have G5 := G4.digit hrc n50
  have s5 : Same H _ := Same.keepL' s12 G5.kp all0
  walk_at "go"
  refine ite_d (fun _ => ?_) (fun _ => ?_)
  · walk_at "go"
    refine ⟨a, ns, 1, rfl, s5.seq hs, hl, by decide, by decide, fun H6 r6 m6 s6 nr6 hr6 m60 => ?_⟩
    have hS6 := G5.sh.same s6
    have hrc6 : r6 ∉ c.all := G5.sh.apart nr6
    walk_at "go"
    refine ⟨c, S4, r6, m6, rfl, hS6, hrc6, hr6, m60, by omega, fun H7 S7 n7 y t k' p G7 _ _ _ _ _ _ => ?_⟩
    dsimp only
    have l7 := G7.len
    walk_at "go"
    refine q c S7 H7 G7.sh (by omega) (Same.keepL' (s5.trans s6) G7.kp fun b hb => ?_) f1
    rcases List.mem_cons.mp hb with e | e
    · rw [e]; exact s5.free nr6
    · exact f1 b e
  · walk_at "sk"
    walk_at "go"
    exact q c S4 _ G5.sh (by omega) s5 f1
abbrev n__law_written : List Str := ["plain", "found", "sign"]
theorem sc__law_written : FnScope n__law_written p__law_written (defScope s__law_written) := ⟨rfl, rfl, rfl, by decide +kernel, rfl, by decide +kernel, by decide +kernel⟩
theorem ok__law_written (T : Txt K mg A) : FnOk P w K mg base (L2.CX P w) 1 A.f__law_written A.d__law_written p__law_written (fun vs H Q _ => ∃ l : List Nat, vs = [.str (sT l)] ∧ l.length ≤ 1000000 ∧ ∀ H', Same H H' → Q (.str (sT (W l))) H') := by
  refine T.fn__law_written.okX sc__law_written (fun vs H Q E h => ?_) (fun cdv B outer s H vs Q E hr h => ?_)
  · obtain ⟨l, rfl, _⟩ := h; rfl
  obtain ⟨l, rfl, hl, q⟩ := h
  have hu := hu_of hr
  refine ⟨_, (pss_cons (ps_set (i := 1) sc__law_written.nd rfl (Or.inl rfl) pe_str)
      (pss_cons (ps_for (passes_of rfl) rfl (pi_str (pv 0)) (pg_name (i := 2) sc__law_written.nd rfl (Or.inl rfl))
      (pss_one (ps_set (i := 1) sc__law_written.nd rfl (Or.inl rfl) (pe_op op_add_str (pv 1) (pe_dget2 hu (pe_disp (pps_cons pe_str pe_str (pps_cons pe_str pe_str pps_nil)) (by rfl) (by rfl) (fun z => by cases z) (by decide)) (pv 2) (pv 2) ⟨rfl, rfl, rfl, rfl⟩)))))
      (pss_one (ps_ret (pv 1))))), ?_⟩
  walk_at "st"
  walk_at "nx"
  walk_at "st"
  refine ⟨_, rfl, ?_⟩
  refine for_it walk_str (fun i σ H' => ∃ x : Option V, σ = [some (.str (sT l)), some (.str (sT (W (l.take i)))), x] ∧ Same H H') ⟨none, by rw [sT_nil]; rfl, Same.refl H⟩ (fun _ _ _ _ _ => trivial) ?_ ?_
  · rintro i z σ H1 H2 hi ⟨x, rfl, s1⟩ ⟨rfl, c, hc, rfl⟩
    have hc : l[i]? = some c := by simpa using hc
    have hil : i < l.length := by simpa using hi
    refine w_gname ?_
    walk_at "go"
    refine fun p np => ⟨upd_same, [(Sum.inr "\n", .str "\\n"), (Sum.inr "\\", .str "\\\\")], rfl, by decide, ?_⟩
    rw [upd_upd]
    obtain ⟨H3, e3, s3, hp3⟩ := new_of (o := .dK (mergeK [] [((Sum.inr "\n" : Key), V.str "\\n"), (Sum.inr "\\", .str "\\\\")])) np
    rw [e3]
    refine ⟨p, rfl, .inl ⟨_, .inl hp3⟩, _, rfl, _, rfl, _, DGet.k (k := Sum.inr ⟨#[c]⟩) hp3, ?_⟩
    have ev : ((valV (mergeK [] [((Sum.inr "\n" : Key), V.str "\\n"), (Sum.inr "\\", .str "\\\\")]) (Sum.inr ⟨#[c]⟩)).getD (.str ⟨#[c]⟩)) = .str (sT (wr c)) := by
      show ((valV (putK (putK [] (Sum.inr "\n" : Key) (V.str "\\n")) (Sum.inr "\\") (V.str "\\\\")) (Sum.inr ⟨#[c]⟩)).getD (.str ⟨#[c]⟩)) = _
      rw [valV_put, valV_put]
      have inj : ∀ d : Nat, ((Sum.inr (⟨#[c]⟩ : Str) : Key) = Sum.inr (sT [d])) ↔ c = d := fun d => ⟨fun z => one_sT.mp (Sum.inr.inj z), fun z => by rw [z]⟩
      rw [sT_bs, sT_lf, sT_bb, sT_bn]
      by_cases h1 : c = 92
      · rw [if_pos ((inj 92).mpr h1), h1]; rfl
      · rw [if_neg (fun z => h1 ((inj 92).mp z))]
        by_cases h2 : c = 10
        · rw [if_pos ((inj 10).mpr h2), h2]; rfl
        · rw [if_neg (fun z => h2 ((inj 10).mp z))]
          unfold wr
          rw [if_neg h2, if_neg h1]; rfl
    rw [ev]
    refine ⟨_, _, rfl, rfl, ?_, w_gname ?_⟩
    · have w1 := W_len (l.take i)
      have w2 := wr_len c
      have := cap_line; unfold cap at this
      rw [sT_len, sT_len]
      have : (l.take i).length ≤ l.length := by rw [List.length_take]; omega
      omega
    · refine ⟨some (.str ⟨#[c]⟩), ?_, s1.trans s3⟩
      rw [sT_app, take_snoc hc]
      unfold W
      rw [List.flatMap_append, List.flatMap_cons, List.flatMap_nil, List.append_nil]; rfl
  · rintro σ H1 ⟨x, rfl, s1⟩
    dsimp only
    walk_at "go"
    have : l.take (sT l).cps.size = l := List.take_of_length_le (by simp)
    rw [this]
    exact q H1 s1
abbrev n__law_shelf_text : List Str := ["shelf", "rows", "number", "piece"]
theorem sc__law_shelf_text : FnScope n__law_shelf_text p__law_shelf_text (defScope s__law_shelf_text) := ⟨rfl, rfl, rfl, by decide +kernel, rfl, by decide +kernel, by decide +kernel⟩
theorem ok__law_shelf_text (T : Txt K mg A) : FnOk P w K mg base (L2.CX P w) 3 A.f__law_shelf_text A.d__law_shelf_text p__law_shelf_text (spShTxt A.C_Shelf) := by
  refine T.fn__law_shelf_text.okX sc__law_shelf_text (fun vs H Q E h => ?_) (fun cdv B outer s H vs Q E hr h => ?_)
  · obtain ⟨c, S, rfl, _⟩ := h; rfl
  obtain ⟨c, S, rfl, hS, cp, q⟩ := h
  refine ⟨_, (pss_cons (ps_set (i := 1) sc__law_shelf_text.nd rfl (Or.inl rfl) (pe_lst pa_nil))
      (pss_cons (ps_for (passes_of rfl) rfl (pi_range2 (by rfl) T.z_range (pa_cons pe_int (pa_cons (pe_op op_add (pe_meth0 (pv 0) T.cl_Shelf T.me_Shelf_many (ok_Shelf_many T) (hr.mono (by omega)) T.bi_Shelf_many .nil (passes_call (takes_of rfl rfl rfl rfl) (fun _ _ _ _ h => h))) pe_int) pa_nil))) (pg_name (i := 2) sc__law_shelf_text.nd rfl (Or.inl rfl))
      (pss_cons (ps_set (i := 3) sc__law_shelf_text.nd rfl (Or.inl rfl) (pe_meth (pv 0) T.cl_Shelf T.me_Shelf_piece (ok_Shelf_piece T) (hr.mono (by omega)) T.bi_Shelf_piece .nil (passes_call (takes_of rfl rfl rfl rfl) (fun _ _ _ _ h => h)) (pa_cons (pv 2) pa_nil)))
      (pss_one (ps_if (pt_cmpR op_eq (pe_ix ix_tup (pv 3) pe_int (fun _ _ => rfl)) pe_str (nomark _)) (pss_one (ps_expr (pe_bm PySem.F.plainAttrs_list PySem.F.slot_list_append PySem.F.type_list_append mt_append (pv 1) (pa_cons (pe_op op_add_str pe_str (pe_call (ok__law_written T) (hr.mono (by omega)) (by rfl) T.mg__law_written T.fn__law_written.kp T.bi__law_written .nil (passes_call (takes_of rfl rfl rfl rfl) (fun _ _ _ _ h => h)) (pa_cons (pe_ix ix_tup (pv 3) pe_int (fun _ _ => rfl)) pa_nil))) pa_nil)))) (pss_one (ps_expr (pe_bm PySem.F.plainAttrs_list PySem.F.slot_list_append PySem.F.type_list_append mt_append (pv 1) (pa_cons (pe_op op_add_str (pe_op op_add_str (pe_op op_add_str pe_str (pe_callTy call_str_int (by rfl) T.z_str bt_str (pa_cons (pe_ix ix_tup (pv 3) pe_int (fun _ _ => rfl)) pa_nil))) pe_str) (pe_callTy call_str_int (by rfl) T.z_str bt_str (pa_cons (pe_ix ix_tup (pv 3) pe_int (fun _ _ => rfl)) pa_nil))) pa_nil))))))))
      (pss_one (ps_ret (pe_join pe_str (pv 1)))))), ?_⟩
  walk_at "st"
  refine w_mkl (line_of (n := 0) rfl (by decide)) fun D H0 nD s0 hD0 => ?_
  walk_at "nx"
  have hS0 := hS.same s0
  walk_at "st"
  refine ⟨c.a, c.dx, _, rfl, hS0.ob, fl_no (by decide +kernel), ?_⟩
  walk_at "go"
  refine c_many hS0 ?_
  walk_at "go"
  refine ⟨_, _, rfl, ⟨by decide, by decide, by omega, by omega⟩, ?_⟩
  have nS : ((S.length : Int) + 1 - 1).toNat = S.length := by omega
  refine for_it walk_range (fun i σ H' => ∃ x y : Option V, σ = [some (.ref c.a), some (.ref D), x, y] ∧ Same H H' ∧ H' D = some (.lst (((S.take i).map (rowOf S)).map V.str))) ⟨none, none, rfl, s0, hD0⟩ (fun _ _ _ _ _ => trivial) ?_ ?_
  · rintro i z σ H1 H2 hi ⟨x, y, rfl, s1, hD1⟩ ⟨rfl, rfl⟩
    rw [nS] at hi
    have hS1 := hS.same s1
    have et := List.getElem?_eq_getElem hi
    have nm : Nm S (1 + (i : Int)) S[i] := ⟨i, et, by omega⟩
    have hcl := cap_line
    have fin : ∀ (H3 : Hp) (σ' : L2.St) (x' y' : Option V), Same H2 H3 → σ' = [some (.ref c.a), some (.ref D), x', y'] → ∃ xs, H3 D = some (.lst xs) ∧ xs.length < sizeLine ∧ ∃ x y : Option V, σ' = [some (.ref c.a), some (.ref D), x, y] ∧ Same H (upd H3 D (.lst (xs ++ [V.str (rowOf S S[i])]))) ∧ (upd H3 D (.lst (xs ++ [V.str (rowOf S S[i])]))) D = some (.lst (((S.take (i + 1)).map (rowOf S)).map V.str)) := fun H3 σ' x' y' s3 eσ => by
      refine ⟨_, s3 _ _ hD1, ?_, x', y', eσ, fun b o e => ?_, ?_⟩
      · unfold cap at hcl; simp; omega
      · rw [upd_ne (ne_of_none e nD)]; exact s3 _ _ (s1 b o e)
      · rw [upd_same, take_snoc et, List.map_append, List.map_append]; rfl
    refine w_gname ?_
    walk_at "st"
    refine ⟨c.a, c.dx, _, rfl, hS1.ob, fl_no (by decide +kernel), ?_⟩
    walk_at "go"
    refine c_piece hS1 nm fun r hr1 => ?_
    walk_at "nx"
    walk_at "go"
    cases ht : S[i] with
    | lf l =>
      rw [ht] at hr1 nm fin
      have o : Ok (.lf l) := hS.gd.ok _ nm.mem
      have i0 : atI (pvals S (.lf l)) 0 = some (.str "leaf") := rfl
      have i1 : atI (pvals S (.lf l)) 1 = some (.str (sT l)) := rfl
      refine w_ixt (SqT.of hr1) i0 ?_
      walk_at "go"
      refine w_eqS ?_
      walk_at "go"
      refine ite_d (fun _ => ?_) (fun z => absurd rfl z)
      walk_at "go"
      refine ⟨.inl ⟨rfl, _, SqL.of hD1⟩, ?_⟩
      walk_at "go"
      refine w_ixt (SqT.of hr1) i1 ?_
      walk_at "go"
      refine ⟨l, rfl, by have := o.2.1; omega, fun H3 s3 => ?_⟩
      have wl := W_len l
      have ol := o.2.1
      have e5 : ("leaf " : Str).length = 5 := by decide +kernel
      refine ⟨_, _, rfl, rfl, by rw [e5, sT_len]; unfold cap at hcl; omega, ?_⟩
      obtain ⟨xs, f1, f2, f3⟩ := fin H3 _ _ _ s3 rfl
      exact ⟨D, xs, _, rfl, rfl, f1, f2, f3⟩
    | fk a b =>
      rw [ht] at hr1 nm fin
      obtain ⟨ha, hb⟩ := hS.gd.parts nm.mem
      have pa := (nm_num ha).pos
      have pb := (nm_num hb).pos
      have l1 := num_len (n := num S a) (by omega) (by omega)
      have l2 := num_len (n := num S b) (by omega) (by omega)
      have i0 : atI (pvals S (.fk a b)) 0 = some (.str "fork") := rfl
      have i1 : atI (pvals S (.fk a b)) 1 = some (.int (num S a)) := rfl
      have i2 : atI (pvals S (.fk a b)) 2 = some (.int (num S b)) := rfl
      have e1 : ("fork " : Str).length = 5 := by decide +kernel
      have e2 : (" " : Str).length = 1 := by decide +kernel
      unfold cap at hcl
      refine w_ixt (SqT.of hr1) i0 ?_
      walk_at "go"
      refine w_eqS ?_
      walk_at "go"
      refine ite_d (fun z => absurd z.symm leaf_ne_fork) (fun _ => ?_)
      walk_at "go"
      refine ⟨.inl ⟨rfl, _, SqL.of hD1⟩, ?_⟩
      walk_at "go"
      refine w_ixt (SqT.of hr1) i1 ?_
      walk_at "go"
      refine ⟨_, rfl, l1.2, ?_⟩
      refine ⟨_, _, rfl, rfl, by rw [e1]; omega, ?_⟩
      walk_at "go"
      refine ⟨_, _, rfl, rfl, by rw [app_len, e1, e2]; omega, ?_⟩
      walk_at "go"
      refine w_ixt (SqT.of hr1) i2 ?_
      walk_at "go"
      refine ⟨_, rfl, l2.2, ?_⟩
      refine ⟨_, _, rfl, rfl, by rw [app_len, app_len, e1, e2]; omega, ?_⟩
      obtain ⟨xs, f1, f2, f3⟩ := fin H2 _ _ _ (Same.refl _) rfl
      exact ⟨D, xs, _, rfl, rfl, f1, f2, f3⟩
  · rintro σ H1 ⟨x, y, rfl, s1, hD1⟩
    rw [nS, List.take_length] at hD1
    dsimp only
    refine w_ret ⟨⟨_, rfl⟩, ?_⟩
    walk_at "go"
    exact ⟨_, D, S.map (rowOf S), rfl, rfl, .inl (SqL.of hD1), rows_fit hS.gd cp, q H1 s1⟩
end

/-! ### texts read -/
def spReadW : Sp := fun vs H Q _ => ∃ x : List Nat, vs = [.str (sT x)] ∧ x.length ≤ 1000000 ∧ ∀ H', Same H H' → Q (match readW x with | none => .non | some l => .str (sT l)) H'
def optI : Option Nat → V | none => .non | some n => .int (n : Nat)
def spNumIn : Sp := fun vs H Q _ => ∃ x : List Nat, vs = [.str (sT x)] ∧ x.length ≤ 1000000 ∧ ∀ H', Same H H' → Q (optI (numIn x)) H'
theorem sT_one {c d : Nat} : sT [c] = sT [d] ↔ c = d := ⟨fun z => by have := sT_inj z; simpa using this, fun z => by rw [z]⟩
theorem key_one {c d : Nat} : ((Sum.inr (sT [c])) : Key) = Sum.inr (sT [d]) ↔ c = d := ⟨fun z => sT_one.mp (Sum.inr.inj z), fun z => by rw [z]⟩
theorem bs_bs : ("\\" : Str) = sT [92] := by decide +kernel
theorem str_n : ("n" : Str) = sT [110] := by decide +kernel
theorem str_0 : ("0" : Str) = sT [48] := by decide +kernel
theorem figs : ("0123456789" : Str) = sT [48, 49, 50, 51, 52, 53, 54, 55, 56, 57] := by decide +kernel
section
variable {P : Program} {w : World} {K : PySem.W.Frag} {mg : Str → Option Value} {base : Heap} {A : Ad}
abbrev n_read_written : List Str := ["word", "found", "place", "sign"]
theorem sc_read_written : FnScope n_read_written p_read_written (defScope s_read_written) := ⟨rfl, rfl, rfl, by decide +kernel, rfl, by decide +kernel, by decide +kernel⟩
theorem ok_read_written (T : Txt K mg A) : FnOk P w K mg base (L2.CX P w) 2 A.f_read_written A.d_read_written p_read_written spReadW := by
  refine T.fn_read_written.okX sc_read_written (fun vs H Q E h => ?_) (fun cdv B outer s H vs Q E hr h => ?_)
  · obtain ⟨x, rfl, _⟩ := h; rfl
  obtain ⟨x, rfl, xl, q⟩ := h
  have hu := hu_of hr
  refine ⟨_, (pss_cons (ps_if (PW.pt (pw_or (pt_not (pt_val (pe_call (ok_is_plain T) (hr.mono (by omega)) (by rfl) T.mg_is_plain T.fn_is_plain.kp T.bi_is_plain .nil (passes_call (takes_of rfl rfl rfl rfl) (fun _ _ _ _ h => h)) (pa_cons (pv 0) pa_nil)))) (pw_or1 (pt_cmpR op_in_sign pe_str (pv 0) (by rfl))))) (pss_one (ps_ret pe_non)) pss_nil)
      (pss_cons (ps_set (i := 1) sc_read_written.nd rfl (Or.inl rfl) pe_str)
      (pss_cons (ps_set (i := 2) sc_read_written.nd rfl (Or.inl rfl) pe_int)
      (pss_cons (ps_while (passes_of rfl) (pt_cmpR op_lt (pv 2) (pe_callB call_len_str (by rfl) T.z_len bt_len (pa_cons (pv 0) pa_nil)) (nomark _))
      (pss_cons (ps_set (i := 3) sc_read_written.nd rfl (Or.inl rfl) (pe_ix ix_str (pv 0) (pv 2) (fun _ _ => rfl)))
      (pss_cons (ps_if (pt_cmpR op_eq (pv 3) pe_str (nomark _)) (pss_cons (ps_set (i := 2) sc_read_written.nd rfl (Or.inl rfl) (pe_op op_add (pv 2) pe_int))
      (pss_cons (ps_set (i := 3) sc_read_written.nd rfl (Or.inl rfl) (pe_dget1 hu (pe_disp (pps_cons pe_str pe_str (pps_cons pe_str pe_str pps_nil)) (by rfl) (by rfl) (fun z => by cases z) (by decide)) (pe_slice sl_str (pv 0) (po_some (pv 2)) (po_some (pe_op op_add (pv 2) pe_int))) ⟨rfl, rfl, rfl, rfl⟩))
      (pss_one (ps_if (pt_cmpR op_isN (pv 3) pe_non (nomark _)) (pss_one (ps_ret pe_non)) pss_nil)))) pss_nil)
      (pss_cons (ps_set (i := 1) sc_read_written.nd rfl (Or.inl rfl) (pe_op op_add_str (pv 1) (pv 3)))
      (pss_one (ps_set (i := 2) sc_read_written.nd rfl (Or.inl rfl) (pe_op op_add (pv 2) pe_int)))))))
      (pss_one (ps_ret (pv 1))))))), ?_⟩
  have hcl := cap_line
  have hcap : (cap : Nat) = 16000000 := rfl
  have xs : (sT x).length ≤ sizeLine := by rw [sT_len]; omega
  walk_at "S"
  refine c_plain (by omega) fun H1 s1 => ?_
  generalize hD : Ends.mk _ _ _ _ = D
  have bad : ¬ (Plain x ∧ 10 ∉ x) → D.rt .non H1 := fun z => by
    rw [← hD]
    have e : readW x = none := by unfold readW; rw [if_neg z]
    have := q H1 s1
    rw [e] at this
    exact this
  have good : (Plain x ∧ 10 ∉ x) → D.nx [some (.str (sT x)), none, none, none] H1 := fun z => by
    rw [← hD]
    have e : readW x = unW x := by unfold readW; rw [if_pos z]
    rw [e] at q
    try dsimp only
    walk_at "s"
    walk_at "nx"
    walk_at "s"
    walk_at "nx"
    walk_at "s"
    refine ⟨fun m σ H' => ∃ (f : List Nat) (p : Nat) (x3 : Option V), m = x.length + 1 - p ∧ p ≤ x.length ∧ f.length ≤ p ∧ σ = [some (.str (sT x)), some (.str (sT f)), some (.int p), x3] ∧ Same H1 H' ∧ unW x = (unW (x.drop p)).map (f ++ ·), ⟨_, [], 0, _, rfl, Nat.zero_le _, Nat.le_refl _, by rw [sT_nil]; rfl, Same.refl _, by rw [List.drop_zero]; cases unW x <;> rfl⟩, ?_⟩
    rintro m σ H2 ⟨f, p, x3, rfl, px, fp, rfl, s2, inv⟩
    have s02 := s1.trans s2
    walk_at "w"
    refine ⟨_, rfl, xs, ?_⟩
    rw [sT_len]
    walk_at "w"
    refine ite_d (fun hlt => ?_) (fun hlt => ?_)
    · have hlt : p < x.length := by omega
      obtain ⟨c, hc⟩ := get_in hlt
      have dr : x.drop p = c :: x.drop (p + 1) := by
        rw [List.drop_eq_getElem_cons hlt]
        congr 1
        rw [List.getElem?_eq_getElem hlt] at hc
        exact Option.some.inj hc
      refine ⟨_, fun σ' H' z => z, ?_⟩
      walk_at "s"
      refine ⟨_, _, c, rfl, rfl, xs, atI_nat (by show x[p]? = some c; exact hc), ?_⟩
      walk_at "nx"
      walk_at "s"
      generalize hG : Ends.mk _ _ _ _ = G
      have go : ∀ (H' : Hp) (c' : Nat) (p' : Nat), Same H2 H' → p' < x.length → p ≤ p' → unW x = (unW (x.drop (p' + 1))).map ((f ++ [c']) ++ ·) → G.nx [some (.str (sT x)), some (.str (sT f)), some (.int p'), some (.str ⟨#[c']⟩)] H' := by
        intro H3 c' p' s3 lp pp inv3
        rw [← hG]
        try dsimp only
        walk_at "s"
        refine ⟨_, _, rfl, rfl, by show (sT f).length + (sT [c']).length ≤ _; rw [sT_len, sT_len]; show f.length + 1 ≤ _; omega, ?_⟩
        have e3 : sT f ++ (⟨#[c']⟩ : Str) = sT (f ++ [c']) := sT_app f [c']
        rw [e3]
        walk_at "nx"
        walk_at "w"
        exact ⟨_, by omega, f ++ [c'], p' + 1, _, rfl, by omega, by rw [List.length_append]; show f.length + 1 ≤ _; omega, rfl, s2.trans s3, inv3⟩
      walk_at "w"
      have eb : ((⟨#[c]⟩ : Str) = "\\") ↔ c = 92 := by rw [bs_bs]; exact sT_one
      refine ite_d (fun h92 => ?_) (fun h92 => ?_)
      · have h92 := eb.mp h92
        walk_at "s"
        walk_at "nx"
        walk_at "s"
        refine fun pd npd => ⟨upd_same, [(Sum.inr "n", .str "\n"), (Sum.inr "\\", .str "\\")], rfl, by decide, ?_⟩
        rw [upd_upd]
        obtain ⟨H3, e3, s3, hp3⟩ := new_of (o := .dK (mergeK [] [((Sum.inr "n" : Key), V.str "\n"), (Sum.inr "\\", .str "\\")])) npd
        rw [e3]
        refine ⟨pd, rfl, .inl ⟨_, .inl hp3⟩, ?_⟩
        walk_at "w"
        refine ⟨_, rfl, ?_⟩
        walk_at "w"
        refine ⟨_, rfl, sT x, rfl, xs, ?_⟩
        rw [show (p : Int) + 1 = ((p + 1 : Nat) : Int) by omega, show ((p + 1 : Nat) : Int) + 1 = ((p + 1 + 1 : Nat) : Int) by omega, cutS_some, Nat.add_sub_cancel_left]
        refine ⟨_, DGet.k (k := Sum.inr (sT ((x.drop (p + 1)).take 1))) hp3, ?_⟩
        have ev : ∀ k : Str, valV (mergeK [] [((Sum.inr "n" : Key), V.str "\n"), (Sum.inr "\\", .str "\\")]) (Sum.inr k) = if (Sum.inr k : Key) = Sum.inr (sT [92]) then some (.str (sT [92])) else if (Sum.inr k : Key) = Sum.inr (sT [110]) then some (.str (sT [10])) else none := fun k => by
          show valV (putK (putK [] (Sum.inr "n" : Key) (V.str "\n")) (Sum.inr "\\") (V.str "\\")) (Sum.inr k) = _
          rw [valV_put, valV_put, bs_bs, str_n, sT_lf]
          rfl
        rw [ev]
        have ud : unW (x.drop p) = unW (92 :: x.drop (p + 1)) := by rw [dr, h92]
        rw [ud] at inv
        have none_ : unW (92 :: x.drop (p + 1)) = none → Q .non H3 := fun z => by
          rw [z] at inv
          have := q H3 (s02.trans s3)
          rw [show unW x = none from inv] at this
          exact this
        cases er : x.drop (p + 1) with
        | nil =>
          have n1 : ¬ ((Sum.inr (sT (([] : List Nat).take 1)) : Key) = Sum.inr (sT [92])) := fun z => by have := sT_inj (Sum.inr.inj z); cases this
          have n2 : ¬ ((Sum.inr (sT (([] : List Nat).take 1)) : Key) = Sum.inr (sT [110])) := fun z => by have := sT_inj (Sum.inr.inj z); cases this
          rw [if_neg n1, if_neg n2]
          walk_at "nx"
          walk_at "w"
          refine ⟨rfl, ?_⟩
          walk_at "w"
          refine iteT ?_
          walk_at "w"
          rw [← hG]
          exact none_ (by rw [er]; rfl)
        | cons d r =>
          have lp : p + 1 < x.length := by
            have := congrArg List.length er
            rw [List.length_drop, List.length_cons] at this
            omega
          have dr2 : x.drop (p + 1 + 1) = r := by
            have := congrArg (List.drop 1) er
            rw [List.drop_drop] at this
            exact this
          have t1 : (d :: r).take 1 = [d] := rfl
          rw [t1]
          have u3 : unW (92 :: d :: r) = if d = 110 then (unW r).map (10 :: ·) else if d = 92 then (unW r).map (92 :: ·) else none := by
            rw [unW, if_pos rfl]
          by_cases h1 : d = 92
          · rw [if_pos (key_one.mpr h1)]
            walk_at "nx"
            walk_at "w"
            refine ⟨rfl, ?_⟩
            walk_at "w"
            refine iteF ?_
            refine go H3 92 (p + 1) s3 lp (by omega) ?_
            rw [inv, er, u3, if_neg (by omega), if_pos h1, dr2]
            cases unW r with
            | none => rfl
            | some y => show some (f ++ 92 :: y) = some ((f ++ [92]) ++ y); rw [List.append_assoc]; rfl
          · rw [if_neg (fun z => h1 (key_one.mp z))]
            by_cases h2 : d = 110
            · rw [if_pos (key_one.mpr h2)]
              walk_at "nx"
              walk_at "w"
              refine ⟨rfl, ?_⟩
              walk_at "w"
              refine iteF ?_
              refine go H3 10 (p + 1) s3 lp (by omega) ?_
              rw [inv, er, u3, if_pos h2, dr2]
              cases unW r with
              | none => rfl
              | some y => show some (f ++ 10 :: y) = some ((f ++ [10]) ++ y); rw [List.append_assoc]; rfl
            · rw [if_neg (fun z => h2 (key_one.mp z))]
              walk_at "nx"
              walk_at "w"
              refine ⟨rfl, ?_⟩
              walk_at "w"
              refine iteT ?_
              walk_at "w"
              rw [← hG]
              exact none_ (by rw [er, u3, if_neg h2, if_neg h1])
      · have h92 : ¬ c = 92 := fun z => h92 (eb.mpr z)
        walk_at "w"
        refine go H2 c p (Same.refl _) hlt (Nat.le_refl _) ?_
        rw [inv, dr, unW_cons h92]
        cases unW (x.drop (p + 1)) with
        | none => rfl
        | some y => show some (f ++ c :: y) = some ((f ++ [c]) ++ y); rw [List.append_assoc]; rfl
    · dsimp only
      walk_at "w"
      have px : p = x.length := by omega
      rw [px, List.drop_eq_nil_of_le (Nat.le_refl _)] at inv
      have := q H2 s02
      rw [show unW x = some f from by rw [inv]; show some (f ++ []) = _; rw [List.append_nil]] at this
      exact this
  walk_at "w"
  refine ite_n (fun np => ?_) (fun pl => ?_)
  · walk_at "w"
    exact bad (fun z => np z.1)
  · walk_at "w"
    rw [sT_lf]
    refine ⟨10, sT x, rfl, rfl, ?_⟩
    walk_at "w"
    refine ite_d (fun h10 => ?_) (fun h10 => ?_)
    · walk_at "w"
      exact bad (fun z => z.2 h10)
    · walk_at "w"
      exact good ⟨pl, h10⟩
abbrev n_number_in : List Str := ["word", "sign"]
theorem sc_number_in : FnScope n_number_in p_number_in (defScope s_number_in) := ⟨rfl, rfl, rfl, by decide +kernel, rfl, by decide +kernel, by decide +kernel⟩
theorem ok_number_in (T : Txt K mg A) : FnOk P w K mg base (L2.CX P w) 1 A.f_number_in A.d_number_in p_number_in spNumIn := by
  refine T.fn_number_in.okX sc_number_in (fun vs H Q E h => ?_) (fun cdv B outer s H vs Q E hr h => ?_)
  · obtain ⟨x, rfl, _⟩ := h; rfl
  obtain ⟨x, rfl, xl, q⟩ := h
  have hu := hu_of hr
  refine ⟨_, (pss_cons (ps_if (PW.pt (pw_or (pt_not (pt_chain op_le op_le pe_int (pe_callB call_len_str (by rfl) T.z_len bt_len (pa_cons (pv 0) pa_nil)) (pe_kint T.k_MOST_FIGURES (by rfl)))) (pw_or1 (pt_not (pt_val (pe_callB (cr_all rfl) (by rfl) T.z_all bt_all (pa_cons (pe_lc (own := [("sign", 1)]) (g := gName 1) (tt := tYes) rfl sc_number_in.nd (pi_str (pv 0)) (blkOk_by (own := [("sign", 1)]) (N := n_number_in) (sc := defScope s_number_in) (by decide +kernel)) (fun _ _ _ _ _ => (pg_name (i := 1) sc_number_in.nd rfl (Or.inl rfl))) (fun _ _ _ _ _ => pts_nil) (fun _ _ _ _ _ => (pe_cmpR op_in_sign (pv 1) (pe_kstr T.k_FIGURES (by rfl)) (by rfl)))) pa_nil))))))) (pss_one (ps_ret pe_non)) pss_nil)
      (pss_cons (ps_if (PW.pt (pw_and (pt_cmpR op_eq (pe_ix ix_str (pv 0) pe_int (fun _ _ => rfl)) pe_str (nomark _)) (pw_and1 (pt_cmpR op_ne (pv 0) pe_str (nomark _))))) (pss_one (ps_ret pe_non)) pss_nil)
      (pss_one (ps_ret (pe_callTy call_int_str (by rfl) T.z_int bt_int (pa_cons (pv 0) pa_nil)))))), ?_⟩
  have hcl := cap_line
  have hcap : (cap : Nat) = 16000000 := rfl
  have xs : (sT x).length ≤ sizeLine := by rw [sT_len]; omega
  have bad : ¬ ((1 ≤ x.length ∧ x.length ≤ 30 ∧ Figs x) ∧ ¬ (x.head? = some 48 ∧ x ≠ [48])) → ∀ H', Same H H' → Q .non H' := fun z H' s' => by
    have := q H' s'
    unfold numIn at this
    rw [if_neg z] at this
    exact this
  walk_at "S"
  generalize hD : Ends.mk _ _ _ _ = D
  have no : ∀ H', Same H H' → ¬ (1 ≤ x.length ∧ x.length ≤ 30 ∧ Figs x) → D.rt .non H' := fun H' s' z => by
    rw [← hD]
    exact bad (fun y => z y.1) H' s'
  have yes : ∀ (H' : Hp), Same H H' → (1 ≤ x.length ∧ x.length ≤ 30 ∧ Figs x) → D.nx [some (.str (sT x)), none] H' := fun H1 s1 z => by
    rw [← hD]
    try dsimp only
    obtain ⟨c, r, rfl⟩ : ∃ c r, x = c :: r := by
      cases x with
      | nil => exact absurd z.1 (by decide)
      | cons c r => exact ⟨c, r, rfl⟩
    have e0 : ((⟨#[c]⟩ : Str) = "0") ↔ c = 48 := by rw [str_0]; exact sT_one
    have e1 : (sT (c :: r) = "0") ↔ c :: r = [48] := by rw [str_0]; exact ⟨sT_inj, fun y => by rw [y]⟩
    walk_at "S"
    generalize hG : Ends.mk _ _ _ _ = G
    have fin : ¬ ((c :: r).head? = some 48 ∧ c :: r ≠ [48]) → G.nx [some (.str (sT (c :: r))), none] H1 := fun z2 => by
      rw [← hG]
      try dsimp only
      have e : numIn (c :: r) = some (NumText.digitsVal (c :: r)) := by unfold numIn; rw [if_pos ⟨z, z2⟩]
      walk_at "w"
      refine ⟨sT (c :: r), _, rfl, intText_digits (x := sT (c :: r)) z.2.2 (by simp) (by rw [sT_len]; omega), by rw [sT_len]; omega, ?_⟩
      have := q H1 s1
      rw [e] at this
      exact this
    refine ⟨_, _, c, rfl, rfl, xs, (by exact atI_nat (j := 0) rfl), ?_⟩
    walk_at "w"
    refine ite_d (fun h0 => ?_) (fun h0 => ?_)
    · have h0 := e0.mp h0
      walk_at "w"
      refine ite_d (fun h1 => ?_) (fun h1 => ?_)
      · walk_at "w"
        rw [← hG]
        exact bad (fun y => y.2 ⟨by rw [h0]; rfl, fun w => h1 (e1.mpr w)⟩) H1 s1
      · walk_at "w"
        exact fin (fun y => y.2 (e1.mp (Decidable.not_not.mp h1)))
    · walk_at "w"
      exact fin (fun y => h0 (e0.mpr (by have := y.1; simpa using this)))
  walk_at "w"
  refine ⟨_, rfl, xs, ?_⟩
  rw [sT_len]
  refine w_rI0 ⟨_, rfl, ?_⟩
  refine ite_d (fun h1 => ?_) (fun h1 => ?_)
  · walk_at "w"
    refine ite_n (fun h2 => ?_) (fun h2 => ?_)
    · walk_at "w"
      exact no H (Same.refl H) (fun z => h2 (by omega))
    · walk_at "w"
      refine ⟨_, rfl, fun D' nD => ?_⟩
      refine lc_it walk_str (fun i H' => Same H H' ∧ H' D' = some (.lst ((x.take i).map fun c => .bl (decide (48 ≤ c ∧ c ≤ 57))))) ⟨fun b o e => by rw [upd_ne (ne_of_none e nD)]; exact e, upd_same⟩ (fun _ _ _ _ => trivial) ?_ ?_
      · rintro i v H2 H3 hi ⟨s2, hD2⟩ ⟨rfl, c, hc, rfl⟩
        have hc : x[i]? = some c := by simpa using hc
        refine w_gname ⟨rfl, w_yes (iteT ?_)⟩
        walk_at "w"
        rw [figs]
        refine ⟨c, _, rfl, rfl, ?_⟩
        have hi : i < x.length := by simpa using hi
        have em : decide (c ∈ (sT [48, 49, 50, 51, 52, 53, 54, 55, 56, 57]).cps.toList) = decide (48 ≤ c ∧ c ≤ 57) := by
          refine decide_eq_decide.mpr ?_
          show c ∈ [48, 49, 50, 51, 52, 53, 54, 55, 56, 57] ↔ _
          simp only [List.mem_cons, List.not_mem_nil, or_false]
          omega
        rw [em]
        refine ⟨_, hD2, by rw [List.length_map, List.length_take]; omega, fun b o e => by rw [upd_ne (ne_of_none e nD)]; exact s2 b o e, ?_⟩
        rw [upd_same, take_snoc hc, List.map_append]; rfl
      rintro H2 ⟨s2, hD2⟩
      have ts : x.take (sT x).cps.size = x := List.take_of_length_le (by simp)
      rw [ts] at hD2
      walk_at "w"
      refine ⟨D', x.map fun c => decide (48 ≤ c ∧ c ≤ 57), rfl, by rw [List.map_map]; exact SqL.of hD2, ?_⟩
      have ea : ((x.map fun c => decide (48 ≤ c ∧ c ≤ 57)).all id) = decide (Figs x) := by
        rw [List.all_map, Bool.eq_iff_iff, List.all_eq_true]
        simp only [Function.comp, id, decide_eq_true_eq]
        exact Iff.rfl
      rw [ea]
      walk_at "w"
      refine ite_n (fun h3 => ?_) (fun h3 => ?_)
      · walk_at "w"
        exact no H2 s2 (fun z => h3 z.2.2)
      · walk_at "w"
        exact yes H2 s2 ⟨by omega, by omega, h3⟩
  · refine ⟨_, rfl, ?_⟩
    walk_at "w"
    refine iteT ?_
    walk_at "w"
    exact no H (Same.refl H) (fun z => h1 (by omega))
end

/-! ### shelves read -/
def spLaidBy (C CN CX CL CU CT : Addr) : Sp := fun vs H Q E => ∃ (c : Cells) (S : List Tr) (x : List Nat), vs = [.ref c.a, .str (sT x)] ∧ ShAt C c H S ∧ x.length ≤ 1000000 ∧ S.length < cap ∧
  (layRow S x = none → ∀ H', Same H H' → Q (.bl false) H') ∧
  (∀ (H' : Hp) (t : Tr), ShAt C c H' (put S t) → KeepL c.all H H' → ((t ∉ S ∧ layRow S x = some (S ++ [t])) ∨ (t ∈ S ∧ layRow S x = none)) → Q (.bl true) H') ∧
  (layRow S x = none → ∀ (H' : Hp) (X : Addr), X = CN ∨ X = CX ∨ X = CL ∨ X = CU ∨ X = CT → Same H H' → E (.ref X) none H')
def spLiesAnew (C : Addr) : Sp := fun vs H Q _ => ∃ (c : Cells) (S : List Tr) (x : List Nat), vs = [.ref c.a, .str (sT x)] ∧ ShAt C c H S ∧ x.length ≤ 1000000 ∧ S.length < cap ∧
  ∀ H', ShAt C c H' ((layRow S x).getD S) → KeepL c.all H H' → Q (.bl (layRow S x).isSome) H'
def spReadSh (C : Addr) : Sp := fun vs H Q _ => ∃ (x : List Nat) (S : List Tr), vs = [.str (sT x)] ∧ x.length ≤ 1000000 ∧ readAll 0 [] (rowsOf x) = .ok S ∧
  ∀ c H', ShAt C c H' S → Same H H' → (∀ b ∈ c.all, H b = none) → Q (.ref c.a) H'
theorem nth_some {S : List Tr} {a : Nat} {t : Tr} (h : nth S a = some t) : Nm S (a : Int) t := by
  unfold nth at h
  split at h
  · cases h
  · exact ⟨a - 1, h, by omega⟩
theorem nth_none {S : List Tr} {a : Nat} (h : nth S a = none) : ∀ t, ¬ Nm S (a : Int) t := by
  rintro t ⟨i, e, z⟩
  unfold nth at h
  rw [if_neg (by omega), show a - 1 = i by omega, e] at h
  cases h
theorem inV_opt : ∀ os : List (Option Nat), inV .non (os.map optI) = decide (none ∈ os)
  | [] => by simp [inV]
  | o :: os => by
    have ih := inV_opt os
    unfold inV at ih ⊢
    rw [List.map_cons, List.any_cons, ih]
    cases o with
    | none =>
      show (eqV V.non V.non || _) = _
      rw [show eqV V.non V.non = true from rfl]; simp
    | some n =>
      show (eqV (V.int (n : Nat)) V.non || _) = _
      rw [show eqV (V.int (n : Nat)) V.non = false from rfl]; simp
theorem flat_opt (os : List (Option Nat)) : (os.map optI).all flatV = true := by
  rw [List.all_eq_true]
  intro x hx
  obtain ⟨o, _, rfl⟩ := List.mem_map.mp hx
  cases o <;> rfl
theorem str_leaf : ("leaf" : Str) = sT leafW := by decide +kernel
theorem str_fork : ("fork" : Str) = sT forkW := by decide +kernel
theorem str_sp : (" " : Str) = sT [32] := by decide +kernel
theorem str_empty : (Str.empty : Str) = sT [] := by decide +kernel
theorem part_sp (x : List Nat) : Txt.partition (sT x) (sT [32]) = (match TL.par [32] [] x with | some (a, b) => (sT a, sT [32], sT b) | none => (sT x, sT [], sT [])) := by
  have := TL.partition_par (sT x) (sT [32]) (by decide)
  rw [str_empty] at this
  exact this
theorem par_len {x a b : List Nat} (h : TL.par [32] [] x = some (a, b)) : a.length + b.length + 1 = x.length := by
  have key : ∀ (l acc : List Nat), TL.par [32] acc l = some (a, b) → a.length + b.length + 1 = acc.length + l.length := by
    intro l
    induction l with
    | nil => intro acc h; cases h
    | cons c r ih =>
      intro acc h
      by_cases hc : TL.pre [32] (c :: r) = true
      · rw [TL.par_hit hc] at h
        cases h
        simp; omega
      · rw [TL.par_miss (by simpa using hc)] at h
        have := ih _ h
        simp at this ⊢; omega
  have := key x [] h
  simpa using this
theorem get_row {l : List (List Nat)} {i : Nat} (h : i < l.length) : ∃ p, l[i]? = some p := ⟨l[i], List.getElem?_eq_getElem h⟩
theorem layT_len {S S' : List Tr} {t : Tr} (h : layT S t = some S') : S'.length = S.length + 1 := by
  unfold layT at h
  split at h
  · cases h; simp
  · cases h
theorem lay_len {S S' : List Tr} {x : List Nat} (h : layRow S x = some S') : S'.length = S.length + 1 := by
  unfold layRow at h
  repeat' split at h
  all_goals first | exact layT_len h | cases h
theorem two_nums {os : List (Option Nat)} (h : os.length = 2) (n : none ∉ os) : ∃ a b, os = [some a, some b] := by
  match os, h with
  | [none, _], _ => exact absurd (by simp) n
  | [some a, none], _ => exact absurd (by simp) n
  | [some a, some b], _ => exact ⟨a, b, rfl⟩
section
variable {P : Program} {w : World} {K : PySem.W.Frag} {mg : Str → Option Value} {base : Heap} {A : Ad}
theorem w_inN {H : Hp} {Q : VK} {a : Addr} {os : List (Option Nat)} (s : SqL K H a (os.map optI)) (k : Q (.bl (decide (none ∈ os))) H) : rIn K false .non (.ref a) H Q :=
  ⟨a, _, rfl, .inl s, rfl, flat_opt os, by rw [inV_opt]; exact k⟩
abbrev n_laid_by : List Str := ["shelf", "row", "word", "blank", "rest", "plain", "numbers", "part"]
theorem sc_laid_by : FnScope n_laid_by p_laid_by (defScope s_laid_by) := ⟨rfl, rfl, rfl, by decide +kernel, rfl, by decide +kernel, by decide +kernel⟩
theorem ok_laid_by (T : Txt K mg A) : FnOk P w K mg base (L2.CX P w) 8 A.f_laid_by A.d_laid_by p_laid_by (spLaidBy A.C_Shelf A.C_NoPiece A.C_NoText A.C_Loose A.C_Unlevel A.C_TooLong) := by
  refine T.fn_laid_by.okX sc_laid_by (fun vs H Q E h => ?_) (fun cdv B outer s H vs Q E hr h => ?_)
  · obtain ⟨c, S, x, rfl, _⟩ := h; rfl
  obtain ⟨c, S, x, rfl, hS, xl, cp, qF, qT, qE⟩ := h
  have hu := hu_of hr
  refine ⟨_, (pss_cons (ps_asg (pe_partition (pv 1) pe_str) (pg_tup rfl (pgs_cons (pg_name (i := 2) sc_laid_by.nd rfl (Or.inl rfl)) (pgs_cons (pg_name (i := 3) sc_laid_by.nd rfl (Or.inl rfl)) (pgs_cons (pg_name (i := 4) sc_laid_by.nd rfl (Or.inl rfl)) pgs_nil)))))
      (pss_cons (ps_if (PW.pt (pw_and (pt_cmpR op_eq (pv 2) pe_str (nomark _)) (pw_and1 (pt_cmpR op_eq (pv 3) pe_str (nomark _))))) (pss_cons (ps_set (i := 5) sc_laid_by.nd rfl (Or.inl rfl) (pe_call (ok_read_written T) (hr.mono (by omega)) (by rfl) T.mg_read_written T.fn_read_written.kp T.bi_read_written .nil (passes_call (takes_of rfl rfl rfl rfl) (fun _ _ _ _ h => h)) (pa_cons (pv 4) pa_nil)))
      (pss_cons (ps_if (pt_cmpR op_isN (pv 5) pe_non (nomark _)) (pss_one (ps_ret pe_bl)) pss_nil)
      (pss_cons (ps_expr (pe_meth (pv 0) T.cl_Shelf T.me_Shelf_leaf (ok_Shelf_leaf T) (hr.mono (by omega)) T.bi_Shelf_leaf .nil (passes_call (takes_of rfl rfl rfl rfl) (fun _ _ _ _ h => h)) (pa_cons (pv 5) pa_nil)))
      (pss_one (ps_ret pe_bl))))) pss_nil)
      (pss_cons (ps_setLc (i := 6) (own := [("part", 7)]) (g := gName 7) (tt := tYes) rfl sc_laid_by.nd rfl rfl (sw_true rfl rfl rfl (by decide +kernel)) (pi_list (pe_split (pv 4) pe_str)) (blkOk_by (own := [("part", 7)]) (N := n_laid_by) (sc := defScope s_laid_by) (by decide +kernel)) (fun _ _ _ _ _ => (pg_name (i := 7) sc_laid_by.nd rfl (Or.inl rfl))) (fun _ _ _ _ _ => pts_nil) (fun _ _ _ _ _ => (pe_call (ok_number_in T) (hr.mono (by omega)) (by rfl) T.mg_number_in T.fn_number_in.kp T.bi_number_in .nil passL (pa_cons (pv 7) pa_nil))))
      (pss_cons (ps_if (PW.pt (pw_or (pt_cmpR op_ne (pv 2) pe_str (nomark _)) (pw_or (pt_cmpR op_ne (pe_callB call_len_seq (by rfl) T.z_len bt_len (pa_cons (pv 6) pa_nil)) pe_int (nomark _)) (pw_or1 (pt_cmpR op_in_seq pe_non (pv 6) (by rfl)))))) (pss_one (ps_ret pe_bl)) pss_nil)
      (pss_cons (ps_expr (pe_meth (pv 0) T.cl_Shelf T.me_Shelf_fork (ok_Shelf_fork T) (hr.mono (by omega)) T.bi_Shelf_fork .nil (passes_call (takes_of rfl rfl rfl rfl) (fun _ _ _ _ h => h)) (pa_cons (pe_ix ix_list (pv 6) pe_int (fun _ _ => rfl)) (pa_cons (pe_ix ix_list (pv 6) pe_int (fun _ _ => rfl)) pa_nil))))
      (pss_one (ps_ret pe_bl))))))), ?_⟩
  have hcl := cap_line
  have hcap : (cap : Nat) = 16000000 := rfl
  walk_at "S"
  refine ⟨⟨_, rfl⟩, ?_⟩
  walk_at "W"
  rw [str_sp]
  refine ⟨_, _, rfl, rfl, by decide, by rw [sT_len]; omega, fun p np => ?_⟩
  obtain ⟨w1, b1, r1, ew, eb, er, cases_⟩ : ∃ w1 b1 r1 : List Nat, (Txt.partition (sT x) (sT [32])).1 = sT w1 ∧ (Txt.partition (sT x) (sT [32])).2.1 = sT b1 ∧ (Txt.partition (sT x) (sT [32])).2.2 = sT r1 ∧
      ((TL.par [32] [] x = some (w1, r1) ∧ b1 = [32]) ∨ (TL.par [32] [] x = none ∧ b1 = [] ∧ r1 = [])) := by
    rw [part_sp]
    cases e : TL.par [32] [] x with
    | none => exact ⟨x, [], [], rfl, rfl, rfl, .inr ⟨rfl, rfl, rfl⟩⟩
    | some ab => exact ⟨ab.1, [32], ab.2, rfl, rfl, rfl, .inl ⟨rfl, rfl⟩⟩
  rw [ew, eb, er]
  have rl : r1.length ≤ x.length := by
    rcases cases_ with ⟨e, _⟩ | ⟨_, _, e⟩
    · have := par_len e; omega
    · rw [e]; exact Nat.zero_le _
  obtain ⟨H1, e1, s1, hp⟩ := new_of (o := .tup [V.str (sT w1), V.str (sT b1), V.str (sT r1)]) np
  rw [e1]
  refine w_gtup (SqT.of hp) rfl (w_gcons (w_gname (w_gcons (w_gname (w_gcons (w_gname (w_gnil ?_)))))))
  try dsimp only
  have hS1 := hS.same s1
  walk_at "S"
  generalize hD : Ends.mk _ _ _ _ = D
  have other : ¬ (w1 = leafW ∧ b1 = [32]) → D.nx [some (.ref c.a), some (.str (sT x)), some (.str (sT w1)), some (.str (sT b1)), some (.str (sT r1)), none, none, none] H1 := fun hno => by
    rw [← hD]
    try dsimp only
    obtain ⟨os, eos⟩ : ∃ os, os = (TL.spl [32] 0 [] r1).map numIn := ⟨_, rfl⟩
    have nolay : (w1 = forkW → ∀ a b, os ≠ [some a, some b]) → layRow S x = none := fun z => by
      unfold layRow
      rcases cases_ with ⟨e, eb⟩ | ⟨e, _⟩
      · rw [e]
        dsimp only
        rw [if_neg (fun y => hno ⟨y, eb⟩)]
        by_cases hf : w1 = forkW
        · rw [if_pos hf, ← eos]
          cases os with
          | nil => rfl
          | cons o1 os => cases os with
            | nil => cases o1 <;> rfl
            | cons o2 os => cases os with
              | nil => cases o1 with
                | none => rfl
                | some a => cases o2 with
                  | none => rfl
                  | some b => exact absurd rfl (z hf a b)
              | cons o3 os => cases o1 with
                | none => rfl
                | some a => cases o2 <;> rfl
        · rw [if_neg hf]
      · rw [e]
    have no : (w1 = forkW → ∀ a b, os ≠ [some a, some b]) → ∀ H', Same H1 H' → Q (.bl false) H' := fun z H' s' => qF (nolay z) H' (s1.trans s')
    walk_at "S"
    refine ⟨⟨_, rfl⟩, ?_⟩
    walk_at "W"
    refine ⟨_, _, rfl, rfl, by decide, by rw [sT_len]; omega, fun L nL => ?_⟩
    rw [show Txt.split (sT r1) (sT [32]) = (TL.spl [32] 0 [] r1).map sT from SX.split_S (by decide) (by decide)]
    obtain ⟨H2, e2, s2, hL⟩ := new_of (o := .lst (((TL.spl [32] 0 [] r1).map sT).map V.str)) nL
    rw [e2]
    refine ⟨L, rfl, ⟨_, SqL.of hL⟩, fun N nN => ?_⟩
    have pl : ∀ p ∈ TL.spl [32] 0 [] r1, p.length ≤ 1000000 := fun p hp => by
      have key : ∀ (l acc : List Nat), ∀ p ∈ TL.spl [32] 0 acc l, p.length ≤ acc.length + l.length := by
        intro l
        induction l with
        | nil => intro acc p hp; rw [TL.spl_nil, List.mem_singleton] at hp; rw [hp]; omega
        | cons d r ih =>
          intro acc p hp
          by_cases hc : TL.pre [32] (d :: r) = true
          · rw [TL.spl_hit hc] at hp
            rcases List.mem_cons.mp hp with z | z
            · rw [z]; omega
            · have := ih [] p z; simp at this ⊢; omega
          · rw [TL.spl_miss (by simpa using hc)] at hp
            have := ih _ p hp
            simp at this ⊢; omega
      have := key r1 [] p hp
      simp at this; omega
    have nparts : (TL.spl [32] 0 [] r1).length ≤ 1000001 := by
      have key : ∀ (l acc : List Nat), (TL.spl [32] 0 acc l).length ≤ l.length + 1 := by
        intro l
        induction l with
        | nil => intro acc; rw [TL.spl_nil]; simp
        | cons d r ih =>
          intro acc
          by_cases hc : TL.pre [32] (d :: r) = true
          · rw [TL.spl_hit hc]
            have := ih []
            simp at this ⊢; omega
          · rw [TL.spl_miss (by simpa using hc)]
            have := ih (acc ++ [d])
            simp; omega
      have := key r1 []
      omega
    refine lc_it (walk_list (xs := ((TL.spl [32] 0 [] r1).map sT).map V.str)) (fun i H' => Same H2 H' ∧ H' N = some (.lst ((os.take i).map optI))) ⟨fun b o e => by rw [upd_ne (ne_of_none e nN)]; exact e, upd_same⟩ (fun i H' _ z => SqL.of (z.1 _ _ hL)) ?_ ?_
    · rintro i v H4 H3 hi ⟨s3, hN3⟩ ⟨rfl, hv⟩
      rw [List.getElem?_map, List.getElem?_map] at hv
      obtain ⟨pt, ept, rfl⟩ : ∃ pt, (TL.spl [32] 0 [] r1)[i]? = some pt ∧ v = .str (sT pt) := by
        cases e : (TL.spl [32] 0 [] r1)[i]? with
        | none => rw [e] at hv; cases hv
        | some z => rw [e] at hv; cases hv; exact ⟨z, rfl, rfl⟩
      refine w_gname ⟨rfl, w_yes (iteT ?_)⟩
      walk_at "w"
      refine ⟨pt, rfl, pl pt (List.mem_of_getElem? ept), fun H5 s5 => ?_⟩
      have eo : os[i]? = some (numIn pt) := by rw [eos, List.getElem?_map, ept]; rfl
      refine ⟨_, s5 _ _ hN3, ?_, fun b o e => ?_, ?_⟩
      · have := (List.getElem?_eq_some_iff.mp ept).1
        rw [List.length_map, List.length_take]; omega
      · rw [upd_ne (ne_of_none e nN)]; exact s5 _ _ (s3 _ _ e)
      · rw [upd_same, take_snoc eo, List.map_append]; rfl
    rintro H3 ⟨s3, hN⟩
    have lo : (((TL.spl [32] 0 [] r1).map sT).map V.str).length = os.length := by rw [eos, List.length_map, List.length_map, List.length_map]
    rw [lo, List.take_length] at hN
    have s13 := s2.trans s3
    walk_at "nx"
    walk_at "S"
    rw [str_fork]
    refine ite_d (fun hw => ?_) (fun hw => ?_)
    · walk_at "w"
      exact no (fun z => absurd (by rw [z]) hw) H3 s13
    have hw : w1 = forkW := sT_inj (Decidable.not_not.mp hw)
    walk_at "W"
    refine ⟨N, _, rfl, .inl (SqL.of hN), ?_⟩
    walk_at "w"
    rw [List.length_map]
    refine ite_d (fun h2 => ?_) (fun h2 => ?_)
    · walk_at "w"
      exact no (fun _ a b z => h2 (by rw [z]; rfl)) H3 s13
    have h2 : os.length = 2 := by omega
    walk_at "W"
    refine w_inN (SqL.of hN) ?_
    walk_at "w"
    refine ite_d (fun hn => ?_) (fun hn => ?_)
    · walk_at "w"
      exact no (fun _ a b z => by rw [z] at hn; simp at hn) H3 s13
    obtain ⟨a, b, eab⟩ := two_nums h2 hn
    have hN' : H3 N = some (.lst [V.int (a : Nat), V.int (b : Nat)]) := by rw [hN, eab]; rfl
    have hS3 := hS1.same s13
    have s03 := s1.trans s13
    walk_at "sk"
    walk_at "w"
    walk_at "s"
    refine w_ixl (SqL.of hN') (v := .int (a : Nat)) rfl ?_
    walk_at "w"
    refine w_ixl (SqL.of hN') (v := .int (b : Nat)) rfl ?_
    have lay : layRow S x = (match nth S a, nth S b with
        | some t, some u => layT S (.fk t u)
        | _, _ => none) := by
      rcases cases_ with ⟨e, eb⟩ | ⟨e, _, er⟩
      · unfold layRow
        rw [e]
        dsimp only
        rw [if_neg (fun y => hno ⟨y, eb⟩), if_pos hw, ← eos, eab]
        all_goals rfl
      · exfalso
        rw [er] at eos
        have : os.length = 1 := by rw [eos]; rfl
        omega
    walk_at "w"
    cases ha : nth S a with
    | none => exact ⟨c, S, _, _, rfl, hS3, .inl ⟨.inl (nth_none ha), qE (by rw [lay, ha]) H3 _ (.inl rfl) s03⟩⟩
    | some t =>
      cases hb : nth S b with
      | none => exact ⟨c, S, _, _, rfl, hS3, .inl ⟨.inr (nth_none hb), qE (by rw [lay, ha, hb]) H3 _ (.inl rfl) s03⟩⟩
      | some u =>
        have nt := nth_some ha
        have nu := nth_some hb
        have ot := hS3.gd.ok _ nt.mem
        have ou := hS3.gd.ok _ nu.mem
        rw [ha, hb] at lay
        dsimp only at lay
        have bad : ¬ Ok (.fk t u) → layRow S x = none := fun z => by rw [lay, layT_no (fun y => z y.1)]
        refine ⟨c, S, _, _, rfl, hS3, .inr ⟨t, u, nt, nu, ?_⟩⟩
        by_cases c1 : t.la.sg + u.fi.sg ≤ 8
        · exact .inl ⟨c1, qE (bad fun z => by have := z.2.2.2.2.1; omega) H3 _ (.inr (.inr (.inl rfl))) s03⟩
        by_cases c2 : u.ht + 1 < t.ht ∨ t.ht + 1 < u.ht
        · exact .inr (.inl ⟨by omega, c2, fun H' s' => qE (bad fun z => by have := z.2.2.1; have := z.2.2.2.1; omega) H' _ (.inr (.inr (.inr (.inl rfl)))) (s03.trans s')⟩)
        by_cases c3 : mostSg < t.sg + u.sg
        · exact .inr (.inr (.inl ⟨by omega, by omega, by omega, c3, fun H' s' => qE (bad fun z => by have := z.2.2.2.2.2; omega) H' _ (.inr (.inr (.inr (.inr rfl)))) (s03.trans s')⟩))
        have ok : Ok (.fk t u) := ⟨ot, ou, by omega, by omega, by omega, by omega⟩
        refine .inr (.inr (.inr ⟨ok, cp, fun H' hS' k' => ?_⟩))
        walk_at "w"
        try dsimp only
        walk_at "w"
        refine qT H' (.fk t u) hS' ((Same.keepL _ s03).trans k'.keepL) ?_
        by_cases hm : Tr.fk t u ∈ S
        · exact .inr ⟨hm, by rw [lay, layT_no (fun y => y.2 hm)]⟩
        · exact .inl ⟨hm, by rw [lay, layT_ok ok hm]⟩
  rw [str_leaf]
  refine ite_d (fun hw => ?_) (fun hw => ?_)
  · have hw : w1 = leafW := sT_inj hw
    walk_at "w"
    refine ite_d (fun hb => ?_) (fun hb => ?_)
    · have hb : b1 = [32] := sT_inj hb
      obtain ⟨e, _⟩ : TL.par [32] [] x = some (w1, r1) ∧ b1 = [32] := by
        rcases cases_ with z | ⟨_, z, _⟩
        · exact z
        · rw [hb] at z; cases z
      have lay : layRow S x = (match readW r1 with
          | none => none
          | some l => layT S (.lf l)) := by
        unfold layRow
        rw [e]
        dsimp only
        rw [if_pos hw]
        all_goals (cases readW r1 <;> rfl)
      walk_at "s"
      refine ⟨r1, rfl, by omega, fun H2 s2 => ?_⟩
      have hS2 := hS1.same s2
      walk_at "nx"
      walk_at "s"
      cases hr : readW r1 with
      | none =>
        dsimp only
        walk_at "w"
        refine ⟨rfl, ?_⟩
        walk_at "w"
        refine iteT ?_
        walk_at "w"
        rw [← hD]
        exact qF (by rw [lay, hr]) H2 (s1.trans s2)
      | some l =>
        dsimp only
        walk_at "w"
        refine ⟨rfl, ?_⟩
        walk_at "w"
        refine iteF ?_
        walk_at "sk"
        walk_at "s"
        obtain ⟨pl, ll⟩ := readW_plain hr
        rw [hr] at lay
        dsimp only at lay
        by_cases ok : Ok (.lf l)
        · refine ⟨c, S, l, rfl, hS2, by omega, .inl ⟨ok, cp, fun H' hS' k' => ?_⟩⟩
          walk_at "w"
          try dsimp only
          walk_at "w"
          rw [← hD]
          refine qT H' (.lf l) hS' ((Same.keepL _ (s1.trans s2)).trans k'.keepL) ?_
          by_cases hm : Tr.lf l ∈ S
          · exact .inr ⟨hm, by rw [lay, layT_no (fun y => y.2 hm)]⟩
          · exact .inl ⟨hm, by rw [lay, layT_ok ok hm]⟩
        · exact ⟨c, S, l, rfl, hS2, by omega, .inr ⟨ok, fun H' s' => qE (by rw [lay, layT_no (fun y => ok y.1)]) H' _ (.inr (.inl rfl)) ((s1.trans s2).trans s')⟩⟩
    · walk_at "w"
      exact other (fun z => hb (by rw [z.2]))
  · walk_at "w"
    exact other (fun z => hw (by rw [z.1]))
abbrev n_lies_anew : List Str := ["shelf", "row", "many", "found"]
theorem sc_lies_anew : FnScope n_lies_anew p_lies_anew (defScope s_lies_anew) := ⟨rfl, rfl, rfl, by decide +kernel, rfl, by decide +kernel, by decide +kernel⟩
theorem ok_lies_anew (T : Txt K mg A) : FnOk P w K mg base (L2.CX P w) 9 A.f_lies_anew A.d_lies_anew p_lies_anew (spLiesAnew A.C_Shelf) := by
  refine T.fn_lies_anew.okX sc_lies_anew (fun vs H Q E h => ?_) (fun cdv B outer s H vs Q E hr h => ?_)
  · obtain ⟨c, S, x, rfl, _⟩ := h; rfl
  obtain ⟨c, S, x, rfl, hS, xl, cp, q⟩ := h
  have hu := hu_of hr
  refine ⟨_, (pss_cons (ps_set (i := 2) sc_lies_anew.nd rfl (Or.inl rfl) (pe_meth0 (pv 0) T.cl_Shelf T.me_Shelf_many (ok_Shelf_many T) (hr.mono (by omega)) T.bi_Shelf_many .nil (passes_call (takes_of rfl rfl rfl rfl) (fun _ _ _ _ h => h))))
      (pss_cons (ps_tryM rfl rfl sc_lies_anew.nd (Hds.cons (.plain (test_tup5 ⟨rfl, by decide, .inl T.ex_NoText.g⟩ ⟨rfl, by decide, .inl T.ex_NoPiece.g⟩ ⟨rfl, by decide, .inl T.ex_Loose.g⟩ ⟨rfl, by decide, .inl T.ex_Unlevel.g⟩ ⟨rfl, by decide, .inl T.ex_TooLong.g⟩) (fun ea eo ec ed epn ez ef => by exact (pss_one (ps_ret pe_bl)))) Hds.nil) (takes_of rfl rfl rfl rfl) (fun W pn xe tk _ => by exact (pss_one (ps_set (i := 3) sc_lies_anew.nd rfl (Or.inl rfl) (pe_callS (ok_laid_by T) (hr.mono (by omega)) (by rfl) T.mg_laid_by T.fn_laid_by.kp T.bi_laid_by (fun σ => passAt tk σ) (by exact (pa_cons (pv 0) (pa_cons (pv 1) pa_nil))))))))
      (pss_one (ps_ret (pe_and (pv 3) (pe_one (pe_cmpR op_eq (pe_meth0 (pv 0) T.cl_Shelf T.me_Shelf_many (ok_Shelf_many T) (hr.mono (by omega)) T.bi_Shelf_many .nil (passes_call (takes_of rfl rfl rfl rfl) (fun _ _ _ _ h => h))) (pe_op op_add (pv 2) pe_int) (nomark _)))))))), ?_⟩
  walk_at "s"
  refine c_many hS ?_
  walk_at "nx"
  walk_at "s"
  have nomany : layRow S x = none → ∀ H', Same H H' → Q (.bl false) H' := fun e H' s' => by
    have := q H' (by rw [e]; exact hS.same s') (Same.keepL _ s')
    rw [e] at this
    exact this
  have caught : ∀ (X : Addr), X = A.C_NoPiece ∨ X = A.C_NoText ∨ X = A.C_Loose ∨ X = A.C_Unlevel ∨ X = A.C_TooLong → PySem.W.exmAny K (.ref X) [.ref A.C_NoText, .ref A.C_NoPiece, .ref A.C_Loose, .ref A.C_Unlevel, .ref A.C_TooLong] = some true := fun X h => by
    rcases h with rfl | rfl | rfl | rfl | rfl
    · exact (any_cons (exm_sub T.ex_NoText T.hx_NoText T.sb_NoPiece_NoText) (any_cons (exm_sub T.ex_NoPiece T.hx_NoPiece T.sb_NoPiece_NoPiece) (any_cons (exm_sub T.ex_Loose T.hx_Loose T.sb_NoPiece_Loose) (any_cons (exm_sub T.ex_Unlevel T.hx_Unlevel T.sb_NoPiece_Unlevel) (any_cons (exm_sub T.ex_TooLong T.hx_TooLong T.sb_NoPiece_TooLong) any_nil)))))
    · exact (any_cons (exm_sub T.ex_NoText T.hx_NoText T.sb_NoText_NoText) (any_cons (exm_sub T.ex_NoPiece T.hx_NoPiece T.sb_NoText_NoPiece) (any_cons (exm_sub T.ex_Loose T.hx_Loose T.sb_NoText_Loose) (any_cons (exm_sub T.ex_Unlevel T.hx_Unlevel T.sb_NoText_Unlevel) (any_cons (exm_sub T.ex_TooLong T.hx_TooLong T.sb_NoText_TooLong) any_nil)))))
    · exact (any_cons (exm_sub T.ex_NoText T.hx_NoText T.sb_Loose_NoText) (any_cons (exm_sub T.ex_NoPiece T.hx_NoPiece T.sb_Loose_NoPiece) (any_cons (exm_sub T.ex_Loose T.hx_Loose T.sb_Loose_Loose) (any_cons (exm_sub T.ex_Unlevel T.hx_Unlevel T.sb_Loose_Unlevel) (any_cons (exm_sub T.ex_TooLong T.hx_TooLong T.sb_Loose_TooLong) any_nil)))))
    · exact (any_cons (exm_sub T.ex_NoText T.hx_NoText T.sb_Unlevel_NoText) (any_cons (exm_sub T.ex_NoPiece T.hx_NoPiece T.sb_Unlevel_NoPiece) (any_cons (exm_sub T.ex_Loose T.hx_Loose T.sb_Unlevel_Loose) (any_cons (exm_sub T.ex_Unlevel T.hx_Unlevel T.sb_Unlevel_Unlevel) (any_cons (exm_sub T.ex_TooLong T.hx_TooLong T.sb_Unlevel_TooLong) any_nil)))))
    · exact (any_cons (exm_sub T.ex_NoText T.hx_NoText T.sb_TooLong_NoText) (any_cons (exm_sub T.ex_NoPiece T.hx_NoPiece T.sb_TooLong_NoPiece) (any_cons (exm_sub T.ex_Loose T.hx_Loose T.sb_TooLong_Loose) (any_cons (exm_sub T.ex_Unlevel T.hx_Unlevel T.sb_TooLong_Unlevel) (any_cons (exm_sub T.ex_TooLong T.hx_TooLong T.sb_TooLong_TooLong) any_nil)))))
  generalize hD : Ends.mk _ _ _ _ = D
  refine ⟨c, S, x, rfl, hS, xl, cp, fun e H' s' => ?_, fun H' t hS' k' hl => ?_, fun e H' X hX s' => ?_⟩
  · rw [← hD]
    refine w_gname ?_
    try dsimp only
    walk_at "W"
    refine iteF ?_
    exact nomany e H' s'
  · rw [← hD]
    refine w_gname ?_
    try dsimp only
    walk_at "W"
    refine iteT ?_
    walk_at "w"
    refine c_many hS' ?_
    walk_at "w"
    rcases hl with ⟨nt, e⟩ | ⟨mt, e⟩
    · have := q H' (by rw [e]; rw [put_new nt] at hS'; exact hS') k'
      rw [e] at this
      have ed : decide (((put S t).length : Int) = (S.length : Int) + 1) = true := by rw [put_new nt, List.length_append]; simp
      rw [ed]
      exact this
    · have := q H' (by rw [e]; rw [put_in mt] at hS'; exact hS') k'
      rw [e] at this
      have ed : decide (((put S t).length : Int) = (S.length : Int) + 1) = false := by rw [put_in mt]; exact decide_eq_false (by omega)
      rw [ed]
      exact this
  · refine ⟨true, caught X hX, fun _ a na => ?_, fun z => nomatch z⟩
    rw [← hD]
    walk_at "w"
    exact nomany e H' s'
abbrev n_read_shelf : List Str := ["plain", "shelf", "rows", "number", "row"]
theorem sc_read_shelf : FnScope n_read_shelf p_read_shelf (defScope s_read_shelf) := ⟨rfl, rfl, rfl, by decide +kernel, rfl, by decide +kernel, by decide +kernel⟩
theorem ok_read_shelf (T : Txt K mg A) : FnOk P w K mg base (L2.CX P w) 10 A.f_read_shelf A.d_read_shelf p_read_shelf (spReadSh A.C_Shelf) := by
  refine T.fn_read_shelf.okX sc_read_shelf (fun vs H Q E h => ?_) (fun cdv B outer s H vs Q E hr h => ?_)
  · obtain ⟨x, S, rfl, _⟩ := h; rfl
  obtain ⟨x, S, rfl, xl, ra, q⟩ := h
  have hu := hu_of hr
  refine ⟨_, (pss_cons (ps_set (i := 1) sc_read_shelf.nd rfl (Or.inl rfl) (pe_make0 T.mk_Shelf (ok_Shelf___init__ T) (hr.mono (by omega)) rfl T.mg_Shelf T.bi_Shelf___init__ .nil (passes_call (takes_of rfl rfl rfl rfl) (fun _ _ _ _ h => h))))
      (pss_cons (ps_set (i := 2) sc_read_shelf.nd rfl (Or.inl rfl) (pe_split (pv 0) pe_str))
      (pss_cons (ps_if (pt_cmpR op_eq (pv 0) pe_str (nomark _)) (pss_one (ps_set (i := 2) sc_read_shelf.nd rfl (Or.inl rfl) (pe_lst pa_nil))) pss_nil)
      (pss_cons (ps_for (passes_of rfl) rfl (pi_enum (by rfl) T.z_enumerate (pa_cons (pv 2) pa_nil)) (pg_tup rfl (pgs_cons (pg_name (i := 3) sc_read_shelf.nd rfl (Or.inl rfl)) (pgs_cons (pg_name (i := 4) sc_read_shelf.nd rfl (Or.inl rfl)) pgs_nil)))
      (pss_one (ps_if (pt_not (pt_val (pe_call (ok_lies_anew T) (hr.mono (by omega)) (by rfl) T.mg_lies_anew T.fn_lies_anew.kp T.bi_lies_anew .nil (passes_call (takes_of rfl rfl rfl rfl) (fun _ _ _ _ h => h)) (pa_cons (pv 1) (pa_cons (pv 4) pa_nil))))) (pss_one ps_never) pss_nil)))
      (pss_one (ps_ret (pv 1))))))), ?_⟩
  have hcl := cap_line
  have hcap : (cap : Nat) = 16000000 := rfl
  walk_at "s"
  refine c_new fun c H1 hS1 s1 fr1 => ?_
  walk_at "nx"
  walk_at "S"
  refine ⟨⟨_, rfl⟩, ?_⟩
  walk_at "W"
  rw [sT_lf]
  refine ⟨_, _, rfl, rfl, by decide, by rw [sT_len]; omega, fun L nL => ?_⟩
  rw [show Txt.split (sT x) (sT [10]) = (TL.spl [10] 0 [] x).map sT from SX.split_S (by decide) (by decide)]
  obtain ⟨H2, e2, s2, hL⟩ := new_of (o := .lst (((TL.spl [10] 0 [] x).map sT).map V.str)) nL
  rw [e2]
  walk_at "nx"
  walk_at "s"
  have hS2 := hS1.same s2
  have nrows : (rowsOf x).length ≤ 1000001 ∧ ∀ p ∈ rowsOf x, p.length ≤ 1000000 := by
    unfold rowsOf
    split
    · exact ⟨by simp, fun p hp => nomatch hp⟩
    · have key : ∀ (l acc : List Nat), (TL.spl [10] 0 acc l).length ≤ l.length + 1 ∧ ∀ p ∈ TL.spl [10] 0 acc l, p.length ≤ acc.length + l.length := by
        intro l
        induction l with
        | nil => intro acc; rw [TL.spl_nil]; exact ⟨by simp, fun p hp => by rw [List.mem_singleton] at hp; rw [hp]; omega⟩
        | cons d r ih =>
          intro acc
          by_cases hc : TL.pre [10] (d :: r) = true
          · rw [TL.spl_hit hc]
            obtain ⟨i1, i2⟩ := ih []
            simp only [List.length_singleton, Nat.sub_self] at i1 i2 ⊢
            refine ⟨by simp; omega, fun p hp => ?_⟩
            rcases List.mem_cons.mp hp with z | z
            · rw [z]; omega
            · have := i2 p z; simp at this ⊢; omega
          · rw [TL.spl_miss (by simpa using hc)]
            obtain ⟨i1, i2⟩ := ih (acc ++ [d])
            refine ⟨by simp; omega, fun p hp => ?_⟩
            have := i2 p hp
            simp at this ⊢; omega
      obtain ⟨k1, k2⟩ := key x []
      refine ⟨by omega, fun p hp => ?_⟩
      have := k2 p hp
      simp at this; omega
  generalize hD : Ends.mk _ _ _ _ = D
  have rest : ∀ (H' : Hp) (M : Addr), Same H2 H' → H' M = some (.lst (((rowsOf x).map sT).map V.str)) → M ∉ c.all → D.nx [some (.str (sT x)), some (.ref c.a), some (.ref M), none, none] H' := by
    intro H3 M s3 hM Mc
    rw [← hD]
    try dsimp only
    have hS3 := hS2.same s3
    walk_at "S"
    refine ⟨M, _, rfl, SqL.of hM, ?_⟩
    refine for_it walk_enum (fun i σ H' => ∃ (Si : List Tr) (x3 x4 : Option V), σ = [some (.str (sT x)), some (.ref c.a), some (.ref M), x3, x4] ∧ ShAt A.C_Shelf c H' Si ∧ Si.length ≤ i ∧ KeepL c.all H3 H' ∧ readAll i Si ((rowsOf x).drop i) = .ok S)
      ⟨[], _, _, rfl, hS3, Nat.le_refl _, KeepL.refl _ _, by rw [List.drop_zero]; exact ra⟩ (fun _ _ _ _ ⟨_, _, _, _, _, _, k, _⟩ => SqL.of (k _ _ Mc hM)) ?_ ?_
    · rintro i v σ H4 H5 hi ⟨Si, x3, x4, rfl, hS4, li, k4, inv⟩ ⟨Tp, u, y, rfl, nT, rfl, hu', hv'⟩
      have hi : i < (rowsOf x).length := by rw [List.length_map, List.length_map] at hi; exact hi
      dsimp only at hu' hv'
      cases hu'
      rw [List.getElem?_map, List.getElem?_map] at hv'
      obtain ⟨row, er⟩ := get_row hi
      rw [er] at hv'
      cases hv'
      obtain ⟨H5, e5, s5, hT⟩ := new_of (o := .tup [V.int (i : Nat), V.str (sT row)]) nT
      rw [e5]
      refine w_gtup (SqT.of hT) rfl (w_gcons (w_gname (w_gcons (w_gname (w_gnil ?_)))))
      walk_at "w"
      have hS5 := hS4.same s5
      refine ⟨c, Si, row, rfl, hS5, nrows.2 row (List.mem_of_getElem? er), by omega, fun H6 hS6 k6 => ?_⟩
      have dr : (rowsOf x).drop i = row :: (rowsOf x).drop (i + 1) := by
        rw [List.drop_eq_getElem_cons hi]
        congr 1
        rw [List.getElem?_eq_getElem hi] at er
        exact Option.some.inj er
      rw [dr] at inv
      cases e : layRow Si row with
      | none => unfold readAll at inv; rw [e] at inv; cases inv
      | some S' =>
        unfold readAll at inv
        rw [e] at inv
        dsimp only at inv
        rw [e] at hS6
        have hS6 : ShAt A.C_Shelf c H6 S' := hS6
        walk_at "w"
        refine iteF ?_
        walk_at "w"
        refine ⟨S', _, _, rfl, hS6, ?_, (k4.trans (Same.keepL _ s5)).trans k6, inv⟩
        have : S'.length = Si.length + 1 := lay_len e
        omega
    rintro σ H4 ⟨Si, x3, x4, rfl, hS4, li, k4, inv⟩
    rw [List.length_map, List.length_map, List.drop_eq_nil_of_le (Nat.le_refl _)] at inv
    have eS : Si = S := by unfold readAll at inv; cases inv; rfl
    subst eS
    dsimp only
    walk_at "w"
    refine q c H4 hS4 (fun b o e => ?_) fr1
    exact k4 b o (fun z => by rw [fr1 b z] at e; cases e) (s3 _ _ (s2 _ _ (s1 _ _ e)))
  walk_at "w"
  refine ite_d (fun hx => ?_) (fun hx => ?_)
  · have hx : x = [] := by
      have : sT x = sT [] := by rw [hx, ← str_empty]; decide +kernel
      exact sT_inj this
    walk_at "w"
    refine ⟨line_of (n := 0) rfl (by decide), fun M nM => ?_⟩
    obtain ⟨H3, e3, s3, hM⟩ := new_of (o := .lst []) nM
    rw [e3]
    walk_at "nx"
    exact rest H3 M s3 (by rw [hM]; unfold rowsOf; rw [if_pos hx]; rfl) (hS2.apart nM)
  · have hx : x ≠ [] := fun z => hx (by rw [z]; decide +kernel)
    walk_at "w"
    exact rest H2 L (Same.refl _) (by rw [hL]; unfold rowsOf; rw [if_neg hx]) (hS1.apart nL)
end

/-! ### the law's own -/
theorem str_leaf5 : ("leaf " : Str) = sT (leafW ++ [32]) := by decide +kernel
theorem str_fork5 : ("fork " : Str) = sT (forkW ++ [32]) := by decide +kernel
theorem num_sT {S : List Tr} {t : Tr} (h : t ∈ S) : (toString (num S t) : Str) = sT (TL.numL (num S t).toNat) := by
  have := (nm_num h).pos
  have e : num S t = (((num S t).toNat : Nat) : Int) := by omega
  rw [e, num_str]
  rfl
theorem rowOf_eq {S : List Tr} (g : Good S) {t : Tr} (h : t ∈ S) : rowOf S t = sT (rowL' S t) := by
  cases t with
  | lf l =>
    show ("leaf " : Str) ++ sT (W l) = _
    rw [str_leaf5, sT_app]
    show _ = sT (leafW ++ ([32] ++ W l))
    rw [List.append_assoc]
  | fk a b =>
    obtain ⟨ha, hb⟩ := g.parts h
    show (("fork " ++ (toString (num S a) : Str)) ++ " ") ++ (toString (num S b) : Str) = _
    rw [num_sT ha, num_sT hb, str_fork5, str_sp, sT_app, sT_app, sT_app]
    show _ = sT (forkW ++ ([32] ++ (TL.numL (num S a).toNat ++ ([32] ++ TL.numL (num S b).toNat))))
    simp only [List.append_assoc]
theorem rowL_len {S : List Tr} (g : Good S) (cp : S.length ≤ cap) {t : Tr} (h : t ∈ S) : (rowL' S t).length ≤ 40 := by
  have := rowOf_len g cp h
  rw [rowOf_eq g h, sT_len] at this
  exact this
theorem shelfTxt_eq {S : List Tr} (g : Good S) : shelfTxt S = sT (shTx S) := by
  unfold shelfTxt shTx
  have e : S.map (rowOf S) = (S.map (rowL' S)).map sT := by
    rw [List.map_map]
    exact List.map_congr_left fun t ht => rowOf_eq g ht
  rw [e, sT_lf]
  exact SX.join_S [10] (S.map (rowL' S))
theorem joinL_len {k : Nat} : ∀ ps : List (List Nat), (∀ p ∈ ps, p.length ≤ k) → (TL.joinL [10] ps).length ≤ ps.length * (k + 1)
  | [], _ => Nat.zero_le _
  | [p], h => by
    show p.length ≤ _
    have := h p (by simp)
    simp; omega
  | p :: q :: r, h => by
    show (p ++ ([10] ++ TL.joinL [10] (q :: r))).length ≤ _
    have := joinL_len (q :: r) fun x hx => h x (List.mem_cons_of_mem _ hx)
    have h1 := h p (by simp)
    rw [List.length_append, List.length_append, show (p :: q :: r).length * (k + 1) = (q :: r).length * (k + 1) + (k + 1) from Nat.succ_mul _ _]
    simp only [List.length_singleton]
    omega
theorem shTx_len {S : List Tr} (g : Good S) (cp : S.length ≤ cap) : (shTx S).length ≤ S.length * 41 := by
  have := joinL_len (k := 40) (S.map (rowL' S)) fun p hp => by
    obtain ⟨t, ht, rfl⟩ := List.mem_map.mp hp
    exact rowL_len g cp ht
  rw [List.length_map] at this
  exact this
theorem joinE_mem {c : Nat} : ∀ {ps : List (List Nat)}, c ∈ TL.joinL [] ps → ∃ p ∈ ps, c ∈ p
  | [], h => nomatch h
  | [p], h => ⟨p, by simp, h⟩
  | p :: q :: r, h => by
    have h : c ∈ p ++ ([] ++ TL.joinL [] (q :: r)) := h
    rw [List.nil_append, List.mem_append] at h
    rcases h with h | h
    · exact ⟨p, by simp, h⟩
    · obtain ⟨x, hx, hc⟩ := joinE_mem h
      exact ⟨x, List.mem_cons_of_mem _ hx, hc⟩
theorem joinE_len {k : Nat} : ∀ ps : List (List Nat), (∀ p ∈ ps, p.length ≤ k) → (TL.joinL [] ps).length ≤ ps.length * k
  | [], _ => Nat.zero_le _
  | [p], h => by
    show p.length ≤ _
    have := h p (by simp)
    simp; omega
  | p :: q :: r, h => by
    show (p ++ ([] ++ TL.joinL [] (q :: r))).length ≤ _
    have := joinE_len (q :: r) fun x hx => h x (List.mem_cons_of_mem _ hx)
    have h1 := h p (by simp)
    rw [List.length_append, List.nil_append, show (p :: q :: r).length * k = (q :: r).length * k + k from Nat.succ_mul _ _]
    omega
def spSameS (C : Addr) : Sp := fun vs H Q _ => ∃ (c c' : Cells) (S : List Tr), vs = [.ref c.a, .ref c'.a] ∧ ShAt C c H S ∧ ShAt C c' H S ∧ Q (.bl true) H
def spOther (C : Addr) : Sp := fun vs H Q _ => ∃ (c : Cells) (S : List Tr), vs = [.ref c.a] ∧ ShAt C c H S ∧ S.length ≤ 10000 ∧ ∀ H', Same H H' → Q (.str (sT (shTx (ord S)))) H'
def spLaw (K : PySem.W.Frag) : Sp := fun vs H Q _ => ∃ (a : Addr) (ns : List Int), vs = [.ref a] ∧ SqL K H a (ns.map V.int) ∧ ns.length ≤ 63 ∧ ∀ H', Q (.bl true) H'
section
variable {P : Program} {w : World} {K : PySem.W.Frag} {mg : Str → Option Value} {base : Heap} {A : Ad}
abbrev n__law_same : List Str := ["one", "other", "number"]
theorem sc__law_same : FnScope n__law_same p__law_same (defScope s__law_same) := ⟨rfl, rfl, rfl, by decide +kernel, rfl, by decide +kernel, by decide +kernel⟩
theorem ok__law_same (T : Txt K mg A) : FnOk P w K mg base (L2.CX P w) 3 A.f__law_same A.d__law_same p__law_same (spSameS A.C_Shelf) := by
  refine T.fn__law_same.okX sc__law_same (fun vs H Q E h => ?_) (fun cdv B outer s H vs Q E hr h => ?_)
  · obtain ⟨c, c', S, rfl, _⟩ := h; rfl
  obtain ⟨c, c', S, rfl, hS, hC, q⟩ := h
  have hu := hu_of hr
  refine ⟨_, (pss_cons (ps_if (pt_cmpR op_ne (pe_meth0 (pv 0) T.cl_Shelf T.me_Shelf_many (ok_Shelf_many T) (hr.mono (by omega)) T.bi_Shelf_many .nil (passes_call (takes_of rfl rfl rfl rfl) (fun _ _ _ _ h => h))) (pe_meth0 (pv 1) T.cl_Shelf T.me_Shelf_many (ok_Shelf_many T) (hr.mono (by omega)) T.bi_Shelf_many .nil (passes_call (takes_of rfl rfl rfl rfl) (fun _ _ _ _ h => h))) (nomark _)) (pss_one (ps_ret pe_bl)) pss_nil)
      (pss_cons (ps_for (passes_of rfl) rfl (pi_range2 (by rfl) T.z_range (pa_cons pe_int (pa_cons (pe_op op_add (pe_meth0 (pv 0) T.cl_Shelf T.me_Shelf_many (ok_Shelf_many T) (hr.mono (by omega)) T.bi_Shelf_many .nil (passes_call (takes_of rfl rfl rfl rfl) (fun _ _ _ _ h => h))) pe_int) pa_nil))) (pg_name (i := 2) sc__law_same.nd rfl (Or.inl rfl))
      (pss_cons (ps_if (PW.pt (pw_or (pt_cmpR (op_neD hr.units) (pe_meth (pv 0) T.cl_Shelf T.me_Shelf_piece (ok_Shelf_piece T) (hr.mono (by omega)) T.bi_Shelf_piece .nil (passes_call (takes_of rfl rfl rfl rfl) (fun _ _ _ _ h => h)) (pa_cons (pv 2) pa_nil)) (pe_meth (pv 1) T.cl_Shelf T.me_Shelf_piece (ok_Shelf_piece T) (hr.mono (by omega)) T.bi_Shelf_piece .nil (passes_call (takes_of rfl rfl rfl rfl) (fun _ _ _ _ h => h)) (pa_cons (pv 2) pa_nil)) (nomark _)) (pw_or1 (pt_cmpR op_ne (pe_meth (pv 0) T.cl_Shelf T.me_Shelf_signs (ok_Shelf_signs T) (hr.mono (by omega)) T.bi_Shelf_signs .nil (passes_call (takes_of rfl rfl rfl rfl) (fun _ _ _ _ h => h)) (pa_cons (pv 2) pa_nil)) (pe_meth (pv 1) T.cl_Shelf T.me_Shelf_signs (ok_Shelf_signs T) (hr.mono (by omega)) T.bi_Shelf_signs .nil (passes_call (takes_of rfl rfl rfl rfl) (fun _ _ _ _ h => h)) (pa_cons (pv 2) pa_nil)) (nomark _))))) (pss_one (ps_ret pe_bl)) pss_nil)
      (pss_cons (ps_if (PW.pt (pw_or (pt_cmpR op_ne (pe_meth (pv 0) T.cl_Shelf T.me_Shelf_ends (ok_Shelf_ends T) (hr.mono (by omega)) T.bi_Shelf_ends .nil (passes_call (takes_of rfl rfl rfl rfl) (fun _ _ _ _ h => h)) (pa_cons (pv 2) pa_nil)) (pe_meth (pv 1) T.cl_Shelf T.me_Shelf_ends (ok_Shelf_ends T) (hr.mono (by omega)) T.bi_Shelf_ends .nil (passes_call (takes_of rfl rfl rfl rfl) (fun _ _ _ _ h => h)) (pa_cons (pv 2) pa_nil)) (nomark _)) (pw_or1 (pt_cmpR op_ne (pe_meth (pv 0) T.cl_Shelf T.me_Shelf_leaves (ok_Shelf_leaves T) (hr.mono (by omega)) T.bi_Shelf_leaves .nil (passes_call (takes_of rfl rfl rfl rfl) (fun _ _ _ _ h => h)) (pa_cons (pv 2) pa_nil)) (pe_meth (pv 1) T.cl_Shelf T.me_Shelf_leaves (ok_Shelf_leaves T) (hr.mono (by omega)) T.bi_Shelf_leaves .nil (passes_call (takes_of rfl rfl rfl rfl) (fun _ _ _ _ h => h)) (pa_cons (pv 2) pa_nil)) (nomark _))))) (pss_one (ps_ret pe_bl)) pss_nil)
      (pss_cons (ps_if (PW.pt (pw_or (pt_cmpR op_ne (pe_meth (pv 0) T.cl_Shelf T.me_Shelf_height (ok_Shelf_height T) (hr.mono (by omega)) T.bi_Shelf_height .nil (passes_call (takes_of rfl rfl rfl rfl) (fun _ _ _ _ h => h)) (pa_cons (pv 2) pa_nil)) (pe_meth (pv 1) T.cl_Shelf T.me_Shelf_height (ok_Shelf_height T) (hr.mono (by omega)) T.bi_Shelf_height .nil (passes_call (takes_of rfl rfl rfl rfl) (fun _ _ _ _ h => h)) (pa_cons (pv 2) pa_nil)) (nomark _)) (pw_or1 (pt_cmpR op_ne (pe_meth (pv 0) T.cl_Shelf T.me_Shelf_first_leaf (ok_Shelf_first_leaf T) (hr.mono (by omega)) T.bi_Shelf_first_leaf .nil (passes_call (takes_of rfl rfl rfl rfl) (fun _ _ _ _ h => h)) (pa_cons (pv 2) pa_nil)) (pe_meth (pv 1) T.cl_Shelf T.me_Shelf_first_leaf (ok_Shelf_first_leaf T) (hr.mono (by omega)) T.bi_Shelf_first_leaf .nil (passes_call (takes_of rfl rfl rfl rfl) (fun _ _ _ _ h => h)) (pa_cons (pv 2) pa_nil)) (nomark _))))) (pss_one (ps_ret pe_bl)) pss_nil)
      (pss_one (ps_if (pt_cmpR op_ne (pe_meth (pv 0) T.cl_Shelf T.me_Shelf_last_leaf (ok_Shelf_last_leaf T) (hr.mono (by omega)) T.bi_Shelf_last_leaf .nil (passes_call (takes_of rfl rfl rfl rfl) (fun _ _ _ _ h => h)) (pa_cons (pv 2) pa_nil)) (pe_meth (pv 1) T.cl_Shelf T.me_Shelf_last_leaf (ok_Shelf_last_leaf T) (hr.mono (by omega)) T.bi_Shelf_last_leaf .nil (passes_call (takes_of rfl rfl rfl rfl) (fun _ _ _ _ h => h)) (pa_cons (pv 2) pa_nil)) (nomark _)) (pss_one (ps_ret pe_bl)) pss_nil))))))
      (pss_one (ps_ret pe_bl)))), ?_⟩
  have hcap : (cap : Nat) = 16000000 := rfl
  have cp := hS.cp
  walk_at "s"
  refine c_many hS ?_
  walk_at "w"
  refine c_many hC ?_
  walk_at "w"
  refine ite_d (fun z => (z rfl).elim) (fun _ => ?_)
  walk_at "sk"
  walk_at "s"
  refine c_many hS ?_
  walk_at "w"
  refine ⟨_, _, rfl, ⟨by decide, by decide, by omega, by omega⟩, ?_⟩
  have nS : ((S.length : Int) + 1 - 1).toNat = S.length := by omega
  refine for_it walk_range (fun i σ H' => ∃ x : Option V, σ = [some (.ref c.a), some (.ref c'.a), x] ∧ H = H') ⟨_, rfl, rfl⟩ (fun _ _ _ _ _ => trivial) ?_ ?_
  · rintro i x σ H2 H1 hi ⟨x2, rfl, rfl⟩ ⟨rfl, rfl⟩
    rw [nS] at hi
    have eu : S[i]? = some (S[i]'hi) := List.getElem?_eq_getElem hi
    generalize S[i]'hi = u at eu
    have nm : Nm S (1 + (i : Int)) u := ⟨i, eu, by omega⟩
    have ok := hS.gd.ok u nm.mem
    dsimp only
    refine w_gname ?_
    walk_at "s"
    refine c_piece hS nm fun pr hpr => ?_
    walk_at "w"
    refine c_piece hC nm fun pr2 hpr2 => ?_
    refine w_neSame (da_piece ok hpr) (da_piece ok hpr2) (by decide) ?_
    walk_at "w"
    refine iteF ?_
    walk_at "w"
    refine c_sgN hS nm ?_
    walk_at "w"
    refine c_sgN hC nm ?_
    walk_at "w"
    refine ite_d (fun z => (z rfl).elim) (fun _ => ?_)
    walk_at "sk"
    walk_at "s"
    refine c_enO hS (o := some u) nm ?_
    walk_at "w"
    refine c_enO hC (o := some u) nm ?_
    walk_at "w"
    refine ite_d (fun z => (z rfl).elim) (fun _ => ?_)
    walk_at "w"
    refine c_lvO hS (o := some u) nm ?_
    walk_at "w"
    refine c_lvO hC (o := some u) nm ?_
    walk_at "w"
    refine ite_d (fun z => (z rfl).elim) (fun _ => ?_)
    walk_at "sk"
    walk_at "s"
    refine c_htN hS nm ?_
    walk_at "w"
    refine c_htN hC nm ?_
    walk_at "w"
    refine ite_d (fun z => (z rfl).elim) (fun _ => ?_)
    walk_at "w"
    refine c_fiN hS nm ?_
    walk_at "w"
    refine c_fiN hC nm ?_
    walk_at "w"
    refine ite_d (fun z => (z rfl).elim) (fun _ => ?_)
    walk_at "sk"
    walk_at "w"
    refine c_laN hS nm ?_
    walk_at "w"
    refine c_laN hC nm ?_
    walk_at "w"
    refine ite_d (fun z => (z rfl).elim) (fun _ => ?_)
    walk_at "w"
    exact ⟨_, rfl, rfl⟩
  rintro σ H1 ⟨x2, rfl, rfl⟩
  dsimp only
  walk_at "w"
  exact q
abbrev n__law_other_order : List Str := ["shelf", "numbers", "rows", "number", "piece"]
theorem sc__law_other_order : FnScope n__law_other_order p__law_other_order (defScope s__law_other_order) := ⟨rfl, rfl, rfl, by decide +kernel, rfl, by decide +kernel, by decide +kernel⟩
theorem ok__law_other_order (T : Txt K mg A) : FnOk P w K mg base (L2.CX P w) 3 A.f__law_other_order A.d__law_other_order p__law_other_order (spOther A.C_Shelf) := by
  refine T.fn__law_other_order.okX sc__law_other_order (fun vs H Q E h => ?_) (fun cdv B outer s H vs Q E hr h => ?_)
  · obtain ⟨c, S, rfl, _⟩ := h; rfl
  obtain ⟨c, S, rfl, hS, cp, q⟩ := h
  have hu := hu_of hr
  refine ⟨_, (pss_cons (ps_set (i := 1) sc__law_other_order.nd rfl (Or.inl rfl) pe_dnewK)
      (pss_cons (ps_set (i := 2) sc__law_other_order.nd rfl (Or.inl rfl) (pe_lst pa_nil))
      (pss_cons (ps_for (passes_of rfl) rfl (pi_range3 (by rfl) T.z_range (pa_cons (pe_meth0 (pv 0) T.cl_Shelf T.me_Shelf_many (ok_Shelf_many T) (hr.mono (by omega)) T.bi_Shelf_many .nil (passes_call (takes_of rfl rfl rfl rfl) (fun _ _ _ _ h => h))) (pa_cons pe_int (pa_cons (pe_un un_neg pe_int) pa_nil)))) (pg_name (i := 3) sc__law_other_order.nd rfl (Or.inl rfl))
      (pss_cons (ps_set (i := 4) sc__law_other_order.nd rfl (Or.inl rfl) (pe_meth (pv 0) T.cl_Shelf T.me_Shelf_piece (ok_Shelf_piece T) (hr.mono (by omega)) T.bi_Shelf_piece .nil (passes_call (takes_of rfl rfl rfl rfl) (fun _ _ _ _ h => h)) (pa_cons (pv 3) pa_nil)))
      (pss_one (ps_if (pt_cmpR op_eq (pe_ix ix_tup (pv 4) pe_int (fun _ _ => rfl)) pe_str (nomark _)) (pss_cons (ps_expr (pe_bm PySem.F.plainAttrs_list PySem.F.slot_list_append PySem.F.type_list_append mt_append (pv 2) (pa_cons (pe_op op_add_str pe_str (pe_call (ok__law_written T) (hr.mono (by omega)) (by rfl) T.mg__law_written T.fn__law_written.kp T.bi__law_written .nil (passes_call (takes_of rfl rfl rfl rfl) (fun _ _ _ _ h => h)) (pa_cons (pe_ix ix_tup (pv 4) pe_int (fun _ _ => rfl)) pa_nil))) pa_nil)))
      (pss_one (ps_dput hu (pv 1) (pv 3) (pe_callB call_len_seq (by rfl) T.z_len bt_len (pa_cons (pv 2) pa_nil)) rfl))) pss_nil))))
      (pss_cons (ps_for (passes_of rfl) rfl (pi_range2 (by rfl) T.z_range (pa_cons pe_int (pa_cons (pe_op op_add (pe_meth0 (pv 0) T.cl_Shelf T.me_Shelf_many (ok_Shelf_many T) (hr.mono (by omega)) T.bi_Shelf_many .nil (passes_call (takes_of rfl rfl rfl rfl) (fun _ _ _ _ h => h))) pe_int) pa_nil))) (pg_name (i := 3) sc__law_other_order.nd rfl (Or.inl rfl))
      (pss_cons (ps_set (i := 4) sc__law_other_order.nd rfl (Or.inl rfl) (pe_meth (pv 0) T.cl_Shelf T.me_Shelf_piece (ok_Shelf_piece T) (hr.mono (by omega)) T.bi_Shelf_piece .nil (passes_call (takes_of rfl rfl rfl rfl) (fun _ _ _ _ h => h)) (pa_cons (pv 3) pa_nil)))
      (pss_one (ps_if (pt_cmpR op_eq (pe_ix ix_tup (pv 4) pe_int (fun _ _ => rfl)) pe_str (nomark _)) (pss_cons (ps_expr (pe_bm PySem.F.plainAttrs_list PySem.F.slot_list_append PySem.F.type_list_append mt_append (pv 2) (pa_cons (pe_op op_add_str (pe_op op_add_str (pe_op op_add_str pe_str (pe_callTy call_str_int (by rfl) T.z_str bt_str (pa_cons (pe_dget hu (pv 1) (pe_ix ix_tup (pv 4) pe_int (fun _ _ => rfl)) (fun _ _ => rfl)) pa_nil))) pe_str) (pe_callTy call_str_int (by rfl) T.z_str bt_str (pa_cons (pe_dget hu (pv 1) (pe_ix ix_tup (pv 4) pe_int (fun _ _ => rfl)) (fun _ _ => rfl)) pa_nil))) pa_nil)))
      (pss_one (ps_dput hu (pv 1) (pv 3) (pe_callB call_len_seq (by rfl) T.z_len bt_len (pa_cons (pv 2) pa_nil)) rfl))) pss_nil))))
      (pss_one (ps_ret (pe_join pe_str (pv 2)))))))), ?_⟩
  have hcl := cap_line
  have hcap : (cap : Nat) = 16000000 := rfl
  have gO := ord_good hS.gd
  have lO := ord_len S
  walk_at "s"
  refine fun D nD => ?_
  obtain ⟨H1, e1, s1, hD1⟩ := new_of (o := .dK []) nD
  rw [e1]
  walk_at "nx"
  walk_at "s"
  refine ⟨line_of (n := 0) rfl (by decide), fun R nR => ?_⟩
  obtain ⟨H2, e2, s2, hR2⟩ := new_of (o := .lst []) nR
  rw [e2]
  have s02 := s1.trans s2
  have hS2 := hS.same s02
  have hD2 := s2 _ _ hD1
  have DR : D ≠ R := ne_of_none hD1 nR
  have Dc : D ∉ c.all := hS.apart nD
  have Rc : R ∉ c.all := (hS.same s1).apart nR
  have sh : ∀ {H' : Hp}, KeepL [D, R] H2 H' → ShAt A.C_Shelf c H' S := fun k => hS2.keepL k (fun b hb => by
    simp only [List.mem_cons, List.not_mem_nil, or_false] at hb
    rcases hb with z | z
    · rw [z]; exact Dc
    · rw [z]; exact Rc) (fun b xs e => k b _ (by
    simp only [List.mem_cons, List.not_mem_nil, or_false, not_or]
    exact ⟨fun z => (by rw [z, hD2] at e; cases e), fun z => (by rw [z, hR2] at e; cases e)⟩) e)
  have st : ∀ {H' : Hp}, KeepL [D, R] H2 H' → Same H H' := fun k b o e => k b o (by
    simp only [List.mem_cons, List.not_mem_nil, or_false, not_or]
    exact ⟨ne_of_none e nD, ne_of_none (s1 _ _ e) nR⟩) (s02 _ _ e)
  obtain ⟨rw_, erw⟩ : ∃ f : List Tr → List V, f = fun L => (L.map (rowL' (ord S))).map fun x => V.str (sT x) := ⟨_, rfl⟩
  have rsnoc : ∀ L t, rw_ (L ++ [t]) = rw_ L ++ [V.str (sT (rowL' (ord S) t))] := fun L t => by rw [erw]; simp
  have rlen : ∀ L, (rw_ L).length = L.length := fun L => by rw [erw]; simp
  walk_at "nx"
  walk_at "s"
  refine c_many hS2 ?_
  walk_at "w"
  have rg : RgC (S.length : Int) 0 (-1) S.length := by
    have := RgC.neg (i := (S.length : Int)) (j := 0) (by omega) (by omega) (by omega) (by omega)
    rwa [show ((S.length : Int) - 0).toNat = S.length by omega] at this
  refine ⟨_, _, _, S.length, rfl, rg, ?_⟩
  refine for_it walk_rangeC (fun i σ H' => ∃ (kvs : List (Key × V)) (x3 x4 : Option V), σ = [some (.ref c.a), some (.ref D), some (.ref R), x3, x4] ∧ KeepL [D, R] H2 H' ∧ H' D = some (.dK kvs) ∧ H' R = some (.lst (rw_ (lvs (S.drop (S.length - i))))) ∧ Told S (lvs (S.drop (S.length - i))) kvs ∧ kvs.length ≤ i)
    ⟨[], _, _, rfl, KeepL.refl _ _, hD2, by rw [hR2, Nat.sub_zero, List.drop_eq_nil_of_le (Nat.le_refl _), erw]; rfl, (fun t ht => by rw [Nat.sub_zero, List.drop_eq_nil_of_le (Nat.le_refl _)] at ht; exact nomatch ht), Nat.le_refl _⟩ (fun _ _ _ _ _ => trivial) ?_ ?_
  · rintro i x σ H4 H3 hi ⟨kvs, x3, x4, rfl, k3, hD3, hR3, tl, kl⟩ ⟨rfl, rfl⟩
    obtain ⟨k, ek⟩ : ∃ k, k = S.length - i - 1 := ⟨_, rfl⟩
    have hk : k < S.length := by omega
    have eu : S[k]? = some (S[k]'hk) := List.getElem?_eq_getElem hk
    generalize S[k]'hk = u at eu
    have k1 : S.length - i = k + 1 := by omega
    have k2 : S.length - (i + 1) = k := by omega
    rw [k1] at hR3 tl
    have hS3 := sh k3
    have nm : Nm S ((S.length : Int) + (i : Int) * (-1)) u := ⟨k, eu, by omega⟩
    have en : (S.length : Int) + (i : Int) * (-1) = num S u := nm.num hS3.gd.nd
    rw [en] at nm
    dsimp only
    rw [en]
    refine w_gname ?_
    walk_at "s"
    refine c_piece hS3 nm fun pr hpr => ?_
    walk_at "nx"
    walk_at "w"
    have ld := lvs_drop eu
    cases u with
    | fk a b =>
      rw [if_neg (by simp [isLf])] at ld
      refine w_ixt (SqT.of hpr) (v := .str "fork") rfl ?_
      walk_at "w"
      refine ite_d (fun z => absurd z.symm leaf_ne_fork) (fun _ => ?_)
      walk_at "w"
      exact ⟨kvs, _, _, rfl, k3, hD3, by rw [k2, ld]; exact hR3, by rw [k2, ld]; exact tl, by omega⟩
    | lf l =>
      rw [if_pos (show isLf (.lf l) = true from rfl)] at ld
      have ol := hS3.gd.ok _ nm.mem
      refine w_ixt (SqT.of hpr) (v := .str "leaf") rfl ?_
      walk_at "w"
      refine ite_d (fun _ => ?_) (fun z => absurd rfl z)
      walk_at "s"
      refine ⟨.inl ⟨rfl, _, SqL.of hR3⟩, ?_⟩
      walk_at "w"
      refine w_ixt (SqT.of hpr) (v := .str (sT l)) rfl ?_
      walk_at "w"
      refine ⟨l, rfl, by have := ol.2.1; omega, fun H5 s5 => ?_⟩
      walk_at "w"
      rw [str_leaf5]
      have wl := W_len l
      have ll := ol.2.1
      refine ⟨_, _, rfl, rfl, by rw [sT_len, sT_len]; show leafW.length + 1 + _ ≤ _; have : leafW.length = 4 := rfl; omega, ?_⟩
      have er : sT (leafW ++ [32]) ++ sT (W l) = sT (rowL' (ord S) (.lf l)) := by
        rw [sT_app]
        show _ = sT (leafW ++ ([32] ++ W l))
        rw [List.append_assoc]
      rw [er]
      have lvl : (lvs (S.drop (k + 1))).length ≤ 10000 := by
        unfold lvs
        rw [List.length_reverse]
        have := List.length_filter_le isLf (S.drop (k + 1))
        rw [List.length_drop] at this
        omega
      have hR5 := s5 _ _ hR3
      refine ⟨R, _, _, rfl, rfl, hR5, by rw [rlen]; omega, ?_⟩
      try dsimp only
      rw [← rsnoc, ← ld]
      have kx : KeepL [D, R] H2 (upd H5 R (.lst (rw_ (lvs (S.drop k))))) := (k3.trans (Same.keepL _ s5)).trans (KeepL.upd (by simp))
      have hRx : upd H5 R (.lst (rw_ (lvs (S.drop k)))) R = some (.lst (rw_ (lvs (S.drop k)))) := upd_same
      have hDx : upd H5 R (.lst (rw_ (lvs (S.drop k)))) D = some (.dK kvs) := by rw [upd_ne DR]; exact s5 _ _ hD3
      generalize upd H5 R (.lst (rw_ (lvs (S.drop k)))) = H6 at kx hRx hDx ⊢
      walk_at "w"
      show tCB _ _ _ _ _
      walk_at "w"
      refine ⟨R, _, rfl, .inl (SqL.of hRx), ?_⟩
      walk_at "w"
      refine ⟨D, _, rfl, DPut.k (k := Sum.inl (num S (.lf l))) hDx (by omega), ?_⟩
      have tp := tl.put hS.gd (fun u hu => by
        unfold lvs at hu
        rw [List.mem_reverse, List.mem_filter] at hu
        exact List.mem_of_mem_drop hu.1) (List.mem_of_getElem? eu) (by rw [← ld]; exact lvs_ext k)
      have lrw : (rw_ (lvs (S.drop k))).length = (lvs (S.drop (k + 1))).length + 1 := by rw [rlen, ld, List.length_append]; rfl
      refine ⟨_, _, _, rfl, kx.trans (KeepL.upd (by simp)), upd_same, by rw [upd_ne DR.symm, k2]; exact hRx, ?_, Nat.le_trans putK_le (by omega)⟩
      rw [k2, lrw, ld]
      exact tp
  rintro σ H3 ⟨kvs, x3, x4, rfl, k3, hD3, hR3, tl, kl⟩
  rw [Nat.sub_self, List.drop_zero] at hR3 tl
  have hS3 := sh k3
  dsimp only
  walk_at "s"
  refine c_many hS3 ?_
  walk_at "w"
  refine ⟨_, _, rfl, ⟨by decide, by decide, by omega, by omega⟩, ?_⟩
  have nS : ((S.length : Int) + 1 - 1).toNat = S.length := by omega
  have lO' : (lvs S).length + (fks S).length = S.length := by
    have := ord_len S
    unfold ord at this
    rw [List.length_append] at this
    exact this
  refine for_it walk_range (fun i σ H' => ∃ (kvs : List (Key × V)) (x3 x4 : Option V), σ = [some (.ref c.a), some (.ref D), some (.ref R), x3, x4] ∧ KeepL [D, R] H2 H' ∧ H' D = some (.dK kvs) ∧ H' R = some (.lst (rw_ (lvs S ++ fks (S.take i)))) ∧ Told S (lvs S ++ fks (S.take i)) kvs ∧ kvs.length ≤ S.length + i)
    ⟨kvs, _, _, rfl, k3, hD3, by rw [hR3]; simp [fks], (by simpa [fks] using tl), by omega⟩ (fun _ _ _ _ _ => trivial) ?_ ?_
  · rintro i x σ H5 H4 hi ⟨kvs, x3, x4, rfl, k4, hD4, hR4, tl, kl⟩ ⟨rfl, rfl⟩
    rw [nS] at hi
    have hS4 := sh k4
    have eu : S[i]? = some (S[i]'hi) := List.getElem?_eq_getElem hi
    generalize S[i]'hi = u at eu
    have nm : Nm S (1 + (i : Int)) u := ⟨i, eu, by omega⟩
    have en : 1 + (i : Int) = num S u := nm.num hS4.gd.nd
    rw [en] at nm
    dsimp only
    rw [en]
    refine w_gname ?_
    walk_at "s"
    refine c_piece hS4 nm fun pr hpr => ?_
    walk_at "nx"
    walk_at "w"
    have ft := fks_take eu
    cases u with
    | lf l =>
      rw [if_pos (show isLf (.lf l) = true from rfl)] at ft
      refine w_ixt (SqT.of hpr) (v := .str "leaf") rfl ?_
      walk_at "w"
      refine ite_d (fun z => absurd z leaf_ne_fork) (fun _ => ?_)
      walk_at "w"
      exact ⟨kvs, _, _, rfl, k4, hD4, by rw [ft]; exact hR4, by rw [ft]; exact tl, by omega⟩
    | fk a b =>
      rw [if_neg (by simp [isLf])] at ft
      obtain ⟨⟨ja, jal, ea⟩, ⟨jb, jbl, eb⟩⟩ := hS.gd.pr i a b eu
      have inR : ∀ {v : Tr} {j : Nat}, j < i → S[j]? = some v → v ∈ lvs S ++ fks (S.take i) := fun {v j} hj ev => by
        have ms := List.mem_of_getElem? ev
        rw [List.mem_append]
        cases e : isLf v with
        | true => exact .inl (by unfold lvs; rw [List.mem_reverse, List.mem_filter]; exact ⟨ms, e⟩)
        | false => exact .inr (by
            unfold fks
            rw [List.mem_filter]
            exact ⟨List.mem_of_getElem? (i := j) (by rw [List.getElem?_take_of_lt hj]; exact ev), by rw [e]; rfl⟩)
      have ta := tl a (inR jal ea)
      have tb := tl b (inR jbl eb)
      have mS := List.mem_of_getElem? eu
      obtain ⟨maS, mbS⟩ := hS.gd.parts mS
      have oa := mem_ord.mpr maS
      have ob := mem_ord.mpr mbS
      have pa := (nm_num oa).pos
      have pb := (nm_num ob).pos
      rw [lO] at pa pb
      have na := num_len (n := num (ord S) a) (by omega) (by omega)
      have nb := num_len (n := num (ord S) b) (by omega) (by omega)
      refine w_ixt (SqT.of hpr) (v := .str "fork") rfl ?_
      walk_at "w"
      refine ite_d (fun _ => ?_) (fun z => absurd rfl z)
      walk_at "s"
      refine ⟨.inl ⟨rfl, _, SqL.of hR4⟩, ?_⟩
      walk_at "w"
      refine ⟨_, rfl, ?_⟩
      refine w_op (w_varx ⟨_, rfl, w_c ?_⟩)
      refine w_ixt (SqT.of hpr) (v := .int (num S a)) rfl ?_
      refine ⟨D, _, rfl, by have := DGet.k (k := Sum.inl (num S a)) hD4; rw [ta] at this; exact this, ?_⟩
      walk_at "w"
      refine ⟨_, rfl, na.2, ?_⟩
      walk_at "w"
      have lf5 : (("fork " : Str)).length = 5 := by decide +kernel
      have l1 : ((" " : Str)).length = 1 := by decide +kernel
      refine ⟨_, _, rfl, rfl, by rw [lf5]; omega, ?_⟩
      walk_at "w"
      refine ⟨_, _, rfl, rfl, by rw [app_len, lf5, l1]; omega, ?_⟩
      walk_at "w"
      refine ⟨_, rfl, ?_⟩
      refine w_op (w_varx ⟨_, rfl, w_c ?_⟩)
      refine w_ixt (SqT.of hpr) (v := .int (num S b)) rfl ?_
      refine ⟨D, _, rfl, by have := DGet.k (k := Sum.inl (num S b)) hD4; rw [tb] at this; exact this, ?_⟩
      walk_at "w"
      refine ⟨_, rfl, nb.2, ?_⟩
      walk_at "w"
      refine ⟨_, _, rfl, rfl, by rw [app_len, app_len, lf5, l1]; omega, ?_⟩
      have er : ((("fork " : Str) ++ (toString (num (ord S) a) : Str)) ++ (" " : Str)) ++ (toString (num (ord S) b) : Str) = sT (rowL' (ord S) (.fk a b)) := rowOf_eq (S := ord S) gO (t := .fk a b) (mem_ord.mpr mS)
      rw [er]
      have ext := fks_ext (S := S) (i + 1)
      rw [ft, ← List.append_assoc] at ext
      have fkl : (lvs S ++ fks (S.take i)).length ≤ S.length := by
        have := ext.length_le
        rw [List.length_append, lO] at this
        simp at this; simp; omega
      refine ⟨R, _, _, rfl, rfl, hR4, by rw [rlen]; omega, ?_⟩
      try dsimp only
      rw [← rsnoc]
      obtain ⟨N, eN⟩ : ∃ N, N = lvs S ++ fks (S.take i) := ⟨_, rfl⟩
      rw [← eN]
      rw [← eN] at tl ext fkl
      have kx : KeepL [D, R] H2 (upd H4 R (.lst (rw_ (N ++ [.fk a b])))) := k4.trans (KeepL.upd (by simp))
      have hRx : upd H4 R (.lst (rw_ (N ++ [.fk a b]))) R = some (.lst (rw_ (N ++ [.fk a b]))) := upd_same
      have hDx : upd H4 R (.lst (rw_ (N ++ [.fk a b]))) D = some (.dK kvs) := by rw [upd_ne DR]; exact hD4
      generalize upd H4 R (.lst (rw_ (N ++ [.fk a b]))) = H6 at kx hRx hDx ⊢
      walk_at "w"
      show tCB _ _ _ _ _
      walk_at "w"
      refine ⟨R, _, rfl, .inl (SqL.of hRx), ?_⟩
      walk_at "w"
      refine ⟨D, _, rfl, DPut.k (k := Sum.inl (num S (.fk a b))) hDx (by omega), ?_⟩
      have tp := tl.put hS.gd (fun u hu => mem_ord.mp (ext.subset (List.mem_append_left _ hu))) mS ext
      have lrw : (rw_ (N ++ [.fk a b])).length = N.length + 1 := by rw [rlen, List.length_append]; rfl
      refine ⟨_, _, _, rfl, kx.trans (KeepL.upd (by simp)), upd_same, by rw [upd_ne DR.symm, ft, ← List.append_assoc, ← eN]; exact hRx, ?_, Nat.le_trans putK_le (by omega)⟩
      rw [ft, ← List.append_assoc, ← eN, lrw]
      exact tp
  rintro σ H4 ⟨kvs, x3, x4, rfl, k4, hD4, hR4, tl, kl⟩
  rw [nS, List.take_length] at hR4
  dsimp only
  walk_at "W"
  refine ⟨⟨_, rfl⟩, ?_⟩
  walk_at "W"
  have eo : rw_ (lvs S ++ fks S) = (((ord S).map (rowL' (ord S))).map sT).map V.str := by
    rw [erw]
    show ((ord S).map _).map _ = _
    rw [List.map_map, List.map_map, List.map_map]; rfl
  rw [eo] at hR4
  refine ⟨_, R, _, rfl, rfl, .inl (SqL.of hR4), ?_, ?_⟩
  · have := rows_fit gO (by omega)
    have e : (ord S).map (rowOf (ord S)) = ((ord S).map (rowL' (ord S))).map sT := by
      rw [List.map_map]
      exact List.map_congr_left fun t ht => rowOf_eq gO ht
    rw [e] at this
    exact this
  · have := shelfTxt_eq gO
    unfold shelfTxt at this
    have e : (ord S).map (rowOf (ord S)) = ((ord S).map (rowL' (ord S))).map sT := by
      rw [List.map_map]
      exact List.map_congr_left fun t ht => rowOf_eq gO ht
    rw [e] at this
    rw [this]
    exact q H4 (st k4)
abbrev n_law : List Str := ["script", "empty", "shelf", "row", "far", "text", "many", "found", "number", "piece", "plain", "other", "turned", "k"]
theorem sc_law : FnScope n_law p_law (defScope s_law) := ⟨rfl, rfl, rfl, by decide +kernel, rfl, by decide +kernel, by decide +kernel⟩
theorem ok_law (T : Txt K mg A) : FnOk P w K mg base (L2.CX P w) 21 A.f_law A.d_law p_law (spLaw K) := by
  refine T.fn_law.okX sc_law (fun vs H Q E h => ?_) (fun cdv B outer s H vs Q E hr h => ?_)
  · obtain ⟨a, ns, rfl, _⟩ := h; rfl
  obtain ⟨a, ns, rfl, hs, hl, q⟩ := h
  have hu := hu_of hr
  refine ⟨_, (pss_cons (ps_set (i := 1) sc_law.nd rfl (Or.inl rfl) (pe_call (ok_read_shelf T) (hr.mono (by omega)) (by rfl) T.mg_read_shelf T.fn_read_shelf.kp T.bi_read_shelf .nil (passes_call (takes_of rfl rfl rfl rfl) (fun _ _ _ _ h => h)) (pa_cons pe_str pa_nil)))
      (pss_cons (ps_if (PW.pt (pw_or (pt_not (pt_val (pe_callB call_isi (by rfl) T.z_isinstance bt_isinstance (pa_cons (pv 1) (pa_cons (pe_glob (v := .ref A.C_Shelf) rfl T.mg_Shelf rfl) pa_nil))))) (pw_or1 (pt_cmpR op_ne (pe_meth0 (pv 1) T.cl_Shelf T.me_Shelf_many (ok_Shelf_many T) (hr.mono (by omega)) T.bi_Shelf_many .nil (passes_call (takes_of rfl rfl rfl rfl) (fun _ _ _ _ h => h))) pe_int (nomark _))))) (pss_one (ps_ret pe_bl)) pss_nil)
      (pss_cons (ps_set (i := 2) sc_law.nd rfl (Or.inl rfl) (pe_call (ok__law_drawn_shelf T) (hr.mono (by omega)) (by rfl) T.mg__law_drawn_shelf T.fn__law_drawn_shelf.kp T.bi__law_drawn_shelf .nil (passes_call (takes_of rfl rfl rfl rfl) (fun _ _ _ _ h => h)) (pa_cons (pv 0) pa_nil)))
      (pss_cons (ps_set (i := 3) sc_law.nd rfl (Or.inl rfl) (pe_call (ok__law_stream T) (hr.mono (by omega)) (by rfl) T.mg__law_stream T.fn__law_stream.kp T.bi__law_stream .nil (passes_call (takes_of rfl rfl rfl rfl) (fun _ _ _ _ h => h)) (pa_cons (pv 0) (pa_cons pe_int pa_nil))))
      (pss_cons (ps_if (pt_cmpR op_eq (pe_call (ok__law_digit T) (hr.mono (by omega)) (by rfl) T.mg__law_digit T.fn__law_digit.kp T.bi__law_digit .nil (passes_call (takes_of rfl rfl rfl rfl) (fun _ _ _ _ h => h)) (pa_cons (pv 3) (pa_cons pe_int pa_nil))) pe_int (nomark _)) (pss_cons (ps_set (i := 4) sc_law.nd rfl (Or.inr rfl) (pe_call (ok__law_digit T) (hr.mono (by omega)) (by rfl) T.mg__law_digit T.fn__law_digit.kp T.bi__law_digit .nil (passes_call (takes_of rfl rfl rfl rfl) (fun _ _ _ _ h => h)) (pa_cons (pv 3) (pa_cons (pe_op op_pow pe_int pe_int) pa_nil))))
      (pss_one (ps_expr (pe_call (ok_built T) (hr.mono (by omega)) (by rfl) T.mg_built T.fn_built.kp T.bi_built .nil (passes_call (takes_of rfl rfl rfl rfl) (fun _ _ _ _ h => h)) (pa_cons (pv 2) (pa_cons (pe_join pe_str (pe_lc (own := [("k", 13)]) (g := gName 13) (tt := tYes) rfl sc_law.nd (pi_range1 (by rfl) T.z_range (pa_cons pe_int pa_nil)) (blkOk_by (own := [("k", 13)]) (N := n_law) (sc := defScope s_law) (by decide +kernel)) (fun _ _ _ _ _ => (pg_name (i := 13) sc_law.nd rfl (Or.inl rfl))) (fun _ _ _ _ _ => pts_nil) (fun _ _ _ _ _ => (pe_callTy call_str_int (by rfl) T.z_str bt_str (pa_cons (pe_op op_add (pe_op op_add (pe_op op_pow pe_int pe_int) (pe_op op_mulW pe_int (pv 13))) (pv 4)) pa_nil))))) pa_nil)))))) pss_nil)
      (pss_cons (ps_set (i := 5) sc_law.nd rfl (Or.inl rfl) (pe_call (ok_shelf_text T) (hr.mono (by omega)) (by rfl) T.mg_shelf_text T.fn_shelf_text.kp T.bi_shelf_text .nil (passes_call (takes_of rfl rfl rfl rfl) (fun _ _ _ _ h => h)) (pa_cons (pv 2) pa_nil)))
      (pss_cons (ps_if (pt_cmpR op_ne (pv 5) (pe_call (ok__law_shelf_text T) (hr.mono (by omega)) (by rfl) T.mg__law_shelf_text T.fn__law_shelf_text.kp T.bi__law_shelf_text .nil (passes_call (takes_of rfl rfl rfl rfl) (fun _ _ _ _ h => h)) (pa_cons (pv 2) pa_nil)) (nomark _)) (pss_one (ps_ret pe_bl)) pss_nil)
      (pss_cons (ps_set (i := 6) sc_law.nd rfl (Or.inl rfl) (pe_meth0 (pv 2) T.cl_Shelf T.me_Shelf_many (ok_Shelf_many T) (hr.mono (by omega)) T.bi_Shelf_many .nil (passes_call (takes_of rfl rfl rfl rfl) (fun _ _ _ _ h => h))))
      (pss_cons (ps_set (i := 7) sc_law.nd rfl (Or.inl rfl) (pe_call (ok_read_shelf T) (hr.mono (by omega)) (by rfl) T.mg_read_shelf T.fn_read_shelf.kp T.bi_read_shelf .nil (passes_call (takes_of rfl rfl rfl rfl) (fun _ _ _ _ h => h)) (pa_cons (pv 5) pa_nil)))
      (pss_cons (ps_if (PW.pt (pw_or (pt_not (pt_val (pe_callB call_isi (by rfl) T.z_isinstance bt_isinstance (pa_cons (pv 7) (pa_cons (pe_glob (v := .ref A.C_Shelf) rfl T.mg_Shelf rfl) pa_nil))))) (pw_or (pt_not (pt_val (pe_call (ok__law_same T) (hr.mono (by omega)) (by rfl) T.mg__law_same T.fn__law_same.kp T.bi__law_same .nil (passes_call (takes_of rfl rfl rfl rfl) (fun _ _ _ _ h => h)) (pa_cons (pv 2) (pa_cons (pv 7) pa_nil))))) (pw_or1 (pt_cmpR op_ne (pe_call (ok_shelf_text T) (hr.mono (by omega)) (by rfl) T.mg_shelf_text T.fn_shelf_text.kp T.bi_shelf_text .nil (passes_call (takes_of rfl rfl rfl rfl) (fun _ _ _ _ h => h)) (pa_cons (pv 7) pa_nil)) (pv 5) (nomark _)))))) (pss_one (ps_ret pe_bl)) pss_nil)
      (pss_cons (ps_for (passes_of rfl) rfl (pi_range2 (by rfl) T.z_range (pa_cons pe_int (pa_cons (pe_op op_add (pv 6) pe_int) pa_nil))) (pg_name (i := 8) sc_law.nd rfl (Or.inl rfl))
      (pss_cons (ps_set (i := 9) sc_law.nd rfl (Or.inl rfl) (pe_meth (pv 2) T.cl_Shelf T.me_Shelf_piece (ok_Shelf_piece T) (hr.mono (by omega)) T.bi_Shelf_piece .nil (passes_call (takes_of rfl rfl rfl rfl) (fun _ _ _ _ h => h)) (pa_cons (pv 8) pa_nil)))
      (pss_cons (ps_if (PW.pt (pw_and (pt_cmpR op_eq (pe_ix ix_tup (pv 9) pe_int (fun _ _ => rfl)) pe_str (nomark _)) (pw_and1 (pt_cmpR op_ne (pe_meth (pv 7) T.cl_Shelf T.me_Shelf_leaf (ok_Shelf_leaf T) (hr.mono (by omega)) T.bi_Shelf_leaf .nil (passes_call (takes_of rfl rfl rfl rfl) (fun _ _ _ _ h => h)) (pa_cons (pe_ix ix_tup (pv 9) pe_int (fun _ _ => rfl)) pa_nil)) (pv 8) (nomark _))))) (pss_one (ps_ret pe_bl)) pss_nil)
      (pss_one (ps_if (PW.pt (pw_and (pt_cmpR op_eq (pe_ix ix_tup (pv 9) pe_int (fun _ _ => rfl)) pe_str (nomark _)) (pw_and1 (pt_cmpR op_ne (pe_meth (pv 7) T.cl_Shelf T.me_Shelf_fork (ok_Shelf_fork T) (hr.mono (by omega)) T.bi_Shelf_fork .nil (passes_call (takes_of rfl rfl rfl rfl) (fun _ _ _ _ h => h)) (pa_cons (pe_ix ix_tup (pv 9) pe_int (fun _ _ => rfl)) (pa_cons (pe_ix ix_tup (pv 9) pe_int (fun _ _ => rfl)) pa_nil))) (pv 8) (nomark _))))) (pss_one (ps_ret pe_bl)) pss_nil)))))
      (pss_cons (ps_expr (pe_meth (pv 7) T.cl_Shelf T.me_Shelf_leaf (ok_Shelf_leaf T) (hr.mono (by omega)) T.bi_Shelf_leaf .nil (passes_call (takes_of rfl rfl rfl rfl) (fun _ _ _ _ h => h)) (pa_cons pe_str pa_nil)))
      (pss_cons (ps_for (passes_of rfl) rfl (pi_list (pe_lst (pa_cons pe_str (pa_cons pe_str (pa_cons pe_str (pa_cons pe_str pa_nil)))))) (pg_name (i := 10) sc_law.nd rfl (Or.inl rfl))
      (pss_one (ps_expr (pe_meth (pv 7) T.cl_Shelf T.me_Shelf_leaf (ok_Shelf_leaf T) (hr.mono (by omega)) T.bi_Shelf_leaf .nil (passes_call (takes_of rfl rfl rfl rfl) (fun _ _ _ _ h => h)) (pa_cons (pv 10) pa_nil)))))
      (pss_cons (ps_if (PW.pt (pw_or (pt_cmpR op_ne (pe_meth0 (pe_call (ok_read_shelf T) (hr.mono (by omega)) (by rfl) T.mg_read_shelf T.fn_read_shelf.kp T.bi_read_shelf .nil (passes_call (takes_of rfl rfl rfl rfl) (fun _ _ _ _ h => h)) (pa_cons (pe_call (ok_shelf_text T) (hr.mono (by omega)) (by rfl) T.mg_shelf_text T.fn_shelf_text.kp T.bi_shelf_text .nil (passes_call (takes_of rfl rfl rfl rfl) (fun _ _ _ _ h => h)) (pa_cons (pv 7) pa_nil)) pa_nil)) T.cl_Shelf T.me_Shelf_many (ok_Shelf_many T) (hr.mono (by omega)) T.bi_Shelf_many .nil (passes_call (takes_of rfl rfl rfl rfl) (fun _ _ _ _ h => h))) (pe_meth0 (pv 7) T.cl_Shelf T.me_Shelf_many (ok_Shelf_many T) (hr.mono (by omega)) T.bi_Shelf_many .nil (passes_call (takes_of rfl rfl rfl rfl) (fun _ _ _ _ h => h))) (nomark _)) (pw_or1 (pt_not (pt_val (pe_call (ok__law_same T) (hr.mono (by omega)) (by rfl) T.mg__law_same T.fn__law_same.kp T.bi__law_same .nil (passes_call (takes_of rfl rfl rfl rfl) (fun _ _ _ _ h => h)) (pa_cons (pv 7) (pa_cons (pe_call (ok_read_shelf T) (hr.mono (by omega)) (by rfl) T.mg_read_shelf T.fn_read_shelf.kp T.bi_read_shelf .nil (passes_call (takes_of rfl rfl rfl rfl) (fun _ _ _ _ h => h)) (pa_cons (pe_call (ok_shelf_text T) (hr.mono (by omega)) (by rfl) T.mg_shelf_text T.fn_shelf_text.kp T.bi_shelf_text .nil (passes_call (takes_of rfl rfl rfl rfl) (fun _ _ _ _ h => h)) (pa_cons (pv 7) pa_nil)) pa_nil)) pa_nil)))))))) (pss_one (ps_ret pe_bl)) pss_nil)
      (pss_cons (ps_if (PW.pt (pw_or (pt_cmpR op_ne (pe_meth0 (pv 2) T.cl_Shelf T.me_Shelf_many (ok_Shelf_many T) (hr.mono (by omega)) T.bi_Shelf_many .nil (passes_call (takes_of rfl rfl rfl rfl) (fun _ _ _ _ h => h))) (pv 6) (nomark _)) (pw_or1 (pt_cmpR op_ne (pe_call (ok__law_shelf_text T) (hr.mono (by omega)) (by rfl) T.mg__law_shelf_text T.fn__law_shelf_text.kp T.bi__law_shelf_text .nil (passes_call (takes_of rfl rfl rfl rfl) (fun _ _ _ _ h => h)) (pa_cons (pv 2) pa_nil)) (pv 5) (nomark _))))) (pss_one (ps_ret pe_bl)) pss_nil)
      (pss_cons (ps_if (pt_cmpR op_gt (pe_callB call_len_str (by rfl) T.z_len bt_len (pa_cons (pv 5) pa_nil)) pe_int (nomark _)) (pss_one (ps_ret (pe_cmpR op_eq (pe_meth0 (pv 1) T.cl_Shelf T.me_Shelf_many (ok_Shelf_many T) (hr.mono (by omega)) T.bi_Shelf_many .nil (passes_call (takes_of rfl rfl rfl rfl) (fun _ _ _ _ h => h))) pe_int (nomark _)))) pss_nil)
      (pss_cons (ps_set (i := 11) sc_law.nd rfl (Or.inl rfl) (pe_call (ok__law_other_order T) (hr.mono (by omega)) (by rfl) T.mg__law_other_order T.fn__law_other_order.kp T.bi__law_other_order .nil (passes_call (takes_of rfl rfl rfl rfl) (fun _ _ _ _ h => h)) (pa_cons (pv 2) pa_nil)))
      (pss_cons (ps_set (i := 12) sc_law.nd rfl (Or.inl rfl) (pe_call (ok_read_shelf T) (hr.mono (by omega)) (by rfl) T.mg_read_shelf T.fn_read_shelf.kp T.bi_read_shelf .nil (passes_call (takes_of rfl rfl rfl rfl) (fun _ _ _ _ h => h)) (pa_cons (pv 11) pa_nil)))
      (pss_one (ps_ret (pe_and (pe_cmpR op_eq (pe_meth0 (pv 12) T.cl_Shelf T.me_Shelf_many (ok_Shelf_many T) (hr.mono (by omega)) T.bi_Shelf_many .nil (passes_call (takes_of rfl rfl rfl rfl) (fun _ _ _ _ h => h))) (pv 6) (nomark _)) (pe_and (pe_cmpR op_eq (pe_call (ok_shelf_text T) (hr.mono (by omega)) (by rfl) T.mg_shelf_text T.fn_shelf_text.kp T.bi_shelf_text .nil (passes_call (takes_of rfl rfl rfl rfl) (fun _ _ _ _ h => h)) (pa_cons (pv 12) pa_nil)) (pv 11) (nomark _)) (pe_one (pe_cmpR op_eq (pe_meth0 (pv 1) T.cl_Shelf T.me_Shelf_many (ok_Shelf_many T) (hr.mono (by omega)) T.bi_Shelf_many .nil (passes_call (takes_of rfl rfl rfl rfl) (fun _ _ _ _ h => h))) pe_int (nomark _))))))))))))))))))))))))), ?_⟩
  have hcl := cap_line
  have hcap : (cap : Nat) = 16000000 := rfl
  walk_at "s"
  rw [sT_nil]
  refine ⟨[], [], rfl, by simp, (by rw [show rowsOf [] = [] from rfl]; rfl), fun c0 H1 hE1 s1 f1 => ?_⟩
  walk_at "nx"
  walk_at "S"
  refine ⟨_, _, _, _, true, rfl, .own _, .base (.ins hE1.ob T.cl_Shelf T.ic_Shelf.ha T.ic_Shelf.hn T.ic_Shelf.ht T.ic_Shelf.hm), kit_self, ?_⟩
  walk_at "W"
  refine iteF ?_
  walk_at "W"
  refine c_many hE1 ?_
  walk_at "w"
  refine ite_d (fun z => (z rfl).elim) (fun _ => ?_)
  walk_at "sk"
  walk_at "s"
  refine ⟨a, ns, rfl, s1.seq hs, hl, fun c S2 H2 hS2 l2 s2 f2 => ?_⟩
  have hE2 := hE1.same s2
  have dE : ∀ b ∈ c.all, b ∉ c0.all := hE1.disj f2
  walk_at "nx"
  walk_at "s"
  refine ⟨a, ns, 4, rfl, (s1.trans s2).seq hs, hl, by decide, by decide, fun H3 r n s3 nr hr3 n0 => ?_⟩
  have hS3 := hS2.same s3
  have hE3 := hE2.same s3
  have rc : r ∉ c.all := hS2.apart nr
  have rE : r ∉ c0.all := hE2.apart nr
  walk_at "nx"
  walk_at "s"
  refine c_digit hr3 n0 (by decide) (by decide) fun d n4 d0 d1 n40 => ?_
  have hS4 := hS3.digit hr3 rc (ys := [.int n4])
  have hE4 := hE3.digit hr3 rE (ys := [.int n4])
  have hr4 : upd H3 r (.lst [.int n4]) r = some (.lst [.int n4]) := upd_same
  generalize upd H3 r (.lst [.int n4]) = H4 at hS4 hE4 hr4 ⊢
  generalize hD : Ends.mk _ _ _ _ = D
  have rest : ∀ (H' : Hp) (S : List Tr) (x4 : Option V), ShAt A.C_Shelf c H' S → S.length ≤ 4000 → ShAt A.C_Shelf c0 H' [] → D.nx [some (.ref a), some (.ref c0.a), some (.ref c.a), some (.ref r), x4, none, none, none, none, none, none, none, none, none] H' := by
    intro H5 S x4 hS5 lS hE5
    rw [← hD]
    try dsimp only
    have gS := hS5.gd
    have tx := shelfTxt_eq gS
    have lx := shTx_len gS (by omega)
    walk_at "s"
    refine c_shTxt hS5 (by omega) fun H6 s6 => ?_
    rw [tx]
    have hS6 := hS5.same s6
    walk_at "nx"
    walk_at "s"
    refine c_shTxt hS6 (by omega) fun H7 s7 => ?_
    rw [tx]
    walk_at "w"
    refine ite_d (fun z => (z rfl).elim) (fun _ => ?_)
    walk_at "sk"
    have hS7 := hS6.same s7
    have hE7 := (hE5.same s6).same s7
    walk_at "s"
    refine c_many hS7 ?_
    walk_at "nx"
    walk_at "s"
    refine ⟨shTx S, S, rfl, by omega, read_shTx gS (by omega), fun c2 H8 hF8 s8 f8 => ?_⟩
    have hS8 := hS7.same s8
    have hE8 := hE7.same s8
    have dS : ∀ b ∈ c2.all, b ∉ c.all := hS7.disj f8
    have dE2 : ∀ b ∈ c2.all, b ∉ c0.all := hE7.disj f8
    walk_at "nx"
    walk_at "S"
    refine ⟨_, _, _, _, true, rfl, .own _, .base (.ins hF8.ob T.cl_Shelf T.ic_Shelf.ha T.ic_Shelf.hn T.ic_Shelf.ht T.ic_Shelf.hm), kit_self, ?_⟩
    walk_at "W"
    refine iteF ?_
    walk_at "W"
    refine ⟨c, c2, S, rfl, hS8, hF8, ?_⟩
    walk_at "W"
    refine iteF ?_
    walk_at "W"
    refine c_shTxt hF8 (by omega) fun H9 s9 => ?_
    rw [tx]
    walk_at "w"
    refine ite_d (fun z => (z rfl).elim) (fun _ => ?_)
    walk_at "sk"
    have hS9 := hS8.same s9
    have hE9 := hE8.same s9
    have hF9 := hF8.same s9
    walk_at "s"
    refine ⟨_, _, rfl, ⟨by decide, by decide, by omega, by omega⟩, ?_⟩
    have nS : ((S.length : Int) + 1 - 1).toNat = S.length := by omega
    refine for_it walk_range (fun i σ H' => ∃ x8 x9 : Option V, σ = [some (.ref a), some (.ref c0.a), some (.ref c.a), some (.ref r), x4, some (.str (sT (shTx S))), some (.int (S.length : Nat)), some (.ref c2.a), x8, x9, none, none, none, none] ∧ Keep c2 H9 H' ∧ ShAt A.C_Shelf c2 H' S)
      ⟨_, _, rfl, Keep.refl _ _, hF9⟩ (fun _ _ _ _ _ => trivial) ?_ ?_
    · rintro i x σ H11 H10 hi ⟨x8, x9, rfl, k10, hF10⟩ ⟨rfl, rfl⟩
      rw [nS] at hi
      have hS10 := hS9.beside hF9 k10 dS
      have eu : S[i]? = some (S[i]'hi) := List.getElem?_eq_getElem hi
      generalize S[i]'hi = u at eu
      have nm : Nm S (1 + (i : Int)) u := ⟨i, eu, by omega⟩
      have en : 1 + (i : Int) = num S u := nm.num gS.nd
      rw [en] at nm
      have ok := gS.ok u nm.mem
      dsimp only
      rw [en]
      refine w_gname ?_
      walk_at "s"
      refine c_piece hS10 nm fun pr hpr => ?_
      walk_at "nx"
      walk_at "s"
      have back : ∀ H', ShAt A.C_Shelf c2 H' (put S u) → Keep c2 H10 H' → ShAt A.C_Shelf c2 H' S ∧ Keep c2 H9 H' ∧ num (put S u) u = num S u := fun H' h' k' => by
        rw [put_in nm.mem] at h' ⊢
        exact ⟨h', k10.trans k', rfl⟩
      cases u with
      | lf l =>
        refine w_ixt (SqT.of hpr) (v := .str "leaf") rfl ?_
        walk_at "w"
        refine ite_d (fun _ => ?_) (fun z => absurd rfl z)
        walk_at "w"
        refine w_ixt (SqT.of hpr) (v := .str (sT l)) rfl ?_
        walk_at "w"
        refine c_leaf hF10 ok (by omega) fun H12 h12 k12 => ?_
        obtain ⟨g1, g2, g3⟩ := back H12 h12 k12
        rw [g3]
        walk_at "w"
        refine ite_d (fun z => (z rfl).elim) (fun _ => ?_)
        walk_at "sk"
        walk_at "w"
        refine w_ixt (SqT.of (k12 _ _ (hF10.apart_tup hpr) hpr)) (v := .str "leaf") rfl ?_
        walk_at "w"
        refine ite_d (fun z => absurd z leaf_ne_fork) (fun _ => ?_)
        walk_at "w"
        exact ⟨_, _, rfl, g2, g1⟩
      | fk x y =>
        obtain ⟨mx, my⟩ := gS.parts nm.mem
        refine w_ixt (SqT.of hpr) (v := .str "fork") rfl ?_
        walk_at "w"
        refine ite_d (fun z => absurd z.symm leaf_ne_fork) (fun _ => ?_)
        walk_at "w"
        refine iteF ?_
        walk_at "sk"
        walk_at "w"
        refine w_ixt (SqT.of hpr) (v := .str "fork") rfl ?_
        walk_at "w"
        refine ite_d (fun _ => ?_) (fun z => absurd rfl z)
        walk_at "w"
        refine w_ixt (SqT.of hpr) (v := .int (num S x)) rfl ?_
        walk_at "w"
        refine w_ixt (SqT.of hpr) (v := .int (num S y)) rfl ?_
        walk_at "w"
        refine c_fork hF10 (nm_num mx) (nm_num my) ok (by omega) fun H12 h12 k12 => ?_
        obtain ⟨g1, g2, g3⟩ := back H12 h12 k12
        rw [g3]
        walk_at "w"
        refine ite_d (fun z => (z rfl).elim) (fun _ => ?_)
        walk_at "w"
        exact ⟨_, _, rfl, g2, g1⟩
    rintro σ H10 ⟨x8, x9, rfl, k10, hF10⟩
    dsimp only
    walk_at "s"
    rw [show ("kx" : Str) = sT [107, 120] by decide +kernel]
    refine c_leaf hF10 ⟨by decide, by decide, by decide⟩ (by omega) fun H11 hF11 k11 => ?_
    have l11 := put_len (S := S) (t := .lf [107, 120])
    walk_at "w"
    try dsimp only
    walk_at "s"
    refine ⟨line_of (n := 4) rfl (by decide), fun Y nY => ?_⟩
    obtain ⟨ys, eys, oys⟩ : ∃ ys : List (List Nat), ([V.str "\\n", V.str "\\\n", V.str "n\\", V.str "\\\\n"] : List V) = ys.map (fun l => V.str (sT l)) ∧ ys.length = 4 ∧ ∀ l ∈ ys, Ok (.lf l) := ⟨[[92, 110], [92, 10], [110, 92], [92, 92, 110]], by
      rw [show ("\\n" : Str) = sT [92, 110] by decide +kernel, show ("\\\n" : Str) = sT [92, 10] by decide +kernel, show ("n\\" : Str) = sT [110, 92] by decide +kernel, show ("\\\\n" : Str) = sT [92, 92, 110] by decide +kernel]; rfl, rfl, fun l hl => by
      simp only [List.mem_cons, List.not_mem_nil, or_false] at hl
      rcases hl with rfl | rfl | rfl | rfl <;> exact ⟨by decide, by decide, by decide⟩⟩
    rw [eys]
    obtain ⟨H12, e12, s12, hY⟩ := new_of (o := .lst (ys.map fun l => V.str (sT l))) nY
    rw [e12]
    have hF12 := hF11.same s12
    have Yc : Y ∉ c2.all := hF11.apart nY
    refine ⟨Y, rfl, ⟨_, SqL.of hY⟩, ?_⟩
    refine for_it (walk_list (xs := ys.map fun l => V.str (sT l))) (fun i σ H' => ∃ (S' : List Tr) (x10 : Option V), σ = [some (.ref a), some (.ref c0.a), some (.ref c.a), some (.ref r), x4, some (.str (sT (shTx S))), some (.int (S.length : Nat)), some (.ref c2.a), x8, x9, x10, none, none, none] ∧ Keep c2 H12 H' ∧ ShAt A.C_Shelf c2 H' S' ∧ S'.length ≤ S.length + 1 + i)
      ⟨_, _, rfl, Keep.refl _ _, hF12, by omega⟩ (fun _ _ _ _ ⟨_, _, _, k, _⟩ => SqL.of (k _ _ Yc hY)) ?_ ?_
    · rintro i y σ H14 H13 hi ⟨S13, x10, rfl, k13, hF13, l13⟩ ⟨rfl, hy⟩
      have hi : i < 4 := by rw [List.length_map, oys.1] at hi; exact hi
      rw [List.getElem?_map] at hy
      obtain ⟨l, ml, rfl⟩ : ∃ l ∈ ys, y = V.str (sT l) := by
        cases e : ys[i]? with
        | none => rw [e] at hy; cases hy
        | some z => rw [e] at hy; cases hy; exact ⟨z, List.mem_of_getElem? e, rfl⟩
      refine w_gname ?_
      walk_at "w"
      refine c_leaf hF13 (oys.2 l ml) (by omega) fun H15 hF15 k15 => ?_
      have := put_len (S := S13) (t := .lf l)
      walk_at "w"
      exact ⟨_, _, rfl, k13.trans k15, hF15, by omega⟩
    rintro σ H13 ⟨S13, x10, rfl, k13, hF13, l13⟩
    have l13 : S13.length ≤ S.length + 1 + 4 := by rw [List.length_map, oys.1] at l13; exact l13
    have k113 : Keep c2 H9 H13 := ((k10.trans k11).trans (Keep.of s12)).trans k13
    have hS13 := hS9.beside hF9 k113 dS
    have hE13 := hE9.beside hF9 k113 dE2
    have tx13 := shelfTxt_eq hF13.gd
    have lx13 := shTx_len hF13.gd (by omega)
    dsimp only
    walk_at "s"
    refine c_shTxt hF13 (by omega) fun H14 s14 => ?_
    rw [tx13]
    walk_at "w"
    refine ⟨shTx S13, S13, rfl, by omega, read_shTx hF13.gd (by omega), fun c3 H15 hG15 s15 f15 => ?_⟩
    have hF15 := (hF13.same s14).same s15
    walk_at "w"
    refine c_many hG15 ?_
    walk_at "w"
    refine c_many hF15 ?_
    walk_at "w"
    refine ite_d (fun z => (z rfl).elim) (fun _ => ?_)
    walk_at "w"
    refine c_shTxt hF15 (by omega) fun H16 s16 => ?_
    rw [tx13]
    walk_at "w"
    refine ⟨shTx S13, S13, rfl, by omega, read_shTx hF13.gd (by omega), fun c4 H17 hG17 s17 f17 => ?_⟩
    have hF17 := (hF15.same s16).same s17
    walk_at "w"
    refine ⟨c2, c4, S13, rfl, hF17, hG17, ?_⟩
    walk_at "w"
    refine iteF ?_
    walk_at "sk"
    have s137 := ((s14.trans s15).trans s16).trans s17
    have hS17 := hS13.same s137
    have hE17 := hE13.same s137
    walk_at "s"
    refine c_many hS17 ?_
    walk_at "w"
    refine ite_d (fun z => (z rfl).elim) (fun _ => ?_)
    walk_at "w"
    refine c_shTxt hS17 (by omega) fun H18 s18 => ?_
    rw [tx]
    walk_at "w"
    refine ite_d (fun z => (z rfl).elim) (fun _ => ?_)
    walk_at "sk"
    have hS18 := hS17.same s18
    have hE18 := hE17.same s18
    walk_at "s"
    refine ⟨_, rfl, by rw [sT_len]; omega, ?_⟩
    walk_at "w"
    refine ite_d (fun _ => ?_) (fun _ => ?_)
    · walk_at "w"
      refine c_many hE18 ?_
      walk_at "w"
      exact q H18
    walk_at "sk"
    walk_at "s"
    refine ⟨c, S, rfl, hS18, by omega, fun H19 s19 => ?_⟩
    have gO := ord_good gS
    have lO := ord_len S
    have txO := shelfTxt_eq gO
    have lxO := shTx_len gO (by omega)
    walk_at "nx"
    walk_at "s"
    refine ⟨shTx (ord S), ord S, rfl, by omega, read_shTx gO (by omega), fun c5 H20 hT20 s20 f20 => ?_⟩
    have hE20 := (hE18.same s19).same s20
    walk_at "nx"
    walk_at "W"
    refine c_many hT20 ?_
    walk_at "w"
    rw [lO, decide_eq_true rfl]
    refine iteT ?_
    walk_at "W"
    refine c_shTxt hT20 (by omega) fun H21 s21 => ?_
    rw [txO]
    walk_at "w"
    rw [decide_eq_true rfl]
    refine iteT ?_
    have hE21 := hE20.same s21
    walk_at "W"
    refine c_many hE21 ?_
    walk_at "w"
    exact q H21
  walk_at "w"
  refine ite_d (fun _ => ?_) (fun _ => ?_)
  · walk_at "s"
    refine w_rI ⟨by decide, by decide, by decide⟩ ?_
    rw [show (10 : Int) ^ (Int.toNat 6) = 1000000 by decide]
    walk_at "w"
    refine c_digit hr4 n40 (by decide) (by decide) fun far n5 far0 far1 n50 => ?_
    have hS5 := hS4.digit hr4 rc (ys := [.int n5])
    have hE5 := hE4.digit hr4 rE (ys := [.int n5])
    generalize upd H4 r (.lst [.int n5]) = H5 at hS5 hE5 ⊢
    obtain ⟨f, rfl⟩ : ∃ f : Nat, far = f := ⟨far.toNat, by omega⟩
    walk_at "nx"
    walk_at "W"
    refine ⟨⟨_, rfl⟩, ?_⟩
    walk_at "W"
    refine ⟨1250, rfl, by decide, by decide, fun L nL => ?_⟩
    obtain ⟨nk, enk⟩ : ∃ nk : Nat → Nat, nk = fun k => 10000000 + 7919 * k + f := ⟨_, rfl⟩
    refine lc_it walk_range (fun i H' => Same H5 H' ∧ H' L = some (.lst ((((List.range i).map fun k => TL.numL (nk k)).map sT).map V.str))) ⟨fun b o e => by rw [upd_ne (ne_of_none e nL)]; exact e, upd_same⟩ (fun _ _ _ _ => trivial) ?_ ?_
    · rintro i x H7 H6 hi ⟨s6, hL6⟩ ⟨rfl, rfl⟩
      have hi : i < 1250 := hi
      refine w_gname ⟨rfl, w_yes (iteT ?_)⟩
      walk_at "w"
      refine w_rI ⟨by decide, by decide, by decide⟩ ?_
      rw [show (10 : Int) ^ (Int.toNat 7) = 10000000 by decide]
      walk_at "w"
      refine w_rI (mulW_small (by decide) (by decide) (by omega) (by omega)) ?_
      walk_at "w"
      have ev : (10000000 : Int) + 7919 * (0 + (i : Nat)) + (f : Nat) = ((nk i : Nat) : Int) := by rw [enk]; simp
      rw [ev]
      have nkb : nk i < 100000000 := by rw [enk]; show 10000000 + 7919 * i + f < _; omega
      refine ⟨_, rfl, by have : ((nk i : Nat) : Int).natAbs.log2 < 64 := PySem.Flt.log2_lt_of (by decide) (by rw [Int.natAbs_natCast]; omega); omega, ?_⟩
      rw [num_str]
      refine ⟨_, hL6, by rw [List.length_map, List.length_map, List.length_map, List.length_range]; omega, fun b o e => by rw [upd_ne (ne_of_none e nL)]; exact s6 b o e, ?_⟩
      rw [upd_same, List.range_succ, List.map_append, List.map_append, List.map_append]; rfl
    rintro H6 ⟨s6, hL6⟩
    have e1250 : Int.toNat 1250 = 1250 := rfl
    rw [e1250] at hL6
    obtain ⟨ps, eps⟩ : ∃ ps, ps = (List.range 1250).map fun k => TL.numL (nk k) := ⟨_, rfl⟩
    rw [← eps] at hL6
    have lps : ps.length = 1250 := by rw [eps, List.length_map, List.length_range]
    have pp : ∀ p ∈ ps, p.length ≤ 8 ∧ ∀ c ∈ p, 48 ≤ c ∧ c ≤ 57 := fun p hp => by
      rw [eps] at hp
      obtain ⟨k, hk, rfl⟩ := List.mem_map.mp hp
      rw [List.mem_range] at hk
      exact ⟨TL.numL_len (by decide) (by rw [enk]; show 10000000 + 7919 * k + f < 10 ^ 8; rw [show (10 : Nat) ^ 8 = 100000000 by decide]; omega), TL.numL_digits _⟩
    have lj := joinE_len ps fun p hp => (pp p hp).1
    have pj : Plain (TL.joinL [] ps) := fun c hc => by
      obtain ⟨p, hp, hc⟩ := joinE_mem hc
      have := (pp p hp).2 c hc
      exact .inl (by omega)
    refine ⟨_, L, ps.map sT, rfl, rfl, .inl (SqL.of hL6), ?_, ?_⟩
    · have h1 := sum_le (l := (ps.map sT).map (·.length)) (k := 8) fun x hx => by
        obtain ⟨y, hy, rfl⟩ := List.mem_map.mp hx
        obtain ⟨p, hp, rfl⟩ := List.mem_map.mp hy
        rw [sT_len]
        exact (pp p hp).1
      have e0 : (sT []).length = 0 := rfl
      rw [List.length_map, List.length_map, lps] at h1
      rw [e0]; omega
    rw [show Txt.join (sT []) (ps.map sT) = sT (TL.joinL [] ps) from SX.join_S [] ps]
    have hS6 := hS5.same s6
    have hE6 := hE5.same s6
    walk_at "w"
    have cbl : cb (TL.joinL [] ps) ≤ 3000 := by unfold cb; omega
    refine c_built hS6 pj (by omega) (by omega) fun H7 S7 n7 g7 t7 => ?_
    have l7 := g7.len
    walk_at "w"
    exact rest H7 S7 _ g7.sh (by omega) (hE6.beside hS6 g7.kp dE)
  · walk_at "w"
    exact rest H4 S2 _ hS4 (by omega) hE4
end

theorem all_mk {l : PySem.W.OpenLaw} {w : World} {K : PySem.W.Frag} {h : Heap} {mg : Str → Option Value} {fa : Addr} (X : K.In h) (G : h.Ns mainGlobals mg) (hfa : mg "law" = some (.ref fa))
    (kl_MOST_SIGNS : KInt mg "MOST_SIGNS" 1000000000000000000)
    {C_Shelf C_Loose C_NoPiece C_NoText C_TooLong C_Unlevel f_is_plain f_ends_in f_Shelf___init__ f_Shelf_want f_Shelf_want_piece f_Shelf_many f_Shelf_piece f_Shelf_signs f_Shelf_ends f_Shelf_leaves f_Shelf_height f_Shelf_first_leaf f_Shelf_last_leaf f_Shelf_laid f_Shelf_leaf f_Shelf_fork f_Shelf_is_loose f_written f_read_written f_number_in f_piece_row f_shelf_text f_laid_by f_lies_anew f_read_shelf f_built_of f_built f__law_mixed f__law_stream f__law_digit f__law_letters f__law_tree f__law_text f__law_long f__law_drawn_shelf f__law_written f__law_shelf_text f__law_same f__law_other_order f_law : Addr}
    {od_is_plain : Option Addr}
    {an_is_plain : Option Addr}
    {sl_is_plain : Array (Option Value)}
    {oc_is_plain : Value}
    {kV_is_plain : Value}
    {dc_is_plain : Value}
    {pm_is_plain : Value}
    {cd_is_plain : Value}
    {ct_is_plain : Value}
    {od_ends_in : Option Addr}
    {an_ends_in : Option Addr}
    {sl_ends_in : Array (Option Value)}
    {oc_ends_in : Value}
    {kV_ends_in : Value}
    {dc_ends_in : Value}
    {pm_ends_in : Value}
    {cd_ends_in : Value}
    {ct_ends_in : Value}
    {od_Shelf___init__ : Option Addr}
    {an_Shelf___init__ : Option Addr}
    {sl_Shelf___init__ : Array (Option Value)}
    {oc_Shelf___init__ : Value}
    {kV_Shelf___init__ : Value}
    {dc_Shelf___init__ : Value}
    {pm_Shelf___init__ : Value}
    {cd_Shelf___init__ : Value}
    {ct_Shelf___init__ : Value}
    {od_Shelf_want : Option Addr}
    {an_Shelf_want : Option Addr}
    {sl_Shelf_want : Array (Option Value)}
    {oc_Shelf_want : Value}
    {kV_Shelf_want : Value}
    {dc_Shelf_want : Value}
    {pm_Shelf_want : Value}
    {cd_Shelf_want : Value}
    {ct_Shelf_want : Value}
    {od_Shelf_want_piece : Option Addr}
    {an_Shelf_want_piece : Option Addr}
    {sl_Shelf_want_piece : Array (Option Value)}
    {oc_Shelf_want_piece : Value}
    {kV_Shelf_want_piece : Value}
    {dc_Shelf_want_piece : Value}
    {pm_Shelf_want_piece : Value}
    {cd_Shelf_want_piece : Value}
    {ct_Shelf_want_piece : Value}
    {od_Shelf_many : Option Addr}
    {an_Shelf_many : Option Addr}
    {sl_Shelf_many : Array (Option Value)}
    {oc_Shelf_many : Value}
    {kV_Shelf_many : Value}
    {dc_Shelf_many : Value}
    {pm_Shelf_many : Value}
    {cd_Shelf_many : Value}
    {ct_Shelf_many : Value}
    {od_Shelf_piece : Option Addr}
    {an_Shelf_piece : Option Addr}
    {sl_Shelf_piece : Array (Option Value)}
    {oc_Shelf_piece : Value}
    {kV_Shelf_piece : Value}
    {dc_Shelf_piece : Value}
    {pm_Shelf_piece : Value}
    {cd_Shelf_piece : Value}
    {ct_Shelf_piece : Value}
    {od_Shelf_signs : Option Addr}
    {an_Shelf_signs : Option Addr}
    {sl_Shelf_signs : Array (Option Value)}
    {oc_Shelf_signs : Value}
    {kV_Shelf_signs : Value}
    {dc_Shelf_signs : Value}
    {pm_Shelf_signs : Value}
    {cd_Shelf_signs : Value}
    {ct_Shelf_signs : Value}
    {od_Shelf_ends : Option Addr}
    {an_Shelf_ends : Option Addr}
    {sl_Shelf_ends : Array (Option Value)}
    {oc_Shelf_ends : Value}
    {kV_Shelf_ends : Value}
    {dc_Shelf_ends : Value}
    {pm_Shelf_ends : Value}
    {cd_Shelf_ends : Value}
    {ct_Shelf_ends : Value}
    {od_Shelf_leaves : Option Addr}
    {an_Shelf_leaves : Option Addr}
    {sl_Shelf_leaves : Array (Option Value)}
    {oc_Shelf_leaves : Value}
    {kV_Shelf_leaves : Value}
    {dc_Shelf_leaves : Value}
    {pm_Shelf_leaves : Value}
    {cd_Shelf_leaves : Value}
    {ct_Shelf_leaves : Value}
    {od_Shelf_height : Option Addr}
    {an_Shelf_height : Option Addr}
    {sl_Shelf_height : Array (Option Value)}
    {oc_Shelf_height : Value}
    {kV_Shelf_height : Value}
    {dc_Shelf_height : Value}
    {pm_Shelf_height : Value}
    {cd_Shelf_height : Value}
    {ct_Shelf_height : Value}
    {od_Shelf_first_leaf : Option Addr}
    {an_Shelf_first_leaf : Option Addr}
    {sl_Shelf_first_leaf : Array (Option Value)}
    {oc_Shelf_first_leaf : Value}
    {kV_Shelf_first_leaf : Value}
    {dc_Shelf_first_leaf : Value}
    {pm_Shelf_first_leaf : Value}
    {cd_Shelf_first_leaf : Value}
    {ct_Shelf_first_leaf : Value}
    {od_Shelf_last_leaf : Option Addr}
    {an_Shelf_last_leaf : Option Addr}
    {sl_Shelf_last_leaf : Array (Option Value)}
    {oc_Shelf_last_leaf : Value}
    {kV_Shelf_last_leaf : Value}
    {dc_Shelf_last_leaf : Value}
    {pm_Shelf_last_leaf : Value}
    {cd_Shelf_last_leaf : Value}
    {ct_Shelf_last_leaf : Value}
    {od_Shelf_laid : Option Addr}
    {an_Shelf_laid : Option Addr}
    {sl_Shelf_laid : Array (Option Value)}
    {oc_Shelf_laid : Value}
    {kV_Shelf_laid : Value}
    {dc_Shelf_laid : Value}
    {pm_Shelf_laid : Value}
    {cd_Shelf_laid : Value}
    {ct_Shelf_laid : Value}
    {od_Shelf_leaf : Option Addr}
    {an_Shelf_leaf : Option Addr}
    {sl_Shelf_leaf : Array (Option Value)}
    {oc_Shelf_leaf : Value}
    {kV_Shelf_leaf : Value}
    {dc_Shelf_leaf : Value}
    {pm_Shelf_leaf : Value}
    {cd_Shelf_leaf : Value}
    {ct_Shelf_leaf : Value}
    {od_Shelf_fork : Option Addr}
    {an_Shelf_fork : Option Addr}
    {sl_Shelf_fork : Array (Option Value)}
    {oc_Shelf_fork : Value}
    {kV_Shelf_fork : Value}
    {dc_Shelf_fork : Value}
    {pm_Shelf_fork : Value}
    {cd_Shelf_fork : Value}
    {ct_Shelf_fork : Value}
    {od_Shelf_is_loose : Option Addr}
    {an_Shelf_is_loose : Option Addr}
    {sl_Shelf_is_loose : Array (Option Value)}
    {oc_Shelf_is_loose : Value}
    {kV_Shelf_is_loose : Value}
    {dc_Shelf_is_loose : Value}
    {pm_Shelf_is_loose : Value}
    {cd_Shelf_is_loose : Value}
    {ct_Shelf_is_loose : Value}
    {od_written : Option Addr}
    {an_written : Option Addr}
    {sl_written : Array (Option Value)}
    {oc_written : Value}
    {kV_written : Value}
    {dc_written : Value}
    {pm_written : Value}
    {cd_written : Value}
    {ct_written : Value}
    {od_read_written : Option Addr}
    {an_read_written : Option Addr}
    {sl_read_written : Array (Option Value)}
    {oc_read_written : Value}
    {kV_read_written : Value}
    {dc_read_written : Value}
    {pm_read_written : Value}
    {cd_read_written : Value}
    {ct_read_written : Value}
    {od_number_in : Option Addr}
    {an_number_in : Option Addr}
    {sl_number_in : Array (Option Value)}
    {oc_number_in : Value}
    {kV_number_in : Value}
    {dc_number_in : Value}
    {pm_number_in : Value}
    {cd_number_in : Value}
    {ct_number_in : Value}
    {od_piece_row : Option Addr}
    {an_piece_row : Option Addr}
    {sl_piece_row : Array (Option Value)}
    {oc_piece_row : Value}
    {kV_piece_row : Value}
    {dc_piece_row : Value}
    {pm_piece_row : Value}
    {cd_piece_row : Value}
    {ct_piece_row : Value}
    {od_shelf_text : Option Addr}
    {an_shelf_text : Option Addr}
    {sl_shelf_text : Array (Option Value)}
    {oc_shelf_text : Value}
    {kV_shelf_text : Value}
    {dc_shelf_text : Value}
    {pm_shelf_text : Value}
    {cd_shelf_text : Value}
    {ct_shelf_text : Value}
    {od_laid_by : Option Addr}
    {an_laid_by : Option Addr}
    {sl_laid_by : Array (Option Value)}
    {oc_laid_by : Value}
    {kV_laid_by : Value}
    {dc_laid_by : Value}
    {pm_laid_by : Value}
    {cd_laid_by : Value}
    {ct_laid_by : Value}
    {od_lies_anew : Option Addr}
    {an_lies_anew : Option Addr}
    {sl_lies_anew : Array (Option Value)}
    {oc_lies_anew : Value}
    {kV_lies_anew : Value}
    {dc_lies_anew : Value}
    {pm_lies_anew : Value}
    {cd_lies_anew : Value}
    {ct_lies_anew : Value}
    {od_read_shelf : Option Addr}
    {an_read_shelf : Option Addr}
    {sl_read_shelf : Array (Option Value)}
    {oc_read_shelf : Value}
    {kV_read_shelf : Value}
    {dc_read_shelf : Value}
    {pm_read_shelf : Value}
    {cd_read_shelf : Value}
    {ct_read_shelf : Value}
    {od_built_of : Option Addr}
    {an_built_of : Option Addr}
    {sl_built_of : Array (Option Value)}
    {oc_built_of : Value}
    {kV_built_of : Value}
    {dc_built_of : Value}
    {pm_built_of : Value}
    {cd_built_of : Value}
    {ct_built_of : Value}
    {od_built : Option Addr}
    {an_built : Option Addr}
    {sl_built : Array (Option Value)}
    {oc_built : Value}
    {kV_built : Value}
    {dc_built : Value}
    {pm_built : Value}
    {cd_built : Value}
    {ct_built : Value}
    {od__law_mixed : Option Addr}
    {an__law_mixed : Option Addr}
    {sl__law_mixed : Array (Option Value)}
    {oc__law_mixed : Value}
    {kV__law_mixed : Value}
    {dc__law_mixed : Value}
    {pm__law_mixed : Value}
    {cd__law_mixed : Value}
    {ct__law_mixed : Value}
    {od__law_stream : Option Addr}
    {an__law_stream : Option Addr}
    {sl__law_stream : Array (Option Value)}
    {oc__law_stream : Value}
    {kV__law_stream : Value}
    {dc__law_stream : Value}
    {pm__law_stream : Value}
    {cd__law_stream : Value}
    {ct__law_stream : Value}
    {od__law_digit : Option Addr}
    {an__law_digit : Option Addr}
    {sl__law_digit : Array (Option Value)}
    {oc__law_digit : Value}
    {kV__law_digit : Value}
    {dc__law_digit : Value}
    {pm__law_digit : Value}
    {cd__law_digit : Value}
    {ct__law_digit : Value}
    {od__law_letters : Option Addr}
    {an__law_letters : Option Addr}
    {sl__law_letters : Array (Option Value)}
    {oc__law_letters : Value}
    {kV__law_letters : Value}
    {dc__law_letters : Value}
    {pm__law_letters : Value}
    {cd__law_letters : Value}
    {ct__law_letters : Value}
    {od__law_tree : Option Addr}
    {an__law_tree : Option Addr}
    {sl__law_tree : Array (Option Value)}
    {oc__law_tree : Value}
    {kV__law_tree : Value}
    {dc__law_tree : Value}
    {pm__law_tree : Value}
    {cd__law_tree : Value}
    {ct__law_tree : Value}
    {od__law_text : Option Addr}
    {an__law_text : Option Addr}
    {sl__law_text : Array (Option Value)}
    {oc__law_text : Value}
    {kV__law_text : Value}
    {dc__law_text : Value}
    {pm__law_text : Value}
    {cd__law_text : Value}
    {ct__law_text : Value}
    {od__law_long : Option Addr}
    {an__law_long : Option Addr}
    {sl__law_long : Array (Option Value)}
    {oc__law_long : Value}
    {kV__law_long : Value}
    {dc__law_long : Value}
    {pm__law_long : Value}
    {cd__law_long : Value}
    {ct__law_long : Value}
    {od__law_drawn_shelf : Option Addr}
    {an__law_drawn_shelf : Option Addr}
    {sl__law_drawn_shelf : Array (Option Value)}
    {oc__law_drawn_shelf : Value}
    {kV__law_drawn_shelf : Value}
    {dc__law_drawn_shelf : Value}
    {pm__law_drawn_shelf : Value}
    {cd__law_drawn_shelf : Value}
    {ct__law_drawn_shelf : Value}
    {od__law_written : Option Addr}
    {an__law_written : Option Addr}
    {sl__law_written : Array (Option Value)}
    {oc__law_written : Value}
    {kV__law_written : Value}
    {dc__law_written : Value}
    {pm__law_written : Value}
    {cd__law_written : Value}
    {ct__law_written : Value}
    {od__law_shelf_text : Option Addr}
    {an__law_shelf_text : Option Addr}
    {sl__law_shelf_text : Array (Option Value)}
    {oc__law_shelf_text : Value}
    {kV__law_shelf_text : Value}
    {dc__law_shelf_text : Value}
    {pm__law_shelf_text : Value}
    {cd__law_shelf_text : Value}
    {ct__law_shelf_text : Value}
    {od__law_same : Option Addr}
    {an__law_same : Option Addr}
    {sl__law_same : Array (Option Value)}
    {oc__law_same : Value}
    {kV__law_same : Value}
    {dc__law_same : Value}
    {pm__law_same : Value}
    {cd__law_same : Value}
    {ct__law_same : Value}
    {od__law_other_order : Option Addr}
    {an__law_other_order : Option Addr}
    {sl__law_other_order : Array (Option Value)}
    {oc__law_other_order : Value}
    {kV__law_other_order : Value}
    {dc__law_other_order : Value}
    {pm__law_other_order : Value}
    {cd__law_other_order : Value}
    {ct__law_other_order : Value}
    {od_law : Option Addr}
    {an_law : Option Addr}
    {sl_law : Array (Option Value)}
    {oc_law : Value}
    {kV_law : Value}
    {dc_law : Value}
    {pm_law : Value}
    {cd_law : Value}
    {ct_law : Value}
    {tk_MOST_IN_LEAF : Tok}
    {tk_FIGURES : Tok}
    {tk_MOST_FIGURES : Tok}
    {tk_MOST_WRITTEN : Tok}
    (aC_Shelf : PySem.W.nsIn K mainGlobals "Shelf" = some (some (.ref C_Shelf)))
    (pg_Shelf : PySem.W.plainGet K C_Shelf Str.empty = true)
    (hd_Shelf : PySem.W.hasDictIn K C_Shelf = true)
    (po_Shelf : PySem.W.plainOver K C_Shelf = true)
    (sa_Shelf : PySem.W.findIn K (.ref C_Shelf) "__setattr__" = some (some (.builtin "object.__setattr__")))
    (na_Shelf_pieces : PySem.W.findIn K (.ref C_Shelf) "pieces" = some none)
    (na_Shelf_numbers : PySem.W.findIn K (.ref C_Shelf) "numbers" = some none)
    (na_Shelf_told_signs : PySem.W.findIn K (.ref C_Shelf) "told_signs" = some none)
    (na_Shelf_told_ends : PySem.W.findIn K (.ref C_Shelf) "told_ends" = some none)
    (na_Shelf_told_leaves : PySem.W.findIn K (.ref C_Shelf) "told_leaves" = some none)
    (na_Shelf_told_heights : PySem.W.findIn K (.ref C_Shelf) "told_heights" = some none)
    (na_Shelf_firsts : PySem.W.findIn K (.ref C_Shelf) "firsts" = some none)
    (na_Shelf_lasts : PySem.W.findIn K (.ref C_Shelf) "lasts" = some none)
    (mk_Shelf : PySem.W.makesIn K C_Shelf = true)
    (kc_Shelf : PySem.W.keepIn K (.ref C_Shelf) = true)
    (eg_Loose : PySem.W.nsIn K mainGlobals "Loose" = some (some (.ref C_Loose)))
    (ex_Loose : PySem.W.excIn K C_Loose [.type "ValueError", .type "Exception", .type "BaseException", .type "object"] "ValueError.__new__" = true)
    (ek_Loose : PySem.W.keepIn K (.ref C_Loose) = true)
    (eb_Loose : PySem.W.subIn K (.ref C_Loose) (.type "BaseException") = some true)
    (et_Loose : PySem.W.typeIn K (.ref C_Loose) = some (.type "type"))
    (eg_NoPiece : PySem.W.nsIn K mainGlobals "NoPiece" = some (some (.ref C_NoPiece)))
    (ex_NoPiece : PySem.W.excIn K C_NoPiece [.type "ValueError", .type "Exception", .type "BaseException", .type "object"] "ValueError.__new__" = true)
    (ek_NoPiece : PySem.W.keepIn K (.ref C_NoPiece) = true)
    (eb_NoPiece : PySem.W.subIn K (.ref C_NoPiece) (.type "BaseException") = some true)
    (et_NoPiece : PySem.W.typeIn K (.ref C_NoPiece) = some (.type "type"))
    (eg_NoText : PySem.W.nsIn K mainGlobals "NoText" = some (some (.ref C_NoText)))
    (ex_NoText : PySem.W.excIn K C_NoText [.type "ValueError", .type "Exception", .type "BaseException", .type "object"] "ValueError.__new__" = true)
    (ek_NoText : PySem.W.keepIn K (.ref C_NoText) = true)
    (eb_NoText : PySem.W.subIn K (.ref C_NoText) (.type "BaseException") = some true)
    (et_NoText : PySem.W.typeIn K (.ref C_NoText) = some (.type "type"))
    (eg_TooLong : PySem.W.nsIn K mainGlobals "TooLong" = some (some (.ref C_TooLong)))
    (ex_TooLong : PySem.W.excIn K C_TooLong [.type "ValueError", .type "Exception", .type "BaseException", .type "object"] "ValueError.__new__" = true)
    (ek_TooLong : PySem.W.keepIn K (.ref C_TooLong) = true)
    (eb_TooLong : PySem.W.subIn K (.ref C_TooLong) (.type "BaseException") = some true)
    (et_TooLong : PySem.W.typeIn K (.ref C_TooLong) = some (.type "type"))
    (eg_Unlevel : PySem.W.nsIn K mainGlobals "Unlevel" = some (some (.ref C_Unlevel)))
    (ex_Unlevel : PySem.W.excIn K C_Unlevel [.type "ValueError", .type "Exception", .type "BaseException", .type "object"] "ValueError.__new__" = true)
    (ek_Unlevel : PySem.W.keepIn K (.ref C_Unlevel) = true)
    (eb_Unlevel : PySem.W.subIn K (.ref C_Unlevel) (.type "BaseException") = some true)
    (et_Unlevel : PySem.W.typeIn K (.ref C_Unlevel) = some (.type "type"))
    (ic_Shelf_ha : PySem.W.findIn K (.ref C_Shelf) "__class__" = some (some (.builtin "object.__class__")))
    (ic_Shelf_hn : PySem.W.specialIn K (.builtin "object.__class__") "__get__" = some (some (.builtin "getset_descriptor.__get__")))
    (ic_Shelf_ht : PySem.W.takesIn K (.builtin "object.__class__") = some true)
    (ic_Shelf_hm : PySem.W.mroIn K C_Shelf (.type "object") = some true)
    (hx_NoText : PySem.W.hasDictIn K C_NoText = true)
    (hx_NoPiece : PySem.W.hasDictIn K C_NoPiece = true)
    (hx_Loose : PySem.W.hasDictIn K C_Loose = true)
    (hx_Unlevel : PySem.W.hasDictIn K C_Unlevel = true)
    (hx_TooLong : PySem.W.hasDictIn K C_TooLong = true)
    (sb_NoPiece_NoText : PySem.W.subIn K (.ref C_NoPiece) (.ref C_NoText) = some false)
    (sb_NoPiece_NoPiece : PySem.W.subIn K (.ref C_NoPiece) (.ref C_NoPiece) = some true)
    (sb_NoPiece_Loose : PySem.W.subIn K (.ref C_NoPiece) (.ref C_Loose) = some false)
    (sb_NoPiece_Unlevel : PySem.W.subIn K (.ref C_NoPiece) (.ref C_Unlevel) = some false)
    (sb_NoPiece_TooLong : PySem.W.subIn K (.ref C_NoPiece) (.ref C_TooLong) = some false)
    (sb_NoText_NoText : PySem.W.subIn K (.ref C_NoText) (.ref C_NoText) = some true)
    (sb_NoText_NoPiece : PySem.W.subIn K (.ref C_NoText) (.ref C_NoPiece) = some false)
    (sb_NoText_Loose : PySem.W.subIn K (.ref C_NoText) (.ref C_Loose) = some false)
    (sb_NoText_Unlevel : PySem.W.subIn K (.ref C_NoText) (.ref C_Unlevel) = some false)
    (sb_NoText_TooLong : PySem.W.subIn K (.ref C_NoText) (.ref C_TooLong) = some false)
    (sb_Loose_NoText : PySem.W.subIn K (.ref C_Loose) (.ref C_NoText) = some false)
    (sb_Loose_NoPiece : PySem.W.subIn K (.ref C_Loose) (.ref C_NoPiece) = some false)
    (sb_Loose_Loose : PySem.W.subIn K (.ref C_Loose) (.ref C_Loose) = some true)
    (sb_Loose_Unlevel : PySem.W.subIn K (.ref C_Loose) (.ref C_Unlevel) = some false)
    (sb_Loose_TooLong : PySem.W.subIn K (.ref C_Loose) (.ref C_TooLong) = some false)
    (sb_Unlevel_NoText : PySem.W.subIn K (.ref C_Unlevel) (.ref C_NoText) = some false)
    (sb_Unlevel_NoPiece : PySem.W.subIn K (.ref C_Unlevel) (.ref C_NoPiece) = some false)
    (sb_Unlevel_Loose : PySem.W.subIn K (.ref C_Unlevel) (.ref C_Loose) = some false)
    (sb_Unlevel_Unlevel : PySem.W.subIn K (.ref C_Unlevel) (.ref C_Unlevel) = some true)
    (sb_Unlevel_TooLong : PySem.W.subIn K (.ref C_Unlevel) (.ref C_TooLong) = some false)
    (sb_TooLong_NoText : PySem.W.subIn K (.ref C_TooLong) (.ref C_NoText) = some false)
    (sb_TooLong_NoPiece : PySem.W.subIn K (.ref C_TooLong) (.ref C_NoPiece) = some false)
    (sb_TooLong_Loose : PySem.W.subIn K (.ref C_TooLong) (.ref C_Loose) = some false)
    (sb_TooLong_Unlevel : PySem.W.subIn K (.ref C_TooLong) (.ref C_Unlevel) = some false)
    (sb_TooLong_TooLong : PySem.W.subIn K (.ref C_TooLong) (.ref C_TooLong) = some true)
    (a_is_plain : PySem.W.nsIn K mainGlobals "is_plain" = some (some (.ref f_is_plain)))
    (l_is_plain : K.lookup f_is_plain = some ⟨oc_is_plain, od_is_plain, .func (PySem.W.fnOf "is_plain" "is_plain" (defArgs s_is_plain) (defBody s_is_plain) (defScope s_is_plain) .none kV_is_plain dc_is_plain pm_is_plain an_is_plain cd_is_plain ct_is_plain), sl_is_plain⟩)
    (c_is_plain : PySem.W.codeIn K cd_is_plain "is_plain" = true)
    (k_is_plain : PySem.W.keepIn K (.ref f_is_plain) = true)
    (a_ends_in : PySem.W.nsIn K mainGlobals "ends_in" = some (some (.ref f_ends_in)))
    (l_ends_in : K.lookup f_ends_in = some ⟨oc_ends_in, od_ends_in, .func (PySem.W.fnOf "ends_in" "ends_in" (defArgs s_ends_in) (defBody s_ends_in) (defScope s_ends_in) .none kV_ends_in dc_ends_in pm_ends_in an_ends_in cd_ends_in ct_ends_in), sl_ends_in⟩)
    (c_ends_in : PySem.W.codeIn K cd_ends_in "ends_in" = true)
    (k_ends_in : PySem.W.keepIn K (.ref f_ends_in) = true)
    (a_Shelf___init__ : PySem.W.findIn K (.ref C_Shelf) "__init__" = some (some (.ref f_Shelf___init__)))
    (i_Shelf___init__ : PySem.W.isFn K (.ref f_Shelf___init__) = true)
    (l_Shelf___init__ : K.lookup f_Shelf___init__ = some ⟨oc_Shelf___init__, od_Shelf___init__, .func (PySem.W.fnOf "__init__" "Shelf.__init__" (defArgs s_Shelf___init__) (defBody s_Shelf___init__) (defScope s_Shelf___init__) .none kV_Shelf___init__ dc_Shelf___init__ pm_Shelf___init__ an_Shelf___init__ cd_Shelf___init__ ct_Shelf___init__), sl_Shelf___init__⟩)
    (c_Shelf___init__ : PySem.W.codeIn K cd_Shelf___init__ "Shelf.__init__" = true)
    (k_Shelf___init__ : PySem.W.keepIn K (.ref f_Shelf___init__) = true)
    (a_Shelf_want : PySem.W.findIn K (.ref C_Shelf) "want" = some (some (.ref f_Shelf_want)))
    (i_Shelf_want : PySem.W.isFn K (.ref f_Shelf_want) = true)
    (l_Shelf_want : K.lookup f_Shelf_want = some ⟨oc_Shelf_want, od_Shelf_want, .func (PySem.W.fnOf "want" "Shelf.want" (defArgs s_Shelf_want) (defBody s_Shelf_want) (defScope s_Shelf_want) .none kV_Shelf_want dc_Shelf_want pm_Shelf_want an_Shelf_want cd_Shelf_want ct_Shelf_want), sl_Shelf_want⟩)
    (c_Shelf_want : PySem.W.codeIn K cd_Shelf_want "Shelf.want" = true)
    (k_Shelf_want : PySem.W.keepIn K (.ref f_Shelf_want) = true)
    (a_Shelf_want_piece : PySem.W.findIn K (.ref C_Shelf) "want_piece" = some (some (.ref f_Shelf_want_piece)))
    (i_Shelf_want_piece : PySem.W.isFn K (.ref f_Shelf_want_piece) = true)
    (l_Shelf_want_piece : K.lookup f_Shelf_want_piece = some ⟨oc_Shelf_want_piece, od_Shelf_want_piece, .func (PySem.W.fnOf "want_piece" "Shelf.want_piece" (defArgs s_Shelf_want_piece) (defBody s_Shelf_want_piece) (defScope s_Shelf_want_piece) .none kV_Shelf_want_piece dc_Shelf_want_piece pm_Shelf_want_piece an_Shelf_want_piece cd_Shelf_want_piece ct_Shelf_want_piece), sl_Shelf_want_piece⟩)
    (c_Shelf_want_piece : PySem.W.codeIn K cd_Shelf_want_piece "Shelf.want_piece" = true)
    (k_Shelf_want_piece : PySem.W.keepIn K (.ref f_Shelf_want_piece) = true)
    (a_Shelf_many : PySem.W.findIn K (.ref C_Shelf) "many" = some (some (.ref f_Shelf_many)))
    (i_Shelf_many : PySem.W.isFn K (.ref f_Shelf_many) = true)
    (l_Shelf_many : K.lookup f_Shelf_many = some ⟨oc_Shelf_many, od_Shelf_many, .func (PySem.W.fnOf "many" "Shelf.many" (defArgs s_Shelf_many) (defBody s_Shelf_many) (defScope s_Shelf_many) .none kV_Shelf_many dc_Shelf_many pm_Shelf_many an_Shelf_many cd_Shelf_many ct_Shelf_many), sl_Shelf_many⟩)
    (c_Shelf_many : PySem.W.codeIn K cd_Shelf_many "Shelf.many" = true)
    (k_Shelf_many : PySem.W.keepIn K (.ref f_Shelf_many) = true)
    (a_Shelf_piece : PySem.W.findIn K (.ref C_Shelf) "piece" = some (some (.ref f_Shelf_piece)))
    (i_Shelf_piece : PySem.W.isFn K (.ref f_Shelf_piece) = true)
    (l_Shelf_piece : K.lookup f_Shelf_piece = some ⟨oc_Shelf_piece, od_Shelf_piece, .func (PySem.W.fnOf "piece" "Shelf.piece" (defArgs s_Shelf_piece) (defBody s_Shelf_piece) (defScope s_Shelf_piece) .none kV_Shelf_piece dc_Shelf_piece pm_Shelf_piece an_Shelf_piece cd_Shelf_piece ct_Shelf_piece), sl_Shelf_piece⟩)
    (c_Shelf_piece : PySem.W.codeIn K cd_Shelf_piece "Shelf.piece" = true)
    (k_Shelf_piece : PySem.W.keepIn K (.ref f_Shelf_piece) = true)
    (a_Shelf_signs : PySem.W.findIn K (.ref C_Shelf) "signs" = some (some (.ref f_Shelf_signs)))
    (i_Shelf_signs : PySem.W.isFn K (.ref f_Shelf_signs) = true)
    (l_Shelf_signs : K.lookup f_Shelf_signs = some ⟨oc_Shelf_signs, od_Shelf_signs, .func (PySem.W.fnOf "signs" "Shelf.signs" (defArgs s_Shelf_signs) (defBody s_Shelf_signs) (defScope s_Shelf_signs) .none kV_Shelf_signs dc_Shelf_signs pm_Shelf_signs an_Shelf_signs cd_Shelf_signs ct_Shelf_signs), sl_Shelf_signs⟩)
    (c_Shelf_signs : PySem.W.codeIn K cd_Shelf_signs "Shelf.signs" = true)
    (k_Shelf_signs : PySem.W.keepIn K (.ref f_Shelf_signs) = true)
    (a_Shelf_ends : PySem.W.findIn K (.ref C_Shelf) "ends" = some (some (.ref f_Shelf_ends)))
    (i_Shelf_ends : PySem.W.isFn K (.ref f_Shelf_ends) = true)
    (l_Shelf_ends : K.lookup f_Shelf_ends = some ⟨oc_Shelf_ends, od_Shelf_ends, .func (PySem.W.fnOf "ends" "Shelf.ends" (defArgs s_Shelf_ends) (defBody s_Shelf_ends) (defScope s_Shelf_ends) .none kV_Shelf_ends dc_Shelf_ends pm_Shelf_ends an_Shelf_ends cd_Shelf_ends ct_Shelf_ends), sl_Shelf_ends⟩)
    (c_Shelf_ends : PySem.W.codeIn K cd_Shelf_ends "Shelf.ends" = true)
    (k_Shelf_ends : PySem.W.keepIn K (.ref f_Shelf_ends) = true)
    (a_Shelf_leaves : PySem.W.findIn K (.ref C_Shelf) "leaves" = some (some (.ref f_Shelf_leaves)))
    (i_Shelf_leaves : PySem.W.isFn K (.ref f_Shelf_leaves) = true)
    (l_Shelf_leaves : K.lookup f_Shelf_leaves = some ⟨oc_Shelf_leaves, od_Shelf_leaves, .func (PySem.W.fnOf "leaves" "Shelf.leaves" (defArgs s_Shelf_leaves) (defBody s_Shelf_leaves) (defScope s_Shelf_leaves) .none kV_Shelf_leaves dc_Shelf_leaves pm_Shelf_leaves an_Shelf_leaves cd_Shelf_leaves ct_Shelf_leaves), sl_Shelf_leaves⟩)
    (c_Shelf_leaves : PySem.W.codeIn K cd_Shelf_leaves "Shelf.leaves" = true)
    (k_Shelf_leaves : PySem.W.keepIn K (.ref f_Shelf_leaves) = true)
    (a_Shelf_height : PySem.W.findIn K (.ref C_Shelf) "height" = some (some (.ref f_Shelf_height)))
    (i_Shelf_height : PySem.W.isFn K (.ref f_Shelf_height) = true)
    (l_Shelf_height : K.lookup f_Shelf_height = some ⟨oc_Shelf_height, od_Shelf_height, .func (PySem.W.fnOf "height" "Shelf.height" (defArgs s_Shelf_height) (defBody s_Shelf_height) (defScope s_Shelf_height) .none kV_Shelf_height dc_Shelf_height pm_Shelf_height an_Shelf_height cd_Shelf_height ct_Shelf_height), sl_Shelf_height⟩)
    (c_Shelf_height : PySem.W.codeIn K cd_Shelf_height "Shelf.height" = true)
    (k_Shelf_height : PySem.W.keepIn K (.ref f_Shelf_height) = true)
    (a_Shelf_first_leaf : PySem.W.findIn K (.ref C_Shelf) "first_leaf" = some (some (.ref f_Shelf_first_leaf)))
    (i_Shelf_first_leaf : PySem.W.isFn K (.ref f_Shelf_first_leaf) = true)
    (l_Shelf_first_leaf : K.lookup f_Shelf_first_leaf = some ⟨oc_Shelf_first_leaf, od_Shelf_first_leaf, .func (PySem.W.fnOf "first_leaf" "Shelf.first_leaf" (defArgs s_Shelf_first_leaf) (defBody s_Shelf_first_leaf) (defScope s_Shelf_first_leaf) .none kV_Shelf_first_leaf dc_Shelf_first_leaf pm_Shelf_first_leaf an_Shelf_first_leaf cd_Shelf_first_leaf ct_Shelf_first_leaf), sl_Shelf_first_leaf⟩)
    (c_Shelf_first_leaf : PySem.W.codeIn K cd_Shelf_first_leaf "Shelf.first_leaf" = true)
    (k_Shelf_first_leaf : PySem.W.keepIn K (.ref f_Shelf_first_leaf) = true)
    (a_Shelf_last_leaf : PySem.W.findIn K (.ref C_Shelf) "last_leaf" = some (some (.ref f_Shelf_last_leaf)))
    (i_Shelf_last_leaf : PySem.W.isFn K (.ref f_Shelf_last_leaf) = true)
    (l_Shelf_last_leaf : K.lookup f_Shelf_last_leaf = some ⟨oc_Shelf_last_leaf, od_Shelf_last_leaf, .func (PySem.W.fnOf "last_leaf" "Shelf.last_leaf" (defArgs s_Shelf_last_leaf) (defBody s_Shelf_last_leaf) (defScope s_Shelf_last_leaf) .none kV_Shelf_last_leaf dc_Shelf_last_leaf pm_Shelf_last_leaf an_Shelf_last_leaf cd_Shelf_last_leaf ct_Shelf_last_leaf), sl_Shelf_last_leaf⟩)
    (c_Shelf_last_leaf : PySem.W.codeIn K cd_Shelf_last_leaf "Shelf.last_leaf" = true)
    (k_Shelf_last_leaf : PySem.W.keepIn K (.ref f_Shelf_last_leaf) = true)
    (a_Shelf_laid : PySem.W.findIn K (.ref C_Shelf) "laid" = some (some (.ref f_Shelf_laid)))
    (i_Shelf_laid : PySem.W.isFn K (.ref f_Shelf_laid) = true)
    (l_Shelf_laid : K.lookup f_Shelf_laid = some ⟨oc_Shelf_laid, od_Shelf_laid, .func (PySem.W.fnOf "laid" "Shelf.laid" (defArgs s_Shelf_laid) (defBody s_Shelf_laid) (defScope s_Shelf_laid) .none kV_Shelf_laid dc_Shelf_laid pm_Shelf_laid an_Shelf_laid cd_Shelf_laid ct_Shelf_laid), sl_Shelf_laid⟩)
    (c_Shelf_laid : PySem.W.codeIn K cd_Shelf_laid "Shelf.laid" = true)
    (k_Shelf_laid : PySem.W.keepIn K (.ref f_Shelf_laid) = true)
    (a_Shelf_leaf : PySem.W.findIn K (.ref C_Shelf) "leaf" = some (some (.ref f_Shelf_leaf)))
    (i_Shelf_leaf : PySem.W.isFn K (.ref f_Shelf_leaf) = true)
    (l_Shelf_leaf : K.lookup f_Shelf_leaf = some ⟨oc_Shelf_leaf, od_Shelf_leaf, .func (PySem.W.fnOf "leaf" "Shelf.leaf" (defArgs s_Shelf_leaf) (defBody s_Shelf_leaf) (defScope s_Shelf_leaf) .none kV_Shelf_leaf dc_Shelf_leaf pm_Shelf_leaf an_Shelf_leaf cd_Shelf_leaf ct_Shelf_leaf), sl_Shelf_leaf⟩)
    (c_Shelf_leaf : PySem.W.codeIn K cd_Shelf_leaf "Shelf.leaf" = true)
    (k_Shelf_leaf : PySem.W.keepIn K (.ref f_Shelf_leaf) = true)
    (a_Shelf_fork : PySem.W.findIn K (.ref C_Shelf) "fork" = some (some (.ref f_Shelf_fork)))
    (i_Shelf_fork : PySem.W.isFn K (.ref f_Shelf_fork) = true)
    (l_Shelf_fork : K.lookup f_Shelf_fork = some ⟨oc_Shelf_fork, od_Shelf_fork, .func (PySem.W.fnOf "fork" "Shelf.fork" (defArgs s_Shelf_fork) (defBody s_Shelf_fork) (defScope s_Shelf_fork) .none kV_Shelf_fork dc_Shelf_fork pm_Shelf_fork an_Shelf_fork cd_Shelf_fork ct_Shelf_fork), sl_Shelf_fork⟩)
    (c_Shelf_fork : PySem.W.codeIn K cd_Shelf_fork "Shelf.fork" = true)
    (k_Shelf_fork : PySem.W.keepIn K (.ref f_Shelf_fork) = true)
    (a_Shelf_is_loose : PySem.W.findIn K (.ref C_Shelf) "is_loose" = some (some (.ref f_Shelf_is_loose)))
    (i_Shelf_is_loose : PySem.W.isFn K (.ref f_Shelf_is_loose) = true)
    (l_Shelf_is_loose : K.lookup f_Shelf_is_loose = some ⟨oc_Shelf_is_loose, od_Shelf_is_loose, .func (PySem.W.fnOf "is_loose" "Shelf.is_loose" (defArgs s_Shelf_is_loose) (defBody s_Shelf_is_loose) (defScope s_Shelf_is_loose) .none kV_Shelf_is_loose dc_Shelf_is_loose pm_Shelf_is_loose an_Shelf_is_loose cd_Shelf_is_loose ct_Shelf_is_loose), sl_Shelf_is_loose⟩)
    (c_Shelf_is_loose : PySem.W.codeIn K cd_Shelf_is_loose "Shelf.is_loose" = true)
    (k_Shelf_is_loose : PySem.W.keepIn K (.ref f_Shelf_is_loose) = true)
    (a_written : PySem.W.nsIn K mainGlobals "written" = some (some (.ref f_written)))
    (l_written : K.lookup f_written = some ⟨oc_written, od_written, .func (PySem.W.fnOf "written" "written" (defArgs s_written) (defBody s_written) (defScope s_written) .none kV_written dc_written pm_written an_written cd_written ct_written), sl_written⟩)
    (c_written : PySem.W.codeIn K cd_written "written" = true)
    (k_written : PySem.W.keepIn K (.ref f_written) = true)
    (a_read_written : PySem.W.nsIn K mainGlobals "read_written" = some (some (.ref f_read_written)))
    (l_read_written : K.lookup f_read_written = some ⟨oc_read_written, od_read_written, .func (PySem.W.fnOf "read_written" "read_written" (defArgs s_read_written) (defBody s_read_written) (defScope s_read_written) .none kV_read_written dc_read_written pm_read_written an_read_written cd_read_written ct_read_written), sl_read_written⟩)
    (c_read_written : PySem.W.codeIn K cd_read_written "read_written" = true)
    (k_read_written : PySem.W.keepIn K (.ref f_read_written) = true)
    (a_number_in : PySem.W.nsIn K mainGlobals "number_in" = some (some (.ref f_number_in)))
    (l_number_in : K.lookup f_number_in = some ⟨oc_number_in, od_number_in, .func (PySem.W.fnOf "number_in" "number_in" (defArgs s_number_in) (defBody s_number_in) (defScope s_number_in) .none kV_number_in dc_number_in pm_number_in an_number_in cd_number_in ct_number_in), sl_number_in⟩)
    (c_number_in : PySem.W.codeIn K cd_number_in "number_in" = true)
    (k_number_in : PySem.W.keepIn K (.ref f_number_in) = true)
    (a_piece_row : PySem.W.nsIn K mainGlobals "piece_row" = some (some (.ref f_piece_row)))
    (l_piece_row : K.lookup f_piece_row = some ⟨oc_piece_row, od_piece_row, .func (PySem.W.fnOf "piece_row" "piece_row" (defArgs s_piece_row) (defBody s_piece_row) (defScope s_piece_row) .none kV_piece_row dc_piece_row pm_piece_row an_piece_row cd_piece_row ct_piece_row), sl_piece_row⟩)
    (c_piece_row : PySem.W.codeIn K cd_piece_row "piece_row" = true)
    (k_piece_row : PySem.W.keepIn K (.ref f_piece_row) = true)
    (a_shelf_text : PySem.W.nsIn K mainGlobals "shelf_text" = some (some (.ref f_shelf_text)))
    (l_shelf_text : K.lookup f_shelf_text = some ⟨oc_shelf_text, od_shelf_text, .func (PySem.W.fnOf "shelf_text" "shelf_text" (defArgs s_shelf_text) (defBody s_shelf_text) (defScope s_shelf_text) .none kV_shelf_text dc_shelf_text pm_shelf_text an_shelf_text cd_shelf_text ct_shelf_text), sl_shelf_text⟩)
    (c_shelf_text : PySem.W.codeIn K cd_shelf_text "shelf_text" = true)
    (k_shelf_text : PySem.W.keepIn K (.ref f_shelf_text) = true)
    (a_laid_by : PySem.W.nsIn K mainGlobals "laid_by" = some (some (.ref f_laid_by)))
    (l_laid_by : K.lookup f_laid_by = some ⟨oc_laid_by, od_laid_by, .func (PySem.W.fnOf "laid_by" "laid_by" (defArgs s_laid_by) (defBody s_laid_by) (defScope s_laid_by) .none kV_laid_by dc_laid_by pm_laid_by an_laid_by cd_laid_by ct_laid_by), sl_laid_by⟩)
    (c_laid_by : PySem.W.codeIn K cd_laid_by "laid_by" = true)
    (k_laid_by : PySem.W.keepIn K (.ref f_laid_by) = true)
    (a_lies_anew : PySem.W.nsIn K mainGlobals "lies_anew" = some (some (.ref f_lies_anew)))
    (l_lies_anew : K.lookup f_lies_anew = some ⟨oc_lies_anew, od_lies_anew, .func (PySem.W.fnOf "lies_anew" "lies_anew" (defArgs s_lies_anew) (defBody s_lies_anew) (defScope s_lies_anew) .none kV_lies_anew dc_lies_anew pm_lies_anew an_lies_anew cd_lies_anew ct_lies_anew), sl_lies_anew⟩)
    (c_lies_anew : PySem.W.codeIn K cd_lies_anew "lies_anew" = true)
    (k_lies_anew : PySem.W.keepIn K (.ref f_lies_anew) = true)
    (a_read_shelf : PySem.W.nsIn K mainGlobals "read_shelf" = some (some (.ref f_read_shelf)))
    (l_read_shelf : K.lookup f_read_shelf = some ⟨oc_read_shelf, od_read_shelf, .func (PySem.W.fnOf "read_shelf" "read_shelf" (defArgs s_read_shelf) (defBody s_read_shelf) (defScope s_read_shelf) .none kV_read_shelf dc_read_shelf pm_read_shelf an_read_shelf cd_read_shelf ct_read_shelf), sl_read_shelf⟩)
    (c_read_shelf : PySem.W.codeIn K cd_read_shelf "read_shelf" = true)
    (k_read_shelf : PySem.W.keepIn K (.ref f_read_shelf) = true)
    (a_built_of : PySem.W.nsIn K mainGlobals "built_of" = some (some (.ref f_built_of)))
    (l_built_of : K.lookup f_built_of = some ⟨oc_built_of, od_built_of, .func (PySem.W.fnOf "built_of" "built_of" (defArgs s_built_of) (defBody s_built_of) (defScope s_built_of) .none kV_built_of dc_built_of pm_built_of an_built_of cd_built_of ct_built_of), sl_built_of⟩)
    (c_built_of : PySem.W.codeIn K cd_built_of "built_of" = true)
    (k_built_of : PySem.W.keepIn K (.ref f_built_of) = true)
    (a_built : PySem.W.nsIn K mainGlobals "built" = some (some (.ref f_built)))
    (l_built : K.lookup f_built = some ⟨oc_built, od_built, .func (PySem.W.fnOf "built" "built" (defArgs s_built) (defBody s_built) (defScope s_built) .none kV_built dc_built pm_built an_built cd_built ct_built), sl_built⟩)
    (c_built : PySem.W.codeIn K cd_built "built" = true)
    (k_built : PySem.W.keepIn K (.ref f_built) = true)
    (a__law_mixed : PySem.W.nsIn K mainGlobals "_law_mixed" = some (some (.ref f__law_mixed)))
    (l__law_mixed : K.lookup f__law_mixed = some ⟨oc__law_mixed, od__law_mixed, .func (PySem.W.fnOf "_law_mixed" "_law_mixed" (defArgs s__law_mixed) (defBody s__law_mixed) (defScope s__law_mixed) .none kV__law_mixed dc__law_mixed pm__law_mixed an__law_mixed cd__law_mixed ct__law_mixed), sl__law_mixed⟩)
    (c__law_mixed : PySem.W.codeIn K cd__law_mixed "_law_mixed" = true)
    (k__law_mixed : PySem.W.keepIn K (.ref f__law_mixed) = true)
    (a__law_stream : PySem.W.nsIn K mainGlobals "_law_stream" = some (some (.ref f__law_stream)))
    (l__law_stream : K.lookup f__law_stream = some ⟨oc__law_stream, od__law_stream, .func (PySem.W.fnOf "_law_stream" "_law_stream" (defArgs s__law_stream) (defBody s__law_stream) (defScope s__law_stream) .none kV__law_stream dc__law_stream pm__law_stream an__law_stream cd__law_stream ct__law_stream), sl__law_stream⟩)
    (c__law_stream : PySem.W.codeIn K cd__law_stream "_law_stream" = true)
    (k__law_stream : PySem.W.keepIn K (.ref f__law_stream) = true)
    (a__law_digit : PySem.W.nsIn K mainGlobals "_law_digit" = some (some (.ref f__law_digit)))
    (l__law_digit : K.lookup f__law_digit = some ⟨oc__law_digit, od__law_digit, .func (PySem.W.fnOf "_law_digit" "_law_digit" (defArgs s__law_digit) (defBody s__law_digit) (defScope s__law_digit) .none kV__law_digit dc__law_digit pm__law_digit an__law_digit cd__law_digit ct__law_digit), sl__law_digit⟩)
    (c__law_digit : PySem.W.codeIn K cd__law_digit "_law_digit" = true)
    (k__law_digit : PySem.W.keepIn K (.ref f__law_digit) = true)
    (a__law_letters : PySem.W.nsIn K mainGlobals "_law_letters" = some (some (.ref f__law_letters)))
    (l__law_letters : K.lookup f__law_letters = some ⟨oc__law_letters, od__law_letters, .func (PySem.W.fnOf "_law_letters" "_law_letters" (defArgs s__law_letters) (defBody s__law_letters) (defScope s__law_letters) .none kV__law_letters dc__law_letters pm__law_letters an__law_letters cd__law_letters ct__law_letters), sl__law_letters⟩)
    (c__law_letters : PySem.W.codeIn K cd__law_letters "_law_letters" = true)
    (k__law_letters : PySem.W.keepIn K (.ref f__law_letters) = true)
    (a__law_tree : PySem.W.nsIn K mainGlobals "_law_tree" = some (some (.ref f__law_tree)))
    (l__law_tree : K.lookup f__law_tree = some ⟨oc__law_tree, od__law_tree, .func (PySem.W.fnOf "_law_tree" "_law_tree" (defArgs s__law_tree) (defBody s__law_tree) (defScope s__law_tree) .none kV__law_tree dc__law_tree pm__law_tree an__law_tree cd__law_tree ct__law_tree), sl__law_tree⟩)
    (c__law_tree : PySem.W.codeIn K cd__law_tree "_law_tree" = true)
    (k__law_tree : PySem.W.keepIn K (.ref f__law_tree) = true)
    (a__law_text : PySem.W.nsIn K mainGlobals "_law_text" = some (some (.ref f__law_text)))
    (l__law_text : K.lookup f__law_text = some ⟨oc__law_text, od__law_text, .func (PySem.W.fnOf "_law_text" "_law_text" (defArgs s__law_text) (defBody s__law_text) (defScope s__law_text) .none kV__law_text dc__law_text pm__law_text an__law_text cd__law_text ct__law_text), sl__law_text⟩)
    (c__law_text : PySem.W.codeIn K cd__law_text "_law_text" = true)
    (k__law_text : PySem.W.keepIn K (.ref f__law_text) = true)
    (a__law_long : PySem.W.nsIn K mainGlobals "_law_long" = some (some (.ref f__law_long)))
    (l__law_long : K.lookup f__law_long = some ⟨oc__law_long, od__law_long, .func (PySem.W.fnOf "_law_long" "_law_long" (defArgs s__law_long) (defBody s__law_long) (defScope s__law_long) .none kV__law_long dc__law_long pm__law_long an__law_long cd__law_long ct__law_long), sl__law_long⟩)
    (c__law_long : PySem.W.codeIn K cd__law_long "_law_long" = true)
    (k__law_long : PySem.W.keepIn K (.ref f__law_long) = true)
    (a__law_drawn_shelf : PySem.W.nsIn K mainGlobals "_law_drawn_shelf" = some (some (.ref f__law_drawn_shelf)))
    (l__law_drawn_shelf : K.lookup f__law_drawn_shelf = some ⟨oc__law_drawn_shelf, od__law_drawn_shelf, .func (PySem.W.fnOf "_law_drawn_shelf" "_law_drawn_shelf" (defArgs s__law_drawn_shelf) (defBody s__law_drawn_shelf) (defScope s__law_drawn_shelf) .none kV__law_drawn_shelf dc__law_drawn_shelf pm__law_drawn_shelf an__law_drawn_shelf cd__law_drawn_shelf ct__law_drawn_shelf), sl__law_drawn_shelf⟩)
    (c__law_drawn_shelf : PySem.W.codeIn K cd__law_drawn_shelf "_law_drawn_shelf" = true)
    (k__law_drawn_shelf : PySem.W.keepIn K (.ref f__law_drawn_shelf) = true)
    (a__law_written : PySem.W.nsIn K mainGlobals "_law_written" = some (some (.ref f__law_written)))
    (l__law_written : K.lookup f__law_written = some ⟨oc__law_written, od__law_written, .func (PySem.W.fnOf "_law_written" "_law_written" (defArgs s__law_written) (defBody s__law_written) (defScope s__law_written) .none kV__law_written dc__law_written pm__law_written an__law_written cd__law_written ct__law_written), sl__law_written⟩)
    (c__law_written : PySem.W.codeIn K cd__law_written "_law_written" = true)
    (k__law_written : PySem.W.keepIn K (.ref f__law_written) = true)
    (a__law_shelf_text : PySem.W.nsIn K mainGlobals "_law_shelf_text" = some (some (.ref f__law_shelf_text)))
    (l__law_shelf_text : K.lookup f__law_shelf_text = some ⟨oc__law_shelf_text, od__law_shelf_text, .func (PySem.W.fnOf "_law_shelf_text" "_law_shelf_text" (defArgs s__law_shelf_text) (defBody s__law_shelf_text) (defScope s__law_shelf_text) .none kV__law_shelf_text dc__law_shelf_text pm__law_shelf_text an__law_shelf_text cd__law_shelf_text ct__law_shelf_text), sl__law_shelf_text⟩)
    (c__law_shelf_text : PySem.W.codeIn K cd__law_shelf_text "_law_shelf_text" = true)
    (k__law_shelf_text : PySem.W.keepIn K (.ref f__law_shelf_text) = true)
    (a__law_same : PySem.W.nsIn K mainGlobals "_law_same" = some (some (.ref f__law_same)))
    (l__law_same : K.lookup f__law_same = some ⟨oc__law_same, od__law_same, .func (PySem.W.fnOf "_law_same" "_law_same" (defArgs s__law_same) (defBody s__law_same) (defScope s__law_same) .none kV__law_same dc__law_same pm__law_same an__law_same cd__law_same ct__law_same), sl__law_same⟩)
    (c__law_same : PySem.W.codeIn K cd__law_same "_law_same" = true)
    (k__law_same : PySem.W.keepIn K (.ref f__law_same) = true)
    (a__law_other_order : PySem.W.nsIn K mainGlobals "_law_other_order" = some (some (.ref f__law_other_order)))
    (l__law_other_order : K.lookup f__law_other_order = some ⟨oc__law_other_order, od__law_other_order, .func (PySem.W.fnOf "_law_other_order" "_law_other_order" (defArgs s__law_other_order) (defBody s__law_other_order) (defScope s__law_other_order) .none kV__law_other_order dc__law_other_order pm__law_other_order an__law_other_order cd__law_other_order ct__law_other_order), sl__law_other_order⟩)
    (c__law_other_order : PySem.W.codeIn K cd__law_other_order "_law_other_order" = true)
    (k__law_other_order : PySem.W.keepIn K (.ref f__law_other_order) = true)
    (a_law : PySem.W.nsIn K mainGlobals "law" = some (some (.ref f_law)))
    (l_law : K.lookup f_law = some ⟨oc_law, od_law, .func (PySem.W.fnOf "law" "law" (defArgs s_law) (defBody s_law) (defScope s_law) .none kV_law dc_law pm_law an_law cd_law ct_law), sl_law⟩)
    (c_law : PySem.W.codeIn K cd_law "law" = true)
    (k_law : PySem.W.keepIn K (.ref f_law) = true)
    (kc_MOST_IN_LEAF : PySem.W.nsIn K mainGlobals "MOST_IN_LEAF" = some (some (.int 8 tk_MOST_IN_LEAF)))
    (kc_FIGURES : PySem.W.nsIn K mainGlobals "FIGURES" = some (some (.str "0123456789" tk_FIGURES)))
    (kc_MOST_FIGURES : PySem.W.nsIn K mainGlobals "MOST_FIGURES" = some (some (.int 30 tk_MOST_FIGURES)))
    (kc_MOST_WRITTEN : PySem.W.nsIn K mainGlobals "MOST_WRITTEN" = some (some (.int 10000 tk_MOST_WRITTEN)))
    (z_len : PySem.W.nsIn K mainGlobals "len" = some none)
    (z_max : PySem.W.nsIn K mainGlobals "max" = some none)
    (z_min : PySem.W.nsIn K mainGlobals "min" = some none)
    (z_range : PySem.W.nsIn K mainGlobals "range" = some none)
    (z_isinstance : PySem.W.nsIn K mainGlobals "isinstance" = some none)
    (z_all : PySem.W.nsIn K mainGlobals "all" = some none)
    (z_sum : PySem.W.nsIn K mainGlobals "sum" = some none)
    (z_str : PySem.W.nsIn K mainGlobals "str" = some none)
    (z_int : PySem.W.nsIn K mainGlobals "int" = some none)
    (z_enumerate : PySem.W.nsIn K mainGlobals "enumerate" = some none)
    : ∃ fd : FuncData, (∀ (s : Shared) (v : Value), BindsTo s fd ⟨[v], []⟩ [("script", v)]) ∧ ∀ base : Heap, K.In base → base.Ns mainGlobals mg → FnOk l.prog w K mg base (L2.CX l.prog w) 21 fa fd ["script"] (spLaw K) := by
  have e := hfa.symm.trans (PySem.W.mg_of X G a_law)
  cases e
  let A : Ad := { C_Shelf := C_Shelf, C_Loose := C_Loose, C_NoPiece := C_NoPiece, C_NoText := C_NoText, C_TooLong := C_TooLong, C_Unlevel := C_Unlevel, f_is_plain := f_is_plain, d_is_plain := PySem.W.fnOf "is_plain" "is_plain" (defArgs s_is_plain) (defBody s_is_plain) (defScope s_is_plain) .none kV_is_plain dc_is_plain pm_is_plain an_is_plain cd_is_plain ct_is_plain, f_ends_in := f_ends_in, d_ends_in := PySem.W.fnOf "ends_in" "ends_in" (defArgs s_ends_in) (defBody s_ends_in) (defScope s_ends_in) .none kV_ends_in dc_ends_in pm_ends_in an_ends_in cd_ends_in ct_ends_in, f_Shelf___init__ := f_Shelf___init__, d_Shelf___init__ := PySem.W.fnOf "__init__" "Shelf.__init__" (defArgs s_Shelf___init__) (defBody s_Shelf___init__) (defScope s_Shelf___init__) .none kV_Shelf___init__ dc_Shelf___init__ pm_Shelf___init__ an_Shelf___init__ cd_Shelf___init__ ct_Shelf___init__, f_Shelf_want := f_Shelf_want, d_Shelf_want := PySem.W.fnOf "want" "Shelf.want" (defArgs s_Shelf_want) (defBody s_Shelf_want) (defScope s_Shelf_want) .none kV_Shelf_want dc_Shelf_want pm_Shelf_want an_Shelf_want cd_Shelf_want ct_Shelf_want, f_Shelf_want_piece := f_Shelf_want_piece, d_Shelf_want_piece := PySem.W.fnOf "want_piece" "Shelf.want_piece" (defArgs s_Shelf_want_piece) (defBody s_Shelf_want_piece) (defScope s_Shelf_want_piece) .none kV_Shelf_want_piece dc_Shelf_want_piece pm_Shelf_want_piece an_Shelf_want_piece cd_Shelf_want_piece ct_Shelf_want_piece, f_Shelf_many := f_Shelf_many, d_Shelf_many := PySem.W.fnOf "many" "Shelf.many" (defArgs s_Shelf_many) (defBody s_Shelf_many) (defScope s_Shelf_many) .none kV_Shelf_many dc_Shelf_many pm_Shelf_many an_Shelf_many cd_Shelf_many ct_Shelf_many, f_Shelf_piece := f_Shelf_piece, d_Shelf_piece := PySem.W.fnOf "piece" "Shelf.piece" (defArgs s_Shelf_piece) (defBody s_Shelf_piece) (defScope s_Shelf_piece) .none kV_Shelf_piece dc_Shelf_piece pm_Shelf_piece an_Shelf_piece cd_Shelf_piece ct_Shelf_piece, f_Shelf_signs := f_Shelf_signs, d_Shelf_signs := PySem.W.fnOf "signs" "Shelf.signs" (defArgs s_Shelf_signs) (defBody s_Shelf_signs) (defScope s_Shelf_signs) .none kV_Shelf_signs dc_Shelf_signs pm_Shelf_signs an_Shelf_signs cd_Shelf_signs ct_Shelf_signs, f_Shelf_ends := f_Shelf_ends, d_Shelf_ends := PySem.W.fnOf "ends" "Shelf.ends" (defArgs s_Shelf_ends) (defBody s_Shelf_ends) (defScope s_Shelf_ends) .none kV_Shelf_ends dc_Shelf_ends pm_Shelf_ends an_Shelf_ends cd_Shelf_ends ct_Shelf_ends, f_Shelf_leaves := f_Shelf_leaves, d_Shelf_leaves := PySem.W.fnOf "leaves" "Shelf.leaves" (defArgs s_Shelf_leaves) (defBody s_Shelf_leaves) (defScope s_Shelf_leaves) .none kV_Shelf_leaves dc_Shelf_leaves pm_Shelf_leaves an_Shelf_leaves cd_Shelf_leaves ct_Shelf_leaves, f_Shelf_height := f_Shelf_height, d_Shelf_height := PySem.W.fnOf "height" "Shelf.height" (defArgs s_Shelf_height) (defBody s_Shelf_height) (defScope s_Shelf_height) .none kV_Shelf_height dc_Shelf_height pm_Shelf_height an_Shelf_height cd_Shelf_height ct_Shelf_height, f_Shelf_first_leaf := f_Shelf_first_leaf, d_Shelf_first_leaf := PySem.W.fnOf "first_leaf" "Shelf.first_leaf" (defArgs s_Shelf_first_leaf) (defBody s_Shelf_first_leaf) (defScope s_Shelf_first_leaf) .none kV_Shelf_first_leaf dc_Shelf_first_leaf pm_Shelf_first_leaf an_Shelf_first_leaf cd_Shelf_first_leaf ct_Shelf_first_leaf, f_Shelf_last_leaf := f_Shelf_last_leaf, d_Shelf_last_leaf := PySem.W.fnOf "last_leaf" "Shelf.last_leaf" (defArgs s_Shelf_last_leaf) (defBody s_Shelf_last_leaf) (defScope s_Shelf_last_leaf) .none kV_Shelf_last_leaf dc_Shelf_last_leaf pm_Shelf_last_leaf an_Shelf_last_leaf cd_Shelf_last_leaf ct_Shelf_last_leaf, f_Shelf_laid := f_Shelf_laid, d_Shelf_laid := PySem.W.fnOf "laid" "Shelf.laid" (defArgs s_Shelf_laid) (defBody s_Shelf_laid) (defScope s_Shelf_laid) .none kV_Shelf_laid dc_Shelf_laid pm_Shelf_laid an_Shelf_laid cd_Shelf_laid ct_Shelf_laid, f_Shelf_leaf := f_Shelf_leaf, d_Shelf_leaf := PySem.W.fnOf "leaf" "Shelf.leaf" (defArgs s_Shelf_leaf) (defBody s_Shelf_leaf) (defScope s_Shelf_leaf) .none kV_Shelf_leaf dc_Shelf_leaf pm_Shelf_leaf an_Shelf_leaf cd_Shelf_leaf ct_Shelf_leaf, f_Shelf_fork := f_Shelf_fork, d_Shelf_fork := PySem.W.fnOf "fork" "Shelf.fork" (defArgs s_Shelf_fork) (defBody s_Shelf_fork) (defScope s_Shelf_fork) .none kV_Shelf_fork dc_Shelf_fork pm_Shelf_fork an_Shelf_fork cd_Shelf_fork ct_Shelf_fork, f_Shelf_is_loose := f_Shelf_is_loose, d_Shelf_is_loose := PySem.W.fnOf "is_loose" "Shelf.is_loose" (defArgs s_Shelf_is_loose) (defBody s_Shelf_is_loose) (defScope s_Shelf_is_loose) .none kV_Shelf_is_loose dc_Shelf_is_loose pm_Shelf_is_loose an_Shelf_is_loose cd_Shelf_is_loose ct_Shelf_is_loose, f_written := f_written, d_written := PySem.W.fnOf "written" "written" (defArgs s_written) (defBody s_written) (defScope s_written) .none kV_written dc_written pm_written an_written cd_written ct_written, f_read_written := f_read_written, d_read_written := PySem.W.fnOf "read_written" "read_written" (defArgs s_read_written) (defBody s_read_written) (defScope s_read_written) .none kV_read_written dc_read_written pm_read_written an_read_written cd_read_written ct_read_written, f_number_in := f_number_in, d_number_in := PySem.W.fnOf "number_in" "number_in" (defArgs s_number_in) (defBody s_number_in) (defScope s_number_in) .none kV_number_in dc_number_in pm_number_in an_number_in cd_number_in ct_number_in, f_piece_row := f_piece_row, d_piece_row := PySem.W.fnOf "piece_row" "piece_row" (defArgs s_piece_row) (defBody s_piece_row) (defScope s_piece_row) .none kV_piece_row dc_piece_row pm_piece_row an_piece_row cd_piece_row ct_piece_row, f_shelf_text := f_shelf_text, d_shelf_text := PySem.W.fnOf "shelf_text" "shelf_text" (defArgs s_shelf_text) (defBody s_shelf_text) (defScope s_shelf_text) .none kV_shelf_text dc_shelf_text pm_shelf_text an_shelf_text cd_shelf_text ct_shelf_text, f_laid_by := f_laid_by, d_laid_by := PySem.W.fnOf "laid_by" "laid_by" (defArgs s_laid_by) (defBody s_laid_by) (defScope s_laid_by) .none kV_laid_by dc_laid_by pm_laid_by an_laid_by cd_laid_by ct_laid_by, f_lies_anew := f_lies_anew, d_lies_anew := PySem.W.fnOf "lies_anew" "lies_anew" (defArgs s_lies_anew) (defBody s_lies_anew) (defScope s_lies_anew) .none kV_lies_anew dc_lies_anew pm_lies_anew an_lies_anew cd_lies_anew ct_lies_anew, f_read_shelf := f_read_shelf, d_read_shelf := PySem.W.fnOf "read_shelf" "read_shelf" (defArgs s_read_shelf) (defBody s_read_shelf) (defScope s_read_shelf) .none kV_read_shelf dc_read_shelf pm_read_shelf an_read_shelf cd_read_shelf ct_read_shelf, f_built_of := f_built_of, d_built_of := PySem.W.fnOf "built_of" "built_of" (defArgs s_built_of) (defBody s_built_of) (defScope s_built_of) .none kV_built_of dc_built_of pm_built_of an_built_of cd_built_of ct_built_of, f_built := f_built, d_built := PySem.W.fnOf "built" "built" (defArgs s_built) (defBody s_built) (defScope s_built) .none kV_built dc_built pm_built an_built cd_built ct_built, f__law_mixed := f__law_mixed, d__law_mixed := PySem.W.fnOf "_law_mixed" "_law_mixed" (defArgs s__law_mixed) (defBody s__law_mixed) (defScope s__law_mixed) .none kV__law_mixed dc__law_mixed pm__law_mixed an__law_mixed cd__law_mixed ct__law_mixed, f__law_stream := f__law_stream, d__law_stream := PySem.W.fnOf "_law_stream" "_law_stream" (defArgs s__law_stream) (defBody s__law_stream) (defScope s__law_stream) .none kV__law_stream dc__law_stream pm__law_stream an__law_stream cd__law_stream ct__law_stream, f__law_digit := f__law_digit, d__law_digit := PySem.W.fnOf "_law_digit" "_law_digit" (defArgs s__law_digit) (defBody s__law_digit) (defScope s__law_digit) .none kV__law_digit dc__law_digit pm__law_digit an__law_digit cd__law_digit ct__law_digit, f__law_letters := f__law_letters, d__law_letters := PySem.W.fnOf "_law_letters" "_law_letters" (defArgs s__law_letters) (defBody s__law_letters) (defScope s__law_letters) .none kV__law_letters dc__law_letters pm__law_letters an__law_letters cd__law_letters ct__law_letters, f__law_tree := f__law_tree, d__law_tree := PySem.W.fnOf "_law_tree" "_law_tree" (defArgs s__law_tree) (defBody s__law_tree) (defScope s__law_tree) .none kV__law_tree dc__law_tree pm__law_tree an__law_tree cd__law_tree ct__law_tree, f__law_text := f__law_text, d__law_text := PySem.W.fnOf "_law_text" "_law_text" (defArgs s__law_text) (defBody s__law_text) (defScope s__law_text) .none kV__law_text dc__law_text pm__law_text an__law_text cd__law_text ct__law_text, f__law_long := f__law_long, d__law_long := PySem.W.fnOf "_law_long" "_law_long" (defArgs s__law_long) (defBody s__law_long) (defScope s__law_long) .none kV__law_long dc__law_long pm__law_long an__law_long cd__law_long ct__law_long, f__law_drawn_shelf := f__law_drawn_shelf, d__law_drawn_shelf := PySem.W.fnOf "_law_drawn_shelf" "_law_drawn_shelf" (defArgs s__law_drawn_shelf) (defBody s__law_drawn_shelf) (defScope s__law_drawn_shelf) .none kV__law_drawn_shelf dc__law_drawn_shelf pm__law_drawn_shelf an__law_drawn_shelf cd__law_drawn_shelf ct__law_drawn_shelf, f__law_written := f__law_written, d__law_written := PySem.W.fnOf "_law_written" "_law_written" (defArgs s__law_written) (defBody s__law_written) (defScope s__law_written) .none kV__law_written dc__law_written pm__law_written an__law_written cd__law_written ct__law_written, f__law_shelf_text := f__law_shelf_text, d__law_shelf_text := PySem.W.fnOf "_law_shelf_text" "_law_shelf_text" (defArgs s__law_shelf_text) (defBody s__law_shelf_text) (defScope s__law_shelf_text) .none kV__law_shelf_text dc__law_shelf_text pm__law_shelf_text an__law_shelf_text cd__law_shelf_text ct__law_shelf_text, f__law_same := f__law_same, d__law_same := PySem.W.fnOf "_law_same" "_law_same" (defArgs s__law_same) (defBody s__law_same) (defScope s__law_same) .none kV__law_same dc__law_same pm__law_same an__law_same cd__law_same ct__law_same, f__law_other_order := f__law_other_order, d__law_other_order := PySem.W.fnOf "_law_other_order" "_law_other_order" (defArgs s__law_other_order) (defBody s__law_other_order) (defScope s__law_other_order) .none kV__law_other_order dc__law_other_order pm__law_other_order an__law_other_order cd__law_other_order ct__law_other_order, f_law := fa, d_law := PySem.W.fnOf "law" "law" (defArgs s_law) (defBody s_law) (defScope s_law) .none kV_law dc_law pm_law an_law cd_law ct_law }
  have T : Txt K mg A := ⟨(⟨pg_Shelf, hd_Shelf, po_Shelf, sa_Shelf⟩),
    (PySem.W.mg_of X G aC_Shelf),
    (na_Shelf_pieces),
    (na_Shelf_numbers),
    (na_Shelf_told_signs),
    (na_Shelf_told_ends),
    (na_Shelf_told_leaves),
    (na_Shelf_told_heights),
    (na_Shelf_firsts),
    (na_Shelf_lasts),
    (⟨mk_Shelf, a_Shelf___init__, i_Shelf___init__, kc_Shelf⟩),
    (⟨PySem.W.mg_of X G eg_Loose, ex_Loose, ek_Loose, eb_Loose, et_Loose⟩),
    (⟨PySem.W.mg_of X G eg_NoPiece, ex_NoPiece, ek_NoPiece, eb_NoPiece, et_NoPiece⟩),
    (⟨PySem.W.mg_of X G eg_NoText, ex_NoText, ek_NoText, eb_NoText, et_NoText⟩),
    (⟨PySem.W.mg_of X G eg_TooLong, ex_TooLong, ek_TooLong, eb_TooLong, et_TooLong⟩),
    (⟨PySem.W.mg_of X G eg_Unlevel, ex_Unlevel, ek_Unlevel, eb_Unlevel, et_Unlevel⟩),
    (⟨ic_Shelf_ha, ic_Shelf_hn, ic_Shelf_ht, ic_Shelf_hm⟩),
    (hx_NoText),
    (hx_NoPiece),
    (hx_Loose),
    (hx_Unlevel),
    (hx_TooLong),
    (sb_NoPiece_NoText),
    (sb_NoPiece_NoPiece),
    (sb_NoPiece_Loose),
    (sb_NoPiece_Unlevel),
    (sb_NoPiece_TooLong),
    (sb_NoText_NoText),
    (sb_NoText_NoPiece),
    (sb_NoText_Loose),
    (sb_NoText_Unlevel),
    (sb_NoText_TooLong),
    (sb_Loose_NoText),
    (sb_Loose_NoPiece),
    (sb_Loose_Loose),
    (sb_Loose_Unlevel),
    (sb_Loose_TooLong),
    (sb_Unlevel_NoText),
    (sb_Unlevel_NoPiece),
    (sb_Unlevel_Loose),
    (sb_Unlevel_Unlevel),
    (sb_Unlevel_TooLong),
    (sb_TooLong_NoText),
    (sb_TooLong_NoPiece),
    (sb_TooLong_Loose),
    (sb_TooLong_Unlevel),
    (sb_TooLong_TooLong),
    (fun_mk (st := s_is_plain) l_is_plain c_is_plain k_is_plain),
    ((fun_mk (st := s_is_plain) l_is_plain c_is_plain k_is_plain).binds (ps := p_is_plain) fun _ _ _ _ _ _ us hl => match us, hl with | [_], _ => rfl),
    (PySem.W.mg_of X G a_is_plain),
    (fun_mk (st := s_ends_in) l_ends_in c_ends_in k_ends_in),
    ((fun_mk (st := s_ends_in) l_ends_in c_ends_in k_ends_in).binds (ps := p_ends_in) fun _ _ _ _ _ _ us hl => match us, hl with | [_], _ => rfl),
    (PySem.W.mg_of X G a_ends_in),
    (fun_mk (st := s_Shelf___init__) l_Shelf___init__ c_Shelf___init__ k_Shelf___init__),
    ((fun_mk (st := s_Shelf___init__) l_Shelf___init__ c_Shelf___init__ k_Shelf___init__).binds (ps := p_Shelf___init__) fun _ _ _ _ _ _ us hl => match us, hl with | [_], _ => rfl),
    (fun_mk (st := s_Shelf_want) l_Shelf_want c_Shelf_want k_Shelf_want),
    ((fun_mk (st := s_Shelf_want) l_Shelf_want c_Shelf_want k_Shelf_want).binds (ps := p_Shelf_want) fun _ _ _ _ _ _ us hl => match us, hl with | [_, _], _ => rfl),
    (⟨a_Shelf_want, i_Shelf_want, k_Shelf_want⟩),
    (fun_mk (st := s_Shelf_want_piece) l_Shelf_want_piece c_Shelf_want_piece k_Shelf_want_piece),
    ((fun_mk (st := s_Shelf_want_piece) l_Shelf_want_piece c_Shelf_want_piece k_Shelf_want_piece).binds (ps := p_Shelf_want_piece) fun _ _ _ _ _ _ us hl => match us, hl with | [_, _], _ => rfl),
    (⟨a_Shelf_want_piece, i_Shelf_want_piece, k_Shelf_want_piece⟩),
    (fun_mk (st := s_Shelf_many) l_Shelf_many c_Shelf_many k_Shelf_many),
    ((fun_mk (st := s_Shelf_many) l_Shelf_many c_Shelf_many k_Shelf_many).binds (ps := p_Shelf_many) fun _ _ _ _ _ _ us hl => match us, hl with | [_], _ => rfl),
    (⟨a_Shelf_many, i_Shelf_many, k_Shelf_many⟩),
    (fun_mk (st := s_Shelf_piece) l_Shelf_piece c_Shelf_piece k_Shelf_piece),
    ((fun_mk (st := s_Shelf_piece) l_Shelf_piece c_Shelf_piece k_Shelf_piece).binds (ps := p_Shelf_piece) fun _ _ _ _ _ _ us hl => match us, hl with | [_, _], _ => rfl),
    (⟨a_Shelf_piece, i_Shelf_piece, k_Shelf_piece⟩),
    (fun_mk (st := s_Shelf_signs) l_Shelf_signs c_Shelf_signs k_Shelf_signs),
    ((fun_mk (st := s_Shelf_signs) l_Shelf_signs c_Shelf_signs k_Shelf_signs).binds (ps := p_Shelf_signs) fun _ _ _ _ _ _ us hl => match us, hl with | [_, _], _ => rfl),
    (⟨a_Shelf_signs, i_Shelf_signs, k_Shelf_signs⟩),
    (fun_mk (st := s_Shelf_ends) l_Shelf_ends c_Shelf_ends k_Shelf_ends),
    ((fun_mk (st := s_Shelf_ends) l_Shelf_ends c_Shelf_ends k_Shelf_ends).binds (ps := p_Shelf_ends) fun _ _ _ _ _ _ us hl => match us, hl with | [_, _], _ => rfl),
    (⟨a_Shelf_ends, i_Shelf_ends, k_Shelf_ends⟩),
    (fun_mk (st := s_Shelf_leaves) l_Shelf_leaves c_Shelf_leaves k_Shelf_leaves),
    ((fun_mk (st := s_Shelf_leaves) l_Shelf_leaves c_Shelf_leaves k_Shelf_leaves).binds (ps := p_Shelf_leaves) fun _ _ _ _ _ _ us hl => match us, hl with | [_, _], _ => rfl),
    (⟨a_Shelf_leaves, i_Shelf_leaves, k_Shelf_leaves⟩),
    (fun_mk (st := s_Shelf_height) l_Shelf_height c_Shelf_height k_Shelf_height),
    ((fun_mk (st := s_Shelf_height) l_Shelf_height c_Shelf_height k_Shelf_height).binds (ps := p_Shelf_height) fun _ _ _ _ _ _ us hl => match us, hl with | [_, _], _ => rfl),
    (⟨a_Shelf_height, i_Shelf_height, k_Shelf_height⟩),
    (fun_mk (st := s_Shelf_first_leaf) l_Shelf_first_leaf c_Shelf_first_leaf k_Shelf_first_leaf),
    ((fun_mk (st := s_Shelf_first_leaf) l_Shelf_first_leaf c_Shelf_first_leaf k_Shelf_first_leaf).binds (ps := p_Shelf_first_leaf) fun _ _ _ _ _ _ us hl => match us, hl with | [_, _], _ => rfl),
    (⟨a_Shelf_first_leaf, i_Shelf_first_leaf, k_Shelf_first_leaf⟩),
    (fun_mk (st := s_Shelf_last_leaf) l_Shelf_last_leaf c_Shelf_last_leaf k_Shelf_last_leaf),
    ((fun_mk (st := s_Shelf_last_leaf) l_Shelf_last_leaf c_Shelf_last_leaf k_Shelf_last_leaf).binds (ps := p_Shelf_last_leaf) fun _ _ _ _ _ _ us hl => match us, hl with | [_, _], _ => rfl),
    (⟨a_Shelf_last_leaf, i_Shelf_last_leaf, k_Shelf_last_leaf⟩),
    (fun_mk (st := s_Shelf_laid) l_Shelf_laid c_Shelf_laid k_Shelf_laid),
    ((fun_mk (st := s_Shelf_laid) l_Shelf_laid c_Shelf_laid k_Shelf_laid).binds (ps := p_Shelf_laid) fun _ _ _ _ _ _ us hl => match us, hl with | [_, _, _, _, _, _], _ => rfl),
    (⟨a_Shelf_laid, i_Shelf_laid, k_Shelf_laid⟩),
    (fun_mk (st := s_Shelf_leaf) l_Shelf_leaf c_Shelf_leaf k_Shelf_leaf),
    ((fun_mk (st := s_Shelf_leaf) l_Shelf_leaf c_Shelf_leaf k_Shelf_leaf).binds (ps := p_Shelf_leaf) fun _ _ _ _ _ _ us hl => match us, hl with | [_, _], _ => rfl),
    (⟨a_Shelf_leaf, i_Shelf_leaf, k_Shelf_leaf⟩),
    (fun_mk (st := s_Shelf_fork) l_Shelf_fork c_Shelf_fork k_Shelf_fork),
    ((fun_mk (st := s_Shelf_fork) l_Shelf_fork c_Shelf_fork k_Shelf_fork).binds (ps := p_Shelf_fork) fun _ _ _ _ _ _ us hl => match us, hl with | [_, _, _], _ => rfl),
    (⟨a_Shelf_fork, i_Shelf_fork, k_Shelf_fork⟩),
    (fun_mk (st := s_Shelf_is_loose) l_Shelf_is_loose c_Shelf_is_loose k_Shelf_is_loose),
    ((fun_mk (st := s_Shelf_is_loose) l_Shelf_is_loose c_Shelf_is_loose k_Shelf_is_loose).binds (ps := p_Shelf_is_loose) fun _ _ _ _ _ _ us hl => match us, hl with | [_, _, _], _ => rfl),
    (⟨a_Shelf_is_loose, i_Shelf_is_loose, k_Shelf_is_loose⟩),
    (fun_mk (st := s_written) l_written c_written k_written),
    ((fun_mk (st := s_written) l_written c_written k_written).binds (ps := p_written) fun _ _ _ _ _ _ us hl => match us, hl with | [_], _ => rfl),
    (PySem.W.mg_of X G a_written),
    (fun_mk (st := s_read_written) l_read_written c_read_written k_read_written),
    ((fun_mk (st := s_read_written) l_read_written c_read_written k_read_written).binds (ps := p_read_written) fun _ _ _ _ _ _ us hl => match us, hl with | [_], _ => rfl),
    (PySem.W.mg_of X G a_read_written),
    (fun_mk (st := s_number_in) l_number_in c_number_in k_number_in),
    ((fun_mk (st := s_number_in) l_number_in c_number_in k_number_in).binds (ps := p_number_in) fun _ _ _ _ _ _ us hl => match us, hl with | [_], _ => rfl),
    (PySem.W.mg_of X G a_number_in),
    (fun_mk (st := s_piece_row) l_piece_row c_piece_row k_piece_row),
    ((fun_mk (st := s_piece_row) l_piece_row c_piece_row k_piece_row).binds (ps := p_piece_row) fun _ _ _ _ _ _ us hl => match us, hl with | [_], _ => rfl),
    (PySem.W.mg_of X G a_piece_row),
    (fun_mk (st := s_shelf_text) l_shelf_text c_shelf_text k_shelf_text),
    ((fun_mk (st := s_shelf_text) l_shelf_text c_shelf_text k_shelf_text).binds (ps := p_shelf_text) fun _ _ _ _ _ _ us hl => match us, hl with | [_], _ => rfl),
    (PySem.W.mg_of X G a_shelf_text),
    (fun_mk (st := s_laid_by) l_laid_by c_laid_by k_laid_by),
    ((fun_mk (st := s_laid_by) l_laid_by c_laid_by k_laid_by).binds (ps := p_laid_by) fun _ _ _ _ _ _ us hl => match us, hl with | [_, _], _ => rfl),
    (PySem.W.mg_of X G a_laid_by),
    (fun_mk (st := s_lies_anew) l_lies_anew c_lies_anew k_lies_anew),
    ((fun_mk (st := s_lies_anew) l_lies_anew c_lies_anew k_lies_anew).binds (ps := p_lies_anew) fun _ _ _ _ _ _ us hl => match us, hl with | [_, _], _ => rfl),
    (PySem.W.mg_of X G a_lies_anew),
    (fun_mk (st := s_read_shelf) l_read_shelf c_read_shelf k_read_shelf),
    ((fun_mk (st := s_read_shelf) l_read_shelf c_read_shelf k_read_shelf).binds (ps := p_read_shelf) fun _ _ _ _ _ _ us hl => match us, hl with | [_], _ => rfl),
    (PySem.W.mg_of X G a_read_shelf),
    (fun_mk (st := s_built_of) l_built_of c_built_of k_built_of),
    ((fun_mk (st := s_built_of) l_built_of c_built_of k_built_of).binds (ps := p_built_of) fun _ _ _ _ _ _ us hl => match us, hl with | [_, _], _ => rfl),
    (PySem.W.mg_of X G a_built_of),
    (fun_mk (st := s_built) l_built c_built k_built),
    ((fun_mk (st := s_built) l_built c_built k_built).binds (ps := p_built) fun _ _ _ _ _ _ us hl => match us, hl with | [_, _], _ => rfl),
    (PySem.W.mg_of X G a_built),
    (fun_mk (st := s__law_mixed) l__law_mixed c__law_mixed k__law_mixed),
    ((fun_mk (st := s__law_mixed) l__law_mixed c__law_mixed k__law_mixed).binds (ps := p__law_mixed) fun _ _ _ _ _ _ us hl => match us, hl with | [_, _], _ => rfl),
    (PySem.W.mg_of X G a__law_mixed),
    (fun_mk (st := s__law_stream) l__law_stream c__law_stream k__law_stream),
    ((fun_mk (st := s__law_stream) l__law_stream c__law_stream k__law_stream).binds (ps := p__law_stream) fun _ _ _ _ _ _ us hl => match us, hl with | [_, _], _ => rfl),
    (PySem.W.mg_of X G a__law_stream),
    (fun_mk (st := s__law_digit) l__law_digit c__law_digit k__law_digit),
    ((fun_mk (st := s__law_digit) l__law_digit c__law_digit k__law_digit).binds (ps := p__law_digit) fun _ _ _ _ _ _ us hl => match us, hl with | [_, _], _ => rfl),
    (PySem.W.mg_of X G a__law_digit),
    (fun_mk (st := s__law_letters) l__law_letters c__law_letters k__law_letters),
    ((fun_mk (st := s__law_letters) l__law_letters c__law_letters k__law_letters).binds (ps := p__law_letters) fun _ _ _ _ _ _ us hl => match us, hl with | [_], _ => rfl),
    (PySem.W.mg_of X G a__law_letters),
    (fun_mk (st := s__law_tree) l__law_tree c__law_tree k__law_tree),
    ((fun_mk (st := s__law_tree) l__law_tree c__law_tree k__law_tree).binds (ps := p__law_tree) fun _ _ _ _ _ _ us hl => match us, hl with | [_, _, _, _, _], _ => rfl),
    (PySem.W.mg_of X G a__law_tree),
    (fun_mk (st := s__law_text) l__law_text c__law_text k__law_text),
    ((fun_mk (st := s__law_text) l__law_text c__law_text k__law_text).binds (ps := p__law_text) fun _ _ _ _ _ _ us hl => match us, hl with | [_, _, _], _ => rfl),
    (PySem.W.mg_of X G a__law_text),
    (fun_mk (st := s__law_long) l__law_long c__law_long k__law_long),
    ((fun_mk (st := s__law_long) l__law_long c__law_long k__law_long).binds (ps := p__law_long) fun _ _ _ _ _ _ us hl => match us, hl with | [_, _], _ => rfl),
    (PySem.W.mg_of X G a__law_long),
    (fun_mk (st := s__law_drawn_shelf) l__law_drawn_shelf c__law_drawn_shelf k__law_drawn_shelf),
    ((fun_mk (st := s__law_drawn_shelf) l__law_drawn_shelf c__law_drawn_shelf k__law_drawn_shelf).binds (ps := p__law_drawn_shelf) fun _ _ _ _ _ _ us hl => match us, hl with | [_], _ => rfl),
    (PySem.W.mg_of X G a__law_drawn_shelf),
    (fun_mk (st := s__law_written) l__law_written c__law_written k__law_written),
    ((fun_mk (st := s__law_written) l__law_written c__law_written k__law_written).binds (ps := p__law_written) fun _ _ _ _ _ _ us hl => match us, hl with | [_], _ => rfl),
    (PySem.W.mg_of X G a__law_written),
    (fun_mk (st := s__law_shelf_text) l__law_shelf_text c__law_shelf_text k__law_shelf_text),
    ((fun_mk (st := s__law_shelf_text) l__law_shelf_text c__law_shelf_text k__law_shelf_text).binds (ps := p__law_shelf_text) fun _ _ _ _ _ _ us hl => match us, hl with | [_], _ => rfl),
    (PySem.W.mg_of X G a__law_shelf_text),
    (fun_mk (st := s__law_same) l__law_same c__law_same k__law_same),
    ((fun_mk (st := s__law_same) l__law_same c__law_same k__law_same).binds (ps := p__law_same) fun _ _ _ _ _ _ us hl => match us, hl with | [_, _], _ => rfl),
    (PySem.W.mg_of X G a__law_same),
    (fun_mk (st := s__law_other_order) l__law_other_order c__law_other_order k__law_other_order),
    ((fun_mk (st := s__law_other_order) l__law_other_order c__law_other_order k__law_other_order).binds (ps := p__law_other_order) fun _ _ _ _ _ _ us hl => match us, hl with | [_], _ => rfl),
    (PySem.W.mg_of X G a__law_other_order),
    (fun_mk (st := s_law) l_law c_law k_law),
    ((fun_mk (st := s_law) l_law c_law k_law).binds (ps := p_law) fun _ _ _ _ _ _ us hl => match us, hl with | [_], _ => rfl),
    (PySem.W.mg_of X G a_law),
    (kint_of X G kc_MOST_IN_LEAF),
    (kl_MOST_SIGNS),
    (kstr_of X G kc_FIGURES),
    (kint_of X G kc_MOST_FIGURES),
    (kint_of X G kc_MOST_WRITTEN),
    (PySem.W.mg_none_of X G z_len),
    (PySem.W.mg_none_of X G z_max),
    (PySem.W.mg_none_of X G z_min),
    (PySem.W.mg_none_of X G z_range),
    (PySem.W.mg_none_of X G z_isinstance),
    (PySem.W.mg_none_of X G z_all),
    (PySem.W.mg_none_of X G z_sum),
    (PySem.W.mg_none_of X G z_str),
    (PySem.W.mg_none_of X G z_int),
    (PySem.W.mg_none_of X G z_enumerate)⟩
  exact ⟨PySem.W.fnOf "law" "law" (defArgs s_law) (defBody s_law) (defScope s_law) .none kV_law dc_law pm_law an_law cd_law ct_law, fun s v => .of_eq rfl, fun base _ _ => ok_law T⟩
end Sk
open PySem PySem.W PyProof.Rows
set_option maxRecDepth 100000 in
set_option maxHeartbeats 0 in
theorem PySem.Challenge.cw_skeinwood_k87_shelves_read_holds : PySem.Challenge.rw_skeinwood_k87_shelves_read.Holds := by
  w_on; o_law; k_head; (case hw => w_witness2)
  k_fill
  refine Sk.walkX (l := PySem.Challenge.rw_skeinwood_k87_shelves_read) (k := 21) (sp := fun K => Sk.spLaw K) rfl rfl ⟨rfl, by decide, by decide⟩ (fun w h Y => PySem.W.kIn_of Y) ?F (fun K H a ns h1 h2 => ⟨a, ns, rfl, h2, h1, fun _ => rfl⟩)
  case F =>
    intro w mg fa h KX G XP hmg
    refine' Sk.all_mk KX G hmg (Sk.kint_loose XP (by simp)) ?aC_Shelf ?pg_Shelf ?hd_Shelf ?po_Shelf ?sa_Shelf ?na_Shelf_pieces ?na_Shelf_numbers ?na_Shelf_told_signs ?na_Shelf_told_ends ?na_Shelf_told_leaves ?na_Shelf_told_heights ?na_Shelf_firsts ?na_Shelf_lasts ?mk_Shelf ?kc_Shelf ?eg_Loose ?ex_Loose ?ek_Loose ?eb_Loose ?et_Loose ?eg_NoPiece ?ex_NoPiece ?ek_NoPiece ?eb_NoPiece ?et_NoPiece ?eg_NoText ?ex_NoText ?ek_NoText ?eb_NoText ?et_NoText ?eg_TooLong ?ex_TooLong ?ek_TooLong ?eb_TooLong ?et_TooLong ?eg_Unlevel ?ex_Unlevel ?ek_Unlevel ?eb_Unlevel ?et_Unlevel ?ic_Shelf_ha ?ic_Shelf_hn ?ic_Shelf_ht ?ic_Shelf_hm ?hx_NoText ?hx_NoPiece ?hx_Loose ?hx_Unlevel ?hx_TooLong ?sb_NoPiece_NoText ?sb_NoPiece_NoPiece ?sb_NoPiece_Loose ?sb_NoPiece_Unlevel ?sb_NoPiece_TooLong ?sb_NoText_NoText ?sb_NoText_NoPiece ?sb_NoText_Loose ?sb_NoText_Unlevel ?sb_NoText_TooLong ?sb_Loose_NoText ?sb_Loose_NoPiece ?sb_Loose_Loose ?sb_Loose_Unlevel ?sb_Loose_TooLong ?sb_Unlevel_NoText ?sb_Unlevel_NoPiece ?sb_Unlevel_Loose ?sb_Unlevel_Unlevel ?sb_Unlevel_TooLong ?sb_TooLong_NoText ?sb_TooLong_NoPiece ?sb_TooLong_Loose ?sb_TooLong_Unlevel ?sb_TooLong_TooLong ?a_is_plain ?l_is_plain ?c_is_plain ?k_is_plain ?a_ends_in ?l_ends_in ?c_ends_in ?k_ends_in ?a_Shelf___init__ ?i_Shelf___init__ ?l_Shelf___init__ ?c_Shelf___init__ ?k_Shelf___init__ ?a_Shelf_want ?i_Shelf_want ?l_Shelf_want ?c_Shelf_want ?k_Shelf_want ?a_Shelf_want_piece ?i_Shelf_want_piece ?l_Shelf_want_piece ?c_Shelf_want_piece ?k_Shelf_want_piece ?a_Shelf_many ?i_Shelf_many ?l_Shelf_many ?c_Shelf_many ?k_Shelf_many ?a_Shelf_piece ?i_Shelf_piece ?l_Shelf_piece ?c_Shelf_piece ?k_Shelf_piece ?a_Shelf_signs ?i_Shelf_signs ?l_Shelf_signs ?c_Shelf_signs ?k_Shelf_signs ?a_Shelf_ends ?i_Shelf_ends ?l_Shelf_ends ?c_Shelf_ends ?k_Shelf_ends ?a_Shelf_leaves ?i_Shelf_leaves ?l_Shelf_leaves ?c_Shelf_leaves ?k_Shelf_leaves ?a_Shelf_height ?i_Shelf_height ?l_Shelf_height ?c_Shelf_height ?k_Shelf_height ?a_Shelf_first_leaf ?i_Shelf_first_leaf ?l_Shelf_first_leaf ?c_Shelf_first_leaf ?k_Shelf_first_leaf ?a_Shelf_last_leaf ?i_Shelf_last_leaf ?l_Shelf_last_leaf ?c_Shelf_last_leaf ?k_Shelf_last_leaf ?a_Shelf_laid ?i_Shelf_laid ?l_Shelf_laid ?c_Shelf_laid ?k_Shelf_laid ?a_Shelf_leaf ?i_Shelf_leaf ?l_Shelf_leaf ?c_Shelf_leaf ?k_Shelf_leaf ?a_Shelf_fork ?i_Shelf_fork ?l_Shelf_fork ?c_Shelf_fork ?k_Shelf_fork ?a_Shelf_is_loose ?i_Shelf_is_loose ?l_Shelf_is_loose ?c_Shelf_is_loose ?k_Shelf_is_loose ?a_written ?l_written ?c_written ?k_written ?a_read_written ?l_read_written ?c_read_written ?k_read_written ?a_number_in ?l_number_in ?c_number_in ?k_number_in ?a_piece_row ?l_piece_row ?c_piece_row ?k_piece_row ?a_shelf_text ?l_shelf_text ?c_shelf_text ?k_shelf_text ?a_laid_by ?l_laid_by ?c_laid_by ?k_laid_by ?a_lies_anew ?l_lies_anew ?c_lies_anew ?k_lies_anew ?a_read_shelf ?l_read_shelf ?c_read_shelf ?k_read_shelf ?a_built_of ?l_built_of ?c_built_of ?k_built_of ?a_built ?l_built ?c_built ?k_built ?a__law_mixed ?l__law_mixed ?c__law_mixed ?k__law_mixed ?a__law_stream ?l__law_stream ?c__law_stream ?k__law_stream ?a__law_digit ?l__law_digit ?c__law_digit ?k__law_digit ?a__law_letters ?l__law_letters ?c__law_letters ?k__law_letters ?a__law_tree ?l__law_tree ?c__law_tree ?k__law_tree ?a__law_text ?l__law_text ?c__law_text ?k__law_text ?a__law_long ?l__law_long ?c__law_long ?k__law_long ?a__law_drawn_shelf ?l__law_drawn_shelf ?c__law_drawn_shelf ?k__law_drawn_shelf ?a__law_written ?l__law_written ?c__law_written ?k__law_written ?a__law_shelf_text ?l__law_shelf_text ?c__law_shelf_text ?k__law_shelf_text ?a__law_same ?l__law_same ?c__law_same ?k__law_same ?a__law_other_order ?l__law_other_order ?c__law_other_order ?k__law_other_order ?a_law ?l_law ?c_law ?k_law ?kc_MOST_IN_LEAF ?kc_FIGURES ?kc_MOST_FIGURES ?kc_MOST_WRITTEN ?z_len ?z_max ?z_min ?z_range ?z_isinstance ?z_all ?z_sum ?z_str ?z_int ?z_enumerate
    (case aC_Shelf => k_is)
    (case pg_Shelf => k_is)
    (case hd_Shelf => k_is)
    (case po_Shelf => k_is)
    (case sa_Shelf => k_is)
    (case na_Shelf_pieces => k_is)
    (case na_Shelf_numbers => k_is)
    (case na_Shelf_told_signs => k_is)
    (case na_Shelf_told_ends => k_is)
    (case na_Shelf_told_leaves => k_is)
    (case na_Shelf_told_heights => k_is)
    (case na_Shelf_firsts => k_is)
    (case na_Shelf_lasts => k_is)
    (case mk_Shelf => k_is)
    (case kc_Shelf => k_is)
    (case eg_Loose => k_is)
    (case ex_Loose => k_exc)
    (case ek_Loose => k_is)
    (case eb_Loose => k_is)
    (case et_Loose => k_is)
    (case eg_NoPiece => k_is)
    (case ex_NoPiece => k_exc)
    (case ek_NoPiece => k_is)
    (case eb_NoPiece => k_is)
    (case et_NoPiece => k_is)
    (case eg_NoText => k_is)
    (case ex_NoText => k_exc)
    (case ek_NoText => k_is)
    (case eb_NoText => k_is)
    (case et_NoText => k_is)
    (case eg_TooLong => k_is)
    (case ex_TooLong => k_exc)
    (case ek_TooLong => k_is)
    (case eb_TooLong => k_is)
    (case et_TooLong => k_is)
    (case eg_Unlevel => k_is)
    (case ex_Unlevel => k_exc)
    (case ek_Unlevel => k_is)
    (case eb_Unlevel => k_is)
    (case et_Unlevel => k_is)
    (case ic_Shelf_ha => k_is)
    (case ic_Shelf_hn => k_is)
    (case ic_Shelf_ht => k_is)
    (case ic_Shelf_hm => k_is)
    (case hx_NoText => k_is)
    (case hx_NoPiece => k_is)
    (case hx_Loose => k_is)
    (case hx_Unlevel => k_is)
    (case hx_TooLong => k_is)
    (case sb_NoPiece_NoText => k_is)
    (case sb_NoPiece_NoPiece => k_is)
    (case sb_NoPiece_Loose => k_is)
    (case sb_NoPiece_Unlevel => k_is)
    (case sb_NoPiece_TooLong => k_is)
    (case sb_NoText_NoText => k_is)
    (case sb_NoText_NoPiece => k_is)
    (case sb_NoText_Loose => k_is)
    (case sb_NoText_Unlevel => k_is)
    (case sb_NoText_TooLong => k_is)
    (case sb_Loose_NoText => k_is)
    (case sb_Loose_NoPiece => k_is)
    (case sb_Loose_Loose => k_is)
    (case sb_Loose_Unlevel => k_is)
    (case sb_Loose_TooLong => k_is)
    (case sb_Unlevel_NoText => k_is)
    (case sb_Unlevel_NoPiece => k_is)
    (case sb_Unlevel_Loose => k_is)
    (case sb_Unlevel_Unlevel => k_is)
    (case sb_Unlevel_TooLong => k_is)
    (case sb_TooLong_NoText => k_is)
    (case sb_TooLong_NoPiece => k_is)
    (case sb_TooLong_Loose => k_is)
    (case sb_TooLong_Unlevel => k_is)
    (case sb_TooLong_TooLong => k_is)
    (case a_is_plain => k_is)
    (case l_is_plain => k_is)
    (case c_is_plain => k_is)
    (case k_is_plain => k_is)
    (case a_ends_in => k_is)
    (case l_ends_in => k_is)
    (case c_ends_in => k_is)
    (case k_ends_in => k_is)
    (case a_Shelf___init__ => k_is)
    (case i_Shelf___init__ => k_is)
    (case l_Shelf___init__ => k_is)
    (case c_Shelf___init__ => k_is)
    (case k_Shelf___init__ => k_is)
    (case a_Shelf_want => k_is)
    (case i_Shelf_want => k_is)
    (case l_Shelf_want => k_is)
    (case c_Shelf_want => k_is)
    (case k_Shelf_want => k_is)
    (case a_Shelf_want_piece => k_is)
    (case i_Shelf_want_piece => k_is)
    (case l_Shelf_want_piece => k_is)
    (case c_Shelf_want_piece => k_is)
    (case k_Shelf_want_piece => k_is)
    (case a_Shelf_many => k_is)
    (case i_Shelf_many => k_is)
    (case l_Shelf_many => k_is)
    (case c_Shelf_many => k_is)
    (case k_Shelf_many => k_is)
    (case a_Shelf_piece => k_is)
    (case i_Shelf_piece => k_is)
    (case l_Shelf_piece => k_is)
    (case c_Shelf_piece => k_is)
    (case k_Shelf_piece => k_is)
    (case a_Shelf_signs => k_is)
    (case i_Shelf_signs => k_is)
    (case l_Shelf_signs => k_is)
    (case c_Shelf_signs => k_is)
    (case k_Shelf_signs => k_is)
    (case a_Shelf_ends => k_is)
    (case i_Shelf_ends => k_is)
    (case l_Shelf_ends => k_is)
    (case c_Shelf_ends => k_is)
    (case k_Shelf_ends => k_is)
    (case a_Shelf_leaves => k_is)
    (case i_Shelf_leaves => k_is)
    (case l_Shelf_leaves => k_is)
    (case c_Shelf_leaves => k_is)
    (case k_Shelf_leaves => k_is)
    (case a_Shelf_height => k_is)
    (case i_Shelf_height => k_is)
    (case l_Shelf_height => k_is)
    (case c_Shelf_height => k_is)
    (case k_Shelf_height => k_is)
    (case a_Shelf_first_leaf => k_is)
    (case i_Shelf_first_leaf => k_is)
    (case l_Shelf_first_leaf => k_is)
    (case c_Shelf_first_leaf => k_is)
    (case k_Shelf_first_leaf => k_is)
    (case a_Shelf_last_leaf => k_is)
    (case i_Shelf_last_leaf => k_is)
    (case l_Shelf_last_leaf => k_is)
    (case c_Shelf_last_leaf => k_is)
    (case k_Shelf_last_leaf => k_is)
    (case a_Shelf_laid => k_is)
    (case i_Shelf_laid => k_is)
    (case l_Shelf_laid => k_is)
    (case c_Shelf_laid => k_is)
    (case k_Shelf_laid => k_is)
    (case a_Shelf_leaf => k_is)
    (case i_Shelf_leaf => k_is)
    (case l_Shelf_leaf => k_is)
    (case c_Shelf_leaf => k_is)
    (case k_Shelf_leaf => k_is)
    (case a_Shelf_fork => k_is)
    (case i_Shelf_fork => k_is)
    (case l_Shelf_fork => k_is)
    (case c_Shelf_fork => k_is)
    (case k_Shelf_fork => k_is)
    (case a_Shelf_is_loose => k_is)
    (case i_Shelf_is_loose => k_is)
    (case l_Shelf_is_loose => k_is)
    (case c_Shelf_is_loose => k_is)
    (case k_Shelf_is_loose => k_is)
    (case a_written => k_is)
    (case l_written => k_is)
    (case c_written => k_is)
    (case k_written => k_is)
    (case a_read_written => k_is)
    (case l_read_written => k_is)
    (case c_read_written => k_is)
    (case k_read_written => k_is)
    (case a_number_in => k_is)
    (case l_number_in => k_is)
    (case c_number_in => k_is)
    (case k_number_in => k_is)
    (case a_piece_row => k_is)
    (case l_piece_row => k_is)
    (case c_piece_row => k_is)
    (case k_piece_row => k_is)
    (case a_shelf_text => k_is)
    (case l_shelf_text => k_is)
    (case c_shelf_text => k_is)
    (case k_shelf_text => k_is)
    (case a_laid_by => k_is)
    (case l_laid_by => k_is)
    (case c_laid_by => k_is)
    (case k_laid_by => k_is)
    (case a_lies_anew => k_is)
    (case l_lies_anew => k_is)
    (case c_lies_anew => k_is)
    (case k_lies_anew => k_is)
    (case a_read_shelf => k_is)
    (case l_read_shelf => k_is)
    (case c_read_shelf => k_is)
    (case k_read_shelf => k_is)
    (case a_built_of => k_is)
    (case l_built_of => k_is)
    (case c_built_of => k_is)
    (case k_built_of => k_is)
    (case a_built => k_is)
    (case l_built => k_is)
    (case c_built => k_is)
    (case k_built => k_is)
    (case a__law_mixed => k_is)
    (case l__law_mixed => k_is)
    (case c__law_mixed => k_is)
    (case k__law_mixed => k_is)
    (case a__law_stream => k_is)
    (case l__law_stream => k_is)
    (case c__law_stream => k_is)
    (case k__law_stream => k_is)
    (case a__law_digit => k_is)
    (case l__law_digit => k_is)
    (case c__law_digit => k_is)
    (case k__law_digit => k_is)
    (case a__law_letters => k_is)
    (case l__law_letters => k_is)
    (case c__law_letters => k_is)
    (case k__law_letters => k_is)
    (case a__law_tree => k_is)
    (case l__law_tree => k_is)
    (case c__law_tree => k_is)
    (case k__law_tree => k_is)
    (case a__law_text => k_is)
    (case l__law_text => k_is)
    (case c__law_text => k_is)
    (case k__law_text => k_is)
    (case a__law_long => k_is)
    (case l__law_long => k_is)
    (case c__law_long => k_is)
    (case k__law_long => k_is)
    (case a__law_drawn_shelf => k_is)
    (case l__law_drawn_shelf => k_is)
    (case c__law_drawn_shelf => k_is)
    (case k__law_drawn_shelf => k_is)
    (case a__law_written => k_is)
    (case l__law_written => k_is)
    (case c__law_written => k_is)
    (case k__law_written => k_is)
    (case a__law_shelf_text => k_is)
    (case l__law_shelf_text => k_is)
    (case c__law_shelf_text => k_is)
    (case k__law_shelf_text => k_is)
    (case a__law_same => k_is)
    (case l__law_same => k_is)
    (case c__law_same => k_is)
    (case k__law_same => k_is)
    (case a__law_other_order => k_is)
    (case l__law_other_order => k_is)
    (case c__law_other_order => k_is)
    (case k__law_other_order => k_is)
    (case a_law => k_is)
    (case l_law => k_is)
    (case c_law => k_is)
    (case k_law => k_is)
    (case kc_MOST_IN_LEAF => k_is)
    (case kc_FIGURES => k_is)
    (case kc_MOST_FIGURES => k_is)
    (case kc_MOST_WRITTEN => k_is)
    (case z_len => k_is)
    (case z_max => k_is)
    (case z_min => k_is)
    (case z_range => k_is)
    (case z_isinstance => k_is)
    (case z_all => k_is)
    (case z_sum => k_is)
    (case z_str => k_is)
    (case z_int => k_is)
    (case z_enumerate => k_is)
#print axioms PySem.Challenge.cw_skeinwood_k87_shelves_read_holds
