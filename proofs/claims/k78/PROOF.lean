import PyProof.Rows.All
import Wide.All
import OpenK.AllK
import Wide.FinOn
import HandS.ForMost
import HandS.ForExc
import HandS.FStr
import HandS.ReplaceList
import HandS.Replace
import HandS.IsInst
import HandS.Wide
import HandS.SortInts
import HandS.Conv
import HandS.TryMany
import HandS.DictTup
import HandS.TupLen
import HandS.Flow
import HandS.Style
import HandS.StrMore
import HandS.StrSplit
import HandS.Codes
import HandS.Small
import HandS.More
import HandS.RaiseMore
import HandS.ReplaceLit
import HandS.ReplaceDef
import HandS.Walk
import KE.KDictList
import KE.KDictSum
import HandS.ExcIs
import KE.GoesMore
import KE.KTryMore
import PySem.Challenge.RW_skeinwood_k78_whole_swept_and_gone_on
set_option Elab.async false
set_option linter.all false
set_option maxRecDepth 100000
set_option maxHeartbeats 4000000

/-! Trees of pieces: the plain mathematics, no program in sight. -/
namespace Sk

inductive Tr where
  | lf (l : List Nat)
  | fk (a b : Tr)
  deriving DecidableEq

namespace Tr
def txt : Tr → List Nat
  | lf l => l
  | fk a b => a.txt ++ b.txt
def sg : Tr → Nat
  | lf l => l.length
  | fk a b => a.sg + b.sg
def en : Tr → Nat
  | lf l => l.count 10
  | fk a b => a.en + b.en
def lv : Tr → Nat
  | lf _ => 1
  | fk a b => a.lv + b.lv
def ht : Tr → Nat
  | lf _ => 0
  | fk a b => 1 + max a.ht b.ht
def fi : Tr → Tr
  | lf l => lf l
  | fk a _ => a.fi
def la : Tr → Tr
  | lf l => lf l
  | fk _ b => b.la
def sz : Tr → Nat
  | lf _ => 1
  | fk a b => 1 + a.sz + b.sz
end Tr
open Tr

def plainC (c : Nat) : Prop := (32 ≤ c ∧ c ≤ 126) ∨ c = 10
instance (c : Nat) : Decidable (plainC c) := by unfold plainC; infer_instance
def Plain (l : List Nat) : Prop := ∀ c ∈ l, plainC c
instance (l : List Nat) : Decidable (Plain l) := by unfold Plain; infer_instance

def mostSg : Nat := 1000000000000000000

def Ok : Tr → Prop
  | lf l => 1 ≤ l.length ∧ l.length ≤ 8 ∧ Plain l
  | fk a b => Ok a ∧ Ok b ∧ a.ht ≤ b.ht + 1 ∧ b.ht ≤ a.ht + 1 ∧ 8 < a.la.sg + b.fi.sg ∧ a.sg + b.sg ≤ mostSg

@[simp] theorem sg_txt : ∀ t : Tr, t.txt.length = t.sg
  | lf l => rfl
  | fk a b => by simp [Tr.txt, Tr.sg, sg_txt a, sg_txt b]
theorem en_txt : ∀ t : Tr, t.txt.count 10 = t.en
  | lf l => rfl
  | fk a b => by simp [Tr.txt, Tr.en, en_txt a, en_txt b]
theorem fi_leaf : ∀ t : Tr, ∃ l, t.fi = lf l
  | lf l => ⟨l, rfl⟩
  | fk a b => fi_leaf a
theorem la_leaf : ∀ t : Tr, ∃ l, t.la = lf l
  | lf l => ⟨l, rfl⟩
  | fk a b => la_leaf b
theorem Ok.fi : ∀ {t : Tr}, Ok t → Ok t.fi
  | lf l, h => h
  | fk a b, h => Ok.fi (t := a) h.1
theorem Ok.la : ∀ {t : Tr}, Ok t → Ok t.la
  | lf l, h => h
  | fk a b, h => Ok.la (t := b) h.2.1
theorem Ok.plain : ∀ {t : Tr}, Ok t → Plain t.txt
  | lf l, h => h.2.2
  | fk a b, h => by
    intro c hc
    rcases List.mem_append.mp hc with hc | hc
    · exact Ok.plain (t := a) h.1 c hc
    · exact Ok.plain (t := b) h.2.1 c hc
theorem Ok.pos : ∀ {t : Tr}, Ok t → 1 ≤ t.sg
  | lf l, h => h.1
  | fk a b, h => by have := Ok.pos (t := a) h.1; show 1 ≤ a.sg + b.sg; omega
theorem Ok.most : ∀ {t : Tr}, Ok t → t.sg ≤ mostSg
  | lf l, h => by have := h.2.1; show l.length ≤ mostSg; unfold mostSg; omega
  | fk a b, h => h.2.2.2.2.2
theorem fi_sg_le : ∀ t : Tr, t.fi.sg ≤ t.sg
  | lf l => Nat.le_refl _
  | fk a b => by have := fi_sg_le a; show a.fi.sg ≤ a.sg + b.sg; omega
theorem la_sg_le : ∀ t : Tr, t.la.sg ≤ t.sg
  | lf l => Nat.le_refl _
  | fk a b => by have := la_sg_le b; show b.la.sg ≤ a.sg + b.sg; omega
theorem ht_lf {l : List Nat} : (lf l).ht = 0 := rfl
theorem ht_fk {a b : Tr} : (fk a b).ht = 1 + max a.ht b.ht := rfl
theorem ht_pos {t : Tr} (h : t.ht ≠ 0) : ∃ a b, t = fk a b := by
  cases t with
  | lf l => exact absurd rfl h
  | fk a b => exact ⟨a, b, rfl⟩
theorem ht_zero {t : Tr} (h : t.ht = 0) : ∃ l, t = lf l := by
  cases t with
  | lf l => exact ⟨l, rfl⟩
  | fk a b => rw [ht_fk] at h; omega
theorem fi_fi : ∀ t : Tr, t.fi.fi = t.fi
  | lf l => rfl
  | fk a b => fi_fi a
theorem la_la : ∀ t : Tr, t.la.la = t.la
  | lf l => rfl
  | fk a b => la_la b

/-! ### the functions of stage 6 -/
def turnedR (a b : Tr) : Tr := match b with
  | fk inner outer => if inner.ht ≤ outer.ht then fk (fk a inner) outer else match inner with
    | fk l r => fk (fk a l) (fk r outer)
    | lf _ => fk a b
  | lf _ => fk a b
def turnedL (a b : Tr) : Tr := match a with
  | fk outer inner => if inner.ht ≤ outer.ht then fk outer (fk inner b) else match inner with
    | fk l r => fk (fk outer l) (fk r b)
    | lf _ => fk a b
  | lf _ => fk a b
def levelled (a b : Tr) : Tr :=
  if a.ht + 1 < b.ht then turnedR a b else if b.ht + 1 < a.ht then turnedL a b else fk a b
/-- how many forks are asked for -/
def clev (a b : Tr) : Nat := if a.ht + 1 < b.ht then 3 else if b.ht + 1 < a.ht then 3 else 1

def linkedF : Nat → Tr → Tr → Tr
  | 0, a, b => fk a b
  | n + 1, a, b =>
    if b.ht + 1 < a.ht then match a with
      | fk f l => levelled f (linkedF n l b)
      | lf _ => fk a b
    else if a.ht + 1 < b.ht then match b with
      | fk f l => levelled (linkedF n a f) l
      | lf _ => fk a b
    else fk a b
def linked (a b : Tr) : Tr := linkedF (a.ht + b.ht) a b
def clinkF : Nat → Tr → Tr → Nat
  | 0, _, _ => 1
  | n + 1, a, b =>
    if b.ht + 1 < a.ht then match a with
      | fk f l => clinkF n l b + clev f (linkedF n l b)
      | lf _ => 1
    else if a.ht + 1 < b.ht then match b with
      | fk f l => clinkF n a f + clev (linkedF n a f) l
      | lf _ => 1
    else 1
def clink (a b : Tr) : Nat := clinkF (a.ht + b.ht) a b

theorem linkedF_L {n : Nat} {f l b : Tr} (e : b.ht + 1 < (fk f l).ht) : linkedF (n + 1) (fk f l) b = levelled f (linkedF n l b) := by
  show (if b.ht + 1 < (fk f l).ht then _ else _) = _
  exact if_pos e
theorem clinkF_L {n : Nat} {f l b : Tr} (e : b.ht + 1 < (fk f l).ht) : clinkF (n + 1) (fk f l) b = clinkF n l b + clev f (linkedF n l b) := by
  show (if b.ht + 1 < (fk f l).ht then _ else _) = _
  exact if_pos e
theorem linkedF_R {n : Nat} {a f l : Tr} (e : a.ht + 1 < (fk f l).ht) : linkedF (n + 1) a (fk f l) = levelled (linkedF n a f) l := by
  rw [linkedF.eq_def]
  simp only
  rw [if_neg (by omega), if_pos e]
theorem clinkF_R {n : Nat} {a f l : Tr} (e : a.ht + 1 < (fk f l).ht) : clinkF (n + 1) a (fk f l) = clinkF n a f + clev (linkedF n a f) l := by
  rw [clinkF.eq_def]
  simp only
  rw [if_neg (by omega), if_pos e]
theorem linkedF_M {n : Nat} {a b : Tr} (e1 : ¬ b.ht + 1 < a.ht) (e2 : ¬ a.ht + 1 < b.ht) : linkedF n a b = fk a b := by
  cases n with
  | zero => rfl
  | succ n => rw [linkedF.eq_def]; simp only; rw [if_neg e1, if_neg e2]
theorem clinkF_M {n : Nat} {a b : Tr} (e1 : ¬ b.ht + 1 < a.ht) (e2 : ¬ a.ht + 1 < b.ht) : clinkF n a b = 1 := by
  cases n with
  | zero => rfl
  | succ n => rw [clinkF.eq_def]; simp only; rw [if_neg e1, if_neg e2]
theorem linkedF_more : ∀ (n m : Nat) (a b : Tr), a.ht + b.ht ≤ n → a.ht + b.ht ≤ m → linkedF n a b = linkedF m a b ∧ clinkF n a b = clinkF m a b := by
  intro n
  induction n with
  | zero =>
    intro m a b h1 h2
    have e1 : ¬ b.ht + 1 < a.ht := by omega
    have e2 : ¬ a.ht + 1 < b.ht := by omega
    rw [linkedF_M e1 e2, linkedF_M e1 e2, clinkF_M e1 e2, clinkF_M e1 e2]
    exact ⟨rfl, rfl⟩
  | succ n ih =>
    intro m a b h1 h2
    by_cases e1 : b.ht + 1 < a.ht
    · cases m with
      | zero => omega
      | succ m =>
        cases a with
        | lf l => rw [ht_lf] at e1; omega
        | fk f l =>
          have k : (fk f l).ht = 1 + max f.ht l.ht := rfl
          have := ih m l b (by omega) (by omega)
          rw [linkedF_L e1, linkedF_L e1, clinkF_L e1, clinkF_L e1, this.1, this.2]
          exact ⟨rfl, rfl⟩
    · by_cases e2 : a.ht + 1 < b.ht
      · cases m with
        | zero => omega
        | succ m =>
          cases b with
          | lf l => rw [ht_lf] at e2; omega
          | fk f l =>
            have k : (fk f l).ht = 1 + max f.ht l.ht := rfl
            have := ih m a f (by omega) (by omega)
            rw [linkedF_R e2, linkedF_R e2, clinkF_R e2, clinkF_R e2, this.1, this.2]
            exact ⟨rfl, rfl⟩
      · rw [linkedF_M e1 e2, linkedF_M e1 e2, clinkF_M e1 e2, clinkF_M e1 e2]
        exact ⟨rfl, rfl⟩

theorem linked_left {f l b : Tr} (h : b.ht + 1 < (fk f l).ht) : linked (fk f l) b = levelled f (linked l b) ∧ clink (fk f l) b = clink l b + clev f (linked l b) := by
  unfold linked clink
  have e : (fk f l).ht = 1 + max f.ht l.ht := rfl
  obtain ⟨m, hm⟩ : ∃ m, (fk f l).ht + b.ht = m + 1 := ⟨(fk f l).ht + b.ht - 1, by omega⟩
  have := linkedF_more m (l.ht + b.ht) l b (by omega) (Nat.le_refl _)
  rw [hm, linkedF_L h, clinkF_L h, this.1, this.2]
  exact ⟨rfl, rfl⟩
theorem linked_right {a f l : Tr} (h : a.ht + 1 < (fk f l).ht) : linked a (fk f l) = levelled (linked a f) l ∧ clink a (fk f l) = clink a f + clev (linked a f) l := by
  unfold linked clink
  have e : (fk f l).ht = 1 + max f.ht l.ht := rfl
  obtain ⟨m, hm⟩ : ∃ m, a.ht + (fk f l).ht = m + 1 := ⟨a.ht + (fk f l).ht - 1, by omega⟩
  have := linkedF_more m (a.ht + f.ht) a f (by omega) (Nat.le_refl _)
  rw [hm, linkedF_R h, clinkF_R h, this.1, this.2]
  exact ⟨rfl, rfl⟩
theorem linked_mid {a b : Tr} (h1 : ¬ b.ht + 1 < a.ht) (h2 : ¬ a.ht + 1 < b.ht) : linked a b = fk a b ∧ clink a b = 1 :=
  ⟨linkedF_M h1 h2, clinkF_M h1 h2⟩
theorem turnedR_hi {a inner outer : Tr} (h : inner.ht ≤ outer.ht) : turnedR a (fk inner outer) = fk (fk a inner) outer := by simp [turnedR, h]
theorem turnedR_lo {a l r outer : Tr} (h : ¬ (fk l r).ht ≤ outer.ht) : turnedR a (fk (fk l r) outer) = fk (fk a l) (fk r outer) := by simp [turnedR, h]
theorem turnedL_hi {b inner outer : Tr} (h : inner.ht ≤ outer.ht) : turnedL (fk outer inner) b = fk outer (fk inner b) := by simp [turnedL, h]
theorem turnedL_lo {b l r outer : Tr} (h : ¬ (fk l r).ht ≤ outer.ht) : turnedL (fk outer (fk l r)) b = fk (fk outer l) (fk r b) := by simp [turnedL, h]

/-- what is needed of two texts that are put together -/
structure Jn (a b : Tr) : Prop where
  oa : Ok a
  ob : Ok b
  cl : 8 < a.la.sg + b.fi.sg
  sg : a.sg + b.sg ≤ mostSg

theorem fkOk {a b : Tr} (j : Jn a b) (h1 : a.ht ≤ b.ht + 1) (h2 : b.ht ≤ a.ht + 1) : Ok (fk a b) := ⟨j.oa, j.ob, h1, h2, j.cl, j.sg⟩

structure LevOk (a b t : Tr) (lo hi : Nat) : Prop where
  ok : Ok t
  tx : t.txt = a.txt ++ b.txt
  fi : t.fi = a.fi
  la : t.la = b.la
  lo : lo ≤ t.ht
  hi : t.ht ≤ hi
theorem LevOk.sg {a b t : Tr} {lo hi : Nat} (h : LevOk a b t lo hi) : t.sg = a.sg + b.sg := by
  rw [← sg_txt t, h.tx, List.length_append, sg_txt, sg_txt]

theorem levelled_ok {a b : Tr} (j : Jn a b) (h1 : a.ht ≤ b.ht + 2) (h2 : b.ht ≤ a.ht + 2) : LevOk a b (levelled a b) (max a.ht b.ht) (max a.ht b.ht + 1) := by
  obtain ⟨oa, ob, cl, sg⟩ := j
  unfold levelled
  by_cases e1 : a.ht + 1 < b.ht
  · rw [if_pos e1]
    cases b with
    | lf l => rw [ht_lf] at e1; omega
    | fk inner outer =>
      obtain ⟨oi, oo, l1, l2, c2, s2⟩ := id ob
      have eb : (fk inner outer).ht = 1 + max inner.ht outer.ht := rfl
      have es : (fk inner outer).sg = inner.sg + outer.sg := rfl
      have ef : (fk inner outer).fi = inner.fi := rfl
      rw [ef] at cl
      by_cases e2 : inner.ht ≤ outer.ht
      · rw [turnedR_hi e2]
        have k1 : (fk a inner).ht = 1 + max a.ht inner.ht := rfl
        have k2 : (fk (fk a inner) outer).ht = 1 + max (fk a inner).ht outer.ht := rfl
        refine ⟨⟨⟨oa, oi, ?_, ?_, cl, ?_⟩, oo, ?_, ?_, c2, ?_⟩, ?_, rfl, rfl, ?_, ?_⟩
        all_goals first | omega | skip
        · show a.sg + inner.sg + outer.sg ≤ mostSg; omega
        · show (a.txt ++ inner.txt) ++ outer.txt = a.txt ++ (inner.txt ++ outer.txt)
          rw [List.append_assoc]
      · cases inner with
        | lf l => rw [ht_lf] at e2; omega
        | fk l r =>
          rw [turnedR_lo e2]
          obtain ⟨ol, or_, m1, m2, c3, s3⟩ := id oi
          have ei : (fk l r).ht = 1 + max l.ht r.ht := rfl
          have ei' : (fk l r).sg = l.sg + r.sg := rfl
          have ef' : (fk l r).fi = l.fi := rfl
          have el' : (fk l r).la = r.la := rfl
          rw [ef'] at cl
          rw [el'] at c2
          have k1 : (fk a l).ht = 1 + max a.ht l.ht := rfl
          have k2 : (fk r outer).ht = 1 + max r.ht outer.ht := rfl
          have k3 : (fk (fk a l) (fk r outer)).ht = 1 + max (fk a l).ht (fk r outer).ht := rfl
          refine ⟨⟨⟨oa, ol, ?_, ?_, cl, ?_⟩, ⟨or_, oo, ?_, ?_, c2, ?_⟩, ?_, ?_, c3, ?_⟩, ?_, rfl, rfl, ?_, ?_⟩
          all_goals first | omega | skip
          · show a.sg + l.sg + (r.sg + outer.sg) ≤ mostSg; omega
          · show (a.txt ++ l.txt) ++ (r.txt ++ outer.txt) = a.txt ++ ((l.txt ++ r.txt) ++ outer.txt)
            simp only [List.append_assoc]
  · rw [if_neg e1]
    by_cases e3 : b.ht + 1 < a.ht
    · rw [if_pos e3]
      cases a with
      | lf l => rw [ht_lf] at e3; omega
      | fk outer inner =>
        obtain ⟨oo, oi, l1, l2, c2, s2⟩ := id oa
        have eb : (fk outer inner).ht = 1 + max outer.ht inner.ht := rfl
        have es : (fk outer inner).sg = outer.sg + inner.sg := rfl
        have ef : (fk outer inner).la = inner.la := rfl
        rw [ef] at cl
        by_cases e2 : inner.ht ≤ outer.ht
        · rw [turnedL_hi e2]
          have k1 : (fk inner b).ht = 1 + max inner.ht b.ht := rfl
          have k2 : (fk outer (fk inner b)).ht = 1 + max outer.ht (fk inner b).ht := rfl
          refine ⟨⟨oo, ⟨oi, ob, ?_, ?_, cl, ?_⟩, ?_, ?_, c2, ?_⟩, ?_, rfl, rfl, ?_, ?_⟩
          all_goals first | omega | skip
          · show outer.sg + (inner.sg + b.sg) ≤ mostSg; omega
          · show outer.txt ++ (inner.txt ++ b.txt) = (outer.txt ++ inner.txt) ++ b.txt
            rw [List.append_assoc]
        · cases inner with
          | lf l => rw [ht_lf] at e2; omega
          | fk l r =>
            rw [turnedL_lo e2]
            obtain ⟨ol, or_, m1, m2, c3, s3⟩ := id oi
            have ei : (fk l r).ht = 1 + max l.ht r.ht := rfl
            have ei' : (fk l r).sg = l.sg + r.sg := rfl
            have ef' : (fk l r).fi = l.fi := rfl
            have el' : (fk l r).la = r.la := rfl
            rw [el'] at cl
            rw [ef'] at c2
            have k1 : (fk outer l).ht = 1 + max outer.ht l.ht := rfl
            have k2 : (fk r b).ht = 1 + max r.ht b.ht := rfl
            have k3 : (fk (fk outer l) (fk r b)).ht = 1 + max (fk outer l).ht (fk r b).ht := rfl
            refine ⟨⟨⟨oo, ol, ?_, ?_, c2, ?_⟩, ⟨or_, ob, ?_, ?_, cl, ?_⟩, ?_, ?_, c3, ?_⟩, ?_, rfl, rfl, ?_, ?_⟩
            all_goals first | omega | skip
            · show outer.sg + l.sg + (r.sg + b.sg) ≤ mostSg; omega
            · show (outer.txt ++ l.txt) ++ (r.txt ++ b.txt) = (outer.txt ++ (l.txt ++ r.txt)) ++ b.txt
              simp only [List.append_assoc]
    · rw [if_neg e3]
      have k : (fk a b).ht = 1 + max a.ht b.ht := rfl
      exact ⟨⟨oa, ob, by omega, by omega, cl, sg⟩, rfl, rfl, rfl, by omega, by omega⟩

theorem levelled_mid {a b : Tr} (h1 : a.ht ≤ b.ht + 1) (h2 : b.ht ≤ a.ht + 1) : levelled a b = fk a b := by
  unfold levelled
  rw [if_neg (by omega), if_neg (by omega)]
theorem linked_ok : ∀ (n : Nat) {a b : Tr}, a.ht + b.ht ≤ n → Jn a b → LevOk a b (linked a b) (max a.ht b.ht) (max a.ht b.ht + 1) := by
  intro n
  induction n with
  | zero =>
    intro a b hn j
    rw [(linked_mid (a := a) (b := b) (by omega) (by omega)).1]
    have k : (fk a b).ht = 1 + max a.ht b.ht := rfl
    exact ⟨⟨j.oa, j.ob, by omega, by omega, j.cl, j.sg⟩, rfl, rfl, rfl, by omega, by omega⟩
  | succ n ih =>
    intro a b hn j
    by_cases e1 : b.ht + 1 < a.ht
    · cases a with
      | lf l => rw [ht_lf] at e1; omega
      | fk f l =>
        obtain ⟨of, ol, l1, l2, c2, s2⟩ := j.oa
        have ea : (fk f l).ht = 1 + max f.ht l.ht := rfl
        have es : (fk f l).sg = f.sg + l.sg := rfl
        have sg := j.sg
        rw [(linked_left e1).1]
        have r := ih (a := l) (b := b) (by omega) ⟨ol, j.ob, j.cl, by omega⟩
        have rs := r.sg
        have lo := r.lo
        have hi := r.hi
        have q := levelled_ok (a := f) (b := linked l b) ⟨of, r.ok, by rw [r.fi]; exact c2, by omega⟩ (by omega) (by omega)
        have qlo := q.lo
        have qhi := q.hi
        refine ⟨q.ok, by rw [q.tx, r.tx]; exact (List.append_assoc _ _ _).symm, q.fi, q.la.trans r.la, ?_, by omega⟩
        by_cases x : (linked l b).ht ≤ f.ht + 1
        · have k : (fk f (linked l b)).ht = 1 + max f.ht (linked l b).ht := rfl
          rw [levelled_mid (by omega) x]; omega
        · omega
    · by_cases e2 : a.ht + 1 < b.ht
      · cases b with
        | lf l => rw [ht_lf] at e2; omega
        | fk f l =>
          obtain ⟨of, ol, l1, l2, c2, s2⟩ := j.ob
          have ea : (fk f l).ht = 1 + max f.ht l.ht := rfl
          have es : (fk f l).sg = f.sg + l.sg := rfl
          have sg := j.sg
          rw [(linked_right e2).1]
          have r := ih (a := a) (b := f) (by omega) ⟨j.oa, of, j.cl, by omega⟩
          have rs := r.sg
          have lo := r.lo
          have hi := r.hi
          have q := levelled_ok (a := linked a f) (b := l) ⟨r.ok, ol, by rw [r.la]; exact c2, by omega⟩ (by omega) (by omega)
          have qlo := q.lo
          have qhi := q.hi
          refine ⟨q.ok, by rw [q.tx, r.tx]; exact List.append_assoc _ _ _, q.fi.trans r.fi, q.la, ?_, by omega⟩
          by_cases x : (linked a f).ht ≤ l.ht + 1
          · have k : (fk (linked a f) l).ht = 1 + max (linked a f).ht l.ht := rfl
            rw [levelled_mid x (by omega)]; omega
          · omega
      · rw [(linked_mid (a := a) (b := b) e1 e2).1]
        have k : (fk a b).ht = 1 + max a.ht b.ht := rfl
        exact ⟨⟨j.oa, j.ob, by omega, by omega, j.cl, j.sg⟩, rfl, rfl, rfl, by omega, by omega⟩
theorem Jn.linked {a b : Tr} (j : Jn a b) : LevOk a b (linked a b) (max a.ht b.ht) (max a.ht b.ht + 1) := linked_ok _ (Nat.le_refl _) j
end Sk

/-! Joining: without the last or the first leaf, poured, joined, and what it costs. -/
namespace Sk
open Tr

theorem LevOk.mono {a b t : Tr} {lo hi lo' hi' : Nat} (h : LevOk a b t lo hi) (h1 : lo' ≤ lo) (h2 : hi ≤ hi') : LevOk a b t lo' hi' :=
  ⟨h.ok, h.tx, h.fi, h.la, Nat.le_trans h1 h.lo, Nat.le_trans h.hi h2⟩
theorem linked_near {a b : Tr} (h1 : a.ht ≤ b.ht + 1) (h2 : b.ht ≤ a.ht + 1) : linked a b = fk a b := (linked_mid (by omega) (by omega)).1
theorem clev_le (a b : Tr) : clev a b ≤ 3 := by unfold clev; split; omega; split <;> omega
/-- three forks at most for each height between, one more -/
theorem clink_le : ∀ (n : Nat) {a b : Tr}, a.ht + b.ht ≤ n → Ok a → Ok b → clink a b ≤ 3 * (a.ht - b.ht - 1 + (b.ht - a.ht - 1)) + 1 := by
  intro n
  induction n with
  | zero =>
    intro a b hn oa ob
    rw [(linked_mid (a := a) (b := b) (by omega) (by omega)).2]; omega
  | succ n ih =>
    intro a b hn oa ob
    by_cases e1 : b.ht + 1 < a.ht
    · cases a with
      | lf l => rw [ht_lf] at e1; omega
      | fk f l =>
        obtain ⟨of, ol, l1, l2, c2, s2⟩ := id oa
        have ea : (fk f l).ht = 1 + max f.ht l.ht := rfl
        rw [(linked_left e1).2]
        have := ih (a := l) (b := b) (by omega) ol ob
        have := clev_le f (linked l b)
        omega
    · by_cases e2 : a.ht + 1 < b.ht
      · cases b with
        | lf l => rw [ht_lf] at e2; omega
        | fk f l =>
          obtain ⟨of, ol, l1, l2, c2, s2⟩ := id ob
          have ea : (fk f l).ht = 1 + max f.ht l.ht := rfl
          rw [(linked_right e2).2]
          have := ih (a := a) (b := f) (by omega) oa of
          have := clev_le (linked a f) l
          omega
      · rw [(linked_mid (a := a) (b := b) e1 e2).2]; omega
theorem clink_bd {a b : Tr} (oa : Ok a) (ob : Ok b) : clink a b ≤ 3 * (a.ht - b.ht - 1 + (b.ht - a.ht - 1)) + 1 := clink_le _ (Nat.le_refl _) oa ob

def linkedO : Option Tr → Option Tr → Option Tr
  | none, p => p
  | some a, none => some a
  | some a, some b => some (linked a b)
def clinkO : Option Tr → Option Tr → Nat
  | some a, some b => clink a b
  | _, _ => 0
def wl : Tr → Option Tr
  | lf _ => none
  | fk a b => linkedO (some a) (wl b)
def wf : Tr → Option Tr
  | lf _ => none
  | fk a b => linkedO (wf a) (some b)
def cwl : Tr → Nat
  | lf _ => 0
  | fk a b => cwl b + clinkO (some a) (wl b)
def cwf : Tr → Nat
  | lf _ => 0
  | fk a b => cwf a + clinkO (wf a) (some b)
structure WlOk (t t' : Tr) : Prop where
  ok : Ok t'
  tx : t'.txt ++ t.la.txt = t.txt
  fi : t'.fi = t.fi
  cl : 8 < t'.la.sg + t.la.sg
  lo : t.ht ≤ t'.ht + 1
  hi : t'.ht ≤ t.ht
structure WfOk (t t' : Tr) : Prop where
  ok : Ok t'
  tx : t.fi.txt ++ t'.txt = t.txt
  la : t'.la = t.la
  cl : 8 < t.fi.sg + t'.fi.sg
  lo : t.ht ≤ t'.ht + 1
  hi : t'.ht ≤ t.ht
theorem wl_none {t : Tr} (h : wl t = none) : ∃ l, t = lf l := by
  cases t with
  | lf l => exact ⟨l, rfl⟩
  | fk a b =>
    have h : linkedO (some a) (wl b) = none := h
    cases e : wl b with
    | none => rw [e] at h; cases h
    | some x => rw [e] at h; cases h
theorem wf_none {t : Tr} (h : wf t = none) : ∃ l, t = lf l := by
  cases t with
  | lf l => exact ⟨l, rfl⟩
  | fk a b =>
    have h : linkedO (wf a) (some b) = none := h
    cases e : wf a with
    | none => rw [e] at h; cases h
    | some x => rw [e] at h; cases h
theorem WlOk.sg {t t' : Tr} (h : WlOk t t') : t'.sg + t.la.sg = t.sg := by
  have := congrArg List.length h.tx
  rw [List.length_append, sg_txt, sg_txt, sg_txt] at this
  exact this
theorem WfOk.sg {t t' : Tr} (h : WfOk t t') : t.fi.sg + t'.sg = t.sg := by
  have := congrArg List.length h.tx
  rw [List.length_append, sg_txt, sg_txt, sg_txt] at this
  exact this
theorem wl_ok : ∀ {t t' : Tr}, Ok t → wl t = some t' → WlOk t t' ∧ cwl t ≤ 4 * t.ht
  | lf l, t', o, h => by cases h
  | fk a b, t', o, h => by
    obtain ⟨oa, ob, l1, l2, c2, s2⟩ := id o
    have et : (fk a b).ht = 1 + max a.ht b.ht := rfl
    have h : linkedO (some a) (wl b) = some t' := h
    have ec : cwl (fk a b) = cwl b + clinkO (some a) (wl b) := rfl
    cases e : wl b with
    | none =>
      obtain ⟨l, rfl⟩ := wl_none e
      rw [e] at h ec
      cases h
      have eb : (lf l).ht = 0 := rfl
      have e0 : cwl (lf l) = 0 := rfl
      have e1 : clinkO (some a) none = 0 := rfl
      exact ⟨⟨oa, rfl, rfl, c2, by omega, by omega⟩, by omega⟩
    | some b' =>
      rw [e] at h ec
      obtain ⟨q, cq⟩ := wl_ok (t := b) ob e
      have sg := q.sg
      have lo := q.lo
      have hi := q.hi
      have j : Jn a b' := ⟨oa, q.ok, by rw [q.fi]; exact c2, by omega⟩
      have r := j.linked
      have h : some (linked a b') = some t' := h
      cases h
      have c1 := clink_bd oa q.ok
      have e1 : clinkO (some a) (some b') = clink a b' := rfl
      have bh : b.ht ≠ 0 := by
        intro z
        obtain ⟨l, rfl⟩ := ht_zero z
        cases e
      refine ⟨⟨r.ok, ?_, r.fi, by rw [r.la]; exact q.cl, ?_, ?_⟩, ?_⟩
      · rw [r.tx, List.append_assoc]
        show a.txt ++ (b'.txt ++ b.la.txt) = a.txt ++ b.txt
        rw [q.tx]
      · by_cases x : a.ht ≤ b'.ht + 1
        · by_cases y : b'.ht ≤ a.ht + 1
          · rw [linked_near x y, et, ht_fk]; omega
          · omega
        · have := r.lo; omega
      · have := r.hi
        by_cases x : a.ht ≤ b'.ht + 1
        · by_cases y : b'.ht ≤ a.ht + 1
          · rw [linked_near x y, et, ht_fk]; omega
          · omega
        · have := r.hi; omega
      · omega
theorem wf_ok : ∀ {t t' : Tr}, Ok t → wf t = some t' → WfOk t t' ∧ cwf t ≤ 4 * t.ht
  | lf l, t', o, h => by cases h
  | fk a b, t', o, h => by
    obtain ⟨oa, ob, l1, l2, c2, s2⟩ := id o
    have et : (fk a b).ht = 1 + max a.ht b.ht := rfl
    have h : linkedO (wf a) (some b) = some t' := h
    have ec : cwf (fk a b) = cwf a + clinkO (wf a) (some b) := rfl
    cases e : wf a with
    | none =>
      obtain ⟨l, rfl⟩ := wf_none e
      rw [e] at h ec
      cases h
      have eb : (lf l).ht = 0 := rfl
      have e0 : cwf (lf l) = 0 := rfl
      have e1 : clinkO none (some b) = 0 := rfl
      exact ⟨⟨ob, rfl, rfl, c2, by omega, by omega⟩, by omega⟩
    | some a' =>
      rw [e] at h ec
      obtain ⟨q, cq⟩ := wf_ok (t := a) oa e
      have sg := q.sg
      have lo := q.lo
      have hi := q.hi
      have j : Jn a' b := ⟨q.ok, ob, by rw [q.la]; exact c2, by omega⟩
      have r := j.linked
      have h : some (linked a' b) = some t' := h
      cases h
      have c1 := clink_bd q.ok ob
      have e1 : clinkO (some a') (some b) = clink a' b := rfl
      have bh : a.ht ≠ 0 := by
        intro z
        obtain ⟨l, rfl⟩ := ht_zero z
        cases e
      refine ⟨⟨r.ok, ?_, r.la, by rw [r.fi]; exact q.cl, ?_, ?_⟩, ?_⟩
      · rw [r.tx, ← List.append_assoc]
        show (a.fi.txt ++ a'.txt) ++ b.txt = a.txt ++ b.txt
        rw [q.tx]
      · by_cases x : a'.ht ≤ b.ht + 1
        · by_cases y : b.ht ≤ a'.ht + 1
          · rw [linked_near x y, et, ht_fk]; omega
          · have := r.lo; omega
        · omega
      · by_cases x : a'.ht ≤ b.ht + 1
        · by_cases y : b.ht ≤ a'.ht + 1
          · rw [linked_near x y, et, ht_fk]; omega
          · have := r.hi; omega
        · omega
      · omega
def amid (a b : Tr) : Tr := lf (a.la.txt ++ b.fi.txt)
def poured (a b : Tr) : Option Tr := linkedO (linkedO (wl a) (some (amid a b))) (wf b)
def cpour (a b : Tr) : Nat := cwl a + 1 + clinkO (wl a) (some (amid a b)) + cwf b + clinkO (linkedO (wl a) (some (amid a b))) (wf b)
theorem amid_ok {a b : Tr} (oa : Ok a) (ob : Ok b) (h : a.la.sg + b.fi.sg ≤ 8) : Ok (amid a b) := by
  have p1 := oa.la.pos
  refine ⟨?_, ?_, fun c hc => ?_⟩
  · rw [List.length_append, sg_txt, sg_txt]; omega
  · rw [List.length_append, sg_txt, sg_txt]; exact h
  · rcases List.mem_append.mp hc with hc | hc
    · exact oa.la.plain c hc
    · exact ob.fi.plain c hc
theorem amid_sg (a b : Tr) : (amid a b).sg = a.la.sg + b.fi.sg := by
  show (a.la.txt ++ b.fi.txt).length = _
  rw [List.length_append, sg_txt, sg_txt]
theorem leaf_txt {t : Tr} {l : List Nat} (h : t = lf l) : t.txt = l := by rw [h]; rfl
structure JoinOk (a b t : Tr) : Prop where
  ok : Ok t
  tx : t.txt = a.txt ++ b.txt
  hi : t.ht ≤ max a.ht b.ht + 2
/-- the first joining of poured -/
theorem pour1 {a b : Tr} (oa : Ok a) (ob : Ok b) (h : a.la.sg + b.fi.sg ≤ 8) (s : a.sg + b.sg ≤ mostSg) : ∃ t, linkedO (wl a) (some (amid a b)) = some t ∧ Ok t ∧ t.txt = a.txt ++ b.fi.txt ∧ t.la = amid a b ∧ t.ht ≤ a.ht + 1 ∧ a.ht ≤ t.ht + 1 ∧ t.sg = a.sg + b.fi.sg ∧
    (∀ a', wl a = some a' → Jn a' (amid a b) ∧ a'.ht ≤ a.ht) := by
  have om := amid_ok oa ob h
  have sf := fi_sg_le b
  cases e : wl a with
  | none =>
    obtain ⟨l, rfl⟩ := wl_none e
    exact ⟨amid (lf l) b, rfl, om, rfl, rfl, by show 0 ≤ _; omega, by show 0 ≤ _; omega, amid_sg _ _, fun a' z => nomatch z⟩
  | some a' =>
    obtain ⟨q, _⟩ := wl_ok oa e
    have hs := q.sg
    have ms := amid_sg a b
    have j : Jn a' (amid a b) := ⟨q.ok, om, by
      show 8 < a'.la.sg + (amid a b).sg
      have := q.cl; omega, by omega⟩
    have r := j.linked
    have hm : (amid a b).ht = 0 := rfl
    have := q.hi
    refine ⟨_, rfl, r.ok, ?_, r.la, by have := r.hi; omega, by have := r.lo; have := q.lo; omega, by rw [r.sg]; omega, fun x z => by cases z; exact ⟨j, q.hi⟩⟩
    rw [r.tx]
    show a'.txt ++ (a.la.txt ++ b.fi.txt) = _
    rw [← List.append_assoc, q.tx]
theorem poured_ok {a b : Tr} (oa : Ok a) (ob : Ok b) (h : a.la.sg + b.fi.sg ≤ 8) (s : a.sg + b.sg ≤ mostSg) : ∃ t, poured a b = some t ∧ JoinOk a b t ∧ cpour a b ≤ 11 * max a.ht b.ht + 8 ∧
    (∀ x y, linkedO (wl a) (some (amid a b)) = some x → wf b = some y → Jn x y) := by
  obtain ⟨t, e1, o1, x1, la1, h1, h2, s1, j1⟩ := pour1 oa ob h s
  have cw : cwl a ≤ 4 * a.ht := by
    cases e : wl a with
    | none => obtain ⟨l, rfl⟩ := wl_none e; show 0 ≤ _; omega
    | some a' => exact (wl_ok oa e).2
  have cm : clinkO (wl a) (some (amid a b)) ≤ 3 * a.ht + 1 := by
    cases e : wl a with
    | none => show 0 ≤ _; omega
    | some a' =>
      obtain ⟨j, hh⟩ := j1 a' e
      have := clink_bd j.oa j.ob
      have hm : (amid a b).ht = 0 := rfl
      show clink a' (amid a b) ≤ _
      omega
  have unf : poured a b = linkedO (some t) (wf b) := by unfold poured; rw [e1]
  have unc : cpour a b = cwl a + 1 + clinkO (wl a) (some (amid a b)) + cwf b + clinkO (some t) (wf b) := by unfold cpour; rw [e1]
  cases e : wf b with
  | none =>
    obtain ⟨l, rfl⟩ := wf_none e
    refine ⟨t, by rw [unf, e]; rfl, ⟨o1, x1, by omega⟩, ?_, fun x y _ z => nomatch z⟩
    rw [unc, e]
    have z1 : cwf (lf l) = 0 := rfl
    have z2 : clinkO (some t) none = 0 := rfl
    have z3 : (lf l).ht = 0 := rfl
    omega
  | some b' =>
    obtain ⟨q, cq⟩ := wf_ok ob e
    have hs := q.sg
    have ms := amid_sg a b
    have j : Jn t b' := ⟨o1, q.ok, by rw [la1, ms]; have := q.cl; omega, by omega⟩
    have r := j.linked
    have c1 := clink_bd o1 q.ok
    have := q.hi
    have bh : b.ht ≠ 0 := by
      intro z
      obtain ⟨l, rfl⟩ := ht_zero z
      cases e
    refine ⟨linked t b', by rw [unf, e]; rfl, ⟨r.ok, ?_, ?_⟩, ?_, fun x y z1 z2 => by rw [e1] at z1; cases z1; cases z2; exact j⟩
    · rw [r.tx, x1, List.append_assoc, q.tx]
    · have := r.hi
      omega
    · have z2 : clinkO (some t) (some b') = clink t b' := rfl
      have := q.lo
      rw [e, z2] at unc
      rw [unc]
      omega

/-! ### joined -/
def joinedO : Option Tr → Option Tr → Option Tr
  | none, p => p
  | some a, none => some a
  | some a, some b => if a.la.sg + b.fi.sg ≤ 8 then poured a b else some (linked a b)
def cjoin : Option Tr → Option Tr → Nat
  | some a, some b => if a.la.sg + b.fi.sg ≤ 8 then cpour a b else clink a b
  | _, _ => 0
def oH : Option Tr → Nat | none => 0 | some t => t.ht
def oX : Option Tr → List Nat | none => [] | some t => t.txt
def oS : Option Tr → Nat | none => 0 | some t => t.sg
def OkO (o : Option Tr) : Prop := ∀ t, o = some t → Ok t
theorem oS_txt (o : Option Tr) : (oX o).length = oS o := by
  cases o with
  | none => rfl
  | some t => exact sg_txt t
theorem joinedO_ok {o p : Option Tr} (ho : OkO o) (hp : OkO p) (s : oS o + oS p ≤ mostSg) :
    OkO (joinedO o p) ∧ oX (joinedO o p) = oX o ++ oX p ∧ cjoin o p ≤ 11 * max (oH o) (oH p) + 8 ∧ oH (joinedO o p) ≤ max (oH o) (oH p) + 2 := by
  cases o with
  | none => exact ⟨hp, rfl, Nat.zero_le _, by show oH p ≤ _; omega⟩
  | some a =>
    cases p with
    | none => exact ⟨ho, (List.append_nil _).symm, Nat.zero_le _, by show a.ht ≤ max a.ht 0 + 2; omega⟩
    | some b =>
      have oa := ho a rfl
      have ob := hp b rfl
      have s : a.sg + b.sg ≤ mostSg := s
      by_cases h : a.la.sg + b.fi.sg ≤ 8
      · obtain ⟨t, e, j, c, _⟩ := poured_ok oa ob h s
        have ej : joinedO (some a) (some b) = some t := by show (if _ then _ else _) = _; rw [if_pos h, e]
        have ec : cjoin (some a) (some b) = cpour a b := by show (if _ then _ else _) = _; rw [if_pos h]
        rw [ej, ec]
        exact ⟨fun x z => by cases z; exact j.ok, j.tx, c, j.hi⟩
      · have j : Jn a b := ⟨oa, ob, by omega, s⟩
        have r := j.linked
        have ej : joinedO (some a) (some b) = some (linked a b) := by show (if _ then _ else _) = _; rw [if_neg h]
        have ec : cjoin (some a) (some b) = clink a b := by show (if _ then _ else _) = _; rw [if_neg h]
        rw [ej, ec]
        have := clink_bd oa ob
        exact ⟨fun x z => by cases z; exact r.ok, r.tx, by show clink a b ≤ 11 * max a.ht b.ht + 8; omega, by have := r.hi; show (linked a b).ht ≤ max a.ht b.ht + 2; omega⟩
theorem joinedO_sg {o p : Option Tr} (ho : OkO o) (hp : OkO p) (s : oS o + oS p ≤ mostSg) : oS (joinedO o p) = oS o + oS p := by
  have := congrArg List.length (joinedO_ok ho hp s).2.1
  rw [List.length_append, oS_txt, oS_txt, oS_txt] at this
  exact this

/-! ### no text is too high -/
def fp : Nat → Nat × Nat
  | 0 => (1, 2)
  | n + 1 => ((fp n).2, (fp n).1 + (fp n).2)
def leastLv (n : Nat) : Nat := (fp n).1
theorem leastLv_step (n : Nat) : leastLv (n + 2) = leastLv n + leastLv (n + 1) := rfl
theorem leastLv_pos : ∀ n, 1 ≤ leastLv n ∧ leastLv n ≤ leastLv (n + 1)
  | 0 => by decide
  | n + 1 => by
    have := leastLv_pos n
    rw [leastLv_step]; omega
theorem leastLv_mono {m n : Nat} (h : m ≤ n) : leastLv m ≤ leastLv n := by
  induction h with
  | refl => exact Nat.le_refl _
  | step _ ih => exact Nat.le_trans ih (leastLv_pos _).2
theorem Ok.leaves : ∀ {t : Tr}, Ok t → leastLv t.ht ≤ t.lv ∧ t.lv ≤ t.sg
  | lf l, o => ⟨Nat.le_refl _, o.1⟩
  | fk a b, o => by
    obtain ⟨oa, ob, l1, l2, _, _⟩ := o
    have ha := Ok.leaves (t := a) oa
    have hb := Ok.leaves (t := b) ob
    refine ⟨?_, by show a.lv + b.lv ≤ a.sg + b.sg; omega⟩
    show leastLv (1 + max a.ht b.ht) ≤ a.lv + b.lv
    by_cases h : a.ht ≤ b.ht
    · rw [show 1 + max a.ht b.ht = b.ht + 1 by omega]
      cases e : b.ht with
      | zero =>
        have := (leastLv_pos a.ht).1
        have := (leastLv_pos b.ht).1
        show 2 ≤ _; omega
      | succ n =>
        rw [leastLv_step]
        have : leastLv n ≤ leastLv a.ht := leastLv_mono (by omega)
        rw [← e]; omega
    · rw [show 1 + max a.ht b.ht = a.ht + 1 by omega]
      cases e : a.ht with
      | zero => omega
      | succ n =>
        rw [leastLv_step]
        have : leastLv n ≤ leastLv b.ht := leastLv_mono (by omega)
        rw [← e]; omega
theorem Ok.low {t : Tr} (o : Ok t) : t.ht ≤ 85 := by
  refine Classical.byContradiction fun h => ?_
  have h1 : leastLv 86 ≤ leastLv t.ht := leastLv_mono (by omega)
  have h2 := o.leaves
  have h3 := o.most
  have h4 : mostSg < leastLv 86 := by decide +kernel
  omega
theorem OkO.low {o : Option Tr} (h : OkO o) : oH o ≤ 85 := by
  cases o with
  | none => exact Nat.zero_le _
  | some t => exact (h t rfl).low
theorem wl_sg2 {t : Tr} (o : Ok t) : oS (wl t) + t.la.sg ≤ t.sg := by
  cases e : wl t with
  | none => have := la_sg_le t; show 0 + t.la.sg ≤ t.sg; omega
  | some u => have := (wl_ok o e).1.sg; show u.sg + t.la.sg ≤ t.sg; omega
theorem wf_sg2 {t : Tr} (o : Ok t) : t.fi.sg + oS (wf t) ≤ t.sg := by
  cases e : wf t with
  | none => have := fi_sg_le t; show t.fi.sg + 0 ≤ t.sg; omega
  | some u => have := (wf_ok o e).1.sg; show t.fi.sg + u.sg ≤ t.sg; omega
theorem wl_sg {t : Tr} (o : Ok t) : oS (wl t) ≤ t.sg := by have := wl_sg2 o; omega
theorem wf_sg {t : Tr} (o : Ok t) : oS (wf t) ≤ t.sg := by have := wf_sg2 o; omega
end Sk

/-! A plain text built: leaves of eight signs, halved again and again. -/
namespace Sk
open Tr

def hN : Nat → Nat → Nat
  | 0, _ => 0
  | n + 1, k => if k ≤ 1 then 0 else 1 + max (hN n (k / 2)) (hN n (k - k / 2))
theorem hN_le : ∀ (m n k : Nat), k ≤ 2 ^ m → hN n k ≤ m
  | _, 0, k, _ => Nat.zero_le _
  | 0, n + 1, k, h => by
    have : k ≤ 1 := h
    show (if k ≤ 1 then 0 else _) ≤ 0
    rw [if_pos this]; exact Nat.le_refl _
  | m + 1, n + 1, k, h => by
    rw [Nat.pow_succ] at h
    show (if k ≤ 1 then 0 else 1 + max (hN n (k / 2)) (hN n (k - k / 2))) ≤ m + 1
    split
    · omega
    · have := hN_le m n (k / 2) (by omega)
      have := hN_le m n (k - k / 2) (by omega)
      omega
theorem hN_ge : ∀ (n m k : Nat), 2 ^ m < k → k ≤ 2 ^ n → m + 1 ≤ hN n k
  | 0, m, k, h, h' => by
    have : 1 ≤ 2 ^ m := Nat.pow_pos (by decide)
    have h' : k ≤ 1 := h'
    omega
  | n + 1, m, k, h, h' => by
    have : 1 ≤ 2 ^ m := Nat.pow_pos (by decide)
    show m + 1 ≤ (if k ≤ 1 then 0 else 1 + max (hN n (k / 2)) (hN n (k - k / 2)))
    rw [if_neg (by omega)]
    cases m with
    | zero => omega
    | succ m =>
      rw [Nat.pow_succ] at h h'
      have := hN_ge n m (k - k / 2) (by omega) (by omega)
      omega
theorem hN_near {n k : Nat} (h1 : 2 ≤ k) (h2 : k ≤ 2 ^ (n + 1)) : hN n (k / 2) ≤ hN n (k - k / 2) ∧ hN n (k - k / 2) ≤ hN n (k / 2) + 1 := by
  rw [Nat.pow_succ] at h2
  constructor
  · refine hN_le _ _ _ ?_
    refine Classical.byContradiction fun z => ?_
    have := hN_ge n (hN n (k - k / 2)) (k - k / 2) (by omega) (by omega)
    omega
  · refine hN_le _ _ _ ?_
    rw [Nat.pow_succ]
    refine Classical.byContradiction fun z => ?_
    have p : 1 ≤ 2 ^ hN n (k / 2) := Nat.pow_pos (by decide)
    have := hN_ge n (hN n (k / 2)) (k / 2) (by omega) (by omega)
    omega
def bo : Nat → List Tr → Tr
  | 0, ls => ls.headD (lf [])
  | n + 1, ls => if ls.length ≤ 1 then ls.headD (lf []) else fk (bo n (ls.take (ls.length / 2))) (bo n (ls.drop (ls.length / 2)))
/-- leaves in a row: all but the last one full -/
structure Row (ls : List Tr) : Prop where
  ne : ls ≠ []
  ok : ∀ t ∈ ls, Ok t ∧ t.ht = 0
  full : ∀ i t, i + 1 < ls.length → ls[i]? = some t → t.sg = 8
theorem Row.take {ls : List Tr} (r : Row ls) {k : Nat} (h1 : 0 < k) : Row (ls.take k) :=
  ⟨by
    intro e
    have l := congrArg List.length e
    rw [List.length_take, List.length_nil] at l
    have : 0 < ls.length := by
      cases ls with
      | nil => exact absurd rfl r.ne
      | cons a b => simp
    omega, fun t ht => r.ok t (List.mem_of_mem_take ht), fun i t hi e => by
    rw [List.length_take] at hi
    rw [List.getElem?_take_of_lt (by omega)] at e
    exact r.full i t (by omega) e⟩
theorem Row.drop {ls : List Tr} (r : Row ls) {k : Nat} (h1 : k < ls.length) : Row (ls.drop k) :=
  ⟨by
    intro e
    have := congrArg List.length e
    rw [List.length_drop] at this
    simp at this; omega, fun t ht => r.ok t (List.mem_of_mem_drop ht), fun i t hi e => by
    rw [List.length_drop] at hi
    rw [List.getElem?_drop] at e
    exact r.full (k + i) t (by omega) e⟩
theorem flat_split (ls : List Tr) (k : Nat) : ls.flatMap Tr.txt = (ls.take k).flatMap Tr.txt ++ (ls.drop k).flatMap Tr.txt := by
  rw [← List.flatMap_append, List.take_append_drop]
structure BoOk (n : Nat) (ls : List Tr) (t : Tr) : Prop where
  ok : Ok t
  tx : t.txt = ls.flatMap Tr.txt
  ht : t.ht = hN n ls.length
  fi : ∀ x, ls.head? = some x → t.fi = x
  la : ∀ x, ls.getLast? = some x → t.la = x
theorem ht0_fi {t : Tr} (h : t.ht = 0) : t.fi = t ∧ t.la = t := by
  obtain ⟨l, rfl⟩ := ht_zero h
  exact ⟨rfl, rfl⟩
theorem bo_one {n : Nat} {ls : List Tr} (r : Row ls) (h : ls.length = 1) (t : Tr) (e : ls.headD (lf []) = t) : BoOk n ls t := by
  obtain ⟨x, rfl⟩ := List.length_eq_one_iff.mp h
  have e : x = t := e
  subst e
  obtain ⟨o, z⟩ := r.ok x (by simp)
  have f := ht0_fi z
  refine ⟨o, by simp, ?_, fun y e => by cases e; exact f.1, fun y e => by cases e; exact f.2⟩
  have : hN n 1 = 0 := by cases n <;> rfl
  rw [List.length_singleton, this, z]
theorem bo_ok : ∀ (n : Nat) (ls : List Tr), Row ls → ls.length ≤ 2 ^ n → (ls.flatMap Tr.txt).length ≤ mostSg → BoOk n ls (bo n ls)
  | 0, ls, r, h, _ => by
    have : ls.length = 1 := by
      have h : ls.length ≤ 1 := h
      cases ls with
      | nil => exact absurd rfl r.ne
      | cons a b => simp at *; omega
    exact bo_one r this _ rfl
  | n + 1, ls, r, h, hs => by
    have pos : 0 < ls.length := by
      cases ls with
      | nil => exact absurd rfl r.ne
      | cons a b => simp
    by_cases h1 : ls.length ≤ 1
    · refine bo_one r (by omega) _ ?_
      show _ = (if ls.length ≤ 1 then _ else _)
      rw [if_pos h1]
    have eb : bo (n + 1) ls = fk (bo n (ls.take (ls.length / 2))) (bo n (ls.drop (ls.length / 2))) := by
      show (if ls.length ≤ 1 then _ else _) = _
      rw [if_neg h1]
    rw [Nat.pow_succ] at h
    have l1 : (ls.take (ls.length / 2)).length = ls.length / 2 := by rw [List.length_take]; omega
    have l2 : (ls.drop (ls.length / 2)).length = ls.length - ls.length / 2 := by rw [List.length_drop]
    have fs := flat_split ls (ls.length / 2)
    have fl := congrArg List.length fs
    rw [List.length_append] at fl
    have ha := bo_ok n (ls.take (ls.length / 2)) (r.take (by omega)) (by rw [l1]; omega) (by omega)
    have hb := bo_ok n (ls.drop (ls.length / 2)) (r.drop (by omega)) (by rw [l2]; omega) (by omega)
    have nr := hN_near (n := n) (k := ls.length) (by omega) (by rw [Nat.pow_succ]; exact h)
    have h3 := ha.ht
    have h4 := hb.ht
    rw [l1] at h3
    rw [l2] at h4
    rw [eb]
    have la1 : (ls.take (ls.length / 2)).getLast? = some (ls[ls.length / 2 - 1]'(by omega)) := by
      rw [List.getLast?_eq_getElem?, l1, List.getElem?_take_of_lt (by omega), List.getElem?_eq_getElem]
    have fi1 : (ls.drop (ls.length / 2)).head? = some (ls[ls.length / 2]'(by omega)) := by
      rw [List.head?_drop, List.getElem?_eq_getElem]
    have full := r.full (ls.length / 2 - 1) _ (by omega) (List.getElem?_eq_getElem (by omega))
    have next := (r.ok (ls[ls.length / 2]'(by omega)) (List.getElem_mem _)).1.pos
    have s1 := sg_txt (bo n (ls.take (ls.length / 2)))
    have s2 := sg_txt (bo n (ls.drop (ls.length / 2)))
    rw [ha.tx] at s1
    rw [hb.tx] at s2
    refine ⟨⟨ha.ok, hb.ok, by omega, by omega, ?_, by omega⟩, ?_, ?_, fun x e => ?_, fun x e => ?_⟩
    · rw [ha.la _ la1, hb.fi _ fi1]; omega
    · show _ ++ _ = _
      rw [ha.tx, hb.tx, ← fs]
    · rw [ht_fk, h3, h4]
      show _ = (if ls.length ≤ 1 then 0 else 1 + max (hN n (ls.length / 2)) (hN n (ls.length - ls.length / 2)))
      rw [if_neg h1]
    · show (bo n (ls.take (ls.length / 2))).fi = x
      refine ha.fi x ?_
      rw [List.head?_take, if_neg (by omega)]; exact e
    · show (bo n (ls.drop (ls.length / 2))).la = x
      refine hb.la x ?_
      rw [List.getLast?_drop, if_neg (by omega)]; exact e

/-! ### leaves of a plain text -/
def ch (l : List Nat) (n : Nat) : List Tr := (List.range n).map fun i => lf ((l.drop (8 * i)).take 8)
def chs (l : List Nat) : List Tr := ch l ((l.length + 7) / 8)
theorem ch_succ (l : List Nat) (n : Nat) : ch l (n + 1) = ch l n ++ [lf ((l.drop (8 * n)).take 8)] := by
  unfold ch
  rw [List.range_succ, List.map_append]; rfl
theorem ch_txt (l : List Nat) : ∀ n, (ch l n).flatMap Tr.txt = l.take (8 * n)
  | 0 => by simp [ch]
  | n + 1 => by
    rw [ch_succ, List.flatMap_append, ch_txt l n]
    show l.take (8 * n) ++ ((l.drop (8 * n)).take 8 ++ []) = _
    rw [List.append_nil, ← List.take_add]; rfl
theorem ch_len (l : List Nat) (n : Nat) : (ch l n).length = n := by simp [ch]
theorem chs_txt (l : List Nat) : (chs l).flatMap Tr.txt = l := by
  unfold chs
  rw [ch_txt]
  exact List.take_of_length_le (by omega)
theorem piece_ok {l : List Nat} (p : Plain l) {i : Nat} (h : 8 * i < l.length) : Ok (lf ((l.drop (8 * i)).take 8)) := by
  refine ⟨?_, ?_, fun c hc => p c (List.mem_of_mem_drop (List.mem_of_mem_take hc))⟩
  · rw [List.length_take, List.length_drop]; omega
  · rw [List.length_take]; omega
theorem chs_row {l : List Nat} (p : Plain l) (h : l ≠ []) : Row (chs l) := by
  have h0 : 0 < l.length := by
    cases l with
    | nil => exact absurd rfl h
    | cons a b => simp
  refine ⟨?_, fun t ht => ?_, fun i t hi e => ?_⟩
  · intro e
    have := congrArg List.length e
    unfold chs at this
    rw [ch_len] at this
    simp at this; omega
  · unfold chs ch at ht
    obtain ⟨i, hi, et⟩ := List.mem_map.mp ht
    subst et
    have := List.mem_range.mp hi
    exact ⟨piece_ok p (by omega), rfl⟩
  · unfold chs at hi e
    rw [ch_len] at hi
    unfold ch at e
    rw [List.getElem?_map, List.getElem?_range (by omega)] at e
    cases e
    show ((l.drop (8 * i)).take 8).length = 8
    rw [List.length_take, List.length_drop]; omega
def bld (l : List Nat) : Option Tr := if l = [] then none else some (bo 11 (chs l))
def cb (l : List Nat) : Nat := 2 * ((l.length + 7) / 8)
theorem bld_ok {l : List Nat} (p : Plain l) (h : l.length ≤ 10000) : OkO (bld l) ∧ oX (bld l) = l := by
  unfold bld
  by_cases e : l = []
  · rw [if_pos e]; exact ⟨(fun t z => nomatch z), e.symm⟩
  · rw [if_neg e]
    have b := bo_ok 11 (chs l) (chs_row p e) (by unfold chs; rw [ch_len]; show _ ≤ 2048; omega) (by rw [chs_txt]; unfold mostSg; omega)
    exact ⟨fun t z => by cases z; exact b.ok, by show (bo 11 (chs l)).txt = l; rw [b.tx, chs_txt]⟩
end Sk

/-! Steps of a reading, each with what follows as its last premise; the shelf in the heap. -/
namespace Sk
open PySem PySem.Spec PyProof.Rows L2

/-! ### exceptions of our own classes -/
section
variable {X : Cx} {C : Addr} {x : Str} {p pos : Pos}
/-- X(), an own class of ValueError's without an __init__ -/
theorem pmk_own0 {bmB : List Value} {B newId initId : String} (F : ExcBaseFacts B newId initId bmB) (q : PySem.W.excIn X.K C bmB newId = true) (gC : X.mg x = some (.ref C)) (kC : PySem.W.keepIn X.K (.ref C) = true)
    (r : Raises X (.ref C)) (hg : Gl X x) (hdb : (x == ("__debug__" : Str)) = false := by decide) :
    PMk X (.Call (.Name x p) [] [] pos) (fun _ H Q => Q (.ref C) none H) := fun pins s σ H Q I h => by
  refine wpAny_Call_Name_kw (ld_glob I hg gC ?_ hdb)
  refine PySem.W.callWith_K0 I.kIn kC ?_
  obtain ⟨bm, N, nm, qn, bs, hdct, sn, sub, ab, col, dd, k0, k1, k2, k3, k5, mN, hC, hN, hni, T⟩ := exc_obj I.kIn q
  exact wpAny_call_exc_subT F T hC hN hni (fun h' e hm => mk_of I hm r h (I.hok.gone hm.new)) (Nat.zero_le _)
end
/-- what the text's top has made of an own error class -/
structure ExTx (K : PySem.W.Frag) (mg : Str → Option Value) (x : Str) (C : Addr) : Prop where
  g : mg x = some (.ref C)
  x : PySem.W.excIn K C [.type "ValueError", .type "Exception", .type "BaseException", .type "object"] "ValueError.__new__" = true
  k : PySem.W.keepIn K (.ref C) = true
  b : PySem.W.subIn K (.ref C) (.type "BaseException") = some true
  t : PySem.W.typeIn K (.ref C) = some (.type "type")
theorem ps_raise0 {X : Cx} {W : WX} {C : Addr} {x : Str} {p pos pos2 : Pos} (hc : X.calm = true) (T : ExTx X.K X.mg x C) (tk : Takes X W) (hg : Gl X x) (hdb : (x == ("__debug__" : Str)) = false := by decide) :
    PS X (.Raise (some (.Call (.Name x p) [] [] pos)) none pos2) (fun _ σ H => W (.ref C) none σ H) :=
  ps_raise hc tk (pmk_own0 PySem.F.excBase_ValueError T.x T.g T.k (raises_own T.b T.t) hg hdb)

/-! ### built-in names -/
theorem bt_len : bootBuiltins "len" = some (.builtin "len") := by first | exact PySem.boot_len | exact PyProof.Rows.boot_len | exact PySem.W.boot_len
theorem bt_max : bootBuiltins "max" = some (.builtin "max") := by first | exact PySem.boot_max | exact PyProof.Rows.boot_max | exact PySem.W.boot_max
theorem bt_min : bootBuiltins "min" = some (.builtin "min") := by first | exact PySem.boot_min | exact PyProof.Rows.boot_min | exact PySem.W.boot_min
theorem bt_range : bootBuiltins "range" = some (.type "range") := by first | exact PySem.boot_range | exact PyProof.Rows.boot_range | exact PySem.W.boot_range
theorem bt_isinstance : bootBuiltins "isinstance" = some (.builtin "isinstance") := by first | exact PySem.boot_isinstance | exact PyProof.Rows.boot_isinstance | exact PySem.W.boot_isinstance
theorem bt_all : bootBuiltins "all" = some (.builtin "all") := by first | exact PySem.boot_all | exact PyProof.Rows.boot_all | exact PySem.W.boot_all
theorem bt_any : bootBuiltins "any" = some (.builtin "any") := by first | exact PySem.boot_any | exact PyProof.Rows.boot_any | exact PySem.W.boot_any
theorem bt_sum : bootBuiltins "sum" = some (.builtin "sum") := by first | exact PySem.boot_sum | exact PyProof.Rows.boot_sum | exact PySem.W.boot_sum
theorem bt_sorted : bootBuiltins "sorted" = some (.builtin "sorted") := by first | exact PySem.boot_sorted | exact PyProof.Rows.boot_sorted | exact PySem.W.boot_sorted
theorem bt_list : bootBuiltins "list" = some (.type "list") := by first | exact PySem.boot_list | exact PyProof.Rows.boot_list | exact PySem.W.boot_list
theorem bt_dict : bootBuiltins "dict" = some (.type "dict") := by first | exact PySem.boot_dict | exact PyProof.Rows.boot_dict | exact PySem.W.boot_dict
theorem bt_str : bootBuiltins "str" = some (.type "str") := by first | exact PySem.boot_str | exact PyProof.Rows.boot_str | exact PySem.W.boot_str
theorem bt_int : bootBuiltins "int" = some (.type "int") := by first | exact PySem.boot_int | exact PyProof.Rows.boot_int | exact PySem.W.boot_int
theorem bt_zip : bootBuiltins "zip" = some (.type "zip") := by first | exact PySem.boot_zip | exact PyProof.Rows.boot_zip | exact PySem.W.boot_zip
theorem bt_enumerate : bootBuiltins "enumerate" = some (.type "enumerate") := by first | exact PySem.boot_enumerate | exact PyProof.Rows.boot_enumerate | exact PySem.W.boot_enumerate
theorem bt_reversed : bootBuiltins "reversed" = some (.type "reversed") := by first | exact PySem.boot_reversed | exact PyProof.Rows.boot_reversed | exact PySem.W.boot_reversed
theorem bt_abs : bootBuiltins "abs" = some (.builtin "abs") := by first | exact PySem.boot_abs | exact PyProof.Rows.boot_abs | exact PySem.W.boot_abs
theorem bt_tuple : bootBuiltins "tuple" = some (.type "tuple") := by first | exact PySem.boot_tuple | exact PyProof.Rows.boot_tuple | exact PySem.W.boot_tuple
theorem bt_bool : bootBuiltins "bool" = some (.type "bool") := by first | exact PySem.boot_bool | exact PyProof.Rows.boot_bool | exact PySem.W.boot_bool
theorem bt_ValueError : bootBuiltins "ValueError" = some (.type "ValueError") := by decide +kernel
/-! ### constants of the text -/
def KInt (mg : Str → Option Value) (x : Str) (i : Int) : Prop := ∃ t, mg x = some (.int i t)
def KStr (mg : Str → Option Value) (x : Str) (y : Str) : Prop := ∃ t, mg x = some (.str y t)
theorem pe_kint {X : Cx} {x : Str} {i : Int} {pos : Pos} (h : KInt X.mg x i) (g : Gl X x) (hd : (x == ("__debug__" : Str)) = false := by decide) : PE X (.Name x pos) (tC (.int i)) := by
  obtain ⟨t, e⟩ := h
  exact pe_glob (hd := hd) g e ⟨t, rfl⟩
theorem pe_kstr {X : Cx} {x : Str} {y : Str} {pos : Pos} (h : KStr X.mg x y) (g : Gl X x) (hd : (x == ("__debug__" : Str)) = false := by decide) : PE X (.Name x pos) (tC (.str y)) := by
  obtain ⟨t, e⟩ := h
  exact pe_glob (hd := hd) g e ⟨t, rfl⟩
/-! ### steps -/
section
variable {K : PySem.W.Frag} {σ : L2.St} {H H1 : Hp} {Q : VK} {D : Ends} {ta tb tc : TE} {t u : TS} {r r' : R2}
theorem w_var {i : Nat} {v : V} (h : σ[i]? = some (some v)) (k : Q v H) : tVar i σ H Q := ⟨v, h, k⟩
theorem w_c {v : V} (k : Q v H) : tC v σ H Q := k
theorem w_op (k : ta σ H fun x H1 => tb σ H1 fun y H2 => r x y H2 Q) : tOp r ta tb σ H Q := k
theorem w_un {r : V → Hp → VK → Prop} (k : ta σ H fun x H1 => r x H1 Q) : tUn r ta σ H Q := k
theorem w_chain (k : ta σ H fun x H1 => tb σ H1 fun y H2 => r x y H2 fun z H3 => ∃ k, z = .bl k ∧ (if k = true then tc σ H3 fun w H4 => r' y w H4 Q else Q (.bl false) H3)) : tChain r r' ta tb tc σ H Q := k
theorem w_rI0 {g : Int → Int → V} {i j : Int} (k : Q (g i j) H) : rI0 g (.int i) (.int j) H Q := ⟨i, j, rfl, rfl, k⟩
theorem w_rI {C : Int → Int → Prop} {g : Int → Int → V} {i j : Int} (c : C i j) (k : Q (g i j) H) : rI C g (.int i) (.int j) H Q := ⟨i, j, rfl, rfl, c, k⟩
theorem w_rU {g : Int → V} {i : Int} (k : Q (g i) H) : rU g (.int i) H Q := ⟨i, rfl, k⟩
theorem dI {i j : Int} : decide (V.int i = V.int j) = decide (i = j) := by
  by_cases h : i = j
  · subst h; simp
  · rw [decide_eq_false h, decide_eq_false (fun e => h (V.int.inj e))]
theorem dS {i j : Str} : decide (V.str i = V.str j) = decide (i = j) := by
  by_cases h : i = j
  · subst h; simp
  · rw [decide_eq_false h, decide_eq_false (fun e => h (V.str.inj e))]
theorem dB {i j : Bool} : decide (V.bl i = V.bl j) = decide (i = j) := by cases i <;> cases j <;> rfl
theorem w_eqI {i j : Int} (k : Q (.bl (decide (i = j))) H) : rEq (.int i) (.int j) H Q := ⟨rfl, by rw [dI]; exact k⟩
theorem w_eqS {i j : Str} (k : Q (.bl (decide (i = j))) H) : rEq (.str i) (.str j) H Q := ⟨rfl, by rw [dS]; exact k⟩
theorem w_eqB {i j : Bool} (k : Q (.bl (decide (i = j))) H) : rEq (.bl i) (.bl j) H Q := ⟨rfl, by rw [dB]; exact k⟩
theorem w_neI {i j : Int} (k : Q (.bl (decide (¬ i = j))) H) : rNe (.int i) (.int j) H Q := ⟨rfl, by rw [dI, ← decide_not]; exact k⟩
theorem w_neS {i j : Str} (k : Q (.bl (decide (¬ i = j))) H) : rNe (.str i) (.str j) H Q := ⟨rfl, by rw [dS, ← decide_not]; exact k⟩
theorem w_neB {i j : Bool} (k : Q (.bl (decide (¬ i = j))) H) : rNe (.bl i) (.bl j) H Q := ⟨rfl, by rw [dB, ← decide_not]; exact k⟩
theorem w_bl {R : Bool → Prop} {b : Bool} (k : R b) : ∃ c, V.bl b = .bl c ∧ R c := ⟨b, rfl, k⟩
theorem w_test {Q : Bool → Hp → Prop} {t : TE} (k : t σ H fun x H' => ∃ k, x = .bl k ∧ Q k H') : tTest t σ H Q := k
theorem w_tB {Q : Bool → Hp → Prop} {t : TE} (k : t σ H fun x H' => ∃ k, x = .bl k ∧ Q k H') : tB t σ H Q := k
theorem w_tAnd {Q : Bool → Hp → Prop} {t u : TT} (k : t σ H fun c H1 => if c = true then u σ H1 Q else Q false H1) : tAnd t u σ H Q := k
theorem w_tOr {Q : Bool → Hp → Prop} {t u : TT} (k : t σ H fun c H1 => if c = true then Q true H1 else u σ H1 Q) : tOr t u σ H Q := k
theorem w_tNot {Q : Bool → Hp → Prop} {t : TT} (k : t σ H fun c H1 => Q (!c) H1) : tNot t σ H Q := k
theorem w_tAndV (k : ta σ H fun x H1 => ∃ c, x = .bl c ∧ if c = true then tb σ H1 Q else Q (.bl false) H1) : tAndV ta tb σ H Q := k
theorem w_tOrV (k : ta σ H fun x H1 => ∃ c, x = .bl c ∧ if c = true then Q (.bl true) H1 else tb σ H1 Q) : tOrV ta tb σ H Q := k
theorem w_tNotV (k : ta σ H fun x H1 => ∃ c, x = .bl c ∧ Q (.bl (!c)) H1) : tNotV ta σ H Q := k
theorem w_tIf {c : TT} (k : c σ H fun b H1 => if b = true then ta σ H1 Q else tb σ H1 Q) : tIf c ta tb σ H Q := k
theorem w_seq (k : t { D with nx := u D } σ H) : tSeq t u D σ H := k
theorem w_next (k : D.nx σ H) : tNext D σ H := k
theorem w_drop (k : ta σ H fun _ H1 => D.nx σ H1) : tDrop ta D σ H := k
theorem w_ret (k : ta σ H D.rt) : tRet ta D σ H := k
theorem w_retN (k : D.rt .non H) : tRetN D σ H := k
theorem w_ifS {c : TT} (k : c σ H fun b H1 => if b = true then t D σ H1 else u D σ H1) : tIfS c t u D σ H := k
theorem w_asg {g : TG} (k : ta σ H fun x H1 => g x σ H1 D.nx) : tAsg ta g D σ H := k
theorem w_varx {i : Nat} (k : ∃ v, σ[i]? = some (some v) ∧ Q v H) : tVar i σ H Q := k
theorem w_for {wi : TI} {g : TG} (k : wi σ H fun J H1 => ∃ W : Nat → Nat → L2.St → Hp → Prop, (∃ m, W 0 m σ H1) ∧ ∀ i m σ H, W i m σ H →
  (J.stop i H ∧ D.nx σ H) ∨ (J.go i H ∧ ∃ N : L2.St → Hp → Prop, (∀ σ' H', N σ' H' → ∃ m', m' < m ∧ W (i + 1) m' σ' H') ∧ ∀ x H', J.yld i H x H' → g x σ H' fun σ2 H2 => t { D with nx := N, ct := N, bk := D.nx } σ2 H2)) : tFor wi g t D σ H := k
theorem w_rng3 {ts : TA} {R : It → Hp → Prop} (k : ts σ H fun vs H1 => ∃ (i j c : Int) (n : Nat), vs = [.int i, .int j, .int c] ∧ RgC i j c n ∧ R (Itc i c n) H1) : iRng3 ts σ H R := k
theorem w_rng1 {ts : TA} {R : It → Hp → Prop} (k : ts σ H fun vs H1 => ∃ j : Int, vs = [.int j] ∧ -(2 ^ 62) ≤ j ∧ j < 2 ^ 62 ∧ R (Itr 0 j.toNat) H1) : iRng1 ts σ H R := k
theorem w_rng2 {ts : TA} {R : It → Hp → Prop} (k : ts σ H fun vs H1 => ∃ i j : Int, vs = [.int i, .int j] ∧ (-(2 ^ 62) ≤ i ∧ i < 2 ^ 62 ∧ -(2 ^ 62) ≤ j ∧ j < 2 ^ 62) ∧ R (Itr i (j - i).toNat) H1) : iRng2 ts σ H R := k
theorem w_ilist {R : It → Hp → Prop} (k : ta σ H fun x H1 => ∃ a, x = .ref a ∧ (∃ xs, SqL K H1 a xs) ∧ R (Itl K a) H1) : iList K ta σ H R := k
theorem w_istr {R : It → Hp → Prop} (k : ta σ H fun v H1 => ∃ x, v = .str x ∧ R (Its x) H1) : iStr ta σ H R := k
theorem w_lc {wi : TI} {g : TG} {tt : TT} {vs : List Nat} (k : wi σ H fun J H1 => ∀ D, H1 D = none → ∃ W : Nat → Nat → Hp → Prop, (∃ m, W 0 m (upd H1 D (.lst []))) ∧ ∀ i m H, W i m H →
  (J.stop i H ∧ Q (.ref D) H) ∨ (J.go i H ∧ ∃ Nx : Hp → Prop, (∀ H', Nx H' → ∃ m', m' < m ∧ W (i + 1) m' H') ∧ ∀ x H', J.yld i H x H' → g x (wipe σ vs) H' fun σ2 H2 => wipe σ2 vs = wipe σ vs ∧ tt σ2 H2 fun b H3 =>
    if b = true then ta σ2 H3 fun y H4 => ∃ acc, H4 D = some (.lst acc) ∧ acc.length < sizeLine ∧ Nx (upd H4 D (.lst (acc ++ [y]))) else Nx H3)) : tLc wi g tt ta vs σ H Q := k
theorem w_m1 {r : V → List V → Hp → VK → Prop} (k : ta σ H fun x H1 => (∃ a, x = .str a) ∧ tb σ H1 fun y H2 => r x [y] H2 Q) : tM1 r ta tb σ H Q := k
theorem w_m0 {r : V → List V → Hp → VK → Prop} (k : ta σ H fun x H1 => (∃ a, x = .str a) ∧ r x [] H1 Q) : tM0 r ta σ H Q := k
theorem w_zip {ta : TA} {R : It → Hp → Prop} (k : ta σ H fun vs H1 => ∃ a b xs ys, vs = [.ref a, .ref b] ∧ SqL K H1 a xs ∧ SqL K H1 b ys ∧ R (Itz K a b) H1) : iZip K ta σ H R := k
theorem w_enum {ta : TA} {R : It → Hp → Prop} (k : ta σ H fun vs H1 => ∃ a xs, vs = [.ref a] ∧ SqL K H1 a xs ∧ R (Ite K a) H1) : iEnum K ta σ H R := k
theorem w_rev {ta : TA} {R : It → Hp → Prop} (k : ta σ H fun vs H1 => ∃ (a : Addr) (xs : List V), vs = [.ref a] ∧ SqL K H1 a xs ∧ R (Itv K a xs.length) H1) : iRev K ta σ H R := k
theorem w_sl {r : V → Option Int → Option Int → Hp → VK → Prop} {tl th : TO} (k : ta σ H fun x H1 => tl σ H1 fun l H2 => th σ H2 fun u H3 => r x l u H3 Q) : tSl r ta tl th σ H Q := k
theorem w_part {Q : Option Int → Hp → Prop} (k : ta σ H fun x H1 => ∃ i, x = .int i ∧ Q (some i) H1) : tPart ta σ H Q := k
theorem w_nop {Q : Option Int → Hp → Prop} (k : Q none H) : tNoPart σ H Q := k
theorem w_gname {i : Nat} {v : V} {Q : L2.St → Hp → Prop} (k : Q (σ.set i (some v)) H) : gName i v σ H Q := k
theorem w_yes {Q : Bool → Hp → Prop} (k : Q true H) : tYes σ H Q := k
theorem w_nil {Q : List V → Hp → Prop} (k : Q [] H) : tNil σ H Q := k
theorem w_cons {Q : List V → Hp → Prop} {ts : TA} (k : ta σ H fun x H1 => ts σ H1 fun xs H2 => Q (x :: xs) H2) : tCons ta ts σ H Q := k
theorem w_call {sp : Sp} {dvs : List V} {E : XK} {ts : TA} (k : ts σ H fun vs H1 => sp (vs ++ dvs) H1 Q E) : tCall sp dvs E ts σ H Q := k
theorem w_callS {sp : Sp} {E : L2.St → XK} {ts : TA} (k : ts σ H fun vs H1 => sp vs H1 Q (E σ)) : tCallS sp E ts σ H Q := k
theorem w_cb {ts : TA} {r : List V → Hp → VK → Prop} (k : ts σ H fun vs H1 => r vs H1 Q) : tCB r ts σ H Q := k
theorem w_meth {C : Addr} {m : Str} {sp : Sp} {dvs : List V} {E : XK} {ts : TA} (k : ta σ H fun x H1 => ∃ a dx fs, x = .ref a ∧ H1 a = some (.ins C dx fs) ∧ fs.lookup m = none ∧ ts σ H1 fun vs H2 => sp (x :: (vs ++ dvs)) H2 Q E) :
    tMeth C m sp dvs E ta ts σ H Q := k
theorem w_make {C : Addr} {sp : Sp} {dvs : List V} {E : XK} {ts : TA} (k : ts σ H fun vs H1 => ∀ x dx, H1 x = none → H1 dx = none → dx ≠ x → sp (.ref x :: (vs ++ dvs)) (upd (upd H1 dx (.own x)) x (.ins C dx [])) (fun v H2 => v = .non ∧ Q (.ref x) H2) E) : tMake C sp dvs E ts σ H Q := k
theorem w_fld {f : Str} (k : ta σ H fun x H1 => ∃ a C dx fs v, x = .ref a ∧ H1 a = some (.ins C dx fs) ∧ Cls K C ∧ NoAttr K C f ∧ fs.lookup f = some v ∧ Q v H1) : tFld K ta f σ H Q := k
theorem w_bm {T : String} {r : V → List V → Hp → VK → Prop} {ts : TA} (k : ta σ H fun x H1 => tyV K T x H1 ∧ ts σ H1 fun xs H2 => r x xs H2 Q) : tBM K T r ta ts σ H Q := k
theorem w_bm0 {T : String} {r : V → List V → Hp → VK → Prop} (k : ta σ H fun x H1 => tyV K T x H1 ∧ r x [] H1 Q) : tBM0 K T r ta σ H Q := k
theorem w_lst {ts : TA} (k : ts σ H fun xs H1 => xs.length ≤ sizeLine ∧ ∀ p, H1 p = none → Q (.ref p) (upd H1 p (.lst xs))) : tLst ts σ H Q := k
theorem w_tup {ts : TA} (k : ts σ H fun xs H1 => xs.length ≤ sizeLine ∧ ∀ p, H1 p = none → Q (.ref p) (upd H1 p (.tup xs))) : tTup ts σ H Q := k
/-- a new object is forgotten but for what it holds -/
theorem w_new {o : HO} {P : Addr → Hp → Prop} (k : ∀ p H', H p = none → Same H H' → H' p = some o → P p H') : ∀ p, H p = none → P p (upd H p o) :=
  fun p hp => k p _ hp (fun b o' e => by rw [upd_ne (ne_of_none e hp)]; exact e) upd_same
theorem w_mkl {xs : List V} {P : Addr → Hp → Prop} (l : xs.length ≤ sizeLine) (k : ∀ p H', H p = none → Same H H' → H' p = some (.lst xs) → P p H') : xs.length ≤ sizeLine ∧ ∀ p, H p = none → P p (upd H p (.lst xs)) := ⟨l, w_new k⟩
theorem w_mkt {xs : List V} {P : Addr → Hp → Prop} (l : xs.length ≤ sizeLine) (k : ∀ p H', H p = none → Same H H' → H' p = some (.tup xs) → P p H') : xs.length ≤ sizeLine ∧ ∀ p, H p = none → P p (upd H p (.tup xs)) := ⟨l, w_new k⟩
theorem w_ixl {p : Addr} {xs : List V} {i : Int} {v : V} (s : SqL K H p xs) (a : atI xs i = some v) (k : Q v H) : rIxL K (.ref p) (.int i) H Q := ⟨p, xs, i, v, rfl, rfl, s, a, k⟩
theorem w_ixt {p : Addr} {xs : List V} {i : Int} {v : V} (s : SqT K H p xs) (a : atI xs i = some v) (k : Q v H) : rIxT K (.ref p) (.int i) H Q := ⟨p, xs, i, v, rfl, rfl, s, a, k⟩
/-- a, b, .. = a tuple -/
theorem w_gtup {n : Nat} {g : TGs} {a : Addr} {xs : List V} {Q : L2.St → Hp → Prop} (s : SqT K H a xs) (l : xs.length = n) (k : g xs σ H Q) : gTup K n g (.ref a) σ H Q := ⟨a, xs, rfl, s, l, k⟩
theorem w_gcons {v : V} {vs : List V} {g : TG} {gs : TGs} {Q : L2.St → Hp → Prop} (k : g v σ H fun σ' H' => gs vs σ' H' Q) : gCons g gs (v :: vs) σ H Q := ⟨v, vs, rfl, k⟩
theorem w_gnil {Q : L2.St → Hp → Prop} (k : Q σ H) : gNil [] σ H Q := ⟨rfl, k⟩
end
theorem new_of {H : Hp} {p : Addr} {o : HO} (hp : H p = none) : ∃ H', upd H p o = H' ∧ Same H H' ∧ H' p = some o :=
  ⟨_, rfl, fun b o' e => by rw [upd_ne (ne_of_none e hp)]; exact e, upd_same⟩
theorem line_of {n : Nat} {xs : List V} (h : xs.length = n) (l : n ≤ 1000) : xs.length ≤ sizeLine := by rw [sizeLine_eq]; omega
theorem ite_d {p A B : Prop} [Decidable p] (h1 : p → A) (h2 : ¬ p → B) : if decide p = true then A else B := by
  by_cases h : p
  · rw [decide_eq_true h]; exact iteT (h1 h)
  · rw [decide_eq_false h]; exact iteF (h2 h)
theorem ite_n {p A B : Prop} [Decidable p] (h1 : ¬ p → A) (h2 : p → B) : if (!decide p) = true then A else B := by
  by_cases h : p
  · rw [decide_eq_true h]; exact iteF (h2 h)
  · rw [decide_eq_false h]; exact iteT (h1 h)
theorem ite_b {b : Bool} {A B : Prop} (h1 : b = true → A) (h2 : b = false → B) : if b = true then A else B := by
  cases b with
  | true => exact iteT (h1 rfl)
  | false => exact iteF (h2 rfl)

end Sk

/-! try .. except, any number of clauses, each with a class or a tuple of classes, with a name or none; behind a suite the error is tracked. -/
namespace Sk
open PySem PySem.Spec PyProof.Rows L2

/-- a caught error's record -/
def XO (cls : Value) (d : Option Addr) (a : Addr) : HO := .ext fun h => ∃ (oe : Obj) (vs : Array Value), h.get? a = some oe ∧ Zc cls d oe ∧ oe.data = .fields vs
theorem flying_more {B h h' : Heap} {l : List Env} {e : Addr} {Z : Obj → Prop} (f : HandSPX.FlyingZ B l e Z h) (k : ∀ b o, h.get? b = some o → h'.get? b = some o) : HandSPX.FlyingZ B l e Z h' :=
  ⟨fun b o q => k _ _ (f.1 b o q), f.2.1, f.2.2.1.of_keeps fun b o q _ => ⟨o, k _ _ q, rfl⟩,
    let ⟨oe, vs, T, oT, ts, h1, h2, h3, h4, h5, h6, h7, h8, h9⟩ := f.2.2.2
    ⟨oe, vs, T, oT, ts, k _ _ h1, h2, h3, h4, h5, h6, k _ _ h7, h8, h9⟩⟩
section
variable {X : Cx} {pins : List (Addr × Obj)} {σ : L2.St} {H : Hp} {s : Shared}
/-- an object that wasn't there at the entry is tracked from now on -/
theorem inv_track {a : Addr} {o : HO} (I : Inv X pins σ H s) (hn : H a = none) (n0 : a ∉ X.ex → X.s_0.heap.get? a = none) (nL : a ≠ X.env.locals) (nC : ∀ x c, X.env.cells.lookup x = some c → c ≠ a) (nP : ∀ p ∈ X.pn ++ pins, p.1 ≠ a)
    (ok : ObjOk X.prog X.w (upd H a o) s.heap a o) : Inv X pins σ (upd H a o) s := by
  have ne : ∀ {b : Addr} {u : HO}, H b = some u → upd H a o b = some u := fun {b u} e => by
    rw [upd_ne (ne_of_none e hn)]; exact e
  refine ⟨I.ok, I.os, I.bare, ⟨I.base.keep, I.base.slot, fun b u e n x => ?_, I.base.there, fun b xs e => ne (I.base.tups b xs e), fun b u xs e => ne (I.base.frzs b u xs e), fun b ps e => ?_⟩, I.loc, I.cell, ?_, fun x c e => ?_, fun p hp => ?_, fun b u e => ?_, I.len⟩
  · rw [upd_ne (by rintro rfl; rw [n0 x] at e; cases e)]
    exact I.base.free b u e n x
  · obtain ⟨more, q⟩ := I.base.tbls b ps e
    exact ⟨more, ne q⟩
  · rw [upd_ne nL.symm]; exact I.free
  · rw [upd_ne (nC x c e)]; exact I.freeC x c e
  · obtain ⟨p1, p2, p3⟩ := I.pin p hp
    exact ⟨p1, by rw [upd_ne (nP p hp)]; exact p2, p3⟩
  · by_cases hb : b = a
    · subst hb
      rw [upd_same] at e
      cases e
      exact ok
    · rw [upd_ne hb] at e
      exact (I.hok b u e).stay (fun c v _ q => q) (fun c q => ne q) fun c xs q => ne q
end
/-- a clause: what it catches, its name's slot, its suite's reading -/
structure Cl where
  m : Value → Option Bool
  i : Option Nat
  ts : Addr → Value → Option Addr → TS
def entN : Option Nat → Addr → L2.St → L2.St
  | none, _, σ => σ
  | some i, a, σ => σ.set i (some (.ref a))
def clrN : Option Nat → L2.St → L2.St
  | none, σ => σ
  | some i, σ => σ.set i none
def endsT (cls : Value) (d : Option Addr) (a : Addr) (i : Option Nat) (D : Ends) : Ends :=
  { nx := fun σ H => D.nx (clrN i σ) (upd H a (XO cls d a)), rt := D.rt, bk := fun σ H => D.bk (clrN i σ) (upd H a (XO cls d a)), ct := fun σ H => D.ct (clrN i σ) (upd H a (XO cls d a)) }
/-- what the clauses wish of an error of the body -/
def wTry : List Cl → WX → Ends → WX
  | [], Wout, _ => Wout
  | c :: r, Wout, D => fun cls d σ H => ∃ b, c.m cls = some b ∧ (b = true → ∀ a, H a = none → c.ts a cls d (endsT cls d a c.i D) (entN c.i a σ) H) ∧ (b = false → wTry r Wout D cls d σ H)
def TestOk (X : Cx) (t : Expr) (m : Value → Option Bool) : Prop :=
  ∀ (a : Addr) (oe : Obj) (pn : List (Addr × Obj)) (σ : L2.St) (H : Hp) (s : Shared) (b : Bool) (Q : Bool → Shared → Prop) (E : Value → Shared → Prop), Inv (X.suite a ((a, oe) :: pn)) [] σ H s → m oe.cls = some b →
    (∀ h', (∀ q o, s.heap.get? q = some o → h'.get? q = some o) → Q b { s with heap := h' }) →
    wpAny (model X.prog X.w) (X.A.mark (some (.ref a))) (eval t X.env) (fun c s₁ => wpAny (model X.prog X.w) (X.A.mark (some (.ref a))) (excMatches (.ref a) c) Q E s₁) E s
inductive Hd (X : Cx) : ExceptHandler → Cl → Prop
  | plain {t : Expr} {b₀ : Stmt} {suite : List Stmt} {pos : Pos} {m : Value → Option Bool} {ts : Addr → Value → Option Addr → TS} (ht : TestOk X t m)
      (hs : ∀ (a : Addr) (oe : Obj) (cls : Value) (d : Option Addr) (pn : List (Addr × Obj)), Zc cls d oe → (∃ vs, oe.data = .fields vs) → PSs (X.suite a ((a, oe) :: pn)) (b₀ :: suite) (ts a cls d)) :
      Hd X (.ExceptHandler (some t) none (b₀ :: suite) pos) ⟨m, none, ts⟩
  | named {t : Expr} {n : Str} {i : Nat} {b₀ : Stmt} {suite : List Stmt} {pos : Pos} {m : Value → Option Bool} {ts : Addr → Value → Option Addr → TS} (hi : X.N[i]? = some n) (hl : X.env.kindOf n = some .local) (ht : TestOk X t m)
      (hs : ∀ (a : Addr) (oe : Obj) (cls : Value) (d : Option Addr) (pn : List (Addr × Obj)), Zc cls d oe → (∃ vs, oe.data = .fields vs) → PSs (X.suite a ((a, oe) :: pn)) (b₀ :: suite) (ts a cls d)) :
      Hd X (.ExceptHandler (some t) (some n) (b₀ :: suite) pos) ⟨m, some i, ts⟩
inductive Hds (X : Cx) : List ExceptHandler → List Cl → Prop
  | nil : Hds X [] []
  | cons {h : ExceptHandler} {hs : List ExceptHandler} {c : Cl} {l : List Cl} (x : Hd X h c) (r : Hds X hs l) : Hds X (h :: hs) (c :: l)
theorem test_one {X : Cx} {x : Str} {c : Value} {np : Pos} (hc : Names X x c) : TestOk X (.Name x np) (fun cls => PySem.W.exmOne X.K cls c) := by
  intro a oe pn σ H s b Q E S e q
  have there := (S.pin (a, oe) (List.mem_append.mpr (.inl List.mem_cons_self))).1
  have LT : PySem.W.Looks (model X.prog X.w) s.heap (typeOf (.ref a)) oe.cls := fun A Q E s k q => wpAny_typeOf_ref (k _ _ there) q
  have go := (PySem.W.exm_one (M := model X.prog X.w) S.kIn LT e).here (Q := Q) (E := E) (A := X.A.mark (some (.ref a))) (q s.heap fun _ _ z => z)
  obtain ⟨hg, hdb, h1 | ⟨h1, h2, h3⟩⟩ := hc
  · exact ld_glob (X := X.suite a ((a, oe) :: pn)) S hg h1 go hdb
  · exact ld_blt (X := X.suite a ((a, oe) :: pn)) S hg h1 h2 go h3 hdb
section
variable {X : Cx} {h₀ : ExceptHandler} {hds : List ExceptHandler} {body : List Stmt} {pos : Pos} {l : List Cl} {tb : WX → TS} {Wout : WX}
theorem ps_tryM (hs : X.stack = X.env :: X.outer) (hf : X.env.frame = some X.env.locals) (hN : X.N.Nodup) (hh : Hds X (h₀ :: hds) l) (tk : Takes X Wout)
    (hb : ∀ (W : WX) (pn : List (Addr × Obj)) (xe : Value → Shared → Prop), Takes (X.tr pn xe) W → PassesOwn (model X.prog X.w) X.A X.env xe → PSs (X.tr pn xe) body (tb W)) :
    PS X (.Try body (h₀ :: hds) [] [] pos) (fun D σ H => tb (wTry l Wout D) D σ H) := by
  refine ⟨fun pins s σ H D I h => ?_⟩
  have okX := I.ok
  have fr : X.A.frames = some (X.env :: X.outer) := by rw [okX.frames, hs]
  refine wpAny_Try_except ?_
  refine wpAny_mono ((hb (wTry l Wout D) (X.pn ++ pins) _ (fun u s' xx => ?_) PassesOwn.looking).run [] s σ H D (I.toTry _) h) (fun f s1 hsp => ?_) (fun _ _ z => z)
  · obtain ⟨a, B, sI, pins', σ', H', cls, d, rfl, J', nb, up, sky, na, os, ag, wish⟩ := xx
    have J : Inv X pins σ' H' sI := J'.ofTry okX
    rw [hs] at sky
    show wpAny (model X.prog X.w) X.A (noteFrame (.ref a) X.env) _ _ _
    refine Sky.land Zc.steady fr hf sky fun h3 fl3 up3 => ?_
    have up3' := up.trans up3
    obtain ⟨oe3, vs3, he3, hz3, hd3⟩ := fl3.there
    have nfr : a ∉ frs (X.env :: X.outer) := fun hm => by
      obtain ⟨_, o', e', hnf⟩ := fl3.2.2.1.mem hm
      rw [he3] at e'
      cases e'
      exact hnf _ hd3
    have nL : a ≠ X.env.locals := fun z => nfr (List.mem_filterMap.mpr ⟨X.env, List.mem_cons_self, by rw [hf, z]⟩)
    have nF : a ∉ X.fs := fun hm => by
      obtain ⟨e, he, q⟩ := List.mem_filterMap.mp hm
      exact nfr (List.mem_filterMap.mpr ⟨e, List.mem_cons_of_mem _ he, q⟩)
    have inB : ∀ b, b ∉ frs (X.env :: X.outer) → (∃ o, sI.heap.get? b = some o) → b ≠ a := fun b h1 ⟨o, h2⟩ z => by
      have q := nb b o h2 (by rw [hs]; exact h1)
      rw [z, fl3.2.1] at q
      cases q
    have n0 : a ∉ X.ex → X.s_0.heap.get? a = none := fun hx => by
      cases q : X.s_0.heap.get? a with
      | none => rfl
      | some o => exact absurd rfl (inB a nfr (J.base.there a o q hx))
    have nP : ∀ p ∈ X.pn ++ pins, p.1 ≠ a := fun p hp => by
      obtain ⟨p1, _, p3, p4, _⟩ := J.pin p hp
      refine inB p.1 (fun hm => ?_) ⟨_, p1⟩
      obtain ⟨e, he, q⟩ := List.mem_filterMap.mp hm
      rcases List.mem_cons.mp he with z | z
      · rw [z, hf] at q
        exact p3 (Option.some.inj q).symm
      · exact p4 (List.mem_filterMap.mpr ⟨e, z, q⟩)
    -- behind a suite the error is tracked
    have behind : ∀ {oe : Obj} {σ6 : L2.St} {H6 : Hp} {s6 : Shared}, Zc cls d oe → (∃ vs, oe.data = .fields vs) → Inv (X.suite a ((a, oe) :: (X.pn ++ pins))) [] σ6 H6 s6 → Inv X pins σ6 (upd H6 a (XO cls d a)) s6 := fun {oe σ6 H6 s6} z hv S6 => by
      have S7 := S6.unsuite okX
      obtain ⟨p1, p2, _⟩ := S6.pin (a, oe) (List.mem_append.mpr (.inl List.mem_cons_self))
      obtain ⟨vs, hv⟩ := hv
      refine inv_track S7 p2 n0 nL (fun x c e => ?_) nP ⟨⟨oe, vs, p1, z, hv⟩, ⟨oe, p1⟩, fun h1 h2 ⟨o, v, q1, q2⟩ k => ⟨o, v, k o q1, q2⟩⟩
      rintro rfl
      obtain ⟨v, o, ho, hc⟩ := S7.cell x _ e
      rw [p1] at ho
      cases ho
      rw [hv] at hc
      cases hc
    have go : ∀ {hds' : List ExceptHandler} {l' : List Cl}, Hds X hds' l' → ∀ h3, HandSPX.FlyingZ B (X.env :: X.outer) a (Zc cls d) h3 → sI.heap.UpToSlots h3 → wTry l' Wout D cls d σ' H' →
        wpAny (model X.prog X.w) X.A (handleBy (.ref a) X.env hds') (SP X pins D) X.xe { s' with heap := h3 } := by
      intro hds' l' hk
      induction hk with
      | nil =>
        intro h3 fl3 up3 wsh
        refine wpAny_handleBy_nil ?_
        obtain ⟨k1, k2, k3, oe, vs, T, oT, ts', he, hz, hd, h1, hr⟩ := id fl3
        unfold PySem.passOn
        refine wpAny_bind (wpAny_field he hd h1 ?_)
        rw [if_neg (show ¬ ((Value.ref T == Value.none) = true) from by simp)]
        have last : wpAny (model X.prog X.w) X.A (setFlight (.ref a) X.env.frame) (fun _ s4 => wpAny (model X.prog X.w) X.A (throw (.ref a) : Sem Flow) (SP X pins D) X.xe s4) X.xe { s' with heap := h3 } := by
          rw [hf]
          refine HandSPX.setFlight_upZ fl3 fun h4 hh4 up4 => wpAny_throw (tk _ _ ?_)
          exact ⟨a, B, sI, pins, σ', H', cls, d, rfl, J, nb, up3.trans up4, .inr (.inr (by rw [hs]; exact hh4)), na, os, ag, wsh⟩
        first
          | exact wpAny_bind (wpAny_pure (wpAny_bind last))
          | exact wpAny_bind last
      | @cons hd' hds2 c l2 hx r ih =>
        intro h3 fl3 up3 wsh
        obtain ⟨b, hb1, hyes, hno⟩ := wsh
        obtain ⟨oe3, vs3, he3, hz3, hd3⟩ := fl3.there
        have S3 := (J.landed (s' := { s' with heap := h3 }) nb fl3.1 up3 os ag).suite he3 hd3 na nL nF
        cases hx with
        | plain ht hsu =>
          refine wpAny_handleBy_cons (codeAny_handlers_test ?_) (by intro q; cases q)
          refine ht a oe3 _ _ _ _ b _ _ S3 (by rw [hz3.1]; exact hb1) fun h5 kp => ?_
          have fl5 := flying_more fl3 kp
          have up5 := up3.trans (Heap.UpToSlots.of_keeps kp)
          cases b with
          | false => exact ih h5 fl5 up5 (hno rfl)
          | true =>
            refine codeAny_handlers_suite ?_
            refine HandSPX.lands_againZ fl5 fun h4 fl4 up4 => ?_
            obtain ⟨oe4, vs4, he4, hz4, hd4⟩ := fl4.there
            have S4 := (J.landed (s' := { s' with heap := h4 }) nb fl4.1 (up5.trans up4) os ag).suite he4 hd4 na nL nF
            refine wpAny_mono ((hsu a oe4 cls d (X.pn ++ pins) hz4 ⟨_, hd4⟩).run [] _ _ H' _ S4 (hyes rfl a na)) (fun f s6 hsp => ?_) (fun _ _ z => False.elim z)
            have bh := fun {σ6 : L2.St} {H6 : Hp} (S6 : Inv (X.suite a ((a, oe4) :: (X.pn ++ pins))) [] σ6 H6 s6) => behind hz4 ⟨_, hd4⟩ S6
            cases f with
            | ret u => exact let ⟨v6, σ6, H6, S6, r6, q6⟩ := hsp; ⟨v6, σ6, H6, S6.unsuite okX, r6, q6⟩
            | next => exact let ⟨σ6, H6, S6, q6⟩ := hsp; ⟨_, _, bh S6, q6⟩
            | brk => exact let ⟨σ6, H6, S6, q6⟩ := hsp; ⟨_, _, bh S6, q6⟩
            | cont => exact let ⟨σ6, H6, S6, q6⟩ := hsp; ⟨_, _, bh S6, q6⟩
        | @named t n i b₀ suite pos m ts hi hl ht hsu =>
          refine wpAny_handleBy_cons (codeAny_handlers_test ?_) (by intro q; cases q)
          refine ht a oe3 _ _ _ _ b _ _ S3 (by rw [hz3.1]; exact hb1) fun h5 kp => ?_
          have fl5 := flying_more fl3 kp
          have up5 := up3.trans (Heap.UpToSlots.of_keeps kp)
          cases b with
          | false => exact ih h5 fl5 up5 (hno rfl)
          | true =>
            refine codeAny_handlers_suite_as ?_
            refine HandSPX.lands_againZ fl5 fun h4 fl4 up4 => ?_
            obtain ⟨oe4, vs4, he4, hz4, hd4⟩ := fl4.there
            have S4 := (J.landed (s' := { s' with heap := h4 }) nb fl4.1 (up5.trans up4) os ag).suite he4 hd4 na nL nF
            refine store_ok (X := X.suite a ((a, oe4) :: (X.pn ++ pins))) (v := .ref a) S4 hN hi (.inl hl) rfl (fun s5 S5 => ?_) (.inr hl)
            refine wpAny_mono ((hsu a oe4 cls d (X.pn ++ pins) hz4 ⟨_, hd4⟩).run [] s5 _ H' _ S5 (hyes rfl a na)) (fun f s6 hsp => ?_) (fun _ _ z => False.elim z)
            have gone : ∀ {σ6 : L2.St} {H6 : Hp} {Q : Shared → Prop}, Inv (X.suite a ((a, oe4) :: (X.pn ++ pins))) [] σ6 H6 s6 → (∀ s7, Inv (X.suite a ((a, oe4) :: (X.pn ++ pins))) [] (σ6.set i none) H6 s7 → Q s7) →
                wpAny (model X.prog X.w) X.A (do bindName X.env n .none; unbindBehindTheSuite X.env n pos) (fun _ s7 => Q s7) X.xe s6 := fun {σ6 H6 Q} S6 hq => gone_ok (X := X.suite a ((a, oe4) :: (X.pn ++ pins))) S6 hN hi hl hq
            cases f with
            | ret u => exact let ⟨v6, σ6, H6, S6, r6, q6⟩ := hsp; gone S6 fun s7 S7 => ⟨v6, _, H6, S7.unsuite okX, r6, q6⟩
            | next => exact let ⟨σ6, H6, S6, q6⟩ := hsp; gone S6 fun s7 S7 => ⟨_, _, behind hz4 ⟨_, hd4⟩ S7, q6⟩
            | brk => exact let ⟨σ6, H6, S6, q6⟩ := hsp; gone S6 fun s7 S7 => ⟨_, _, behind hz4 ⟨_, hd4⟩ S7, q6⟩
            | cont => exact let ⟨σ6, H6, S6, q6⟩ := hsp; gone S6 fun s7 S7 => ⟨_, _, behind hz4 ⟨_, hd4⟩ S7, q6⟩
    exact go hh h3 fl3 up3' wish
  · cases f with
    | next => exact let ⟨σ', H', J', q⟩ := hsp; wpAny_execs_nil ⟨σ', H', J'.ofTry okX, q⟩
    | brk => exact let ⟨σ', H', J', q⟩ := hsp; ⟨σ', H', J'.ofTry okX, q⟩
    | cont => exact let ⟨σ', H', J', q⟩ := hsp; ⟨σ', H', J'.ofTry okX, q⟩
    | ret u => exact let ⟨v, σ', H', J', r, q⟩ := hsp; ⟨v, σ', H', J'.ofTry okX, r, q⟩
end
/-! ### isinstance of a tracked error -/
def rIsX (K : PySem.W.Frag) : List V → Hp → VK → Prop := fun xs H Q => ∃ (a D : Addr) (c : V) (u : Value) (b : Bool), xs = [.ref a, c] ∧ ClsV c u ∧ H a = some (XO (.ref D) none a) ∧ ExcC K D ∧ PySem.W.kitOne K (.ref D) u = some b ∧ Q (.bl b) H
def rIsXT (K : PySem.W.Frag) : List V → Hp → VK → Prop := fun xs H Q => ∃ (a D tp : Addr) (cs : List V) (us : List Value) (b : Bool), xs = [.ref a, .ref tp] ∧ H tp = some (.tup cs) ∧ Paired ClsV cs us ∧ H a = some (XO (.ref D) none a) ∧ ExcC K D ∧ PySem.W.kitAny K (.ref D) us = some b ∧ Q (.bl b) H
section
variable {X : Cx}
theorem xo_at {P : Program} {w : World} {H : Hp} {h : Heap} {a D : Addr} (ok : HOk P w H h) (e : H a = some (XO (.ref D) none a)) : ∃ oe, PySem.W.InstAt h a oe D none := by
  obtain ⟨oe, vs, he, ⟨z1, z2⟩, hv⟩ := (show ObjOk P w H h a (XO (.ref D) none a) from ok a _ e).1
  refine ⟨oe, ?_⟩
  obtain ⟨oc, od, oda, osl⟩ := oe
  dsimp only at z1 z2 hv
  subst z1 z2 hv
  exact ⟨he, rfl, rfl, trivial⟩
theorem call_isX : CallR X (.builtin "isinstance") (rIsX X.K) := by
  intro pins s σ H xs us Q I r h
  obtain ⟨a, D, c, u, b, rfl, k, ha, C, e, q⟩ := h
  obtain ⟨u1, u2, rfl, r1, r2⟩ := vals2 r
  have e2 := k.eq r2
  subst e2
  cases (show u1 = Value.ref a from r1)
  obtain ⟨oe, J⟩ := xo_at I.hok ha
  exact PySem.W.kia_one (PySem.W.handS_kitx_exc C.hg C.hk C.hs C.hd C.ha C.hn C.ht C.hm) I.kIn J e (fun z => nomatch z) fun tk => ⟨.bl b, H, I.tok tk, rfl, q⟩
theorem call_isXT : CallR X (.builtin "isinstance") (rIsXT X.K) := by
  intro pins s σ H xs us Q I r h
  obtain ⟨a, D, tp, cs, ws, b, rfl, hT, k, ha, C, e, q⟩ := h
  obtain ⟨u1, u2, rfl, r1, r2⟩ := vals2 r
  cases (show u2 = Value.ref tp from r2)
  cases (show u1 = Value.ref a from r1)
  obtain ⟨oe, J⟩ := xo_at I.hok ha
  obtain ⟨_, its, rv, o, h1, h2, n, h3⟩ := (show ObjOk X.prog X.w H s.heap tp (.tup cs) from I.hok tp _ hT)
  have e3 := ClsV.all k rv
  subst e3
  obtain ⟨oc, od, dt, sl⟩ := o
  simp only at h2 h3
  subst h2 h3
  exact PySem.W.kia_tup (PySem.W.handS_kitx_exc C.hg C.hk C.hs C.hd C.ha C.hn C.ht C.hm) I.kIn J h1 e (fun z => nomatch z) fun tk => ⟨.bl b, H, I.tok tk, rfl, q⟩
end
/-! ### isinstance of the error that a suite holds -/
def rIsS (K : PySem.W.Frag) (a : Addr) (cls : Value) (d : Option Addr) : List V → Hp → VK → Prop := fun xs H Q => ∃ (D : Addr) (c : V) (u : Value) (b : Bool), xs = [.ref a, c] ∧ cls = .ref D ∧ d = none ∧ ClsV c u ∧ ExcC K D ∧ PySem.W.kitOne K (.ref D) u = some b ∧ Q (.bl b) H
theorem call_isS {X : Cx} {a : Addr} {cls : Value} {d : Option Addr} {oe : Obj} {pn : List (Addr × Obj)} (hz : Zc cls d oe) (hf : ∃ vs, oe.data = .fields vs) : CallR (X.suite a ((a, oe) :: pn)) (.builtin "isinstance") (rIsS X.K a cls d) := by
  intro pins s σ H xs us Q I r h
  obtain ⟨D, c, u, b, rfl, rfl, rfl, k, C, e, q⟩ := h
  exact call_isE C hz hf pins s σ H _ us Q I r ⟨c, u, b, rfl, fun v rv => k.eq rv, e, q⟩
/-- a clause's test -/
theorem exm_sub {K : PySem.W.Frag} {mg : Str → Option Value} {x : Str} {C : Addr} {cls : Value} {b : Bool} (T : ExTx K mg x C) (hd : PySem.W.hasDictIn K C = true) (h : PySem.W.subIn K cls (.ref C) = some b) : PySem.W.exmOne K cls (.ref C) = some b :=
  PySem.W.exm_ref T.b hd T.t h
theorem kit_own {K : PySem.W.Frag} {D C : Addr} {b : Bool} (hd : PySem.W.hasDictIn K C = true) (ht : PySem.W.typeIn K (.ref C) = some (.type "type")) (hk : PySem.W.subIn K (.ref C) (.ref C) = some true) (h : PySem.W.subIn K (.ref D) (.ref C) = some b) : PySem.W.kitOne K (.ref D) (.ref C) = some b := by
  unfold PySem.W.kitOne
  by_cases e : D = C
  · subst e
    rw [hk] at h
    rw [if_pos (by simp)]
    exact h
  · rw [if_neg (by simpa using e)]
    obtain ⟨cd, hc, _⟩ := PySem.W.any_some hd
    unfold PySem.W.kitCls
    dsimp only
    rw [if_pos (by rw [hc, ht]; rfl)]
    exact h
theorem kit_bt {K : PySem.W.Frag} {D : Addr} {b : Bool} {T : String} (hm : PySem.W.kitMeta T = true) (h : PySem.W.subIn K (.ref D) (.type T) = some b) : PySem.W.kitOne K (.ref D) (.type T) = some b := by
  unfold PySem.W.kitOne
  rw [if_neg (by simp)]
  unfold PySem.W.kitCls
  dsimp only
  rw [if_pos hm]
  exact h
end Sk

namespace Sk
open PySem PySem.Spec PyProof.Rows L2

/-! ### the shelf: its trees, each once, parts first -/
abbrev sT (l : List Nat) : Str := ⟨l.toArray⟩
theorem sT_inj {l m : List Nat} (h : sT l = sT m) : l = m := by
  have := congrArg (fun x : Str => x.cps.toList) h
  simpa using this
theorem sT_len (l : List Nat) : (sT l).length = l.length := by simp [Str.length]
theorem sT_app (l m : List Nat) : sT l ++ sT m = sT (l ++ m) := by
  show Str.append _ _ = _
  unfold Str.append
  simp
def num (S : List Tr) (t : Tr) : Int := (S.idxOf t : Int) + 1
def Nm (S : List Tr) (n : Int) (t : Tr) : Prop := ∃ i : Nat, S[i]? = some t ∧ n = (i : Int) + 1
def Tx (S : List Tr) (n : Int) : Option Tr → Prop
  | none => n = 0
  | some t => Nm S n t
def inR (S : List Tr) (n : Int) : Prop := 0 ≤ n ∧ n ≤ (S.length : Int)
structure Good (S : List Tr) : Prop where
  nd : S.Nodup
  ok : ∀ t ∈ S, Ok t
  pr : ∀ (i : Nat) a b, S[i]? = some (.fk a b) → (∃ j, j < i ∧ S[j]? = some a) ∧ ∃ j, j < i ∧ S[j]? = some b
def put (S : List Tr) (t : Tr) : List Tr := if t ∈ S then S else S ++ [t]
abbrev Ext (S S' : List Tr) : Prop := S <+: S'

theorem getElem?_idxOf {S : List Tr} {t : Tr} (h : t ∈ S) : S[S.idxOf t]? = some t := by
  have := List.idxOf_lt_length_of_mem h
  rw [List.getElem?_eq_getElem this, List.getElem_idxOf]
theorem Nm.mem {S : List Tr} {n : Int} {t : Tr} (h : Nm S n t) : t ∈ S := by
  obtain ⟨i, e, _⟩ := h
  exact List.mem_of_getElem? e
theorem nd_same {S : List Tr} (g : S.Nodup) {i j : Nat} {t : Tr} (h : S[i]? = some t) (h' : S[j]? = some t) : i = j := nd_ix g h h'
theorem Nm.num {S : List Tr} {n : Int} {t : Tr} (h : Nm S n t) (g : S.Nodup) : n = num S t := by
  obtain ⟨i, e, rfl⟩ := h
  have := nd_same g e (getElem?_idxOf (List.mem_of_getElem? e))
  unfold Sk.num
  omega
theorem nm_num {S : List Tr} {t : Tr} (h : t ∈ S) : Nm S (num S t) t := ⟨S.idxOf t, getElem?_idxOf h, rfl⟩
theorem Nm.uni {S : List Tr} {n : Int} {t u : Tr} (h : Nm S n t) (h' : Nm S n u) : t = u := by
  obtain ⟨i, e, rfl⟩ := h
  obtain ⟨j, e', z⟩ := h'
  have : i = j := by omega
  subst this
  rw [e] at e'
  exact Option.some.inj e'
theorem Nm.pos {S : List Tr} {n : Int} {t : Tr} (h : Nm S n t) : 0 < n ∧ n ≤ S.length := by
  obtain ⟨i, e, rfl⟩ := h
  have := (List.getElem?_eq_some_iff.mp e).1
  omega
theorem Nm.of {S : List Tr} {n : Int} (h : 0 < n) (h' : n ≤ S.length) : ∃ t, Nm S n t := by
  have l : n.toNat - 1 < S.length := by omega
  exact ⟨S[n.toNat - 1], n.toNat - 1, List.getElem?_eq_getElem l, by omega⟩
theorem Tx.uni {S : List Tr} {n : Int} {o p : Option Tr} (h : Tx S n o) (h' : Tx S n p) : o = p := by
  cases o with
  | none => cases p with
    | none => rfl
    | some u => have := Nm.pos (show Nm S n u from h'); have : n = 0 := h; omega
  | some t => cases p with
    | none => have := Nm.pos (show Nm S n t from h); have : n = 0 := h'; omega
    | some u => rw [Nm.uni (show Nm S n t from h) h']
theorem Tx.inR {S : List Tr} {n : Int} {o : Option Tr} (h : Tx S n o) : Sk.inR S n := by
  cases o with
  | none => have : n = 0 := h; subst this; exact ⟨Int.le_refl _, by omega⟩
  | some t => have := Nm.pos (show Nm S n t from h); exact ⟨by omega, this.2⟩
theorem Tx.of {S : List Tr} {n : Int} (h : Sk.inR S n) : ∃ o, Tx S n o := by
  by_cases e : n = 0
  · exact ⟨none, e⟩
  · obtain ⟨t, h⟩ := Nm.of (S := S) (n := n) (by have := h.1; omega) h.2
    exact ⟨some t, h⟩
theorem Nm.ext {S S' : List Tr} {n : Int} {t : Tr} (e : Ext S S') (h : Nm S n t) : Nm S' n t := by
  obtain ⟨m, rfl⟩ := e
  obtain ⟨i, e, rfl⟩ := h
  exact ⟨i, by rw [List.getElem?_append_left (List.getElem?_eq_some_iff.mp e).1]; exact e, rfl⟩
theorem Tx.ext {S S' : List Tr} {n : Int} {o : Option Tr} (e : Ext S S') (h : Tx S n o) : Tx S' n o := by
  cases o with
  | none => exact h
  | some t => exact Nm.ext e h
theorem num_ext {S S' : List Tr} {t : Tr} (e : Ext S S') (h : t ∈ S) : num S' t = num S t := by
  obtain ⟨m, rfl⟩ := e
  unfold Sk.num
  rw [List.idxOf_append, if_pos h]
theorem put_mem {S : List Tr} {t : Tr} : t ∈ put S t := by
  unfold put
  split
  · assumption
  · simp
theorem put_ext {S : List Tr} {t : Tr} : Ext S (put S t) := by
  unfold put
  split
  · exact List.prefix_refl _
  · exact List.prefix_append _ _
theorem put_len {S : List Tr} {t : Tr} : (put S t).length ≤ S.length + 1 := by
  unfold put
  split
  · omega
  · simp
theorem put_in {S : List Tr} {t : Tr} (h : t ∈ S) : put S t = S := by unfold put; rw [if_pos h]
theorem put_new {S : List Tr} {t : Tr} (h : t ∉ S) : put S t = S ++ [t] := by unfold put; rw [if_neg h]
theorem Good.parts {S : List Tr} (g : Good S) {a b : Tr} (h : Tr.fk a b ∈ S) : a ∈ S ∧ b ∈ S := by
  obtain ⟨i, e⟩ := List.getElem?_of_mem h
  obtain ⟨⟨j, _, x⟩, ⟨k, _, y⟩⟩ := g.pr i a b e
  exact ⟨List.mem_of_getElem? x, List.mem_of_getElem? y⟩
theorem Good.fi {S : List Tr} (g : Good S) : ∀ {t : Tr}, t ∈ S → t.fi ∈ S
  | .lf l, h => h
  | .fk a b, h => Good.fi (t := a) g (g.parts h).1
theorem Good.la {S : List Tr} (g : Good S) : ∀ {t : Tr}, t ∈ S → t.la ∈ S
  | .lf l, h => h
  | .fk a b, h => Good.la (t := b) g (g.parts h).2
theorem good_nil : Good [] := ⟨List.nodup_nil, fun _ h => (nomatch h), fun i a b h => by simp at h⟩
theorem Good.put {S : List Tr} (g : Good S) {t : Tr} (o : Ok t) (p : ∀ a b, t = .fk a b → a ∈ S ∧ b ∈ S) : Good (put S t) := by
  by_cases h : t ∈ S
  · rw [put_in h]; exact g
  rw [put_new h]
  refine ⟨?_, fun u hu => ?_, fun i a b e => ?_⟩
  · rw [List.nodup_append]
    exact ⟨g.nd, by simp, fun a ha b hb => by
      rw [List.mem_singleton] at hb
      rintro rfl
      exact h (hb ▸ ha)⟩
  · rcases List.mem_append.mp hu with hu | hu
    · exact g.ok u hu
    · rw [List.mem_singleton] at hu; rw [hu]; exact o
  · by_cases l : i < S.length
    · rw [List.getElem?_append_left l] at e
      obtain ⟨⟨j, jl, x⟩, ⟨k, kl, y⟩⟩ := g.pr i a b e
      exact ⟨⟨j, jl, by rw [List.getElem?_append_left (by omega)]; exact x⟩, k, kl, by rw [List.getElem?_append_left (by omega)]; exact y⟩
    · have l2 : i < (S ++ [t]).length := (List.getElem?_eq_some_iff.mp e).1
      have l3 : i = S.length := by simp at l2; omega
      subst l3
      rw [List.getElem?_append_right (Nat.le_refl _)] at e
      simp at e
      obtain ⟨ha, hb⟩ := p a b e
      obtain ⟨j, x⟩ := List.getElem?_of_mem ha
      obtain ⟨k, y⟩ := List.getElem?_of_mem hb
      have jl := (List.getElem?_eq_some_iff.mp x).1
      have kl := (List.getElem?_eq_some_iff.mp y).1
      exact ⟨⟨j, jl, by rw [List.getElem?_append_left jl]; exact x⟩, k, kl, by rw [List.getElem?_append_left kl]; exact y⟩

/-! ### the pieces as Python has them -/
def key (S : List Tr) : Tr → List Key
  | .lf l => [.inr "leaf", .inr (sT l)]
  | .fk a b => [.inr "fork", .inl (num S a), .inl (num S b)]
def pvals (S : List Tr) (t : Tr) : List V := (key S t).map kV
def kvs (S : List Tr) : List (List Key × V) := S.map fun t => (key S t, .int (num S t))
theorem key_fk (S : List Tr) (a b : Tr) : key S (.fk a b) = [.inr "fork", .inl (num S a), .inl (num S b)] := rfl
theorem key_lf (S : List Tr) (l : List Nat) : key S (.lf l) = [.inr "leaf", .inr (sT l)] := rfl
theorem key_ext {S S' : List Tr} (g : Good S) (e : Ext S S') {t : Tr} (h : t ∈ S) : key S' t = key S t := by
  cases t with
  | lf l => rfl
  | fk a b =>
    obtain ⟨ha, hb⟩ := g.parts h
    rw [key_fk, key_fk, num_ext e ha, num_ext e hb]
theorem num_inj {S : List Tr} {t u : Tr} (h : t ∈ S) (h' : u ∈ S) (e : num S t = num S u) : t = u :=
  Nm.uni (nm_num h) (e ▸ nm_num h')
theorem leaf_ne_fork : ¬ (("leaf" : Str) = "fork") := by decide +kernel
/-- equal keys, equal trees: the parts of both on the shelf -/
theorem key_inj {S : List Tr} {t u : Tr} (h : ∀ a b, t = .fk a b → a ∈ S ∧ b ∈ S) (h' : ∀ a b, u = .fk a b → a ∈ S ∧ b ∈ S) (e : key S t = key S u) : t = u := by
  cases t with
  | lf l => cases u with
    | lf m =>
      unfold key at e
      injection e with _ e
      injection e with e _
      rw [sT_inj (Sum.inr.inj e)]
    | fk a b =>
      unfold key at e
      injection e with e _
      exact absurd (Sum.inr.inj e) leaf_ne_fork
  | fk a b => cases u with
    | lf m =>
      unfold key at e
      injection e with e _
      exact absurd (Sum.inr.inj e).symm leaf_ne_fork
    | fk c d =>
      obtain ⟨ha, hb⟩ := h a b rfl
      obtain ⟨hc, hd⟩ := h' c d rfl
      unfold key at e
      injection e with _ e
      injection e with e1 e
      injection e with e2 _
      rw [num_inj ha hc (Sum.inl.inj e1), num_inj hb hd (Sum.inl.inj e2)]
theorem valV_kvs_aux {S : List Tr} {t : Tr} (kt : ∀ a b, t = .fk a b → a ∈ S ∧ b ∈ S) : ∀ L : List Tr, (∀ u ∈ L, ∀ a b, u = .fk a b → a ∈ S ∧ b ∈ S) →
    valV (L.map fun u => (key S u, V.int (num S u))) (key S t) = if t ∈ L then some (.int (num S t)) else none
  | [], _ => rfl
  | u :: L, hL => by
    have ih := valV_kvs_aux kt L fun v hv => hL v (List.mem_cons_of_mem _ hv)
    unfold valV at ih ⊢
    rw [List.map_cons, List.find?_cons]
    by_cases e : key S u = key S t
    · have : u = t := key_inj (hL u List.mem_cons_self) kt e
      subst this
      simp
    · have ne : ¬ t = u := fun z => e (by rw [z])
      simp only [decide_eq_false e]
      rw [ih]
      simp [ne]
theorem valV_kvs {S : List Tr} (g : Good S) {t : Tr} (kt : ∀ a b, t = .fk a b → a ∈ S ∧ b ∈ S) : valV (kvs S) (key S t) = if t ∈ S then some (.int (num S t)) else none :=
  valV_kvs_aux kt S fun u hu a b e => by subst e; exact g.parts hu
theorem kvs_snoc {S : List Tr} (g : Good S) {t : Tr} (h : t ∉ S) (kt : ∀ a b, t = .fk a b → a ∈ S ∧ b ∈ S) : kvs (S ++ [t]) = kvs S ++ [(key S t, .int (S.length + 1))] := by
  have e : Ext S (S ++ [t]) := List.prefix_append _ _
  unfold kvs
  rw [List.map_append]
  congr 1
  · refine List.map_congr_left fun u hu => ?_
    rw [key_ext g e hu, num_ext e hu]
  · have k : key (S ++ [t]) t = key S t := by
      cases t with
      | lf l => rfl
      | fk a b =>
        obtain ⟨ha, hb⟩ := kt a b rfl
        rw [key_fk, key_fk, num_ext e ha, num_ext e hb]
    have z : num (S ++ [t]) t = S.length + 1 := by
      unfold num
      rw [List.idxOf_append, if_neg h]
      simp
    rw [List.map_cons, List.map_nil, k, z]

/-! ### the shelf in the heap -/
structure Cells where
  (a dx pc nb sg en lv ht fi la : Addr)
def Cells.all (c : Cells) : List Addr := [c.a, c.dx, c.pc, c.nb, c.sg, c.en, c.lv, c.ht, c.fi, c.la]
def flds (c : Cells) : List (Str × V) := [("pieces", .ref c.pc), ("numbers", .ref c.nb), ("told_signs", .ref c.sg), ("told_ends", .ref c.en), ("told_leaves", .ref c.lv), ("told_heights", .ref c.ht), ("firsts", .ref c.fi), ("lasts", .ref c.la)]
theorem fl_pieces (c : Cells) : (flds c).lookup ("pieces" : Str) = some (V.ref c.pc) := rfl
theorem fl_numbers (c : Cells) : (flds c).lookup ("numbers" : Str) = some (V.ref c.nb) := rfl
theorem fl_signs (c : Cells) : (flds c).lookup ("told_signs" : Str) = some (V.ref c.sg) := rfl
theorem fl_ends (c : Cells) : (flds c).lookup ("told_ends" : Str) = some (V.ref c.en) := rfl
theorem fl_leaves (c : Cells) : (flds c).lookup ("told_leaves" : Str) = some (V.ref c.lv) := rfl
theorem fl_heights (c : Cells) : (flds c).lookup ("told_heights" : Str) = some (V.ref c.ht) := rfl
theorem fl_firsts (c : Cells) : (flds c).lookup ("firsts" : Str) = some (V.ref c.fi) := rfl
theorem fl_lasts (c : Cells) : (flds c).lookup ("lasts" : Str) = some (V.ref c.la) := rfl
theorem fl_no {c : Cells} {m : Str} (h : (m == "pieces" || m == "numbers" || m == "told_signs" || m == "told_ends" || m == "told_leaves" || m == "told_heights" || m == "firsts" || m == "lasts") = false) : (flds c).lookup m = none := by
  simp only [Bool.or_eq_false_iff] at h
  obtain ⟨⟨⟨⟨⟨⟨⟨h1, h2⟩, h3⟩, h4⟩, h5⟩, h6⟩, h7⟩, h8⟩ := h
  unfold flds
  simp only [List.lookup, h1, h2, h3, h4, h5, h6, h7, h8]

def cap : Nat := 16000000
theorem cap_line : cap < sizeLine := by rw [sizeLine_eq]; decide
structure ShAt (C : Addr) (c : Cells) (H : Hp) (S : List Tr) : Prop where
  ob : H c.a = some (.ins C c.dx (flds c))
  ow : H c.dx = some (.own c.a)
  pc : ∃ rs : List Addr, H c.pc = some (.lst (.non :: rs.map V.ref)) ∧ rs.length = S.length ∧ ∀ (i : Nat) r t, rs[i]? = some r → S[i]? = some t → H r = some (.tup (pvals S t))
  nb : H c.nb = some (.dT (kvs S))
  sg : H c.sg = some (.lst (.int 0 :: S.map fun t => .int t.sg))
  en : H c.en = some (.lst (.int 0 :: S.map fun t => .int t.en))
  lv : H c.lv = some (.lst (.int 0 :: S.map fun t => .int t.lv))
  ht : H c.ht = some (.lst (.int (-1) :: S.map fun t => .int t.ht))
  fi : H c.fi = some (.lst (.int 0 :: S.map fun t => .int (num S t.fi)))
  la : H c.la = some (.lst (.int 0 :: S.map fun t => .int (num S t.la)))
  gd : Good S
  nd : c.all.Nodup
  cp : S.length ≤ cap
/-- all but the shelf's own cells stands -/
def Keep (c : Cells) (H H' : Hp) : Prop := ∀ b o, b ∉ c.all → H b = some o → H' b = some o
theorem Keep.refl (c : Cells) (H : Hp) : Keep c H H := fun _ _ _ h => h
theorem Keep.trans {c : Cells} {H H1 H2 : Hp} (x : Keep c H H1) (y : Keep c H1 H2) : Keep c H H2 := fun b o n h => y b o n (x b o n h)
theorem Keep.of {c : Cells} {H H' : Hp} (s : Same H H') : Keep c H H' := fun b o _ h => s b o h
theorem ShAt.same {C : Addr} {c : Cells} {H H' : Hp} {S : List Tr} (x : ShAt C c H S) (s : Same H H') : ShAt C c H' S :=
  ⟨s _ _ x.ob, s _ _ x.ow, let ⟨rs, h1, h2, h3⟩ := x.pc; ⟨rs, s _ _ h1, h2, fun i r t e1 e2 => s _ _ (h3 i r t e1 e2)⟩, s _ _ x.nb, s _ _ x.sg, s _ _ x.en, s _ _ x.lv, s _ _ x.ht, s _ _ x.fi, s _ _ x.la, x.gd, x.nd, x.cp⟩
theorem ShAt.apart {C : Addr} {c : Cells} {H : Hp} {S : List Tr} (x : ShAt C c H S) {p : Addr} (h : H p = none) : p ∉ c.all := by
  obtain ⟨rs, h1, _⟩ := x.pc
  have f : ∀ {b : Addr} {o : HO}, H b = some o → p ≠ b := fun e => (ne_of_none e h).symm
  simp only [Cells.all, List.mem_cons, List.not_mem_nil, or_false, not_or]
  exact ⟨f x.ob, f x.ow, f h1, f x.nb, f x.sg, f x.en, f x.lv, f x.ht, f x.fi, f x.la⟩
/-- what is no list of the kinds there is apart from the shelf -/
theorem ShAt.apart_tup {C : Addr} {c : Cells} {H : Hp} {S : List Tr} (x : ShAt C c H S) {p : Addr} {xs : List V} (h : H p = some (.tup xs)) : p ∉ c.all := by
  obtain ⟨rs, h1, _⟩ := x.pc
  simp only [Cells.all, List.mem_cons, List.not_mem_nil, or_false, not_or]
  exact ⟨ne_of h x.ob (by intro z; cases z), ne_of h x.ow (by intro z; cases z), ne_of h h1 (by intro z; cases z), ne_of h x.nb (by intro z; cases z), ne_of h x.sg (by intro z; cases z), ne_of h x.en (by intro z; cases z), ne_of h x.lv (by intro z; cases z), ne_of h x.ht (by intro z; cases z), ne_of h x.fi (by intro z; cases z), ne_of h x.la (by intro z; cases z)⟩
/-! reading the told lists -/
theorem atI_tx {S : List Tr} {n : Int} {o : Option Tr} {z : V} {f : Tr → V} (h : Tx S n o) : atI (z :: S.map f) n = some (match o with | none => z | some t => f t) := by
  cases o with
  | none =>
    have : n = 0 := h
    subst this
    exact at_of (j := 0) rfl rfl
  | some t =>
    obtain ⟨i, e, rfl⟩ := (show Nm S n t from h)
    exact at_of (j := i + 1) (by omega) (by rw [List.getElem?_cons_succ, List.getElem?_map, e]; rfl)
theorem atI_nm {S : List Tr} {n : Int} {t : Tr} {z : V} {f : Tr → V} (h : Nm S n t) : atI (z :: S.map f) n = some (f t) := atI_tx (o := some t) h
theorem piece_at {C : Addr} {c : Cells} {H : Hp} {S : List Tr} (x : ShAt C c H S) {n : Int} {t : Tr} (h : Nm S n t) : ∃ xs r, H c.pc = some (.lst xs) ∧ xs.length = S.length + 1 ∧ atI xs n = some (.ref r) ∧ H r = some (.tup (pvals S t)) := by
  obtain ⟨rs, h1, h2, h3⟩ := x.pc
  obtain ⟨i, e, rfl⟩ := h
  have il := (List.getElem?_eq_some_iff.mp e).1
  have er : rs[i]? = some (rs[i]'(by omega)) := List.getElem?_eq_getElem (by omega)
  exact ⟨_, rs[i]'(by omega), h1, by simp [h2], at_of (j := i + 1) (by omega) (by rw [List.getElem?_cons_succ, List.getElem?_map, er]; rfl), h3 i _ t er e⟩

theorem cne {c : Cells} (nd : c.all.Nodup) {i j : Nat} {x y : Addr} (hi : c.all[i]? = some x) (hj : c.all[j]? = some y) (h : i ≠ j) : x ≠ y := fun e => h (nd_ix nd hi (e ▸ hj))
theorem uc {c : Cells} (nd : c.all.Nodup) (i j : Nat) {x y : Addr} {o : HO} {H : Hp} {v : Option HO} (k : H x = v) (hi : c.all[i]? = some x := by rfl) (hj : c.all[j]? = some y := by rfl) (h : i ≠ j := by decide) : upd H y o x = v := (upd_ne (cne nd hi hj h)).trans k
/-- the cells stand apart -/
theorem Cells.nes {c : Cells} (nd : c.all.Nodup) : c.a ≠ c.pc ∧ c.a ≠ c.nb ∧ c.a ≠ c.sg ∧ c.a ≠ c.en ∧ c.a ≠ c.lv ∧ c.a ≠ c.ht ∧ c.a ≠ c.fi ∧ c.a ≠ c.la ∧ c.dx ≠ c.pc ∧ c.dx ≠ c.nb ∧ c.dx ≠ c.sg ∧ c.dx ≠ c.en ∧ c.dx ≠ c.lv ∧ c.dx ≠ c.ht ∧ c.dx ≠ c.fi ∧ c.dx ≠ c.la ∧ c.pc ≠ c.nb ∧ c.pc ≠ c.sg ∧ c.pc ≠ c.en ∧ c.pc ≠ c.lv ∧ c.pc ≠ c.ht ∧ c.pc ≠ c.fi ∧ c.pc ≠ c.la ∧ c.nb ≠ c.pc ∧ c.nb ≠ c.sg ∧ c.nb ≠ c.en ∧ c.nb ≠ c.lv ∧ c.nb ≠ c.ht ∧ c.nb ≠ c.fi ∧ c.nb ≠ c.la ∧ c.sg ≠ c.pc ∧ c.sg ≠ c.nb ∧ c.sg ≠ c.en ∧ c.sg ≠ c.lv ∧ c.sg ≠ c.ht ∧ c.sg ≠ c.fi ∧ c.sg ≠ c.la ∧ c.en ≠ c.pc ∧ c.en ≠ c.nb ∧ c.en ≠ c.sg ∧ c.en ≠ c.lv ∧ c.en ≠ c.ht ∧ c.en ≠ c.fi ∧ c.en ≠ c.la ∧ c.lv ≠ c.pc ∧ c.lv ≠ c.nb ∧ c.lv ≠ c.sg ∧ c.lv ≠ c.en ∧ c.lv ≠ c.ht ∧ c.lv ≠ c.fi ∧ c.lv ≠ c.la ∧ c.ht ≠ c.pc ∧ c.ht ≠ c.nb ∧ c.ht ≠ c.sg ∧ c.ht ≠ c.en ∧ c.ht ≠ c.lv ∧ c.ht ≠ c.fi ∧ c.ht ≠ c.la ∧ c.fi ≠ c.pc ∧ c.fi ≠ c.nb ∧ c.fi ≠ c.sg ∧ c.fi ≠ c.en ∧ c.fi ≠ c.lv ∧ c.fi ≠ c.ht ∧ c.fi ≠ c.la ∧ c.la ≠ c.pc ∧ c.la ≠ c.nb ∧ c.la ≠ c.sg ∧ c.la ≠ c.en ∧ c.la ≠ c.lv ∧ c.la ≠ c.ht ∧ c.la ≠ c.fi := ⟨cne nd (i := 0) (j := 2) rfl rfl (by decide), cne nd (i := 0) (j := 3) rfl rfl (by decide), cne nd (i := 0) (j := 4) rfl rfl (by decide), cne nd (i := 0) (j := 5) rfl rfl (by decide), cne nd (i := 0) (j := 6) rfl rfl (by decide), cne nd (i := 0) (j := 7) rfl rfl (by decide), cne nd (i := 0) (j := 8) rfl rfl (by decide), cne nd (i := 0) (j := 9) rfl rfl (by decide), cne nd (i := 1) (j := 2) rfl rfl (by decide), cne nd (i := 1) (j := 3) rfl rfl (by decide), cne nd (i := 1) (j := 4) rfl rfl (by decide), cne nd (i := 1) (j := 5) rfl rfl (by decide), cne nd (i := 1) (j := 6) rfl rfl (by decide), cne nd (i := 1) (j := 7) rfl rfl (by decide), cne nd (i := 1) (j := 8) rfl rfl (by decide), cne nd (i := 1) (j := 9) rfl rfl (by decide), cne nd (i := 2) (j := 3) rfl rfl (by decide), cne nd (i := 2) (j := 4) rfl rfl (by decide), cne nd (i := 2) (j := 5) rfl rfl (by decide), cne nd (i := 2) (j := 6) rfl rfl (by decide), cne nd (i := 2) (j := 7) rfl rfl (by decide), cne nd (i := 2) (j := 8) rfl rfl (by decide), cne nd (i := 2) (j := 9) rfl rfl (by decide), cne nd (i := 3) (j := 2) rfl rfl (by decide), cne nd (i := 3) (j := 4) rfl rfl (by decide), cne nd (i := 3) (j := 5) rfl rfl (by decide), cne nd (i := 3) (j := 6) rfl rfl (by decide), cne nd (i := 3) (j := 7) rfl rfl (by decide), cne nd (i := 3) (j := 8) rfl rfl (by decide), cne nd (i := 3) (j := 9) rfl rfl (by decide), cne nd (i := 4) (j := 2) rfl rfl (by decide), cne nd (i := 4) (j := 3) rfl rfl (by decide), cne nd (i := 4) (j := 5) rfl rfl (by decide), cne nd (i := 4) (j := 6) rfl rfl (by decide), cne nd (i := 4) (j := 7) rfl rfl (by decide), cne nd (i := 4) (j := 8) rfl rfl (by decide), cne nd (i := 4) (j := 9) rfl rfl (by decide), cne nd (i := 5) (j := 2) rfl rfl (by decide), cne nd (i := 5) (j := 3) rfl rfl (by decide), cne nd (i := 5) (j := 4) rfl rfl (by decide), cne nd (i := 5) (j := 6) rfl rfl (by decide), cne nd (i := 5) (j := 7) rfl rfl (by decide), cne nd (i := 5) (j := 8) rfl rfl (by decide), cne nd (i := 5) (j := 9) rfl rfl (by decide), cne nd (i := 6) (j := 2) rfl rfl (by decide), cne nd (i := 6) (j := 3) rfl rfl (by decide), cne nd (i := 6) (j := 4) rfl rfl (by decide), cne nd (i := 6) (j := 5) rfl rfl (by decide), cne nd (i := 6) (j := 7) rfl rfl (by decide), cne nd (i := 6) (j := 8) rfl rfl (by decide), cne nd (i := 6) (j := 9) rfl rfl (by decide), cne nd (i := 7) (j := 2) rfl rfl (by decide), cne nd (i := 7) (j := 3) rfl rfl (by decide), cne nd (i := 7) (j := 4) rfl rfl (by decide), cne nd (i := 7) (j := 5) rfl rfl (by decide), cne nd (i := 7) (j := 6) rfl rfl (by decide), cne nd (i := 7) (j := 8) rfl rfl (by decide), cne nd (i := 7) (j := 9) rfl rfl (by decide), cne nd (i := 8) (j := 2) rfl rfl (by decide), cne nd (i := 8) (j := 3) rfl rfl (by decide), cne nd (i := 8) (j := 4) rfl rfl (by decide), cne nd (i := 8) (j := 5) rfl rfl (by decide), cne nd (i := 8) (j := 6) rfl rfl (by decide), cne nd (i := 8) (j := 7) rfl rfl (by decide), cne nd (i := 8) (j := 9) rfl rfl (by decide), cne nd (i := 9) (j := 2) rfl rfl (by decide), cne nd (i := 9) (j := 3) rfl rfl (by decide), cne nd (i := 9) (j := 4) rfl rfl (by decide), cne nd (i := 9) (j := 5) rfl rfl (by decide), cne nd (i := 9) (j := 6) rfl rfl (by decide), cne nd (i := 9) (j := 7) rfl rfl (by decide), cne nd (i := 9) (j := 8) rfl rfl (by decide)⟩
def laidH (c : Cells) (H : Hp) (xs : List V) (S : List Tr) (t : Tr) (p : Addr) : Hp :=
  upd (upd (upd (upd (upd (upd H c.pc (.lst (xs ++ [.ref p]))) c.nb (.dT (putK (kvs S) (key S t) (.int (S.length + 1))))) c.sg (.lst ((.int 0 :: S.map fun t => .int t.sg) ++ [.int t.sg])))
    c.en (.lst ((.int 0 :: S.map fun t => .int t.en) ++ [.int t.en]))) c.lv (.lst ((.int 0 :: S.map fun t => .int t.lv) ++ [.int t.lv]))) c.ht (.lst ((.int (-1) :: S.map fun t => .int t.ht) ++ [.int t.ht]))
def lainH (c : Cells) (H : Hp) (xs : List V) (S : List Tr) (t : Tr) (p : Addr) (f l : Int) : Hp :=
  upd (upd (laidH c H xs S t p) c.fi (.lst ((.int 0 :: S.map fun t => .int (num S t.fi)) ++ [.int f]))) c.la (.lst ((.int 0 :: S.map fun t => .int (num S t.la)) ++ [.int l]))
theorem laid_at {c : Cells} {H : Hp} {xs : List V} {S : List Tr} {t : Tr} {p : Addr} (nd : c.all.Nodup) (i : Nat) {b : Addr} (hb : c.all[i]? = some b := by rfl) (hi : i ∉ [2, 3, 4, 5, 6, 7] := by decide) : laidH c H xs S t p b = H b := by
  simp only [List.mem_cons, List.not_mem_nil, or_false, not_or] at hi
  obtain ⟨h2, h3, h4, h5, h6, h7⟩ := hi
  unfold laidH
  rw [upd_ne (cne nd hb (j := 7) rfl h7), upd_ne (cne nd hb (j := 6) rfl h6), upd_ne (cne nd hb (j := 5) rfl h5), upd_ne (cne nd hb (j := 4) rfl h4), upd_ne (cne nd hb (j := 3) rfl h3), upd_ne (cne nd hb (j := 2) rfl h2)]
theorem lain_out {c : Cells} {H : Hp} {xs : List V} {S : List Tr} {t : Tr} {p : Addr} {f l : Int} {b : Addr} (h : b ∉ c.all) : lainH c H xs S t p f l b = H b := by
  simp only [Cells.all, List.mem_cons, List.not_mem_nil, or_false, not_or] at h
  obtain ⟨h0, h1, h2, h3, h4, h5, h6, h7, h8, h9⟩ := h
  unfold lainH laidH
  rw [upd_ne h9, upd_ne h8, upd_ne h7, upd_ne h6, upd_ne h5, upd_ne h4, upd_ne h3, upd_ne h2]
theorem num_last {S : List Tr} {t : Tr} (h : t ∉ S) : num (S ++ [t]) t = S.length + 1 := by
  unfold num
  rw [List.idxOf_append, if_neg h]
  simp
theorem lain_ok {C : Addr} {c : Cells} {H : Hp} {xs : List V} {S : List Tr} {t : Tr} {p : Addr} {f l : Int} (x : ShAt C c H S) (hx : H c.pc = some (.lst xs)) (hp : H p = some (.tup (pvals S t))) (o : Ok t) (h : t ∉ S)
    (kt : ∀ a b, t = .fk a b → a ∈ S ∧ b ∈ S) (cp : S.length < cap) (ef : f = num (S ++ [t]) t.fi) (el : l = num (S ++ [t]) t.la) : ShAt C c (lainH c H xs S t p f l) (S ++ [t]) ∧ Keep c H (lainH c H xs S t p f l) := by
  have N := Cells.nes x.nd
  have e : Ext S (S ++ [t]) := List.prefix_append _ _
  have g : Good (S ++ [t]) := by rw [← put_new h]; exact x.gd.put o kt
  have km : ∀ (z : V) (F : Tr → V), (z :: S.map F) ++ [F t] = z :: (S ++ [t]).map F := fun z F => by simp
  have pa := x.apart_tup hp
  refine ⟨⟨?_, ?_, ?_, ?_, ?_, ?_, ?_, ?_, ?_, ?_, g, x.nd, by rw [List.length_append]; show S.length + 1 ≤ cap; omega⟩, fun b o n e => by rw [lain_out n]; exact e⟩
  · unfold lainH laidH; simp only [upd_ne, upd_same, N, ne_eq, not_false_eq_true]; exact x.ob
  · unfold lainH laidH; simp only [upd_ne, upd_same, N, ne_eq, not_false_eq_true]; exact x.ow
  · obtain ⟨rs, h1, h2, h3⟩ := x.pc
    have ex : xs = .non :: rs.map V.ref := by rw [h1] at hx; injection hx with z; injection z with z; exact z.symm
    refine ⟨rs ++ [p], ?_, by simp [h2], fun i r u e1 e2 => ?_⟩
    · unfold lainH laidH; simp only [upd_ne, upd_same, N, ne_eq, not_false_eq_true]; rw [ex]; simp
    · by_cases hl : i < rs.length
      · rw [List.getElem?_append_left hl] at e1
        rw [List.getElem?_append_left (by omega)] at e2
        have q := h3 i r u e1 e2
        rw [lain_out (x.apart_tup q), q]
        unfold pvals
        rw [key_ext x.gd e (List.mem_of_getElem? e2)]
      · have l1 := (List.getElem?_eq_some_iff.mp e1).1
        have l2 : i = rs.length := by simp at l1; omega
        rw [List.getElem?_append_right (by omega)] at e1 e2
        rw [l2] at e1
        rw [l2, h2] at e2
        simp at e1 e2
        subst e1 e2
        rw [lain_out pa, hp]
        unfold pvals
        cases t with
        | lf m => rfl
        | fk a b =>
          obtain ⟨ha, hb⟩ := kt a b rfl
          rw [key_fk, key_fk, num_ext e ha, num_ext e hb]
  · unfold lainH laidH; simp only [upd_ne, upd_same, N, ne_eq, not_false_eq_true]
    rw [kvs_snoc x.gd h kt, putK_new _ (by rw [valV_kvs x.gd kt, if_neg h])]
  · unfold lainH laidH; simp only [upd_ne, upd_same, N, ne_eq, not_false_eq_true]; rw [km]
  · unfold lainH laidH; simp only [upd_ne, upd_same, N, ne_eq, not_false_eq_true]; rw [km]
  · unfold lainH laidH; simp only [upd_ne, upd_same, N, ne_eq, not_false_eq_true]; rw [km]
  · unfold lainH laidH; simp only [upd_ne, upd_same, N, ne_eq, not_false_eq_true]; rw [km]
  · unfold lainH laidH; simp only [upd_ne, upd_same, N, ne_eq, not_false_eq_true]
    rw [ef, ← km]
    congr 3
    rw [List.cons.injEq]
    exact ⟨rfl, List.map_congr_left fun u hu => by rw [num_ext e (x.gd.fi hu)]⟩
  · unfold lainH laidH; simp only [upd_ne, upd_same, N, ne_eq, not_false_eq_true]
    rw [el, ← km]
    congr 3
    rw [List.cons.injEq]
    exact ⟨rfl, List.map_congr_left fun u hu => by rw [num_ext e (x.gd.la hu)]⟩

/-! ### a shelf is made -/
theorem putF_new {f : Str} {v : V} {ks : List Str} : ∀ {fs : List (Str × V)}, fs.map (·.1) = ks → f ∉ ks → putF f v fs = fs ++ [(f, v)]
  | [], _, _ => rfl
  | (g, w) :: r, h, n => by
    subst h
    have ne : ¬ g = f := fun e => n (by rw [e]; simp)
    rw [putF, if_neg ne, putF_new (fs := r) rfl fun z => n (List.mem_cons_of_mem _ z)]
    rfl
theorem mkS {H : Hp} {p z : Addr} {o u : HO} {q : Addr} {w : HO} (hz : H z = none) (hp : q ≠ p) (h : H q = some w) : upd (upd H z o) p u q = some w := by
  rw [upd_ne hp, upd_ne (ne_of_none h hz)]; exact h
theorem mkN {H : Hp} {p z : Addr} {o u : HO} (hp : z ≠ p) : upd (upd H z o) p u z = some o := by
  rw [upd_ne hp]; exact upd_same

/-! ### signs joined -/
theorem sT_of (x : Str) : x = sT x.cps.toList := by cases x; simp
theorem sT_nil : ("" : Str) = sT [] := by decide +kernel
theorem glueL_signs : ∀ l : List Nat, StrLaws.glueL [] (l.map fun c => (⟨#[c]⟩ : Str)) = l
  | [] => rfl
  | c :: r => by
    show [] ++ ([c] ++ StrLaws.glueL [] (r.map fun c => (⟨#[c]⟩ : Str))) = c :: r
    rw [glueL_signs r]; rfl
theorem join_signs {l : List Nat} (h : l ≠ []) : Txt.join (sT []) (l.map fun c => (⟨#[c]⟩ : Str)) = sT l := by
  cases l with
  | nil => exact absurd rfl h
  | cons c r =>
    have e : (Txt.join (sT []) ((c :: r).map fun c => (⟨#[c]⟩ : Str))).cps.toList = c :: r := by
      show (Builtin.Str.glued (sT []) (⟨#[c]⟩ :: r.map fun c => (⟨#[c]⟩ : Str))).cps.toList = _
      rw [StrLaws.glued_list]
      show [c] ++ StrLaws.glueL [] (r.map fun c => (⟨#[c]⟩ : Str)) = c :: r
      rw [glueL_signs]; rfl
    rw [sT_of (Txt.join (sT []) ((c :: r).map fun c => (⟨#[c]⟩ : Str))), e]
theorem at_in {α : Type} {xs : List α} {i : Int} (h0 : 0 ≤ i) (h1 : i < xs.length) : ∃ v, v ∈ xs ∧ atI xs i = some v := by
  have l : i.toNat < xs.length := by omega
  refine ⟨xs[i.toNat], List.getElem_mem l, ?_⟩
  have := atI_nat (xs := xs) (j := i.toNat) (List.getElem?_eq_getElem l)
  rw [show ((i.toNat : Nat) : Int) = i by omega] at this
  exact this
def GoodL (x : Str) : Prop := x.cps.toList ≠ [] ∧ Plain x.cps.toList ∧ x.cps.toList.length ≤ 200
instance (x : Str) : Decidable (GoodL x) := by unfold GoodL; infer_instance

/-! ### stretches of plain texts -/
theorem drop_min (l : List Nat) (a : Nat) : l.drop (min a l.length) = l.drop a := by
  by_cases h : a ≤ l.length
  · rw [Nat.min_eq_left h]
  · rw [Nat.min_eq_right (by omega), List.drop_eq_nil_of_le (Nat.le_refl _), List.drop_eq_nil_of_le (by omega)]
theorem cutS_some {l : List Nat} {a b : Nat} : cutS (sT l) (some (a : Int)) (some (b : Int)) = sT ((l.drop a).take (b - a)) := by
  have hl : (sT l).length = l.length := sT_len l
  unfold cutS
  rw [HT.sIx_nat, HT.sIx_nat, hl]
  show sT ((l.drop (min a l.length)).take (min b l.length - min a l.length)) = _
  congr 1
  rw [drop_min]
  by_cases h : b ≤ l.length
  · by_cases h2 : a ≤ l.length
    · rw [Nat.min_eq_left h, Nat.min_eq_left h2]
    · rw [List.drop_eq_nil_of_le (by omega), List.take_nil, List.take_nil]
  · rw [List.take_of_length_le (by rw [List.length_drop]; omega), List.take_of_length_le (by rw [List.length_drop]; omega)]
theorem cutS_pre {l : List Nat} {b : Nat} : cutS (sT l) none (some (b : Int)) = sT (l.take b) := by
  have hl : (sT l).length = l.length := sT_len l
  unfold cutS
  rw [HT.sIx_nat, HT.sIx_none, hl]
  show sT ((l.drop 0).take (min b l.length - 0)) = _
  congr 1
  rw [List.drop_zero, Nat.sub_zero]
  by_cases h : b ≤ l.length
  · rw [Nat.min_eq_left h]
  · rw [Nat.min_eq_right (by omega), List.take_of_length_le (Nat.le_refl _), List.take_of_length_le (by omega)]
theorem cutS_suf {l : List Nat} {a : Nat} : cutS (sT l) (some (a : Int)) none = sT (l.drop a) := by
  have hl : (sT l).length = l.length := sT_len l
  unfold cutS
  rw [HT.sIx_nat, HT.sIx_none, hl]
  show sT ((l.drop (min a l.length)).take (l.length - min a l.length)) = _
  congr 1
  rw [drop_min, List.take_of_length_le (by rw [List.length_drop]; omega)]

/-! ### how often a sign stands in a text -/
theorem count_skip {l : List Nat} {c : Nat} : ∀ (n a : Nat), (∀ k, a ≤ k → k < a + n → l[k]? ≠ some c) → (l.drop a).count c = (l.drop (a + n)).count c
  | 0, a, _ => rfl
  | n + 1, a, h => by
    have ih := count_skip n (a + 1) fun k h1 h2 => h k (by omega) (by omega)
    by_cases e : a < l.length
    · rw [List.drop_eq_getElem_cons e, List.count_cons]
      have : ¬ (l[a] == c) = true := fun z => h a (Nat.le_refl _) (by omega) (by rw [List.getElem?_eq_getElem e]; simpa using z)
      rw [if_neg this, ih]
      show _ + 0 = _
      rw [Nat.add_zero, Nat.add_assoc, Nat.add_comm 1 n]
    · rw [List.drop_eq_nil_of_le (by omega), List.drop_eq_nil_of_le (by omega)]
theorem at_one {l : List Nat} {c k : Nat} : StrLaws.At (sT l) (sT [c]) (sT l).length k ↔ l[k]? = some c := by
  constructor
  · intro h
    have q := StrLaws.at_take h
    have q : (l.drop k).take 1 = [c] := by simpa using q
    cases e : l.drop k with
    | nil => rw [e] at q; cases q
    | cons x r =>
      rw [e] at q
      have : l[k]? = (l.drop k)[0]? := by simp
      rw [this, e]
      have : [x] = [c] := q
      injection this with z _
      rw [z]; rfl
  · intro h
    refine StrLaws.take_at (by show 1 ≤ 1; omega) ?_
    have hk := (List.getElem?_eq_some_iff.mp h)
    obtain ⟨hl, e⟩ := hk
    show (l.drop k).take 1 = [c]
    rw [List.drop_eq_getElem_cons hl, e]; rfl
theorem chain_count {l : List Nat} {c : Nat} : ∀ (cuts : List Nat) (a f : Nat), StrLaws.ChainG (sT l) (sT [c]) (sT l).length a cuts f → (∀ k, f ≤ k → ¬ StrLaws.At (sT l) (sT [c]) (sT l).length k) → (l.drop a).count c = cuts.length
  | [], a, f, h, hn => by
    have e : f = a := h
    subst e
    have := count_skip (l := l) (c := c) l.length f fun k h1 _ z => hn k h1 (at_one.mpr z)
    rw [this, List.drop_eq_nil_of_le (by omega)]; rfl
  | d :: r, a, f, h, hn => by
    obtain ⟨h1, h2, h3, h4⟩ := h
    have ih := chain_count r (d + 1) f h4 hn
    have := count_skip (l := l) (c := c) (d - a) a fun k k1 k2 z => h3 k k1 (by omega) (at_one.mpr z)
    rw [this, show a + (d - a) = d by omega]
    obtain ⟨hl, e⟩ := List.getElem?_eq_some_iff.mp (at_one.mp h2)
    rw [List.drop_eq_getElem_cons hl, e, List.count_cons_self, ih]; rfl
theorem count_one (l : List Nat) (c : Nat) : Txt.count (sT l) (sT [c]) = (l.count c : Int) := by
  obtain ⟨f, h1, h2⟩ := StrLaws.occ_tight (sT l) (sT [c]) (by show 1 ≤ 1; omega)
  have := chain_count _ 0 f h1 h2
  unfold Txt.count
  rw [← this]; rfl
theorem sT_lf : ("\n" : Str) = sT [10] := by decide +kernel
/-! a method of a shelf -/
theorem w_sm {C : Addr} {c : Cells} {H : Hp} {S : List Tr} {m : Str} {P : Prop} (s : ShAt C c H S) (h : (m == "pieces" || m == "numbers" || m == "told_signs" || m == "told_ends" || m == "told_leaves" || m == "told_heights" || m == "firsts" || m == "lasts") = false) (k : P) :
    ∃ a dx fs, V.ref c.a = .ref a ∧ H a = some (.ins C dx fs) ∧ fs.lookup m = none ∧ P := ⟨c.a, c.dx, _, rfl, s.ob, fl_no h, k⟩
end Sk

/-! Numbers of the laws' draws; frames by a list of addresses. -/
namespace Sk
open PySem PySem.Spec PyProof.Rows L2

/-- all but what stands at l is as it was -/
def KeepL (l : List Addr) (H H' : Hp) : Prop := ∀ b o, b ∉ l → H b = some o → H' b = some o
theorem KeepL.refl (l : List Addr) (H : Hp) : KeepL l H H := fun _ _ _ h => h
theorem KeepL.trans {l : List Addr} {H H1 H2 : Hp} (x : KeepL l H H1) (y : KeepL l H1 H2) : KeepL l H H2 := fun b o n h => y b o n (x b o n h)
theorem KeepL.mono {l m : List Addr} {H H' : Hp} (x : KeepL l H H') (s : ∀ b ∈ l, b ∈ m) : KeepL m H H' := fun b o n h => x b o (fun z => n (s b z)) h
theorem Same.keepL {H H' : Hp} (l : List Addr) (s : Same H H') : KeepL l H H' := fun b o _ h => s b o h
theorem Keep.keepL {c : Cells} {H H' : Hp} (k : Keep c H H') : KeepL c.all H H' := k
theorem KeepL.upd {H : Hp} {a : Addr} {o : HO} {l : List Addr} (h : a ∈ l) : KeepL l H (L2.upd H a o) := fun b u n e => by
  rw [upd_ne (by rintro rfl; exact n h)]; exact e
theorem ShAt.keepL {C : Addr} {c : Cells} {H H' : Hp} {S : List Tr} {l : List Addr} (x : ShAt C c H S) (k : KeepL l H H') (d : ∀ b ∈ l, b ∉ c.all) (t : ∀ b xs, H b = some (.tup xs) → H' b = some (.tup xs)) : ShAt C c H' S := by
  have m : ∀ b ∈ c.all, b ∉ l := fun b hb z => d b z hb
  have f : ∀ {b : Addr} {o : HO}, b ∈ c.all → H b = some o → H' b = some o := fun hb e => k _ _ (m _ hb) e
  refine ⟨f (by simp [Cells.all]) x.ob, f (by simp [Cells.all]) x.ow, ?_, f (by simp [Cells.all]) x.nb, f (by simp [Cells.all]) x.sg, f (by simp [Cells.all]) x.en, f (by simp [Cells.all]) x.lv, f (by simp [Cells.all]) x.ht, f (by simp [Cells.all]) x.fi, f (by simp [Cells.all]) x.la, x.gd, x.nd, x.cp⟩
  obtain ⟨rs, h1, h2, h3⟩ := x.pc
  exact ⟨rs, f (by simp [Cells.all]) h1, h2, fun i r t' e1 e2 => t _ _ (h3 i r t' e1 e2)⟩
theorem tup_upd {H : Hp} {a : Addr} {xs : List V} {o : HO} (h : H a = some (.lst xs)) : ∀ b ys, H b = some (.tup ys) → upd H a o b = some (.tup ys) := fun b ys e => by
  rw [upd_ne (ne_of e h (by intro z; cases z))]; exact e

theorem mulW_small {i j : Int} (h1 : -1180591620717411303424 < i) (h2 : i < 1180591620717411303424) (h3 : -1180591620717411303424 < j) (h4 : j < 1180591620717411303424) : CMulW i j :=
  wide_mul (a := 70) (b := 70) (by omega) (by omega) (by decide) (by decide) (by decide)
theorem divW_small {i j : Int} (h1 : 0 < j) (h2 : j < 1180591620717411303424) : CDivW i j := wide_div (b := 70) h1 (by omega) (by decide) (by decide)
theorem pow_sg : (10 : Int) ^ (Int.toNat 18) = 1000000000000000000 := by decide
theorem step_big {c r B : Int} {a b : Nat} (h0 : 0 ≤ c) (h1 : c < 2 ^ a) (h2 : 0 ≤ r) (h3 : r < B) (h4 : B ≤ 2 ^ b) : 0 ≤ c * B + r ∧ c * B + r < 2 ^ (a + b) := by
  have hB : 0 < B := by omega
  have e1 : 0 ≤ c * B := Int.mul_nonneg h0 (by omega)
  have e2 : (c + 1) * B ≤ 2 ^ a * 2 ^ b := Int.mul_le_mul (by omega) h4 (by omega) (by omega)
  have e3 : (c + 1) * B = c * B + B := by rw [Int.add_mul, Int.one_mul]
  rw [Int.pow_add]
  exact ⟨by omega, by omega⟩
theorem mulW_big {c B : Int} {a b : Nat} (h0 : 0 ≤ c) (h1 : c < 2 ^ a) (h2 : 0 ≤ B) (h4 : B < 2 ^ b) (ha : 0 < a) (hb : 0 < b) (h : a + b ≤ 1000000) : CMulW c B := by
  refine wide_mul (a := a) (b := b) ?_ ?_ ha hb h
  · have : (c.natAbs : Int) < ((2 ^ a : Nat) : Int) := by rw [Int.natAbs_of_nonneg h0]; push_cast; exact h1
    exact_mod_cast this
  · have : (B.natAbs : Int) < ((2 ^ b : Nat) : Int) := by rw [Int.natAbs_of_nonneg h2]; push_cast; exact h4
    exact_mod_cast this
/-- a rising range with a step -/
theorem rgC {i j c : Int} (hc : 0 < c) (hc2 : c < 1000) (h1 : 0 ≤ i) (h2 : i < 1000000) (h3 : 0 ≤ j) (h4 : j < 100000000) : ∃ n : Nat, RgC i j c n ∧ n ≤ j.toNat + 1 ∧ ∀ k : Nat, k < n → i + k * c < j := by
  have hr : Builtin.Range.rangeSize i j c = if i < j then (j - i - 1) / c + 1 else 0 := by
    unfold Builtin.Range.rangeSize
    rw [if_pos hc]
  have n0 : 0 ≤ Builtin.Range.rangeSize i j c := by
    rw [hr]; split
    · have := Int.ediv_nonneg (a := j - i - 1) (b := c) (by omega) (by omega); omega
    · omega
  have le : Builtin.Range.rangeSize i j c ≤ j + 1 := by
    rw [hr]; split
    · have := Int.ediv_le_self (a := j - i - 1) c (by omega); omega
    · omega
  refine ⟨(Builtin.Range.rangeSize i j c).toNat, ⟨by omega, by omega, ?_, by omega⟩, by omega, fun k hk => ?_⟩
  · unfold Builtin.Range.small
    simp only [Builtin.Range.rangeFitsLong, Bool.and_eq_true, Bool.or_eq_true, decide_eq_true_eq, beq_iff_eq, hc, if_true, gt_iff_lt]
    refine ⟨?_, ?_⟩ <;> first | omega | (repeat' constructor) <;> omega
  · have hk' : (k : Int) < Builtin.Range.rangeSize i j c := by omega
    rw [hr] at hk'
    split at hk'
    · have h5 : (k : Int) ≤ (j - i - 1) / c := by omega
      have := (Int.le_ediv_iff_mul_le hc).mp h5
      omega
    · omega
end Sk

/-! A shelf and the row of draws, behind a call. -/
namespace Sk
open PySem PySem.Spec PyProof.Rows L2
/-- behind a call: the shelf grown, the draws' row changed, all else as it was -/
structure Grown (C : Addr) (c : Cells) (r : Addr) (H H' : Hp) (S S' : List Tr) (n' : Int) (more : Nat) : Prop where
  sh : ShAt C c H' S'
  ex : Ext S S'
  len : S'.length ≤ S.length + more
  kp : KeepL (r :: c.all) H H'
  ro : H' r = some (.lst [.int n'])
  pos : 0 ≤ n'
theorem keepL_same {l : List Addr} {H H1 H2 : Hp} (x : KeepL l H H1) (y : Same H1 H2) : KeepL l H H2 := fun b o n e => y _ _ (x b o n e)
theorem keepL_free {l : List Addr} {H H1 : Hp} {p : Addr} (x : KeepL l H H1) (h : H1 p = none) (hl : p ∉ l) : H p = none := by
  cases e : H p with
  | none => rfl
  | some o => exact absurd ((x p o hl e).symm.trans h) (by simp)
theorem Grown.free {C : Addr} {c : Cells} {r : Addr} {H H' : Hp} {S S' : List Tr} {n' : Int} {m : Nat} (g : Grown C c r H H' S S' n' m) {p : Addr} (h : H' p = none) : H p = none :=
  keepL_free g.kp h fun z => by
    rcases List.mem_cons.mp z with e | e
    · rw [e, g.ro] at h; cases h
    · exact g.sh.apart h e
theorem Grown.refl {C : Addr} {c : Cells} {r : Addr} {H : Hp} {S : List Tr} {n : Int} (s : ShAt C c H S) (h : H r = some (.lst [.int n])) (h0 : 0 ≤ n) : Grown C c r H H S S n 0 := ⟨s, List.prefix_refl _, Nat.le_refl _, KeepL.refl _ _, h, h0⟩
theorem Grown.digit {C : Addr} {c : Cells} {r : Addr} {H H1 : Hp} {S S1 : List Tr} {n n' : Int} {m : Nat} (g : Grown C c r H H1 S S1 n m) (hr : r ∉ c.all) (h0 : 0 ≤ n') : Grown C c r H (upd H1 r (.lst [.int n'])) S S1 n' m :=
  ⟨g.sh.keepL (l := [r]) (KeepL.upd (by simp)) (fun b hb => by rw [List.mem_singleton] at hb; rw [hb]; exact hr) (tup_upd g.ro), g.ex, g.len, g.kp.trans (KeepL.upd (by simp)), upd_same, h0⟩
theorem Grown.same {C : Addr} {c : Cells} {r : Addr} {H H1 H2 : Hp} {S S1 : List Tr} {n : Int} {m : Nat} (g : Grown C c r H H1 S S1 n m) (s : Same H1 H2) : Grown C c r H H2 S S1 n m :=
  ⟨g.sh.same s, g.ex, g.len, keepL_same g.kp s, s _ _ g.ro, g.pos⟩
theorem Grown.trans {C : Addr} {c : Cells} {r : Addr} {H H1 H2 : Hp} {S S1 S2 : List Tr} {n n2 : Int} {m k : Nat} (g : Grown C c r H H1 S S1 n m) (h : Grown C c r H1 H2 S1 S2 n2 k) : Grown C c r H H2 S S2 n2 (m + k) :=
  ⟨h.sh, g.ex.trans h.ex, by have := g.len; have := h.len; omega, g.kp.trans h.kp, h.ro, h.pos⟩
theorem Grown.put {C : Addr} {c : Cells} {r : Addr} {H H1 H2 : Hp} {S S1 : List Tr} {n : Int} {m : Nat} {t : Tr} (g : Grown C c r H H1 S S1 n m) (hr : r ∉ c.all) (s : ShAt C c H2 (put S1 t)) (k : Keep c H1 H2) : Grown C c r H H2 S (put S1 t) n (m + 1) :=
  ⟨s, g.ex.trans put_ext, by have := g.len; have := put_len (S := S1) (t := t); omega, g.kp.trans (k.keepL.mono fun b hb => List.mem_cons_of_mem _ hb), k _ _ hr g.ro, g.pos⟩
theorem ShAt.digit {C : Addr} {c : Cells} {H : Hp} {S : List Tr} {r : Addr} {xs ys : List V} (x : ShAt C c H S) (h : H r = some (.lst xs)) (n : r ∉ c.all) : ShAt C c (upd H r (.lst ys)) S :=
  x.keepL (l := [r]) (KeepL.upd (by simp)) (fun b hb => by rw [List.mem_singleton] at hb; rw [hb]; exact n) (tup_upd h)
theorem atI_map {α β : Type} {f : α → β} {xs : List α} {i : Int} {v : α} (h : atI xs i = some v) : atI (xs.map f) i = some (f v) := by
  unfold atI at h ⊢
  rw [List.length_map]
  cases e : ixN xs.length i with
  | none => rw [e] at h; cases h
  | some k =>
    rw [e] at h
    have h : xs[k]? = some v := h
    show (xs.map f)[k]? = some (f v)
    rw [List.getElem?_map, h]; rfl
end Sk

/-! The pieces that one comes to from texts. -/
namespace Sk
open PySem PySem.Spec PyProof.Rows L2

/-- u is t or in a part of t -/
def inT (u : Tr) : Tr → Bool
  | .lf l => decide (u = .lf l)
  | .fk a b => decide (u = .fk a b) || (inT u a || inT u b)
theorem inT_self : ∀ t : Tr, inT t t = true
  | .lf l => by simp [inT]
  | .fk a b => by simp [inT]
theorem inT_part {a b : Tr} : ∀ {t : Tr}, inT (.fk a b) t = true → inT a t = true ∧ inT b t = true
  | .lf l, h => by simp [inT] at h
  | .fk c d, h => by
    simp only [inT, Bool.or_eq_true, decide_eq_true_eq] at h ⊢
    rcases h with h | h | h
    · cases h
      exact ⟨.inr (.inl (inT_self _)), .inr (.inr (inT_self _))⟩
    · exact ⟨.inr (.inl (inT_part h).1), .inr (.inl (inT_part h).2)⟩
    · exact ⟨.inr (.inr (inT_part h).1), .inr (.inr (inT_part h).2)⟩
/-- what is closed under parts holds all that is in what it holds -/
theorem inT_closed {P : Tr → Prop} (cl : ∀ a b, P (.fk a b) → P a ∧ P b) {u : Tr} : ∀ {t : Tr}, P t → inT u t = true → P u
  | .lf l, h, i => by
    simp only [inT, decide_eq_true_eq] at i
    rw [i]; exact h
  | .fk a b, h, i => by
    simp only [inT, Bool.or_eq_true, decide_eq_true_eq] at i
    rcases i with i | i | i
    · rw [i]; exact h
    · exact inT_closed cl (cl a b h).1 i
    · exact inT_closed cl (cl a b h).2 i
def reachT (S ts : List Tr) : List Tr := S.filter fun u => ts.any (inT u)
theorem mem_reachT {S ts : List Tr} {u : Tr} : u ∈ reachT S ts ↔ u ∈ S ∧ ∃ t ∈ ts, inT u t = true := by
  unfold reachT
  rw [List.mem_filter, List.any_eq_true]
theorem reach_perm {S ts sn : List Tr} (g : Good S) (nd : sn.Nodup) (sub : ∀ u ∈ sn, u ∈ S ∧ ∃ t ∈ ts, inT u t = true) (has : ∀ t ∈ ts, t ∈ sn) (cl : ∀ a b, Tr.fk a b ∈ sn → a ∈ sn ∧ b ∈ sn) : sn.Perm (reachT S ts) := by
  refine (List.perm_ext_iff_of_nodup nd (g.nd.sublist List.filter_sublist)).mpr fun u => ?_
  show u ∈ sn ↔ u ∈ reachT S ts
  rw [mem_reachT]
  refine ⟨sub u, fun ⟨_, t, ht, i⟩ => ?_⟩
  exact inT_closed (P := fun x => x ∈ sn) cl (has t ht) i
theorem num_rising {S : List Tr} (g : Good S) : S.Pairwise fun a b => num S a < num S b := by
  rw [List.pairwise_iff_getElem]
  intro i j hi hj h
  have e1 := (Nm.num (S := S) (n := (i : Int) + 1) (t := S[i]) ⟨i, List.getElem?_eq_getElem hi, rfl⟩ g.nd)
  have e2 := (Nm.num (S := S) (n := (j : Int) + 1) (t := S[j]) ⟨j, List.getElem?_eq_getElem hj, rfl⟩ g.nd)
  rw [← e1, ← e2]; omega
theorem reach_rising {S ts : List Tr} (g : Good S) : ((reachT S ts).map (num S)).Pairwise (· < ·) := by
  rw [List.pairwise_map]
  exact (num_rising g).sublist List.filter_sublist
theorem sorted_is {ns L : List Int} (p : ns.Perm L) (h : ns.Pairwise (· ≤ ·)) (k : L.Pairwise (· < ·)) : ns = L :=
  p.eq_of_pairwise (fun a b _ _ h1 h2 => Int.le_antisymm h1 h2) h (k.imp fun h => Int.le_of_lt h)
/-- the texts' trees, those without signs left out -/
def TxAll (S : List Tr) : List Int → List (Option Tr) → Prop
  | [], [] => True
  | n :: ns, o :: os => Tx S n o ∧ TxAll S ns os
  | _, _ => False
theorem TxAll.of {S : List Tr} : ∀ {ns : List Int}, (∀ n ∈ ns, inR S n) → ∃ os, TxAll S ns os
  | [], _ => ⟨[], trivial⟩
  | n :: ns, h => by
    obtain ⟨o, ho⟩ := Tx.of (h n List.mem_cons_self)
    obtain ⟨os, hs⟩ := TxAll.of fun m hm => h m (List.mem_cons_of_mem _ hm)
    exact ⟨o :: os, ho, hs⟩
theorem TxAll.get {S : List Tr} : ∀ {ns : List Int} {os : List (Option Tr)} {i : Nat} {n : Int}, TxAll S ns os → ns[i]? = some n → ∃ o, os[i]? = some o ∧ Tx S n o
  | [], [], _, _, _, e => by simp at e
  | n :: ns, o :: os, 0, m, h, e => by
    simp only [List.getElem?_cons_zero, Option.some.injEq] at e
    exact ⟨o, rfl, e ▸ h.1⟩
  | n :: ns, o :: os, i + 1, m, h, e => TxAll.get (i := i) h.2 (by simpa using e)
  | [], _ :: _, _, _, h, _ => h.elim
  | _ :: _, [], _, _, h, _ => h.elim
theorem TxAll.len {S : List Tr} : ∀ {ns : List Int} {os : List (Option Tr)}, TxAll S ns os → ns.length = os.length
  | [], [], _ => rfl
  | n :: ns, o :: os, h => by rw [List.length_cons, List.length_cons, TxAll.len h.2]
  | [], _ :: _, h => h.elim
  | _ :: _, [], h => h.elim
theorem TxAll.ext {S S' : List Tr} (e : Ext S S') : ∀ {ns : List Int} {os : List (Option Tr)}, TxAll S ns os → TxAll S' ns os
  | [], [], _ => trivial
  | n :: ns, o :: os, h => ⟨h.1.ext e, TxAll.ext e h.2⟩
  | [], _ :: _, h => h.elim
  | _ :: _, [], h => h.elim
def trees (os : List (Option Tr)) : List Tr := os.filterMap id
/-- what reach_of tells -/
def reachN (S : List Tr) (os : List (Option Tr)) : List Int := (reachT S (trees os)).map (num S)
theorem reach_sub (S ts : List Tr) : (reachT S ts).Sublist S := List.filter_sublist
theorem reach_cl {S ts : List Tr} (g : Good S) {a b : Tr} (h : Tr.fk a b ∈ reachT S ts) : a ∈ reachT S ts ∧ b ∈ reachT S ts := by
  obtain ⟨h1, t, ht, i⟩ := mem_reachT.mp h
  obtain ⟨ha, hb⟩ := g.parts h1
  obtain ⟨ia, ib⟩ := inT_part i
  exact ⟨mem_reachT.mpr ⟨ha, t, ht, ia⟩, mem_reachT.mpr ⟨hb, t, ht, ib⟩⟩
theorem Good.before {S : List Tr} (g : Good S) {a b : Tr} (h : Tr.fk a b ∈ S) : num S a < num S (.fk a b) ∧ num S b < num S (.fk a b) := by
  obtain ⟨i, e⟩ := List.getElem?_of_mem h
  obtain ⟨⟨j, jl, x⟩, ⟨k, kl, y⟩⟩ := g.pr i a b e
  have e1 := Nm.num (S := S) (n := (i : Int) + 1) ⟨i, e, rfl⟩ g.nd
  have e2 := Nm.num (S := S) (n := (j : Int) + 1) ⟨j, x, rfl⟩ g.nd
  have e3 := Nm.num (S := S) (n := (k : Int) + 1) ⟨k, y, rfl⟩ g.nd
  omega
/-- what is laid anew in its order has its parts ahead -/
theorem part_before {S R : List Tr} (g : Good S) (sub : R.Sublist S) {a u : Tr} {i : Nat} (e : R[i]? = some u) (ha : a ∈ R) (lt : num S a < num S u) : a ∈ R.take i := by
  obtain ⟨j, x⟩ := List.getElem?_of_mem ha
  obtain ⟨hj, xj⟩ := List.getElem?_eq_some_iff.mp x
  obtain ⟨hi, xi⟩ := List.getElem?_eq_some_iff.mp e
  have pw : R.Pairwise fun a b => num S a < num S b := (num_rising g).sublist sub
  have : j < i := by
    refine Classical.byContradiction fun z => ?_
    by_cases h : j = i
    · subst h
      rw [xj] at xi
      rw [xi] at lt; omega
    · have := (List.pairwise_iff_getElem.mp pw) i j hi hj (by omega)
      rw [xi, xj] at this; omega
  exact List.mem_of_getElem? (i := j) (by rw [List.getElem?_take_of_lt this]; exact x)
def numO (R : List Tr) : Option Tr → Int
  | none => 0
  | some t => num R t
theorem numO_tx {R : List Tr} {o : Option Tr} (h : ∀ t, o = some t → t ∈ R) : Tx R (numO R o) o := by
  cases o with
  | none => rfl
  | some t => exact nm_num (h t rfl)
/-- the book of numbers kept while a shelf is swept -/
def book (S R : List Tr) (i : Nat) : List (Key × V) := (Sum.inl 0, .int 0) :: (R.take i).map fun u => (Sum.inl (num S u), .int (num R u))
theorem book_at {S R : List Tr} {i : Nat} (sub : ∀ u ∈ R, u ∈ S) {t : Tr} (h : t ∈ R.take i) : valV (book S R i) (Sum.inl (num S t)) = some (.int (num R t)) := by
  have hS := sub t (List.mem_of_mem_take h)
  have key : ∀ L : List Tr, (∀ u ∈ L, u ∈ S) → t ∈ L → valV (L.map fun u => ((Sum.inl (num S u) : Key), V.int (num R u))) (Sum.inl (num S t)) = some (.int (num R t)) := by
    intro L
    induction L with
    | nil => intro _ z; cases z
    | cons u r ih =>
      intro hs ht
      unfold valV at ih ⊢
      rw [List.map_cons, List.find?_cons]
      by_cases e : u = t
      · subst e; simp
      · have ne : ¬ (Sum.inl (num S u) : Key) = Sum.inl (num S t) := fun z => e (num_inj (hs u List.mem_cons_self) hS (Sum.inl.inj z))
        rw [decide_eq_false ne]
        exact ih (fun v hv => hs v (List.mem_cons_of_mem _ hv)) ((List.mem_cons.mp ht).resolve_left fun z => e z.symm)
  unfold book valV
  rw [List.find?_cons]
  have p := (nm_num hS).pos
  have ne : ¬ (Sum.inl 0 : Key) = Sum.inl (num S t) := fun z => by have := Sum.inl.inj z; omega
  rw [decide_eq_false ne]
  exact key _ (fun u hu => sub u (List.mem_of_mem_take hu)) h
theorem book_0 {S R : List Tr} {i : Nat} : valV (book S R i) (Sum.inl 0) = some (.int 0) := by
  unfold book valV
  rw [List.find?_cons]; simp
theorem book_new {S R : List Tr} {i : Nat} (sub : ∀ u ∈ R, u ∈ S) (nd : R.Nodup) {t : Tr} (e : R[i]? = some t) : valV (book S R i) (Sum.inl (num S t)) = none := by
  have hR := List.mem_of_getElem? e
  have hS := sub t hR
  have p := (nm_num hS).pos
  unfold book valV
  rw [List.find?_cons]
  have ne : ¬ (Sum.inl 0 : Key) = Sum.inl (num S t) := fun z => by have := Sum.inl.inj z; omega
  rw [decide_eq_false ne]
  rw [Option.map_eq_none_iff, List.find?_eq_none]
  intro kv hkv
  obtain ⟨u, hu, rfl⟩ := List.mem_map.mp hkv
  simp only [decide_eq_true_eq]
  intro z
  have := num_inj (sub u (List.mem_of_mem_take hu)) hS (Sum.inl.inj z)
  subst this
  obtain ⟨j, x⟩ := List.getElem?_of_mem hu
  have hj := (List.getElem?_eq_some_iff.mp x).1
  rw [List.length_take] at hj
  rw [List.getElem?_take_of_lt (by omega)] at x
  have := nd_same nd x e
  omega
theorem book_succ {S R : List Tr} {i : Nat} {t : Tr} (e : R[i]? = some t) : book S R (i + 1) = book S R i ++ [(Sum.inl (num S t), .int (num R t))] := by
  unfold book
  rw [List.take_succ, e]
  simp
theorem take_notin {R : List Tr} {i : Nat} {t : Tr} (nd : R.Nodup) (e : R[i]? = some t) : t ∉ R.take i := fun hu => by
  obtain ⟨j, x⟩ := List.getElem?_of_mem hu
  have hj := (List.getElem?_eq_some_iff.mp x).1
  rw [List.length_take] at hj
  rw [List.getElem?_take_of_lt (by omega)] at x
  have := nd_same nd x e
  omega
theorem put_take {R : List Tr} {i : Nat} {t : Tr} (nd : R.Nodup) (e : R[i]? = some t) : put (R.take i) t = R.take (i + 1) := by
  rw [put_new (take_notin nd e), List.take_succ, e]; rfl
theorem take_ext (R : List Tr) (i : Nat) : Ext (R.take i) R := List.take_prefix _ _
/-- another shelf's deeds leave a shelf -/
theorem ShAt.beside {C : Addr} {c c' : Cells} {H H' : Hp} {S S' : List Tr} (x : ShAt C c H S) (y : ShAt C c' H S') (k : Keep c' H H') (d : ∀ b ∈ c'.all, b ∉ c.all) : ShAt C c H' S :=
  x.keepL k.keepL d fun b xs e => k b _ (y.apart_tup e) e
theorem Same.keepN {c : Cells} {H H1 H2 : Hp} (s : Same H H1) (k : Keep c H1 H2) (n : ∀ b ∈ c.all, H b = none) : Same H H2 := fun b o e => k b o (fun z => by rw [n b z] at e; cases e) (s b o e)
theorem inT_why {u : Tr} : ∀ {t : Tr}, inT u t = true → u = t ∨ ∃ a b, inT (.fk a b) t = true ∧ (u = a ∨ u = b)
  | .lf l, h => by
    simp only [inT, decide_eq_true_eq] at h
    exact .inl h
  | .fk c d, h => by
    simp only [inT, Bool.or_eq_true, decide_eq_true_eq] at h
    rcases h with h | h | h
    · exact .inl h
    · rcases inT_why h with e | ⟨a, b, i, e⟩
      · exact .inr ⟨c, d, inT_self _, .inl e⟩
      · exact .inr ⟨a, b, by simp [inT, i], e⟩
    · rcases inT_why h with e | ⟨a, b, i, e⟩
      · exact .inr ⟨c, d, inT_self _, .inr e⟩
      · exact .inr ⟨a, b, by simp [inT, i], e⟩
theorem num_at {S : List Tr} (g : Good S) {i : Nat} {t : Tr} (h : S[i]? = some t) : num S t = (i : Int) + 1 := (Nm.num (S := S) (n := (i : Int) + 1) ⟨i, h, rfl⟩ g.nd).symm
/-- what is asked for, falling: a number is asked for by a text, or by a fork that lies behind it and is asked for -/
theorem asked_in {S : List Tr} (g : Good S) {ts : List Tr} (ti : ∀ t ∈ ts, t ∈ S) {ns T : List Int} {j k0 : Nat} {u : Tr} (hk0 : k0 ≤ j + 1) (e : S[j]? = some u) (hns : ∀ m, m ∈ ns ↔ m = 0 ∧ m ∈ ns ∨ ∃ t ∈ ts, m = num S t)
    (hT : ∀ m, m ∈ T ↔ (m ∈ ns ∨ ∃ a b, Tr.fk a b ∈ S.drop k0 ∧ ts.any (inT (.fk a b)) = true ∧ (m = num S a ∨ m = num S b))) : num S u ∈ T ↔ ts.any (inT u) = true := by
  have uS := List.mem_of_getElem? e
  have nu := num_at g e
  rw [hT]
  constructor
  · rintro (h | ⟨a, b, hf, ha, hm⟩)
    · rcases (hns _).mp h with ⟨z, _⟩ | ⟨t, ht, z⟩
      · omega
      · have := num_inj uS (ti t ht) z
        rw [this, List.any_eq_true]
        exact ⟨t, ht, inT_self t⟩
    · have fS := List.mem_of_mem_drop hf
      obtain ⟨aS, bS⟩ := g.parts fS
      rw [List.any_eq_true] at ha ⊢
      obtain ⟨t, ht, i⟩ := ha
      obtain ⟨ia, ib⟩ := inT_part i
      rcases hm with z | z
      · exact ⟨t, ht, by rw [num_inj uS aS z]; exact ia⟩
      · exact ⟨t, ht, by rw [num_inj uS bS z]; exact ib⟩
  · intro h
    rw [List.any_eq_true] at h
    obtain ⟨t, ht, i⟩ := h
    rcases inT_why i with z | ⟨a, b, hf, z⟩
    · exact .inl ((hns _).mpr (.inr ⟨t, ht, by rw [z]⟩))
    · have fS : Tr.fk a b ∈ S := inT_closed (P := fun x => x ∈ S) (fun a b h => g.parts h) (ti t ht) hf
      obtain ⟨la, lb⟩ := g.before fS
      refine .inr ⟨a, b, ?_, by rw [List.any_eq_true]; exact ⟨t, ht, hf⟩, z.elim (fun z => .inl (by rw [z])) (fun z => .inr (by rw [z]))⟩
      obtain ⟨k, ek⟩ := List.getElem?_of_mem fS
      have nk := num_at g ek
      have hk : j + 1 ≤ k := by
        rcases z with z | z
        · have : num S u = num S a := by rw [z]
          omega
        · have : num S u = num S b := by rw [z]
          omega
      exact List.mem_of_getElem? (i := k - k0) (by rw [List.getElem?_drop, show k0 + (k - k0) = k by omega]; exact ek)
theorem asked_for {S : List Tr} (g : Good S) {ts : List Tr} (ti : ∀ t ∈ ts, t ∈ S) {ns T : List Int} {j : Nat} {u : Tr} (e : S[j]? = some u) (hns : ∀ m, m ∈ ns ↔ m = 0 ∧ m ∈ ns ∨ ∃ t ∈ ts, m = num S t)
    (hT : ∀ m, m ∈ T ↔ (m ∈ ns ∨ ∃ a b, Tr.fk a b ∈ S.drop (j + 1) ∧ ts.any (inT (.fk a b)) = true ∧ (m = num S a ∨ m = num S b))) : num S u ∈ T ↔ ts.any (inT u) = true := asked_in g ti (Nat.le_refl _) e hns hT
theorem filter_at {S : List Tr} {p : Tr → Bool} {i : Nat} {u : Tr} (e : S[i]? = some u) (h : p u = true) : (S.filter p)[((S.take i).filter p).length]? = some u ∧ (S.filter p).take ((S.take i).filter p).length = (S.take i).filter p ∧ ((S.take (i + 1)).filter p).length = ((S.take i).filter p).length + 1 := by
  obtain ⟨hi, ei⟩ := List.getElem?_eq_some_iff.mp e
  have es : S = S.take i ++ (u :: S.drop (i + 1)) := by
    rw [← ei, ← List.drop_eq_getElem_cons hi, List.take_append_drop]
  have ef : S.filter p = (S.take i).filter p ++ (u :: (S.drop (i + 1)).filter p) := by
    conv => lhs; rw [es]
    rw [List.filter_append, List.filter_cons, if_pos h]
  refine ⟨?_, ?_, ?_⟩
  · rw [ef, List.getElem?_append_right (Nat.le_refl _), Nat.sub_self]; rfl
  · rw [ef, List.take_left']; rfl
  · rw [show S.take (i + 1) = S.take i ++ [u] by rw [List.take_succ, e]; rfl, List.filter_append, List.filter_cons, if_pos h, List.length_append]; rfl
theorem filter_not {S : List Tr} {p : Tr → Bool} {i : Nat} {u : Tr} (e : S[i]? = some u) (h : ¬ p u = true) : (S.take (i + 1)).filter p = (S.take i).filter p := by
  rw [show S.take (i + 1) = S.take i ++ [u] by rw [List.take_succ, e]; rfl, List.filter_append, List.filter_cons, if_neg h]; simp
theorem tx_mem {S : List Tr} (g : Good S) : ∀ {ns : List Int} {os : List (Option Tr)}, TxAll S ns os → ∀ m, m ∈ ns ↔ m = 0 ∧ m ∈ ns ∨ ∃ t ∈ trees os, m = num S t
  | [], [], _, m => by simp [trees]
  | n :: ns, none :: os, h, m => by
    have e : n = 0 := h.1
    have ih := tx_mem g h.2 m
    have tt : trees (none :: os) = trees os := rfl
    rw [tt, List.mem_cons, e]
    constructor
    · rintro (z | z)
      · exact .inl ⟨z, .inl z⟩
      · rcases ih.mp z with z | z
        · exact .inl ⟨z.1, .inr z.2⟩
        · exact .inr z
    · rintro (z | z)
      · exact .inl z.1
      · exact .inr (ih.mpr (.inr z))
  | n :: ns, some t :: os, h, m => by
    have nm : Nm S n t := h.1
    have e := nm.num g.nd
    have ih := tx_mem g h.2 m
    have tt : trees (some t :: os) = t :: trees os := rfl
    rw [tt, List.mem_cons]
    constructor
    · rintro (z | z)
      · exact .inr ⟨t, List.mem_cons_self, z.trans e⟩
      · rcases ih.mp z with z | ⟨u, hu, z⟩
        · exact .inl ⟨z.1, .inr z.2⟩
        · exact .inr ⟨u, List.mem_cons_of_mem _ hu, z⟩
    · rintro (z | ⟨u, hu, z⟩)
      · exact z.2
      · rcases List.mem_cons.mp hu with y | y
        · left; rw [z, y, e]
        · exact .inr (ih.mpr (.inr ⟨u, y, z⟩))
  | [], _ :: _, h, _ => h.elim
  | _ :: _, [], h, _ => h.elim
theorem ShAt.disj {C : Addr} {c c' : Cells} {H : Hp} {S : List Tr} (hS : ShAt C c H S) (new : ∀ b ∈ c'.all, H b = none) : ∀ b ∈ c'.all, b ∉ c.all := fun b hb hc => by
  have := new b hb
  simp only [Cells.all, List.mem_cons, List.not_mem_nil, or_false] at hc
  obtain ⟨rs, h1, _⟩ := hS.pc
  have f : ∀ {x : Addr} {o : HO}, H x = some o → b ≠ x := fun e => (ne_of_none e this).symm
  rcases hc with e | e | e | e | e | e | e | e | e | e
  · exact f hS.ob e
  · exact f hS.ow e
  · exact f h1 e
  · exact f hS.nb e
  · exact f hS.sg e
  · exact f hS.en e
  · exact f hS.lv e
  · exact f hS.ht e
  · exact f hS.fi e
  · exact f hS.la e
end Sk

/-! list(range(a, b, c)); x in a list of ints. -/
namespace Sk
open PySem PySem.Spec PyProof.Rows L2

def rgV3 (i k : Int) (n : Nat) : List V := (List.range n).map fun t => V.int (i + (t : Nat) * k)
theorem vals_rg3 {i k : Int} {n : Nat} {acc : Array Value} (h : ItemsOf (fun t v => ∃ u, v = .int (i + t * k) u) acc n) : Vals (rgV3 i k n) acc.toList := by
  have e : acc.toList.length = n := by rw [Array.length_toList]; exact h.1
  unfold rgV3
  rw [← e]
  refine vals_of_get acc.toList _ fun j u hj => ?_
  obtain ⟨t, rfl⟩ := h.2 j u (by rw [← hj, Array.getElem?_toList])
  exact ⟨t, rfl⟩
def tListRg3 (ta : TA) : TE := fun σ H Q => ta σ H fun vs H1 => ∃ (i j k : Int) (n : Nat), vs = [.int i, .int j, .int k] ∧ RgC i j k n ∧ n ≤ 2 ^ 24 ∧ ∀ q, H1 q = none → Q (.ref q) (upd H1 q (.lst (rgV3 i k n)))
theorem pe_listRg3 {X : Cx} {a b c : Expr} {ta : TA} {p p2 pos pos2 : Pos} (hc : X.calm = true) (hg : Gl X "list") (hm : X.mg "list" = none) (hg2 : Gl X "range") (hm2 : X.mg "range" = none) (ha : PA X [a, b, c] ta)
    (na : starEach [Expr.Call (.Name "range" p2) [a, b, c] [] pos2] X.env = (false, eval (Expr.Call (.Name "range" p2) [a, b, c] [] pos2) X.env) :: starEach [] X.env := by rfl)
    (hs : starEach [a, b, c] X.env = (false, eval a X.env) :: starEach [b, c] X.env := by rfl) (hpl : (backTo pos2 (starEach [b, c] X.env)).any (·.1) = false := by rfl) :
    PE X (.Call (.Name "list" p) [.Call (.Name "range" p2) [a, b, c] [] pos2] [] pos) (tListRg3 ta) := by
  refine ⟨fun pins s σ H Q I h => ?_⟩
  refine Call_ (ld_blt I hg hm boot_list (PyProof.Rows.callWith_type1 (args_cons (Call_ (ld_blt I hg2 hm2 boot_range (PyProof.Rows.callWith_type1 (thn (ha.run pos2 pins s σ H _ I h) fun us s1 ⟨vs, H1, I1, r1, q1⟩ => ?_) hs hpl))) na) na))
  obtain ⟨i, j, k, n, e, ⟨c0, c1, c2, c3⟩, hn, q⟩ := q1
  subst e
  cases r1 with
  | cons r rr =>
    cases rr with
    | cons r' rr =>
      cases rr with
      | cons r'' rr =>
        cases rr
        obtain ⟨t, rfl⟩ := r
        obtain ⟨t', rfl⟩ := r'
        obtain ⟨t'', rfl⟩ := r''
        refine call_range_3 c0 ?_ (.inl (PyProof.noPylong_small c1))
        have I2 : Inv X pins σ H1 { s1 with heap := s1.heap.push { cls := .type "range", data := .fields #[.int i t, .int j t', .int k t''] } } := I1.kept (t' := s1.toks) fun b o e => Heap.get?_push_of_some _ e
        refine args_nil ?_
        refine call_list_range (n := n) (I2.ok.hd hc) (IsRange.new ..) c2 c3 hn fun h' tk acc c' hk e' hi => ?_
        refine ⟨.ref _, upd H1 _ (.lst (rgV3 i k n)), I2.laid hk (Nat.le_refl _) (show ObjOk X.prog X.w _ _ _ (.lst (rgV3 i k n)) from ⟨?_, acc.toList, c', vals_rg3 hi, ?_⟩), rfl, q _ (I2.hok.fresh (Nat.le_refl _))⟩
        · unfold rgV3
          rw [List.length_map, List.length_range, sizeLine_eq]; omega
        · rw [Array.toArray_toList]; exact e'
/-! x in a list of ints -/
theorem flat_ints (ns : List Int) : (ns.map V.int).all flatV = true := by
  rw [List.all_eq_true]
  intro x hx
  obtain ⟨n, _, rfl⟩ := List.mem_map.mp hx
  rfl
theorem inV_ints (n : Int) : ∀ ns : List Int, inV (.int n) (ns.map V.int) = decide (n ∈ ns)
  | [] => by simp [inV]
  | m :: ns => by
    have ih := inV_ints n ns
    unfold inV at ih ⊢
    rw [List.map_cons, List.any_cons, ih]
    show ((m == n) || decide (n ∈ ns)) = _
    by_cases h : m = n
    · subst h; simp
    · have h' : ¬ n = m := fun z => h z.symm
      simp [h, h']
theorem w_inI {K : PySem.W.Frag} {H : Hp} {Q : VK} {a : Addr} {n : Int} {ns : List Int} (s : SqL K H a (ns.map V.int)) (k : Q (.bl (decide (n ∈ ns))) H) : rIn K false (.int n) (.ref a) H Q :=
  ⟨a, _, rfl, .inl s, rfl, flat_ints ns, by
    rw [inV_ints]; exact k⟩
theorem w_revL {K : PySem.W.Frag} {σ : L2.St} {H : Hp} {Q : VK} {ta : TE} (k : ta σ H fun x H1 => ∃ a xs, x = .ref a ∧ SqL K H1 a xs ∧ ∀ p, H1 p = none → Q (.ref p) (upd H1 p (.lst xs.reverse))) : tRevL K ta σ H Q := k
/-! len of a list or a tuple, the written part named -/
def rLenS (K : PySem.W.Frag) : List V → Hp → VK → Prop := fun xs H Q => ∃ p ys, xs = [V.ref p] ∧ (SqL K H p ys ∨ SqT K H p ys) ∧ Q (.int ys.length) H
theorem call_lenK {X : Cx} : CallR X (.builtin "len") (rLenS X.K) := call_len_seq
theorem w_lrg3 {ta : TA} {σ : L2.St} {H : Hp} {Q : VK} (k : ta σ H fun vs H1 => ∃ (i j k : Int) (n : Nat), vs = [.int i, .int j, .int k] ∧ RgC i j k n ∧ n ≤ 2 ^ 24 ∧ ∀ q, H1 q = none → Q (.ref q) (upd H1 q (.lst (rgV3 i k n)))) : tListRg3 ta σ H Q := k
end Sk

/-! == and != of data: numbers, texts, lists and tuples of such; lists of pieces; a text read by its pieces. -/
namespace Sk
open PySem PySem.Spec PyProof.Rows L2

structure Da (K : PySem.W.Frag) (H : Hp) (v : V) (d : PyData) (k : Nat) : Prop where
  p : Dp K H v d
  l : d.canLay0 = true
  e : d.depth ≤ k
def DaL (K : PySem.W.Frag) (H : Hp) : List V → List PyData → Nat → Prop
  | [], [], _ => True
  | v :: vs, d :: ds, k => Da K H v d k ∧ DaL K H vs ds k
  | _, _, _ => False
section
variable {K : PySem.W.Frag} {H : Hp} {Q : VK}
theorem Da.mono {v : V} {d : PyData} {k m : Nat} (h : Da K H v d k) (l : k ≤ m) : Da K H v d m := ⟨h.p, h.l, Nat.le_trans h.e l⟩
theorem Da.int {i : Int} {k : Nat} : Da K H (.int i) (.int i) k := ⟨.int i, rfl, Nat.zero_le _⟩
theorem Da.bl {b : Bool} {k : Nat} : Da K H (.bl b) (.bool b) k := ⟨.bl b, rfl, Nat.zero_le _⟩
theorem Da.non {k : Nat} : Da K H .non .none k := ⟨.non, rfl, Nat.zero_le _⟩
theorem Da.str {x : Str} {k : Nat} (h : PyData.strOk x = true) : Da K H (.str x) (.str x) k := ⟨.str x, h, Nat.zero_le _⟩
theorem plain_strOk {l : List Nat} (h : Plain l) : PyData.strOk (sT l) = true := by
  unfold PyData.strOk
  rw [Array.all_eq_true']
  intro c hc
  have : c ∈ l := by simpa using hc
  rcases h c this with z | z
  · simp; omega
  · subst z; decide
theorem Da.pln {l : List Nat} {k : Nat} (h : Plain l) : Da K H (.str (sT l)) (.str (sT l)) k := .str (plain_strOk h)
theorem DaL.p {k : Nat} : ∀ {vs : List V} {ds : List PyData}, DaL K H vs ds k → DpAll K H vs ds ∧ PyData.canLayAll0 ds = true ∧ PyData.depthAll ds ≤ k
  | [], [], _ => ⟨.nil, rfl, Nat.zero_le _⟩
  | v :: vs, d :: ds, h => by
    obtain ⟨h1, h2⟩ := h
    obtain ⟨q1, q2, q3⟩ := h2.p
    refine ⟨.cons h1.p q1, ?_, ?_⟩
    · show (d.canLay0 && PyData.canLayAll0 ds) = true
      rw [h1.l, q2]; rfl
    · have := h1.e
      show max d.depth (PyData.depthAll ds) ≤ k
      omega
  | [], _ :: _, h => h.elim
  | _ :: _, [], h => h.elim
theorem Da.lst {a : Addr} {xs : List V} {ds : List PyData} {k : Nat} (s : SqL K H a xs) (h : DaL K H xs ds k) : Da K H (.ref a) (.list ds) (k + 1) := by
  obtain ⟨q1, q2, q3⟩ := h.p
  refine ⟨.lst s q1, q2, ?_⟩
  show PyData.depthAll ds + 1 ≤ k + 1
  omega
theorem Da.tup {a : Addr} {xs : List V} {ds : List PyData} {k : Nat} (s : SqT K H a xs) (h : DaL K H xs ds k) : Da K H (.ref a) (.tuple ds) (k + 1) := by
  obtain ⟨q1, q2, q3⟩ := h.p
  refine ⟨.tup s q1, q2, ?_⟩
  show PyData.depthAll ds + 1 ≤ k + 1
  omega
theorem DaL.ints {k : Nat} : ∀ ns : List Int, DaL K H (ns.map V.int) (ns.map PyData.int) k
  | [] => trivial
  | n :: ns => ⟨.int, DaL.ints ns⟩
theorem DaL.at {k : Nat} {α : Type} {f : α → PyData} : ∀ {vs : List V} {L : List α}, vs.length = L.length → (∀ (i : Nat) (v : V) (x : α), vs[i]? = some v → L[i]? = some x → Da K H v (f x) k) → DaL K H vs (L.map f) k
  | [], [], _, _ => trivial
  | v :: vs, x :: L, l, h => ⟨h 0 v x rfl rfl, DaL.at (by simpa using l) fun i v x e1 e2 => h (i + 1) v x (by simpa using e1) (by simpa using e2)⟩
  | [], _ :: _, l, _ => by simp at l
  | _ :: _, [], l, _ => by simp at l
theorem Da.shaped {v : V} {d : PyData} {k : Nat} (h : Da K H v d k) (l : k ≤ 64) : SeqAt.shaped d = true := by
  unfold SeqAt.shaped
  rw [h.l, decide_eq_true (Nat.le_trans h.e l)]; rfl
theorem w_eqDa {x y : V} {d e : PyData} {k : Nat} (h : Da K H x d k) (h' : Da K H y e k) (l : k ≤ 64) (q : Q (.bl (PyData.eqv d e)) H) : rEqD K x y H Q := ⟨d, e, h.p, h'.p, h.shaped l, h'.shaped l, q⟩
theorem w_neDa {x y : V} {d e : PyData} {k : Nat} (h : Da K H x d k) (h' : Da K H y e k) (l : k ≤ 64) (q : Q (.bl (!PyData.eqv d e)) H) : rNeD K x y H Q := ⟨d, e, h.p, h'.p, h.shaped l, h'.shaped l, q⟩
theorem w_eqSame {x y : V} {d : PyData} {k : Nat} (h : Da K H x d k) (h' : Da K H y d k) (l : k ≤ 64) (q : Q (.bl true) H) : rEqD K x y H Q := w_eqDa h h' l (by rw [SeqAt.eqv_refl d h.l]; exact q)
theorem w_neSame {x y : V} {d : PyData} {k : Nat} (h : Da K H x d k) (h' : Da K H y d k) (l : k ≤ 64) (q : Q (.bl false) H) : rNeD K x y H Q := w_neDa h h' l (by rw [SeqAt.eqv_refl d h.l]; exact q)
end
/-! ### pieces as data -/
def kD : Key → PyData
  | .inl i => .int i
  | .inr x => .str x
def pdat (S : List Tr) (t : Tr) : PyData := .tuple ((key S t).map kD)
theorem da_piece {K : PySem.W.Frag} {H : Hp} {S : List Tr} {r : Addr} {t : Tr} (o : Ok t) (h : H r = some (.tup (pvals S t))) : Da K H (.ref r) (pdat S t) 1 := by
  refine Da.tup (SqT.of h) ?_
  cases t with
  | lf l => exact ⟨.str (by decide +kernel), .pln o.2.2, trivial⟩
  | fk a b => exact ⟨.str (by decide +kernel), .int, .int, trivial⟩
/-- a list of the tuples of some pieces, by the numbers of S -/
def PcsAt (H : Hp) (L : Addr) (S R : List Tr) : Prop := ∃ rs : List Addr, H L = some (.lst (rs.map V.ref)) ∧ rs.length = R.length ∧ ∀ (i : Nat) r t, rs[i]? = some r → R[i]? = some t → H r = some (.tup (pvals S t))
theorem PcsAt.same {H H' : Hp} {L : Addr} {S R : List Tr} (h : PcsAt H L S R) (s : Same H H') : PcsAt H' L S R :=
  let ⟨rs, h1, h2, h3⟩ := h
  ⟨rs, s _ _ h1, h2, fun i r t e1 e2 => s _ _ (h3 i r t e1 e2)⟩
theorem PcsAt.da {K : PySem.W.Frag} {H : Hp} {L : Addr} {S R : List Tr} (h : PcsAt H L S R) (o : ∀ t ∈ R, Ok t) : Da K H (.ref L) (.list (R.map (pdat S))) 2 := by
  obtain ⟨rs, h1, h2, h3⟩ := h
  refine Da.lst (SqL.of h1) (DaL.at (by rw [List.length_map]; exact h2) fun i v t e1 e2 => ?_)
  rw [List.getElem?_map] at e1
  cases er : rs[i]? with
  | none => rw [er] at e1; cases e1
  | some r =>
    rw [er] at e1
    cases e1
    exact da_piece (o t (List.mem_of_getElem? e2)) (h3 i r t er e2)
/-! ### a text read by its pieces -/
def oZ : Option Tr → Nat | none => 0 | some t => t.sz
def szN (S : List Tr) (n : Int) : Nat := if n = 0 then 0 else match S[n.toNat - 1]? with | some t => t.sz | none => 0
theorem szN_tx {S : List Tr} {n : Int} {o : Option Tr} (h : Tx S n o) : szN S n = oZ o := by
  cases o with
  | none =>
    have : n = 0 := h
    subst this; rfl
  | some t =>
    obtain ⟨i, e, rfl⟩ := (show Nm S n t from h)
    unfold szN
    rw [if_neg (by omega), show ((i : Int) + 1).toNat - 1 = i by omega, e]; rfl
def szW (S : List Tr) : List V → Nat
  | [] => 0
  | .int n :: r => 1 + 2 * szN S n + szW S r
  | _ :: r => 1 + szW S r
theorem szW_app (S : List Tr) : ∀ xs ys : List V, szW S (xs ++ ys) = szW S xs + szW S ys
  | [], ys => by simp [szW]
  | x :: xs, ys => by
    have ih := szW_app S xs ys
    cases x <;> simp only [List.cons_append, szW, ih] <;> omega
theorem szW_len (S : List Tr) : ∀ xs : List V, xs.length ≤ szW S xs
  | [] => Nat.le_refl _
  | x :: xs => by
    have ih := szW_len S xs
    cases x <;> simp only [List.length_cons, szW] <;> omega
def muR (S : List Tr) (W : Addr) (_ : L2.St) (H : Hp) : Nat := match H W with | some (.lst xs) => szW S xs | _ => 0
theorem muR_of {S : List Tr} {W : Addr} {σ : L2.St} {H : Hp} {xs : List V} (h : H W = some (.lst xs)) : muR S W σ H = szW S xs := by
  unfold muR
  rw [h]
theorem Ok.sz : ∀ {t : Tr}, Ok t → t.sz + 1 ≤ 2 * t.sg
  | .lf l, h => by have := h.1; show 1 + 1 ≤ 2 * l.length; omega
  | .fk a b, h => by
    have ha := Ok.sz (t := a) h.1
    have hb := Ok.sz (t := b) h.2.1
    show 1 + a.sz + b.sz + 1 ≤ 2 * (a.sg + b.sg)
    omega
/-- what is left to read, the last one first -/
def restX : List (Option Tr) → List Nat
  | [] => []
  | o :: r => restX r ++ oX o
theorem restX_snoc (os : List (Option Tr)) (o : Option Tr) : restX (os ++ [o]) = oX o ++ restX os := by
  induction os with
  | nil => simp [restX]
  | cons p r ih =>
    rw [List.cons_append, restX, ih, restX, List.append_assoc]
theorem TxAll.snoc {S : List Tr} {n : Int} {o : Option Tr} (h : Tx S n o) : ∀ {ns : List Int} {os : List (Option Tr)}, TxAll S ns os → TxAll S (ns ++ [n]) (os ++ [o])
  | [], [], _ => ⟨h, trivial⟩
  | _ :: _, _ :: _, z => ⟨z.1, TxAll.snoc h z.2⟩
  | [], _ :: _, z => z.elim
  | _ :: _, [], z => z.elim
theorem TxAll.last {S : List Tr} {n : Int} : ∀ {ns : List Int} {os : List (Option Tr)}, TxAll S (ns ++ [n]) os → ∃ os' o, os = os' ++ [o] ∧ TxAll S ns os' ∧ Tx S n o
  | [], [o], h => ⟨[], o, rfl, trivial, h.1⟩
  | m :: ns, o :: os, h => by
    obtain ⟨os', p, e, h1, h2⟩ := TxAll.last (ns := ns) (os := os) h.2
    exact ⟨o :: os', p, by rw [e]; rfl, ⟨h.1, h1⟩, h2⟩
  | [], [], h => h.elim
  | [], _ :: _ :: _, h => h.2.elim
  | _ :: _, [], h => h.elim
/-- what isinstance asks of an own class -/
structure InsC (K : PySem.W.Frag) (C : Addr) : Prop where
  ha : PySem.W.findIn K (.ref C) "__class__" = some (some (.builtin "object.__class__"))
  hn : PySem.W.specialIn K (.builtin "object.__class__") "__get__" = some (some (.builtin "getset_descriptor.__get__"))
  ht : PySem.W.takesIn K (.builtin "object.__class__") = some true
  hm : PySem.W.mroIn K C (.type "object") = some true
theorem kit_self {K : PySem.W.Frag} {t : Value} : PySem.W.kitOne K t t = some true := by
  unfold PySem.W.kitOne
  rw [if_pos (by cases t <;> simp)]
end Sk

/-! a op b op c op d; a text so many times. -/
namespace Sk
open PySem PySem.Spec PyProof.Rows L2

section
variable {X : Cx} {a b c d : Expr} {ta tb tc td : TE} {pos : Pos} {op op' op'' : CmpOp} {r r' r'' : R2}
def tChain3 (r r' r'' : R2) (ta tb tc td : TE) : TE := fun σ H Q => ta σ H fun x H1 => tb σ H1 fun y H2 => r x y H2 fun z H3 => ∃ k, z = .bl k ∧
  (if k = true then tc σ H3 fun v H4 => r' y v H4 fun z' H5 => ∃ k', z' = .bl k' ∧ (if k' = true then td σ H5 fun u H6 => r'' v u H6 Q else Q (.bl false) H5) else Q (.bl false) H3)
theorem pt_chain3 (ho : OpR X (compareOp op) r) (ho' : OpR X (compareOp op') r') (ho'' : OpR X (compareOp op'') r'') (ha : PE X a ta) (hb : PE X b tb) (hc : PE X c tc) (hd : PE X d td)
    (hm : lastMarks [op, op', op''] [b, c, d] = false := by with_unfolding_all rfl) : PT X (.Compare a [op, op', op''] [b, c, d] pos) (tTest (tChain3 r r' r'' ta tb tc td)) := by
  refine ⟨fun pins s σ H Q I h => ?_⟩
  refine isTrue_chain (thn (ha.run pins s σ H _ I h) fun v s1 ⟨x, H1, I1, r1, q1⟩ => test_link (thn (hb.run pins s1 σ H1 _ I1 q1) fun u s2 ⟨y, H2, I2, r2, q2⟩ =>
    thn (ho pins s2 σ H2 x y v u _ I2 r1 r2 q2) fun e s3 ⟨z, H3, I3, r3, k, ek, q3⟩ => ?_)) hm
  subst ek
  cases r3
  refine wpAny_truthy_bool ?_
  cases k with
  | false => exact ite_ff (let ⟨k', e', q'⟩ := q3; by cases e'; exact ⟨H3, I3, q'⟩)
  | true =>
    refine ite_tt (test_link (thn (hc.run pins s3 σ H3 _ I3 q3) fun w s4 ⟨z4, H4, I4, r4, q4⟩ => thn (ho' pins s4 σ H4 y z4 u w _ I4 r2 r4 q4) fun e5 s5 ⟨z5, H5, I5, r5, k5, ek5, q5⟩ => ?_))
    subst ek5
    cases r5
    refine wpAny_truthy_bool ?_
    cases k5 with
    | false => exact ite_ff (let ⟨k', e', q'⟩ := q5; by cases e'; exact ⟨H5, I5, q'⟩)
    | true =>
      refine ite_tt (test_last (thn (hd.run pins s5 σ H5 _ I5 q5) fun w6 s6 ⟨z6, H6, I6, r6, q6⟩ => thn (ho'' pins s6 σ H6 z4 z6 w w6 _ I6 r4 r6 q6) fun e7 s7 ⟨z7, H7, I7, r7, k7, ek7, q7⟩ => ?_))
      subst ek7
      cases r7
      exact wpAny_truthy_bool ⟨H7, I7, q7⟩
end
section
variable {σ : L2.St} {H : Hp} {Q : VK} {ta tb tc td : TE} {r r' r'' : R2}
theorem w_chain3 (k : ta σ H fun x H1 => tb σ H1 fun y H2 => r x y H2 fun z H3 => ∃ k, z = .bl k ∧
  (if k = true then tc σ H3 fun v H4 => r' y v H4 fun z' H5 => ∃ k', z' = .bl k' ∧ (if k' = true then td σ H5 fun u H6 => r'' v u H6 Q else Q (.bl false) H5) else Q (.bl false) H3)) : tChain3 r r' r'' ta tb tc td σ H Q := k
end
/-- a text so many times -/
def rp (k : Nat) (l : List Nat) : List Nat := (List.replicate k l).flatten
theorem rp_len (k : Nat) (l : List Nat) : (rp k l).length = k * l.length := by
  unfold rp
  rw [List.length_flatten, List.map_replicate, List.sum_replicate_nat]
theorem rp_succ (k : Nat) (l : List Nat) : rp (k + 1) l = l ++ rp k l := by
  unfold rp
  rw [List.replicate_succ, List.flatten_cons]
theorem rp_zero (l : List Nat) : rp 0 l = [] := rfl
theorem rp_one (l : List Nat) : rp 1 l = l := by rw [rp_succ, rp_zero, List.append_nil]
theorem rp_add (j k : Nat) (l : List Nat) : rp (j + k) l = rp j l ++ rp k l := by
  unfold rp
  rw [← List.replicate_append_replicate, List.flatten_append]
theorem rp_mul (j k : Nat) (l : List Nat) : rp (j * k) l = rp j (rp k l) := by
  induction j with
  | zero => rw [Nat.zero_mul]; rfl
  | succ j ih => rw [Nat.succ_mul, Nat.add_comm, rp_add, ih, rp_succ]
theorem rp_nil (k : Nat) : rp k [] = [] := by
  have := rp_len k []
  rw [List.length_nil, Nat.mul_zero] at this
  exact List.length_eq_zero_iff.mp this
theorem plain_rp {l : List Nat} (h : Plain l) (k : Nat) : Plain (rp k l) := fun c hc => by
  unfold rp at hc
  obtain ⟨m, hm, hc⟩ := List.mem_flatten.mp hc
  rw [List.mem_replicate] at hm
  rw [hm.2] at hc
  exact h c hc
theorem fold_cps (x : Array Nat) : ∀ (k : Nat) (acc : Array Nat), ((List.replicate k x).foldl (· ++ ·) acc).toList = acc.toList ++ (List.replicate k x.toList).flatten
  | 0, acc => by simp
  | k + 1, acc => by
    rw [List.replicate_succ, List.foldl_cons, fold_cps x k, List.replicate_succ, List.flatten_cons]
    simp
def rRepS : R2 := fun x y H Q => ∃ (l : List Nat) (k : Nat), x = .str (sT l) ∧ y = .int k ∧ k < 1000000000 ∧ k * l.length ≤ sizeLine ∧ l.length ≤ sizeLine ∧ Q (.str (sT (rp k l))) H
theorem op_rep_str {X : Cx} : OpR X (binaryOp .Mult) rRepS := by
  intro pins s σ H x y v u Q I rx ry h
  obtain ⟨l, k, rfl, rfl, hk, hl, hl2, q⟩ := h
  obtain ⟨t, rfl⟩ := rx
  obtain ⟨t', rfl⟩ := ry
  have lx : (sT l).length = l.length := sT_len l
  refine PySem.P.mul_str ?_ ?_ ?_ ?_
  · rw [decide_eq_false (by omega), decide_eq_false (by omega)]; rfl
  · intro h1 h2 h3
    rw [lx] at h3
    have e1 : ((2 : Int) ^ 63 - 1) / (k : Int) * (k : Int) + ((2 : Int) ^ 63 - 1) % (k : Int) = 2 ^ 63 - 1 := by
      rw [Int.mul_comm]; exact Int.mul_ediv_add_emod _ _
    have e2 := Int.emod_lt_of_pos ((2 : Int) ^ 63 - 1) (show (0 : Int) < k by omega)
    have e3 : (((2 : Int) ^ 63 - 1) / (k : Int) + 1) * (k : Int) ≤ (l.length : Int) * k := Int.mul_le_mul_of_nonneg_right (by omega) (by omega)
    have e4 : (l.length : Int) * k = ((k * l.length : Nat) : Int) := by rw [Nat.mul_comm]; rfl
    have e5 : (((2 : Int) ^ 63 - 1) / (k : Int) + 1) * (k : Int) = ((2 : Int) ^ 63 - 1) / (k : Int) * (k : Int) + k := by rw [Int.add_mul, Int.one_mul]
    rw [sizeLine_eq] at hl
    omega
  · intro h1 h2
    rw [lx, show ((k : Int)).toNat = k by omega, Nat.mul_comm]
    unfold Builtin.Str.tooLong
    rw [decide_eq_false (by omega)]
  · by_cases k0 : (k : Int) < 1
    · rw [if_pos k0]
      obtain rfl : k = 0 := by omega
      refine ⟨by decide, .str (sT []), H, I.tok _, ⟨_, by rw [← sT_nil]; rfl⟩, q⟩
    · rw [if_neg k0]
      by_cases c : ((k : Int) == 1 || (sT l).length == 0) = true
      · rw [if_pos c]
        have e : rp k l = l := by
          rw [Bool.or_eq_true, beq_iff_eq, beq_iff_eq, lx] at c
          rcases c with c | c
          · obtain rfl : k = 1 := by omega
            exact rp_one l
          · rw [List.length_eq_zero_iff.mp c]; exact rp_nil k
        rw [e] at q
        exact ⟨.str (sT l), H, I.tok _, ⟨t, rfl⟩, q⟩
      · rw [if_neg c]
        have e : (⟨(List.replicate ((k : Int)).toNat (sT l).cps).foldl (· ++ ·) #[]⟩ : Str) = sT (rp k l) := by
          rw [show ((k : Int)).toNat = k by omega, sT_of ⟨_⟩, fold_cps]
          simp [rp]
        rw [e]
        exact ⟨by rw [sT_len, rp_len]; exact hl, .str (sT (rp k l)), H, I.tok _, ⟨_, rfl⟩, q⟩
/-- list + list, read-only ones, too -/
def rCatK (K : PySem.W.Frag) : R2 := fun x y H Q => ∃ l b xs zs, x = .ref l ∧ y = .ref b ∧ SqL K H l xs ∧ SqL K H b zs ∧ xs.length + zs.length ≤ sizeLine ∧ ∀ p, H p = none → Q (.ref p) (upd H p (.lst (xs ++ zs)))
theorem op_catK {X : Cx} : OpR X (binaryOp .Add) (rCatK X.K) := by
  intro pins s σ H x y v u Q I rx ry h
  obtain ⟨l, b, xs, zs, rfl, rfl, hH, hB, hz, q⟩ := h
  cases rx
  cases ry
  obtain ⟨its, r, ht, hz1⟩ := I.list hH
  obtain ⟨its2, r2, ht2, hz2⟩ := I.list hB
  obtain ⟨⟨cls, dd, data, sl⟩, n, ho, hc, hdd, hd⟩ := ht
  obtain ⟨⟨cls2, dd2, data2, sl2⟩, n2, ho2, hc2, hdd2, hd2⟩ := ht2
  simp only at hc hd hc2 hd2
  subst hc hd hc2 hd2
  have ea : its.toArray ++ its2.toArray = (its ++ its2).toArray := by simp
  have z1 := r.length
  have z2 := r2.length
  refine concat_meets ⟨_, ho, rfl⟩ ⟨_, ho2, rfl⟩ noFill_list_add seq_list_add F.slot_list_add F.entry_list_add (F.args_list_add_2 _ _) (list_addW l b its.toArray its2.toArray n n2 dd dd2 sl sl2 (by rw [List.size_toArray, List.size_toArray]; omega)) ⟨ho, ho2, ?_⟩
  rw [ea]
  exact ⟨.ref _, _, I.lnew (t' := s.toks) (r.append r2) (by rw [List.length_append]; omega), rfl, q _ I.fresh⟩
end Sk

/-! Texts cut; texts repeated. -/
namespace Sk
open Tr

def halv : Tr → Nat → Option Tr × Option Tr
  | lf l, n => if n = 0 then (none, some (lf l)) else if n = l.length then (some (lf l), none) else (some (lf (l.take n)), some (lf (l.drop n)))
  | fk a b, n => if n = 0 then (none, some (fk a b)) else if n = (fk a b).sg then (some (fk a b), none) else
    if n < a.sg then ((halv a n).1, joinedO (halv a n).2 (some b)) else (joinedO (some a) (halv b (n - a.sg)).1, (halv b (n - a.sg)).2)
def halvO : Option Tr → Nat → Option Tr × Option Tr
  | none, _ => (none, none)
  | some t, n => halv t n
/-- how many pieces are asked for on the left and on the right side -/
def chl : Tr → Nat → Nat
  | lf _, _ => 0
  | fk a b, n => if n = 0 then 0 else if n = (fk a b).sg then 0 else if n < a.sg then chl a n else chl b (n - a.sg) + cjoin (some a) (halv b (n - a.sg)).1
def chr' : Tr → Nat → Nat
  | lf _, _ => 0
  | fk a b, n => if n = 0 then 0 else if n = (fk a b).sg then 0 else if n < a.sg then chr' a n + cjoin (halv a n).2 (some b) else chr' b (n - a.sg)
def chal (t : Tr) (n : Nat) : Nat := chl t n + chr' t n + 2
def chalO : Option Tr → Nat → Nat
  | none, _ => 0
  | some t, n => chal t n
theorem halv_0 (t : Tr) : halv t 0 = (none, some t) := by cases t <;> simp [halv]
theorem halv_all {t : Tr} (h : t.sg ≠ 0) : halv t t.sg = (some t, none) := by
  cases t with
  | lf l => have h : l.length ≠ 0 := h; show (if l.length = 0 then _ else if l.length = l.length then _ else _) = _; rw [if_neg h, if_pos rfl]
  | fk a b => show (if (fk a b).sg = 0 then _ else if (fk a b).sg = (fk a b).sg then _ else _) = _; rw [if_neg h, if_pos rfl]
theorem halv_l {a b : Tr} {n : Nat} (h0 : n ≠ 0) (h : n < a.sg) : halv (fk a b) n = ((halv a n).1, joinedO (halv a n).2 (some b)) := by
  have e : (fk a b).sg = a.sg + b.sg := rfl
  show (if n = 0 then _ else if n = (fk a b).sg then _ else if n < a.sg then _ else _) = _
  rw [if_neg h0, if_neg (by omega), if_pos h]
theorem halv_r {a b : Tr} {n : Nat} (h0 : n ≠ 0) (h1 : n ≠ (fk a b).sg) (h : ¬ n < a.sg) : halv (fk a b) n = (joinedO (some a) (halv b (n - a.sg)).1, (halv b (n - a.sg)).2) := by
  show (if n = 0 then _ else if n = (fk a b).sg then _ else if n < a.sg then _ else _) = _
  rw [if_neg h0, if_neg h1, if_neg h]
theorem chal_l {a b : Tr} {n : Nat} (h0 : n ≠ 0) (h : n < a.sg) : chl (fk a b) n = chl a n ∧ chr' (fk a b) n = chr' a n + cjoin (halv a n).2 (some b) := by
  have e : (fk a b).sg = a.sg + b.sg := rfl
  constructor
  · show (if n = 0 then 0 else if n = (fk a b).sg then 0 else if n < a.sg then chl a n else _) = _
    rw [if_neg h0, if_neg (by omega), if_pos h]
  · show (if n = 0 then 0 else if n = (fk a b).sg then 0 else if n < a.sg then _ else _) = _
    rw [if_neg h0, if_neg (by omega), if_pos h]
theorem chal_r {a b : Tr} {n : Nat} (h0 : n ≠ 0) (h1 : n ≠ (fk a b).sg) (h : ¬ n < a.sg) : chl (fk a b) n = chl b (n - a.sg) + cjoin (some a) (halv b (n - a.sg)).1 ∧ chr' (fk a b) n = chr' b (n - a.sg) := by
  constructor
  · show (if n = 0 then 0 else if n = (fk a b).sg then 0 else if n < a.sg then _ else _) = _
    rw [if_neg h0, if_neg h1, if_neg h]
  · show (if n = 0 then 0 else if n = (fk a b).sg then 0 else if n < a.sg then _ else _) = _
    rw [if_neg h0, if_neg h1, if_neg h]
structure HalvOk (t : Tr) (n : Nat) (p : Option Tr × Option Tr) : Prop where
  o1 : OkO p.1
  o2 : OkO p.2
  x1 : oX p.1 = t.txt.take n
  x2 : oX p.2 = t.txt.drop n
theorem HalvOk.s1 {t : Tr} {n : Nat} {p : Option Tr × Option Tr} (h : HalvOk t n p) (hn : n ≤ t.sg) : oS p.1 = n := by
  have := congrArg List.length h.x1
  rw [oS_txt, List.length_take, sg_txt] at this; omega
theorem HalvOk.s2 {t : Tr} {n : Nat} {p : Option Tr × Option Tr} (h : HalvOk t n p) : oS p.2 = t.sg - n := by
  have := congrArg List.length h.x2
  rw [oS_txt, List.length_drop, sg_txt] at this; exact this
theorem okO_some {t : Tr} (o : Ok t) : OkO (some t) := fun u e => by cases e; exact o
theorem okO_none : OkO none := fun u e => nomatch e
theorem halv_ok : ∀ {t : Tr} {n : Nat}, Ok t → n ≤ t.sg → HalvOk t n (halv t n)
  | .lf l, n, o, h => by
    show HalvOk _ _ (if n = 0 then _ else if n = l.length then _ else _)
    have h : n ≤ l.length := h
    by_cases h0 : n = 0
    · subst h0
      rw [if_pos rfl]
      exact ⟨okO_none, okO_some o, rfl, rfl⟩
    rw [if_neg h0]
    by_cases h1 : n = l.length
    · subst h1
      rw [if_pos rfl]
      exact ⟨okO_some o, okO_none, (List.take_length).symm, (List.drop_length).symm⟩
    rw [if_neg h1]
    refine ⟨okO_some ⟨?_, ?_, fun c hc => o.2.2 c (List.mem_of_mem_take hc)⟩, okO_some ⟨?_, ?_, fun c hc => o.2.2 c (List.mem_of_mem_drop hc)⟩, rfl, rfl⟩
    · rw [List.length_take]; omega
    · rw [List.length_take]; have := o.2.1; omega
    · rw [List.length_drop]; omega
    · rw [List.length_drop]; have := o.2.1; omega
  | .fk a b, n, o, h => by
    have es : (fk a b).sg = a.sg + b.sg := rfl
    obtain ⟨oa, ob, _, _, _, hm⟩ := id o
    have la : a.txt.length = a.sg := sg_txt a
    have lb : b.txt.length = b.sg := sg_txt b
    by_cases h0 : n = 0
    · subst h0
      rw [halv_0]
      exact ⟨okO_none, okO_some o, rfl, rfl⟩
    by_cases h1 : n = (fk a b).sg
    · subst h1
      rw [halv_all (by have := o.pos; omega)]
      refine ⟨okO_some o, okO_none, ?_, ?_⟩
      · rw [← sg_txt (fk a b), List.take_length]; rfl
      · rw [← sg_txt (fk a b), List.drop_length]; rfl
    by_cases h2 : n < a.sg
    · rw [halv_l h0 h2]
      have ih := halv_ok (t := a) (n := n) oa (by omega)
      have s2 := ih.s2
      obtain ⟨j1, j2, _⟩ := joinedO_ok ih.o2 (okO_some ob) (by show oS _ + b.sg ≤ _; omega)
      refine ⟨ih.o1, j1, ?_, ?_⟩
      · show oX (halv a n).1 = (a.txt ++ b.txt).take n
        rw [ih.x1, List.take_append_of_le_length (by omega)]
      · show oX (joinedO (halv a n).2 (some b)) = (a.txt ++ b.txt).drop n
        rw [j2, ih.x2, List.drop_append_of_le_length (by omega)]; rfl
    · rw [halv_r h0 h1 h2]
      have ih := halv_ok (t := b) (n := n - a.sg) ob (by omega)
      have s1 := ih.s1 (by omega)
      obtain ⟨j1, j2, _⟩ := joinedO_ok (okO_some oa) ih.o1 (by show a.sg + oS _ ≤ _; omega)
      refine ⟨j1, ih.o2, ?_, ?_⟩
      · show oX (joinedO (some a) (halv b (n - a.sg)).1) = (a.txt ++ b.txt).take n
        rw [j2, ih.x1, List.take_append, List.take_of_length_le (l := a.txt) (by omega), la]; rfl
      · show oX (halv b (n - a.sg)).2 = (a.txt ++ b.txt).drop n
        rw [ih.x2, List.drop_append, List.drop_eq_nil_of_le (as := a.txt) (by omega), List.nil_append, la]
/-! ### what a leaf's rest is joined to -/
theorem join_leaf_l {w : List Nat} {b : Tr} (ow : Ok (lf w)) (ob : Ok b) (s : w.length + b.sg ≤ mostSg) : ∃ t, joinedO (some (lf w)) (some b) = some t ∧ t.ht ≤ b.ht + 1 ∧ b.la.sg ≤ t.la.sg ∧ cjoin (some (lf w)) (some b) ≤ 11 * b.ht + 8 := by
  have el : (lf w).la = lf w := rfl
  have es : (lf w).sg = w.length := rfl
  have eh : (lf w).ht = 0 := rfl
  by_cases h : (lf w).la.sg + b.fi.sg ≤ 8
  · have ej : joinedO (some (lf w)) (some b) = poured (lf w) b := by show (if _ then _ else _) = _; rw [if_pos h]
    have ec : cjoin (some (lf w)) (some b) = cpour (lf w) b := by show (if _ then _ else _) = _; rw [if_pos h]
    obtain ⟨t, e, jo, hc, _⟩ := poured_ok ow ob h (by rw [es]; exact s)
    rw [ej, ec]
    refine ⟨t, e, ?_, ?_, by omega⟩
    · have unf : poured (lf w) b = linkedO (some (amid (lf w) b)) (wf b) := rfl
      rw [unf] at e
      cases ew : wf b with
      | none =>
        rw [ew] at e
        cases e
        show 0 ≤ _; omega
      | some b' =>
        rw [ew] at e
        have k := (wf_ok ob ew).1
        have e : some (linked (amid (lf w) b) b') = some t := e
        cases e
        have am := amid_ok ow ob h
        have j : Jn (amid (lf w) b) b' := by
          refine ⟨am, k.ok, ?_, ?_⟩
          · have := amid_sg (lf w) b
            obtain ⟨_, _, _, _, jj⟩ := poured_ok ow ob h (by rw [es]; exact s)
            exact (jj (amid (lf w) b) b' rfl ew).cl
          · have := amid_sg (lf w) b
            have := wf_sg2 ob
            rw [ew] at this
            have e2 : oS (some b') = b'.sg := rfl
            have := fi_sg_le b
            rw [el] at *
            omega
        have := j.linked.hi
        have e0 : (amid (lf w) b).ht = 0 := rfl
        have := k.hi
        omega
    · have unf : poured (lf w) b = linkedO (some (amid (lf w) b)) (wf b) := rfl
      rw [unf] at e
      cases ew : wf b with
      | none =>
        rw [ew] at e
        cases e
        obtain ⟨m, rfl⟩ := wf_none ew
        show m.length ≤ (w ++ m).length
        rw [List.length_append]; omega
      | some b' =>
        rw [ew] at e
        have k := (wf_ok ob ew).1
        have e : some (linked (amid (lf w) b) b') = some t := e
        cases e
        obtain ⟨_, _, _, _, jj⟩ := poured_ok ow ob h (by rw [es]; exact s)
        have j : Jn (amid (lf w) b) b' := jj (amid (lf w) b) b' rfl ew
        rw [j.linked.la, k.la]; exact Nat.le_refl _
  · have ej : joinedO (some (lf w)) (some b) = some (linked (lf w) b) := by show (if _ then _ else _) = _; rw [if_neg h]
    have ec : cjoin (some (lf w)) (some b) = clink (lf w) b := by show (if _ then _ else _) = _; rw [if_neg h]
    have j : Jn (lf w) b := ⟨ow, ob, by omega, by rw [es]; exact s⟩
    have := clink_bd ow ob
    have := j.linked.hi
    rw [ej, ec]
    exact ⟨_, rfl, by omega, by rw [j.linked.la]; exact Nat.le_refl _, by omega⟩
theorem join_leaf_r {w : List Nat} {a : Tr} (oa : Ok a) (ow : Ok (lf w)) (s : a.sg + w.length ≤ mostSg) : ∃ t, joinedO (some a) (some (lf w)) = some t ∧ t.ht ≤ a.ht + 1 ∧ a.fi.sg ≤ t.fi.sg ∧ cjoin (some a) (some (lf w)) ≤ 11 * a.ht + 8 := by
  have el : (lf w).fi = lf w := rfl
  have es : (lf w).sg = w.length := rfl
  have eh : (lf w).ht = 0 := rfl
  by_cases h : a.la.sg + (lf w).fi.sg ≤ 8
  · have ej : joinedO (some a) (some (lf w)) = poured a (lf w) := by show (if _ then _ else _) = _; rw [if_pos h]
    have ec : cjoin (some a) (some (lf w)) = cpour a (lf w) := by show (if _ then _ else _) = _; rw [if_pos h]
    obtain ⟨t, e, jo, hc, _⟩ := poured_ok oa ow h (by rw [es]; exact s)
    obtain ⟨t1, e1, o1, x1, la1, h1, h2, s1, j1⟩ := pour1 oa ow h (by rw [es]; exact s)
    rw [ej, ec]
    have unf : poured a (lf w) = linkedO (linkedO (wl a) (some (amid a (lf w)))) none := rfl
    rw [unf, e1] at e
    cases e
    refine ⟨t, by rw [unf, e1]; rfl, h1, ?_, by omega⟩
    cases ew : wl a with
    | none =>
      rw [ew] at e1
      cases e1
      obtain ⟨m, rfl⟩ := wl_none ew
      show m.length ≤ (m ++ w).length
      rw [List.length_append]; omega
    | some a' =>
      rw [ew] at e1
      have k := (wl_ok oa ew).1
      have e1 : some (linked a' (amid a (lf w))) = some t := e1
      cases e1
      have j := (j1 a' ew).1
      rw [j.linked.fi, k.fi]; exact Nat.le_refl _
  · have ej : joinedO (some a) (some (lf w)) = some (linked a (lf w)) := by show (if _ then _ else _) = _; rw [if_neg h]
    have ec : cjoin (some a) (some (lf w)) = clink a (lf w) := by show (if _ then _ else _) = _; rw [if_neg h]
    have j : Jn a (lf w) := ⟨oa, ow, by omega, by rw [es]; exact s⟩
    have := clink_bd oa ow
    have := j.linked.hi
    rw [ej, ec]
    exact ⟨_, rfl, by omega, by rw [j.linked.fi]; exact Nat.le_refl _, by omega⟩
theorem join_tight {a b : Tr} (oa : Ok a) (ob : Ok b) (h : 8 < a.la.sg + b.fi.sg) (s : a.sg + b.sg ≤ mostSg) : joinedO (some a) (some b) = some (linked a b) ∧ cjoin (some a) (some b) ≤ 3 * (a.ht - b.ht - 1 + (b.ht - a.ht - 1)) + 1 ∧ LevOk a b (linked a b) (max a.ht b.ht) (max a.ht b.ht + 1) := by
  have ej : joinedO (some a) (some b) = some (linked a b) := by show (if _ then _ else _) = _; rw [if_neg (by omega)]
  have ec : cjoin (some a) (some b) = clink a b := by show (if _ then _ else _) = _; rw [if_neg (by omega)]
  exact ⟨ej, by rw [ec]; exact clink_bd oa ob, Jn.linked ⟨oa, ob, h, s⟩⟩
theorem chr_le : ∀ {t : Tr} {n : Nat}, Ok t → n ≤ t.sg → (∀ x, (halv t n).2 = some x → x.ht ≤ t.ht ∧ (((∃ w, x = lf w) ∧ chr' t n = 0) ∨ (t.la.sg ≤ x.la.sg ∧ chr' t n ≤ 3 * x.ht + 12 * t.ht + 8))) ∧ ((halv t n).2 = none → chr' t n = 0)
  | .lf l, n, o, h => by
    refine ⟨fun x e => ?_, fun _ => rfl⟩
    have : ∃ w, x = lf w := by
      revert e
      show (if n = 0 then _ else if n = l.length then _ else _ : Option Tr × Option Tr).2 = some x → _
      split
      · intro e; cases e; exact ⟨l, rfl⟩
      · split
        · intro e; cases e
        · intro e; cases e; exact ⟨_, rfl⟩
    obtain ⟨w, rfl⟩ := this
    exact ⟨Nat.le_refl _, .inl ⟨⟨w, rfl⟩, rfl⟩⟩
  | .fk a b, n, o, h => by
    have es : (fk a b).sg = a.sg + b.sg := rfl
    have eh : (fk a b).ht = 1 + max a.ht b.ht := rfl
    have el : (fk a b).la = b.la := rfl
    obtain ⟨oa, ob, l1, l2, cl, hm⟩ := id o
    by_cases h0 : n = 0
    · subst h0
      rw [halv_0]
      have c0 : chr' (fk a b) 0 = 0 := rfl
      rw [c0]
      refine ⟨fun x e => ?_, fun e => nomatch e⟩
      cases e
      exact ⟨Nat.le_refl _, .inr ⟨Nat.le_refl _, by omega⟩⟩
    by_cases h1 : n = (fk a b).sg
    · have c0 : chr' (fk a b) n = 0 := by show (if n = 0 then 0 else if n = (fk a b).sg then 0 else _) = 0; rw [if_neg h0, if_pos h1]
      subst h1
      rw [halv_all (by have := o.pos; omega), c0]
      exact ⟨(fun x e => nomatch e), fun _ => rfl⟩
    by_cases h2 : n < a.sg
    · rw [halv_l h0 h2, (chal_l h0 h2).2]
      obtain ⟨ih, ihn⟩ := chr_le (t := a) (n := n) oa (by omega)
      have ok := halv_ok (t := a) (n := n) oa (by omega)
      have s2 := ok.s2
      dsimp only
      cases e : (halv a n).2 with
      | none =>
        rw [e] at s2
        have : (0 : Nat) = a.sg - n := s2
        omega
      | some x =>
        rw [e] at s2
        have s2 : x.sg = a.sg - n := s2
        have ox : Ok x := ok.o2 x e
        obtain ⟨hx, hc⟩ := ih x e
        rcases hc with ⟨⟨w, rfl⟩, c0⟩ | ⟨tl, cc⟩
        · have es2 : (lf w).sg = w.length := rfl
          obtain ⟨t, e1, e2, e3, e4⟩ := join_leaf_l ox ob (by omega)
          rw [e1, c0]
          refine ⟨fun y ey => ?_, fun z => nomatch z⟩
          cases ey
          exact ⟨by omega, .inr ⟨by rw [el]; exact e3, by omega⟩⟩
        · obtain ⟨e1, e2, e3⟩ := join_tight ox ob (by omega) (by omega)
          rw [e1]
          have lo := e3.lo
          have hi := e3.hi
          refine ⟨fun y ey => ?_, fun z => nomatch z⟩
          cases ey
          exact ⟨by omega, .inr ⟨by rw [el, e3.la]; exact Nat.le_refl _, by omega⟩⟩
    · rw [halv_r h0 h1 h2, (chal_r h0 h1 h2).2]
      obtain ⟨ih, ihn⟩ := chr_le (t := b) (n := n - a.sg) ob (by omega)
      refine ⟨fun x e => ?_, ihn⟩
      obtain ⟨hx, hc⟩ := ih x e
      refine ⟨by omega, hc.imp id fun z => ⟨by rw [el]; exact z.1, by have := z.2; omega⟩⟩
theorem chl_le : ∀ {t : Tr} {n : Nat}, Ok t → n ≤ t.sg → (∀ x, (halv t n).1 = some x → x.ht ≤ t.ht ∧ (((∃ w, x = lf w) ∧ chl t n = 0) ∨ (t.fi.sg ≤ x.fi.sg ∧ chl t n ≤ 3 * x.ht + 12 * t.ht + 8))) ∧ ((halv t n).1 = none → chl t n = 0)
  | .lf l, n, o, h => by
    refine ⟨fun x e => ?_, fun _ => rfl⟩
    have : ∃ w, x = lf w := by
      revert e
      show (if n = 0 then _ else if n = l.length then _ else _ : Option Tr × Option Tr).1 = some x → _
      split
      · intro e; cases e
      · split
        · intro e; cases e; exact ⟨l, rfl⟩
        · intro e; cases e; exact ⟨_, rfl⟩
    obtain ⟨w, rfl⟩ := this
    exact ⟨Nat.le_refl _, .inl ⟨⟨w, rfl⟩, rfl⟩⟩
  | .fk a b, n, o, h => by
    have es : (fk a b).sg = a.sg + b.sg := rfl
    have eh : (fk a b).ht = 1 + max a.ht b.ht := rfl
    have el : (fk a b).fi = a.fi := rfl
    obtain ⟨oa, ob, l1, l2, cl, hm⟩ := id o
    by_cases h0 : n = 0
    · subst h0
      rw [halv_0]
      have c0 : chl (fk a b) 0 = 0 := rfl
      rw [c0]
      exact ⟨(fun x e => nomatch e), fun _ => rfl⟩
    by_cases h1 : n = (fk a b).sg
    · have c0 : chl (fk a b) n = 0 := by show (if n = 0 then 0 else if n = (fk a b).sg then 0 else _) = 0; rw [if_neg h0, if_pos h1]
      subst h1
      rw [halv_all (by have := o.pos; omega), c0]
      refine ⟨fun x e => ?_, fun e => nomatch e⟩
      cases e
      exact ⟨Nat.le_refl _, .inr ⟨Nat.le_refl _, by omega⟩⟩
    by_cases h2 : n < a.sg
    · rw [halv_l h0 h2, (chal_l h0 h2).1]
      obtain ⟨ih, ihn⟩ := chl_le (t := a) (n := n) oa (by omega)
      refine ⟨fun x e => ?_, ihn⟩
      obtain ⟨hx, hc⟩ := ih x e
      refine ⟨by omega, hc.imp id fun z => ⟨by rw [el]; exact z.1, by have := z.2; omega⟩⟩
    · rw [halv_r h0 h1 h2, (chal_r h0 h1 h2).1]
      obtain ⟨ih, ihn⟩ := chl_le (t := b) (n := n - a.sg) ob (by omega)
      have ok := halv_ok (t := b) (n := n - a.sg) ob (by omega)
      have s1 := ok.s1 (by omega)
      dsimp only
      cases e : (halv b (n - a.sg)).1 with
      | none =>
        refine ⟨fun x ex => ?_, fun z => nomatch z⟩
        cases ex
        have c0 := ihn e
        have c1 : cjoin (some a) none = 0 := rfl
        rw [c0, c1]
        exact ⟨by omega, .inr ⟨Nat.le_refl _, by omega⟩⟩
      | some x =>
        rw [e] at s1
        have s1 : x.sg = n - a.sg := s1
        have ox : Ok x := ok.o1 x e
        obtain ⟨hx, hc⟩ := ih x e
        rcases hc with ⟨⟨w, rfl⟩, c0⟩ | ⟨tl, cc⟩
        · have es2 : (lf w).sg = w.length := rfl
          obtain ⟨t, e1, e2, e3, e4⟩ := join_leaf_r oa ox (by omega)
          rw [e1, c0]
          refine ⟨fun y ey => ?_, fun z => nomatch z⟩
          cases ey
          exact ⟨by omega, .inr ⟨by rw [el]; exact e3, by omega⟩⟩
        · obtain ⟨e1, e2, e3⟩ := join_tight oa ox (by omega) (by omega)
          rw [e1]
          have lo := e3.lo
          have hi := e3.hi
          refine ⟨fun y ey => ?_, fun z => nomatch z⟩
          cases ey
          exact ⟨by omega, .inr ⟨by rw [el, e3.fi]; exact Nat.le_refl _, by omega⟩⟩
theorem chal_le {t : Tr} {n : Nat} (o : Ok t) (h : n ≤ t.sg) : chal t n ≤ 30 * t.ht + 18 := by
  have hl : chl t n ≤ 15 * t.ht + 8 := by
    obtain ⟨k, kn⟩ := chl_le o h
    cases e : (halv t n).1 with
    | none => rw [kn e]; omega
    | some x =>
      obtain ⟨hx, z | z⟩ := k x e
      · rw [z.2]; omega
      · have := z.2; omega
  have hr : chr' t n ≤ 15 * t.ht + 8 := by
    obtain ⟨k, kn⟩ := chr_le o h
    cases e : (halv t n).2 with
    | none => rw [kn e]; omega
    | some x =>
      obtain ⟨hx, z | z⟩ := k x e
      · rw [z.2]; omega
      · have := z.2; omega
  unfold chal; omega
theorem halv_low {t : Tr} {n : Nat} (o : Ok t) (h : n ≤ t.sg) : oH (halv t n).1 ≤ t.ht ∧ oH (halv t n).2 ≤ t.ht := by
  constructor
  · cases e : (halv t n).1 with
    | none => exact Nat.zero_le _
    | some x => exact ((chl_le o h).1 x e).1
  · cases e : (halv t n).2 with
    | none => exact Nat.zero_le _
    | some x => exact ((chr_le o h).1 x e).1
theorem chalO_le {o : Option Tr} {n : Nat} (h : OkO o) (hn : n ≤ oS o) : chalO o n ≤ 30 * oH o + 18 := by
  cases o with
  | none => exact Nat.zero_le _
  | some t => exact chal_le (h t rfl) hn
theorem halvO_ok {o : Option Tr} {n : Nat} (h : OkO o) (hn : n ≤ oS o) : OkO (halvO o n).1 ∧ OkO (halvO o n).2 ∧ oX (halvO o n).1 = (oX o).take n ∧ oX (halvO o n).2 = (oX o).drop n ∧ oS (halvO o n).1 = n ∧ oS (halvO o n).2 = oS o - n ∧ oH (halvO o n).1 ≤ oH o ∧ oH (halvO o n).2 ≤ oH o := by
  cases o with
  | none =>
    have : n = 0 := by have hn : n ≤ 0 := hn; omega
    subst this
    exact ⟨okO_none, okO_none, rfl, rfl, rfl, rfl, Nat.le_refl _, Nat.le_refl _⟩
  | some t =>
    have k := halv_ok (h t rfl) hn
    have l := halv_low (h t rfl) hn
    exact ⟨k.o1, k.o2, k.x1, k.x2, k.s1 hn, k.s2, l.1, l.2⟩
/-! ### repeated -/
def repL : Nat → Option Tr → Option Tr → Nat → Option Tr
  | 0, f, _, _ => f
  | n + 1, f, t, m => if m = 0 then f else repL n (if m % 2 = 1 then joinedO f t else f) (joinedO t t) (m / 2)
def repO (o : Option Tr) (k : Nat) : Option Tr := if o = none then none else repL 64 none o k
theorem repL_zero (n : Nat) (f t : Option Tr) : repL n f t 0 = f := by cases n <;> simp [repL]
end Sk

/-! Texts in blocks: plain ones, each so many times. -/
namespace Sk
open PySem PySem.Spec PyProof.Rows L2
/-- the signs between two places that lie in a text, or beyond its ends -/
def cutI (l : List Nat) (b e : Int) : List Nat := (l.take (min e l.length).toNat).drop (max b 0).toNat
theorem cutI_len (l : List Nat) (b e : Int) : (cutI l b e).length ≤ (e - b).toNat := by
  unfold cutI
  rw [List.length_drop, List.length_take]; omega
theorem cutI_none {l : List Nat} {b e : Int} (h : min e l.length ≤ max b 0) : cutI l b e = [] := by
  unfold cutI
  apply List.drop_eq_nil_of_le
  rw [List.length_take]; omega
theorem cutI_app (x y : List Nat) (b e : Int) : cutI (x ++ y) b e = cutI x (max b 0) (min e (x.length + y.length)) ++ cutI y (max b 0 - x.length) (min e (x.length + y.length) - x.length) := by
  unfold cutI
  rw [List.take_append, List.drop_append]
  have lxy : (x ++ y).length = x.length + y.length := List.length_append
  rw [lxy]
  congr 1
  · congr 1
    · omega
    · by_cases h : min e ((x.length : Int) + y.length) ≤ x.length
      · congr 1; omega
      · rw [List.take_of_length_le (by omega), List.take_of_length_le (by omega)]
  · by_cases h : min e ((x.length : Int) + y.length) ≤ x.length
    · rw [show (min e ((x.length + y.length : Nat) : Int)).toNat - x.length = 0 by omega, show (min (min e ((x.length : Int) + y.length) - x.length) (y.length : Int)).toNat = 0 by omega, List.take_zero, List.drop_nil, List.drop_nil]
    · rw [List.take_of_length_le (l := x) (by omega)]
      congr 1
      · omega
      · congr 1; omega
theorem cutI_cut {l : List Nat} {b e b' e' : Int} (hb : max b 0 = max b' 0) (he : min e l.length = min e' l.length) : cutI l b e = cutI l b' e' := by
  unfold cutI
  rw [hb, he]
theorem cutI_in {l : List Nat} {b e : Nat} (h : e ≤ l.length) : cutI l b e = (l.take e).drop b := by
  unfold cutI
  congr 1
  · omega
  · congr 1; omega
theorem cutI_eq {l : List Nat} {b e : Int} (h0 : 0 ≤ b) (h : e ≤ l.length) : cutI l b e = (l.take e.toNat).drop b.toNat := by
  unfold cutI
  congr 1
  · omega
  · congr 1; omega
theorem cutI_cat (x y : List Nat) (b e : Int) : cutI (x ++ y) b e = cutI x b e ++ cutI y (b - x.length) (e - x.length) := by
  rw [cutI_app]
  congr 1
  · exact cutI_cut (by omega) (by omega)
  · by_cases h : b < 0
    · exact cutI_cut (by omega) (by omega)
    · exact cutI_cut (by omega) (by omega)
theorem cutI_all (l : List Nat) : cutI l 0 l.length = l := by
  unfold cutI
  rw [List.take_of_length_le (by omega)]; rfl
/-! ### a text so many times, and a stretch of it -/
theorem take_rp {l : List Nat} {m k s : Nat} (h : k < m) (hs : s ≤ l.length) : (rp m l).take (k * l.length + s) = rp k l ++ l.take s := by
  obtain ⟨j, rfl⟩ : ∃ j, m = k + (j + 1) := ⟨m - k - 1, by omega⟩
  rw [rp_add, List.take_append, rp_len, List.take_of_length_le (by rw [rp_len]; omega), show k * l.length + s - k * l.length = s by omega, rp_succ, List.take_append_of_le_length hs]
theorem part_one {l : List Nat} {m k r s : Nat} (h : k < m) (hs : s ≤ l.length) : ((rp m l).take (k * l.length + s)).drop (k * l.length + r) = (l.take s).drop r := by
  rw [take_rp h hs, List.drop_append, rp_len, List.drop_eq_nil_of_le (by rw [rp_len]; omega), List.nil_append]
  congr 1; omega
theorem part_more {l : List Nat} {m k j r s : Nat} (h : k + 1 + j < m) (hr : r ≤ l.length) (hs : s ≤ l.length) : ((rp m l).take ((k + 1 + j) * l.length + s)).drop (k * l.length + r) = l.drop r ++ rp j l ++ l.take s := by
  rw [take_rp h hs, rp_add, rp_add, rp_one, List.append_assoc, List.append_assoc, List.drop_append, rp_len, List.drop_eq_nil_of_le (by rw [rp_len]; omega), List.nil_append, show k * l.length + r - k * l.length = r by omega, List.drop_append_of_le_length hr, List.append_assoc]
/-- what blocks read as -/
def bX : List (List Nat × Nat) → List Nat
  | [] => []
  | p :: B => rp p.2 p.1 ++ bX B
theorem bX_app : ∀ (B C : List (List Nat × Nat)), bX (B ++ C) = bX B ++ bX C
  | [], _ => rfl
  | p :: B, C => by
    show rp p.2 p.1 ++ bX (B ++ C) = _
    rw [bX_app B C, ← List.append_assoc]; rfl
theorem bX_one (p : List Nat × Nat) : bX [p] = rp p.2 p.1 := List.append_nil _
theorem bX_snoc {B : List (List Nat × Nat)} {i : Nat} {p : List Nat × Nat} (h : B[i]? = some p) : bX (B.take (i + 1)) = bX (B.take i) ++ rp p.2 p.1 := by
  have e : B.take (i + 1) = B.take i ++ [p] := by rw [List.take_add_one, h]; rfl
  rw [e, bX_app, bX_one]
theorem bX_le {B : List (List Nat × Nat)} (i : Nat) : (bX (B.take i)).length ≤ (bX B).length := by
  have : bX B = bX (B.take i) ++ bX (B.drop i) := by rw [← bX_app, List.take_append_drop]
  rw [this, List.length_append]; omega
theorem bX_mem {B : List (List Nat × Nat)} {p : List Nat × Nat} (h : p ∈ B) : p.2 * p.1.length ≤ (bX B).length := by
  obtain ⟨i, hi, e⟩ := List.getElem_of_mem h
  have := bX_snoc (B := B) (i := i) (p := p) (by rw [List.getElem?_eq_getElem hi, e])
  have l := bX_le (B := B) (i + 1)
  rw [this, List.length_append, rp_len] at l
  omega
/-- a block that is one -/
def GoodB (p : List Nat × Nat) : Prop := p.1 ≠ [] ∧ p.1.length ≤ 20 ∧ 0 < p.2 ∧ Plain p.1
theorem fore_at {α : Type} {xs : List α} {f : α → V} {d : Int} (h0 : 0 ≤ d) (h : d < xs.length) : ∃ x ∈ xs, atI (xs.map f) d = some (f x) := by
  have hd : d.toNat < xs.length := by omega
  refine ⟨xs[d.toNat], List.getElem_mem hd, ?_⟩
  unfold atI ixN
  rw [List.length_map, if_pos h0, if_pos h]
  show (xs.map f)[d.toNat]? = _
  rw [List.getElem?_map, List.getElem?_eq_getElem hd]; rfl
theorem back_at {α : Type} {xs : List α} {f : α → V} {d : Int} (h0 : 0 ≤ d) (h : d < xs.length) : ∃ x ∈ xs, atI (xs.map f) (-1 - d) = some (f x) := by
  have hd : (-1 - d + (xs.length : Int)).toNat < xs.length := by omega
  refine ⟨xs[(-1 - d + (xs.length : Int)).toNat], List.getElem_mem hd, ?_⟩
  unfold atI ixN
  rw [List.length_map, if_neg (by omega), if_pos (by omega)]
  show (xs.map f)[(-1 - d + (xs.length : Int)).toNat]? = _
  rw [List.getElem?_map, List.getElem?_eq_getElem hd]; rfl
end Sk

/-! == and != of lists of ints. -/
namespace Sk
open PySem PySem.Spec PyProof.Rows L2

section
variable {K : PySem.W.Frag} {H : Hp} {Q : VK}
theorem dpA_ints : ∀ ns : List Int, DpAll K H (ns.map V.int) (ns.map PyData.int)
  | [] => .nil
  | n :: ns => .cons (.int n) (dpA_ints ns)
theorem dp_ints {a : Addr} {ns : List Int} (s : SqL K H a (ns.map V.int)) : Dp K H (.ref a) (.list (ns.map PyData.int)) := .lst s (dpA_ints ns)
theorem lay_ints : ∀ ns : List Int, PyData.canLayAll0 (ns.map PyData.int) = true
  | [] => rfl
  | n :: ns => by show (true && PyData.canLayAll0 (ns.map PyData.int)) = true; rw [lay_ints ns]; rfl
theorem dep_ints : ∀ ns : List Int, PyData.depthAll (ns.map PyData.int) ≤ 1
  | [] => by decide
  | n :: ns => by
    have := dep_ints ns
    show max (PyData.depth (.int n)) (PyData.depthAll (ns.map PyData.int)) ≤ 1
    have e : PyData.depth (.int n) ≤ 1 := Nat.zero_le _
    omega
theorem shaped_ints (ns : List Int) : SeqAt.shaped (.list (ns.map PyData.int)) = true := by
  unfold SeqAt.shaped
  rw [Bool.and_eq_true]
  refine ⟨lay_ints ns, ?_⟩
  have := dep_ints ns
  rw [decide_eq_true_eq]
  show PyData.depthAll (ns.map PyData.int) + 1 ≤ 64
  omega
theorem eqv_ints : ∀ ns ms : List Int, PyData.eqvAll (ns.map PyData.int) (ms.map PyData.int) = decide (ns = ms)
  | [], [] => by simp [PyData.eqvAll]
  | [], m :: ms => by simp [PyData.eqvAll]
  | n :: ns, [] => by simp [PyData.eqvAll]
  | n :: ns, m :: ms => by
    show ((n == m) && PyData.eqvAll (ns.map PyData.int) (ms.map PyData.int)) = _
    rw [eqv_ints ns ms]
    by_cases h1 : n = m <;> by_cases h2 : ns = ms <;> simp [h1, h2]
theorem w_neLs {a b : Addr} {ns ms : List Int} (s : SqL K H a (ns.map V.int)) (t : SqL K H b (ms.map V.int)) (k : Q (.bl (!decide (ns = ms))) H) : rNeD K (.ref a) (.ref b) H Q :=
  ⟨_, _, dp_ints s, dp_ints t, shaped_ints ns, shaped_ints ms, by
    show Q (.bl (!PyData.eqvAll (ns.map PyData.int) (ms.map PyData.int))) H
    rw [eqv_ints]; exact k⟩
theorem w_eqLs {a b : Addr} {ns ms : List Int} (s : SqL K H a (ns.map V.int)) (t : SqL K H b (ms.map V.int)) (k : Q (.bl (decide (ns = ms))) H) : rEqD K (.ref a) (.ref b) H Q :=
  ⟨_, _, dp_ints s, dp_ints t, shaped_ints ns, shaped_ints ms, by
    show Q (.bl (PyData.eqvAll (ns.map PyData.int) (ms.map PyData.int))) H
    rw [eqv_ints]; exact k⟩
end
end Sk

/-! d.keys() as a value, and sorted of it: keys that are ints (any number of them), or texts (below 64). -/
namespace Sk
open PySem PySem.Spec PyProof.Rows L2

def keysO (p d : Addr) : HO := .ext fun h => PySem.W.KdlKeysView h p d
section
variable {X : Cx}
def rKeys : V → List V → Hp → VK → Prop := fun x xs H Q => ∃ (a : Addr) (kvs : List (Key × V)), x = .ref a ∧ xs = [] ∧ H a = some (.dK kvs) ∧ ∀ p, H p = none → Q (.ref p) (upd H p (keysO p a))
theorem mt_dkeys : MtR X "dict.keys" rKeys := fun pins s σ H x xs v us Q I rx rxs h => by
  obtain ⟨d, kvs, rfl, rfl, hd, q⟩ := h
  cases rx; cases rxs
  obtain ⟨_, lo, vs, _, dd⟩ := dk_of I.hok hd
  have fresh : H s.heap.objs.size = none := I.hok.fresh (Nat.le_refl _)
  have new : (s.heap.push { cls := .type "dict_keys", data := .fields #[.ref d] }).get? s.heap.objs.size = some { cls := .type "dict_keys", data := .fields #[.ref d] } := Heap.get?_push_size _ rfl
  have oo : ObjOk X.prog X.w (upd H s.heap.objs.size (keysO s.heap.objs.size d)) (s.heap.push { cls := .type "dict_keys", data := .fields #[.ref d] }) s.heap.objs.size (keysO s.heap.objs.size d) :=
    ⟨⟨_, new, rfl, rfl⟩, ⟨_, new⟩, fun h1 h2 y k => let ⟨o, ho, r⟩ := y; ⟨o, k o ho, r⟩⟩
  refine call_meetsIn F.slot_dict_keys dd.typeIs F.entry_dict_keys (F.args_dict_keys_1 _) (PySem.W.kdl_meets_keys (mixKind X.prog X.w) d lo) ⟨⟨vs, dd⟩, ?_⟩
  exact ⟨.ref s.heap.objs.size, upd H s.heap.objs.size (keysO s.heap.objs.size d), I.laid (t' := s.toks) (fun b u e => Heap.get?_push_of_some _ e) (Nat.le_refl _) oo, rfl, q _ fresh⟩
/-- sorted(d.keys()), the keys ints -/
def rSortK : List V → Hp → VK → Prop := fun vs H Q => ∃ (p a : Addr) (kvs : List (Key × V)) (ks : List Int), vs = [.ref p] ∧ H p = some (keysO p a) ∧ H a = some (.dK kvs) ∧ kvs.map (·.1) = ks.map Sum.inl ∧
  ∀ (ns : List Int) (r : Addr), ns.Perm ks → ns.Pairwise (· ≤ ·) → H r = none → Q (.ref r) (upd H r (.lst (ns.map V.int)))
theorem cr_sortedK (hcalm : X.calm = true) : CallR X (.builtin "sorted") rSortK := fun pins s σ H xs us Q I r q => by
  obtain ⟨p, a, kvs, ks, ex, hp, hd, hks, q⟩ := q
  subst ex
  obtain ⟨u, eu, rx⟩ := vals1 r
  subst eu; cases rx
  have view : PySem.W.KdlKeysView s.heap p a := (show ObjOk X.prog X.w H s.heap p (keysO p a) from I.hok p _ hp).1
  obtain ⟨zl, lo, vs, rel, dd⟩ := dk_of I.hok hd
  obtain ⟨ep, hat⟩ := dd.dictAt
  have hkeys : vs.map (·.1) = ks.map Sum.inl := rel.keys.symm.trans hks
  have lk : kvs.length = ks.length := by simpa using congrArg List.length hks
  have hl : vs.length = ks.length := by simpa using congrArg List.length hkeys
  have hz : ks.length ≤ sizeLine := by omega
  refine Calls.call_function_entry kind_sorted plain_sorted entry_sorted (args_sorted1 _) ?_
  unfold Builtin.«sorted»
  refine wpAny_bind (m := checkCount "sorted" 1 1 _) (wpAny_pure (wpAny_bind ?_))
  refine PySem.W.kdu_collect (A := X.A.in1) (PySem.W.kdl_keys (knd := mixKind X.prog X.w) (kvs := vs) (ep := ep)) (I.ok.hd hcalm) ⟨view, hat⟩ (by omega) fun h1 tk acc hk hacc => ?_
  have la : acc.toList.length = ks.length := by rw [Array.length_toList, hacc.1, hl]
  have hS : IntsAre acc.toList ks := ints_each la fun j v e => by
    obtain ⟨k, x, e1, e2⟩ := hacc.2 j v ((Array.getElem?_toList ..).symm.trans e)
    have e3 : (vs.map (·.1))[j]? = some k := by simp [e1]
    rw [hkeys, List.getElem?_map] at e3
    cases e4 : ks[j]? with
    | none => rw [e4] at e3; cases e3
    | some y =>
      rw [e4] at e3
      obtain rfl : Sum.inl y = k := Option.some.inj e3
      rcases keyIs_shape (show keyIs (Sum.inl y) v = true from e2) with ⟨i, t, ek, ev⟩ | ⟨z, t, ek, ev⟩
      · cases ek; exact ⟨y, t, rfl, ev⟩
      · cases ek
  have I1 : Inv X pins σ H { s with heap := h1, toks := tk } := I.kept hk
  refine wpAny_bind (wpAny_newList ?_ (by omega))
  have hoL : (h1.push (seqObj "list" acc.toList.toArray 0)).get? h1.objs.size = some (seqObj "list" acc.toList.toArray 0) := Heap.get?_push_size _ rfl
  show wpAny _ _ _ _ _ { s with heap := h1.push (seqObj "list" acc.toList.toArray 0), toks := tk }
  refine wpAny_bind (wpAny_holding ?_)
  refine wpAny_call_entry slot_list_sort ⟨_, hoL, rfl⟩ entry_list_sort ?_ (args_list_sort _)
  refine SrtO.list_sort_ord (s := { s with heap := h1.push (seqObj "list" acc.toList.toArray 0), toks := tk }) SrtO.swo_int hoL (by omega) (fun h2 => SrtO.ints_sortable hS h2) fun out g1 g2 => ⟨_, rfl, ?_⟩
  obtain ⟨k1, k2, k3⟩ := SrtO.ints_out hS g1 g2
  obtain ⟨e', he'⟩ := sortedHeap_at (vs := acc.toList) (out := out.toArray) hoL
  have hlen : ((out.map SrtO.iv).map V.int).length ≤ sizeLine := by rw [List.length_map, k2.length_eq]; exact hz
  have ob : ObjOk X.prog X.w (upd H h1.objs.size (.lst ((out.map SrtO.iv).map V.int))) (sortedHeap (h1.push (seqObj "list" acc.toList.toArray 0)) h1.objs.size acc.toList out.toArray) h1.objs.size (.lst ((out.map SrtO.iv).map V.int)) :=
    ⟨hlen, out, e', vals_of_ints k1, he'⟩
  have old : ∀ b u, h1.get? b = some u → (sortedHeap (h1.push (seqObj "list" acc.toList.toArray 0)) h1.objs.size acc.toList out.toArray).get? b = some u := fun b u e => by
    have hb : b < h1.objs.size := Heap.lt_size e
    have h2 : (h1.push (seqObj "list" acc.toList.toArray 0)).get? b = some u := Heap.get?_push_of_some _ e
    rw [sortedHeap_old (Nat.ne_of_lt hb) (Heap.lt_size h2)]
    exact h2
  exact wpAny_pure ⟨_, rfl, .ref h1.objs.size, _, I1.laid (t' := tk) old (Nat.le_refl _) ob, rfl, q _ _ k2 k3 (I1.hok.fresh (Nat.le_refl _))⟩
end
end Sk

/-! Walks that the hand layer lacks: enumerate(text). -/
namespace Sk
open PySem PySem.Spec PyProof.Rows L2

/-- enumerate(text): each sign in a new pair -/
def Itse (x : Str) : It :=
  ⟨fun i _ => i < x.cps.size, fun i H v H' => ∃ T c, v = .ref T ∧ H T = none ∧ H' = upd H T (.tup [.int (i : Nat), .str ⟨#[c]⟩]) ∧ x.cps[i]? = some c, fun i _ => i = x.cps.size⟩
theorem walk_enumS {x : Str} : Walk (Itse x) x.cps.size (fun _ => True) (fun i H v H' => ∃ T c, v = .ref T ∧ H T = none ∧ H' = upd H T (.tup [.int (i : Nat), .str ⟨#[c]⟩]) ∧ x.cps[i]? = some c) :=
  ⟨fun _ _ hi _ => hi, fun _ _ => rfl, fun _ _ _ _ _ _ y => y⟩
theorem turn_enumS {P : Program} {w : World} {K : PySem.W.Frag} {elts : List Expr} {kk : Nat} {tpos : Pos} (x : Str) (t : Tok) (e it : Addr) :
    Turn P w K (.Tuple elts kk tpos) (Itse x) [e, it] e (fun i h => (∃ old, IsEnum h e it ((i : Nat) : Int) old) ∧ h.IsStrIter it (strIterType x) x t i ∧ e ≠ it) where
  mem := by simp
  obj := fun i h st b hb => by
    obtain ⟨⟨old, he⟩, ⟨o, ho, hc, hd⟩, _⟩ := st
    have e' : b = e ∨ b = it := by simpa using hb
    rcases e' with z | z
    · rw [z]; exact ⟨_, he, fun v q => nomatch q⟩
    · rw [z]; exact ⟨o, ho, fun v q => by rw [hd] at q; cases q⟩
  keep := fun i h h' st k => let ⟨⟨old, he⟩, hi, hne⟩ := st; ⟨⟨old, k e (by simp) _ he⟩, (by obtain ⟨o, ho, hc, hd⟩ := hi; exact ⟨o, k it (by simp) o ho, hc, hd⟩), hne⟩
  item := by
    intro X hP hw hK hc i pins s σ H E I hf st hg
    subst hP hw hK
    obtain ⟨⟨old, he⟩, hit, hne⟩ := st
    have hel : e < s.heap.objs.size := Heap.lt_size he
    have hil : it < s.heap.objs.size := by obtain ⟨_, q, _⟩ := hit; exact Heap.lt_size q
    refine wpAny_pyNext_enum_itemD (Draws.text (A := X.A.in1) (I.ok.hd hc) it x t) he hit hg hne (by simp [hne]) fun u h' tk hu ho hit' hT hsz hk => ?_
    obtain ⟨c, tc, hcx, rfl⟩ := hu
    refine ⟨_, rfl, wpAny_letOwnedTupleGo_enum (s := { s with heap := h', toks := tk + 1 }) ho fun h'' he' sb => ?_⟩
    have hT2 : h''.get? s.heap.objs.size = some { cls := .type "tuple", data := .seq #[.int i tk, .str ⟨#[c]⟩ tc] } := (sb.2 _ (Nat.ne_of_gt hel)).trans hT
    have new : ObjOk X.prog X.w (upd H s.heap.objs.size (.tup [.int (i : Nat), .str ⟨#[c]⟩])) h'' s.heap.objs.size (.tup [.int (i : Nat), .str ⟨#[c]⟩]) :=
      ⟨by show 2 ≤ sizeLine; decide, [.int i tk, .str ⟨#[c]⟩ tc], .cons ⟨_, rfl⟩ (.cons ⟨_, rfl⟩ .nil), ⟨_, hT2, rfl, _, rfl⟩⟩
    have I1 : Inv X pins σ (upd H s.heap.objs.size (.tup [.int (i : Nat), .str ⟨#[c]⟩])) { s with heap := h'', toks := tk + 1 } :=
      I.turnedNew (ch := [e, it]) (fun b ob hb q => (sb.2 b (fun z => hb (by simp [z]))).trans (hk b ob (fun z => hb (by simp [z])) (fun z => hb (by simp [z])) q)) hf (Nat.le_refl _) new
    refine ⟨.ref s.heap.objs.size, _, I1, rfl, ⟨_, c, rfl, I.hok.fresh (Nat.le_refl _), rfl, hcx⟩, ⟨⟨.str ⟨#[c]⟩ tc, ?_⟩, ?_, hne⟩, fun b hb => ?_⟩
    · have e1 : ((i + 1 : Nat) : Int) = (i : Int) + 1 := by omega
      rw [e1]; exact he'
    · obtain ⟨o, ho, hc', hd⟩ := hit'
      exact ⟨o, (sb.2 it (Ne.symm hne)).trans ho, hc', hd⟩
    · have hb' : b < s.heap.objs.size := by
        have e' : b = e ∨ b = it := by simpa using hb
        rcases e' with z | z
        · rw [z]; exact hel
        · rw [z]; exact hil
      rw [upd_ne (Nat.ne_of_lt hb')]
      exact (hf b hb).1
  done := by
    intro X hP hw hK hc i pins s σ H E I hf st hg
    subst hP hw hK
    obtain ⟨⟨old, he⟩, hit, hne⟩ := st
    obtain ⟨f0, f1, f2, f3, f4, f5⟩ := hf it (by simp)
    have hg : i = x.cps.size := hg
    subst hg
    exact wpAny_pyNext_enum_endD (Draws.text (A := X.A.in1) (I.ok.hd hc) it x t) he hit fun h' eb => ⟨rfl, I.turned (t' := s.toks) (fun b o hb q => eb b o hb q) f0 f1 f3 f4 f5⟩
  self := fun A i s Q E st h => let ⟨⟨_, he⟩, _⟩ := st; wpAny_pyIter_enum he h
def iEnumS (ta : TA) : TI := fun σ H R => ta σ H fun vs H1 => ∃ x, vs = [.str x] ∧ R (Itse x) H1
theorem pi_enumS {X : Cx} {e : Expr} {ta : TA} {p pos tpos : Pos} {elts : List Expr} {kk : Nat} (hg : Gl X "enumerate") (hm : X.mg "enumerate" = none) (ha : PA X [e] ta) (hs : starEach [e] X.env = [(false, eval e X.env)] := by rfl) :
    PI X (.Tuple elts kk tpos) (.Call (.Name "enumerate" p) [e] [] pos) (iEnumS ta) := by
  refine ⟨fun pins s σ H R I h => ?_⟩
  refine Call_ (ld_blt I hg hm boot_enumerate (PyProof.Rows.callWith_type1 (thn (ha.run pos pins s σ H _ I h) fun us s1 ⟨vs, H1, I1, r1, q1⟩ => ?_) hs rfl))
  obtain ⟨x, ex, q⟩ := q1
  subst ex
  cases r1 with
  | cons r rr =>
    cases rr
    obtain ⟨t, rfl⟩ := r
    refine call_enumerate_str fun h' he hit hsz hk => wpAny_pyIter_enum he ?_
    have I2 : Inv X pins σ H1 { s1 with heap := h' } := I1.kept (t' := s1.toks) hk
    refine ⟨s1.heap.objs.size + 1, [s1.heap.objs.size + 1, s1.heap.objs.size], _, _, H1, rfl, I2, turn_enumS x t (s1.heap.objs.size + 1) s1.heap.objs.size, ⟨⟨.none, he⟩, hit, Nat.succ_ne_self _⟩, fun b hb => ?_, q⟩
    have e' : b = s1.heap.objs.size + 1 ∨ b = s1.heap.objs.size := by simpa using hb
    have hle : s1.heap.objs.size ≤ b := by
      rcases e' with z | z
      · rw [z]; exact Nat.le_add_right _ _
      · rw [z]; exact Nat.le_refl _
    exact I1.fpOk hle (I1.hok.fresh hle)
theorem w_enumS {σ : L2.St} {H : Hp} {ta : TA} {R : It → Hp → Prop} (k : ta σ H fun vs H1 => ∃ x, vs = [.str x] ∧ R (Itse x) H1) : iEnumS ta σ H R := k
end Sk

/-! Where line feeds stand in a text, and in a text so many times. -/
namespace Sk
open PySem PySem.Spec PyProof.Rows L2

/-- the places of line feeds, counted from k on -/
def fpF : Nat → List Nat → List Nat
  | _, [] => []
  | k, c :: l => if c = 10 then k :: fpF (k + 1) l else fpF (k + 1) l
abbrev fpos (l : List Nat) : List Nat := fpF 0 l
theorem fpF_app : ∀ (k : Nat) (a b : List Nat), fpF k (a ++ b) = fpF k a ++ fpF (k + a.length) b
  | k, [], b => by simp [fpF]
  | k, c :: a, b => by
    have ih := fpF_app (k + 1) a b
    have e : k + (c :: a).length = k + 1 + a.length := by simp; omega
    rw [List.cons_append, fpF, fpF, ih, e]
    split <;> rfl
theorem fpF_shift (j : Nat) : ∀ (k : Nat) (l : List Nat), fpF (k + j) l = (fpF k l).map (· + j)
  | _, [] => rfl
  | k, c :: l => by
    have ih := fpF_shift j (k + 1) l
    rw [show k + 1 + j = k + j + 1 by omega] at ih
    rw [fpF, fpF, ih]
    split <;> rfl
theorem fpF_len : ∀ (k : Nat) (l : List Nat), (fpF k l).length = l.count 10
  | _, [] => rfl
  | k, c :: l => by
    have ih := fpF_len (k + 1) l
    rw [fpF, List.count_cons]
    by_cases h : c = 10
    · rw [if_pos h, List.length_cons, ih, h]; rfl
    · rw [if_neg h, ih]
      have : (c == 10) = false := by simpa using h
      rw [this]; rfl
theorem fpF_at : ∀ {k : Nat} {l : List Nat} {i p : Nat}, (fpF k l)[i]? = some p → k ≤ p ∧ l[p - k]? = some 10 ∧ (l.take (p - k)).count 10 = i
  | _, [], i, p, h => by cases i <;> cases h
  | k, c :: l, i, p, h => by
    rw [fpF] at h
    by_cases e : c = 10
    · rw [if_pos e] at h
      cases i with
      | zero =>
        cases h
        rw [Nat.sub_self]
        exact ⟨Nat.le_refl _, by rw [e]; rfl, rfl⟩
      | succ i =>
        obtain ⟨h1, h2, h3⟩ := fpF_at (k := k + 1) (l := l) (i := i) (p := p) h
        have q : p - k = (p - (k + 1)) + 1 := by omega
        rw [q]
        exact ⟨by omega, h2, by rw [List.take_succ_cons, e, List.count_cons_self, h3]⟩
    · rw [if_neg e] at h
      obtain ⟨h1, h2, h3⟩ := fpF_at (k := k + 1) (l := l) (i := i) (p := p) h
      have q : p - k = (p - (k + 1)) + 1 := by omega
      rw [q]
      refine ⟨by omega, h2, ?_⟩
      rw [List.take_succ_cons, List.count_cons_of_ne (by simpa using e), h3]
theorem fpos_app (a b : List Nat) : fpos (a ++ b) = fpos a ++ (fpos b).map (· + a.length) := by
  show fpF 0 _ = _
  rw [fpF_app, ← fpF_shift]
theorem fpos_len (l : List Nat) : (fpos l).length = l.count 10 := fpF_len 0 l
theorem fpos_at {l : List Nat} {i p : Nat} (h : (fpos l)[i]? = some p) : l[p]? = some 10 ∧ (l.take p).count 10 = i := by
  obtain ⟨_, h1, h2⟩ := fpF_at h
  rw [Nat.sub_zero] at h1 h2
  exact ⟨h1, h2⟩
theorem fpos_lt {l : List Nat} {i p : Nat} (h : (fpos l)[i]? = some p) : p < l.length := (List.getElem?_eq_some_iff.mp (fpos_at h).1).1
theorem fpos_take {l : List Nat} {i : Nat} {c : Nat} (h : l[i]? = some c) : fpos (l.take (i + 1)) = if c = 10 then fpos (l.take i) ++ [i] else fpos (l.take i) := by
  have e : l.take (i + 1) = l.take i ++ [c] := by rw [List.take_add_one, h]; rfl
  have li : i < l.length := (List.getElem?_eq_some_iff.mp h).1
  have lt : (l.take i).length = i := by rw [List.length_take]; omega
  rw [e, fpos_app, lt]
  show _ ++ (fpF 0 [c]).map _ = _
  rw [fpF]
  by_cases h : c = 10
  · rw [if_pos h, if_pos h]; simp [fpF]
  · rw [if_neg h, if_neg h]; simp [fpF]
/-- where a row begins, and ends -/
def rowB (l : List Nat) (r : Nat) : Nat := if r = 0 then 0 else (fpos l).getD (r - 1) 0 + 1
def rowE (l : List Nat) (r : Nat) : Nat := if r = (fpos l).length then l.length else (fpos l).getD r 0
theorem getD_of {l : List Nat} {i p : Nat} (h : l[i]? = some p) : l.getD i 0 = p := by
  rw [List.getD_eq_getElem?_getD, h]; rfl
theorem get_in {l : List Nat} {i : Nat} (h : i < l.length) : ∃ p, l[i]? = some p := ⟨l[i], List.getElem?_eq_getElem h⟩
theorem rowB_le {l : List Nat} {r : Nat} (h : r ≤ l.count 10) : rowB l r ≤ l.length := by
  unfold rowB
  by_cases z : r = 0
  · rw [if_pos z]; omega
  · rw [if_neg z]
    obtain ⟨p, hp⟩ := get_in (l := fpos l) (i := r - 1) (by rw [fpos_len]; omega)
    rw [getD_of hp]
    have := fpos_lt hp
    omega
theorem rowE_le {l : List Nat} {r : Nat} (h : r ≤ l.count 10) : rowE l r ≤ l.length := by
  unfold rowE
  by_cases z : r = (fpos l).length
  · rw [if_pos z]; omega
  · rw [if_neg z]
    obtain ⟨p, hp⟩ := get_in (l := fpos l) (i := r) (by rw [fpos_len] at z ⊢; omega)
    rw [getD_of hp]
    have := fpos_lt hp
    omega
theorem count_take_succ {l : List Nat} {p : Nat} (h : l[p]? = some 10) : (l.take (p + 1)).count 10 = (l.take p).count 10 + 1 := by
  have e : l.take (p + 1) = l.take p ++ [10] := by rw [List.take_add_one, h]; rfl
  rw [e, List.count_append]; rfl
theorem count_take_mono {l : List Nat} {a b : Nat} (h : a ≤ b) : (l.take a).count 10 ≤ (l.take b).count 10 := by
  have : l.take a = (l.take b).take a := by rw [List.take_take]; congr 1; omega
  rw [this]
  exact (List.take_sublist a (l.take b)).count_le _
theorem rowB_cnt {l : List Nat} {r : Nat} (h : r ≤ l.count 10) : (l.take (rowB l r)).count 10 = r := by
  unfold rowB
  by_cases z : r = 0
  · rw [if_pos z, z]; rfl
  · rw [if_neg z]
    obtain ⟨p, hp⟩ := get_in (l := fpos l) (i := r - 1) (by rw [fpos_len]; omega)
    rw [getD_of hp, count_take_succ (fpos_at hp).1, (fpos_at hp).2]
    omega
theorem rowE_cnt {l : List Nat} {r : Nat} (h : r ≤ l.count 10) : (l.take (rowE l r)).count 10 = r := by
  unfold rowE
  by_cases z : r = (fpos l).length
  · rw [if_pos z, List.take_of_length_le (Nat.le_refl _), z, fpos_len]
  · rw [if_neg z]
    obtain ⟨p, hp⟩ := get_in (l := fpos l) (i := r) (by rw [fpos_len] at z ⊢; omega)
    rw [getD_of hp, (fpos_at hp).2]
/-- a place's row begins no later than it -/
theorem rowB_place {l : List Nat} {p : Nat} (h : p ≤ l.length) : rowB l ((l.take p).count 10) ≤ p := by
  apply Decidable.byContradiction
  intro n
  have hc : (l.take p).count 10 ≤ l.count 10 := (List.take_sublist _ _).count_le _
  obtain ⟨r, er⟩ : ∃ r, (l.take p).count 10 = r := ⟨_, rfl⟩
  rw [er] at n hc
  by_cases z : r = 0
  · rw [z] at n; unfold rowB at n; rw [if_pos rfl] at n; omega
  unfold rowB at n
  rw [if_neg z] at n
  obtain ⟨q, hq⟩ := get_in (l := fpos l) (i := r - 1) (by rw [fpos_len]; omega)
  rw [getD_of hq] at n
  obtain ⟨q1, q2⟩ := fpos_at hq
  have := count_take_mono (l := l) (show p ≤ q by omega)
  omega
theorem rowBE {l : List Nat} {r : Nat} (h : r ≤ l.count 10) : rowB l r ≤ rowE l r := by
  have := rowB_place (l := l) (p := rowE l r) (rowE_le h)
  rw [rowE_cnt h] at this
  exact this
/-- the row: no line feed stands in it -/
def rowT (l : List Nat) (r : Nat) : List Nat := (l.take (rowE l r)).drop (rowB l r)
theorem rowB_app_l {a b : List Nat} {r : Nat} (h : r ≤ a.count 10) : rowB (a ++ b) r = rowB a r := by
  unfold rowB
  by_cases z : r = 0
  · rw [if_pos z, if_pos z]
  · rw [if_neg z, if_neg z, fpos_app]
    obtain ⟨p, hp⟩ := get_in (l := fpos a) (i := r - 1) (by rw [fpos_len]; omega)
    rw [getD_of hp, getD_of (by rw [List.getElem?_append_left (by rw [fpos_len]; omega)]; exact hp)]
theorem rowB_app_r {a b : List Nat} {r : Nat} (h : a.count 10 < r) (h2 : r ≤ a.count 10 + b.count 10) : rowB (a ++ b) r = a.length + rowB b (r - a.count 10) := by
  unfold rowB
  rw [if_neg (by omega), if_neg (by omega), fpos_app]
  obtain ⟨p, hp⟩ := get_in (l := fpos b) (i := r - a.count 10 - 1) (by rw [fpos_len]; omega)
  rw [getD_of hp, getD_of (p := p + a.length) (by
    rw [List.getElem?_append_right (by rw [fpos_len]; omega), fpos_len, List.getElem?_map, show r - 1 - a.count 10 = r - a.count 10 - 1 by omega, hp]; rfl)]
  omega
/-! ### a text so many times -/
theorem rp_count (l : List Nat) : ∀ m, (rp m l).count 10 = m * l.count 10
  | 0 => by rw [Nat.zero_mul]; rfl
  | m + 1 => by rw [rp_succ, List.count_append, rp_count l m, Nat.succ_mul]; omega
theorem fpos_rp {l : List Nat} : ∀ {m k : Nat}, k < m * l.count 10 → (fpos (rp m l))[k]? = some (k / l.count 10 * l.length + (fpos l).getD (k % l.count 10) 0)
  | 0, k, h => by rw [Nat.zero_mul] at h; omega
  | m + 1, k, h => by
    have f0 : 0 < l.count 10 := by
      rcases Nat.eq_zero_or_pos (l.count 10) with z | z
      · rw [z, Nat.mul_zero] at h; omega
      · exact z
    rw [rp_succ, fpos_app]
    by_cases e : k < l.count 10
    · rw [List.getElem?_append_left (by rw [fpos_len]; exact e), Nat.div_eq_of_lt e, Nat.mod_eq_of_lt e, Nat.zero_mul, Nat.zero_add]
      obtain ⟨p, hp⟩ := get_in (l := fpos l) (i := k) (by rw [fpos_len]; exact e)
      rw [getD_of hp, hp]
    · have ih := fpos_rp (l := l) (m := m) (k := k - l.count 10) (by rw [Nat.succ_mul] at h; omega)
      rw [List.getElem?_append_right (by rw [fpos_len]; omega), List.getElem?_map, fpos_len, ih]
      have d : k / l.count 10 = (k - l.count 10) / l.count 10 + 1 := by
        rw [← Nat.add_div_right _ f0]; congr 1; omega
      have r : k % l.count 10 = (k - l.count 10) % l.count 10 := by
        rw [← Nat.add_mod_right (k - l.count 10)]; congr 1; omega
      rw [d, r, Nat.succ_mul]
      show some (_ + l.length) = some _
      congr 1
      omega
/-- where a row of a text so many times begins -/
theorem rowB_rp {l : List Nat} {m r : Nat} (h0 : 0 < r) (h : r ≤ m * l.count 10) : rowB (rp m l) r = (r - 1) / l.count 10 * l.length + (fpos l).getD ((r - 1) % l.count 10) 0 + 1 := by
  unfold rowB
  rw [if_neg (by omega), getD_of (fpos_rp (by omega))]
theorem rp_take_le {l : List Nat} {a b k : Nat} (h : k ≤ a * l.length) (ab : a ≤ b) : (rp b l).take k = (rp a l).take k := by
  obtain ⟨j, rfl⟩ : ∃ j, b = a + j := ⟨b - a, by omega⟩
  rw [rp_add, List.take_append_of_le_length (by rw [rp_len]; exact h)]
theorem rp_drop {l : List Nat} {m k : Nat} (h : k ≤ m) (s : Nat) : (rp m l).drop (k * l.length + s) = (rp (m - k) l).drop s := by
  obtain ⟨j, rfl⟩ : ∃ j, m = k + j := ⟨m - k, by omega⟩
  rw [rp_add, List.drop_append, rp_len, List.drop_eq_nil_of_le (by rw [rp_len]; omega), List.nil_append]
  congr 2 <;> omega
/-- how many line feeds stand ahead of a place -/
theorem rp_cnt {l : List Nat} {m p : Nat} (h : p ≤ m * l.length) (l0 : 0 < l.length) : ((rp m l).take p).count 10 = p / l.length * l.count 10 + (l.take (p % l.length)).count 10 := by
  by_cases e : p / l.length < m
  · have q := Nat.div_add_mod p l.length
    have s := take_rp (l := l) (m := m) (k := p / l.length) (s := p % l.length) e (Nat.le_of_lt (Nat.mod_lt _ l0))
    rw [Nat.mul_comm, q] at s
    rw [s, List.count_append, rp_count]
  · have q := Nat.div_add_mod p l.length
    have hm := Nat.div_le_of_le_mul (m := p) (k := l.length) (n := m) (by rw [Nat.mul_comm]; exact h)
    have e2 : p / l.length = m := by omega
    have e3 : p % l.length = 0 := by
      rw [e2, Nat.mul_comm] at q
      omega
    rw [e3, e2, List.take_of_length_le (by rw [rp_len]; rw [e2, e3, Nat.mul_comm] at q; omega), rp_count]
    rfl
/-- a row of a text so many times, by three times -/
theorem rowT_rp {l : List Nat} {m b e : Nat} (l0 : 0 < l.length) (be : b ≤ e) (h : e ≤ m * l.length) (s : e - b ≤ 2 * l.length) : ((rp m l).take e).drop b = ((rp 3 l).drop (b % l.length)).take (e - b) := by
  have q := Nat.div_add_mod b l.length
  have bm : b / l.length ≤ m := by
    apply Nat.div_le_of_le_mul
    rw [Nat.mul_comm]; omega
  have r := Nat.mod_lt b l0
  have hd := rp_drop (l := l) (m := m) (k := b / l.length) bm (b % l.length)
  rw [Nat.mul_comm, q] at hd
  have t : ((rp m l).take e).drop b = ((rp m l).drop b).take (e - b) := by rw [List.drop_take]
  rw [t, hd]
  have u : ∀ k, b % l.length + (e - b) ≤ k * l.length → ((rp k l).drop (b % l.length)).take (e - b) = ((rp k l).take (b % l.length + (e - b))).drop (b % l.length) := fun k _ => by
    rw [List.drop_take]; congr 1; omega
  have hk : b % l.length + (e - b) ≤ (m - b / l.length) * l.length := by
    have z : (m - b / l.length) * l.length = m * l.length - b / l.length * l.length := Nat.sub_mul ..
    have z2 : b / l.length * l.length = l.length * (b / l.length) := Nat.mul_comm ..
    omega
  have h3 : b % l.length + (e - b) ≤ 3 * l.length := by omega
  rw [u _ hk, u _ h3]
  congr 1
  by_cases c : m - b / l.length ≤ 3
  · exact (rp_take_le hk c).symm
  · exact rp_take_le h3 (by omega)
/-- no row is longer -/
theorem row_short {l : List Nat} {m r : Nat} (f0 : 0 < l.count 10) (h : r ≤ m * l.count 10) : rowE (rp m l) r - rowB (rp m l) r ≤ 2 * l.length := by
  have l0 : 0 < l.length := by
    rcases Nat.eq_zero_or_pos l.length with z | z
    · rw [List.length_eq_zero_iff.mp z] at f0; exact absurd f0 (by decide)
    · exact z
  have hr : r ≤ (rp m l).count 10 := by rw [rp_count]; exact h
  have c1 := rowB_cnt hr
  have c2 := rowE_cnt hr
  have be := rowBE hr
  have el := rowE_le hr
  rw [rp_len] at el
  generalize rowB (rp m l) r = b at c1 be ⊢
  generalize rowE (rp m l) r = e at c2 be el ⊢
  rw [rp_cnt (p := b) (by omega) l0] at c1
  rw [rp_cnt (p := e) (by omega) l0] at c2
  apply Decidable.byContradiction
  intro n
  have hm : b / l.length + 2 ≤ e / l.length := by
    have : (b + 2 * l.length) / l.length = b / l.length + 2 := Nat.add_mul_div_right _ _ l0
    rw [← this]
    exact Nat.div_le_div_right (by omega)
  have t1 : (l.take (b % l.length)).count 10 ≤ l.count 10 := (List.take_sublist _ _).count_le _
  have t2 : (b / l.length + 2) * l.count 10 ≤ e / l.length * l.count 10 := Nat.mul_le_mul_right _ hm
  rw [Nat.add_mul] at t2
  omega
end Sk

/-! Texts written and read, numbers in figures, rows of shelves: the plain side. -/
namespace Sk
open PySem PySem.Spec PyProof.Rows L2

/-! ### written texts -/
def wr (c : Nat) : List Nat := if c = 10 then [92, 110] else if c = 92 then [92, 92] else [c]
def W (l : List Nat) : List Nat := l.flatMap wr
/-- the text that is written so -/
def unW : List Nat → Option (List Nat)
  | [] => some []
  | [c] => if c = 92 then none else some [c]
  | c :: d :: s => if c = 92 then (if d = 110 then (unW s).map (10 :: ·) else if d = 92 then (unW s).map (92 :: ·) else none) else (unW (d :: s)).map (c :: ·)
theorem unW_cons {c : Nat} {s : List Nat} (h : c ≠ 92) : unW (c :: s) = (unW s).map (c :: ·) := by
  cases s with
  | nil => simp [unW, h]
  | cons d s => simp [unW, h]
theorem unW_W : ∀ l : List Nat, unW (W l) = some l
  | [] => rfl
  | c :: l => by
    have ih := unW_W l
    unfold W at ih ⊢
    rw [List.flatMap_cons]
    by_cases h1 : c = 10
    · have w1 : wr c = [92, 110] := by unfold wr; rw [if_pos h1]
      rw [w1]
      show unW (92 :: 110 :: l.flatMap wr) = _
      rw [unW, if_pos rfl, if_pos rfl, ih, h1]; rfl
    · by_cases h2 : c = 92
      · have w1 : wr c = [92, 92] := by unfold wr; rw [if_neg h1, if_pos h2]
        rw [w1]
        show unW (92 :: 92 :: l.flatMap wr) = _
        rw [unW, if_pos rfl, if_neg (by decide), if_pos rfl, ih, h2]; rfl
      · have w1 : wr c = [c] := by unfold wr; rw [if_neg h1, if_neg h2]
        rw [w1]
        show unW (c :: l.flatMap wr) = _
        rw [unW_cons h2, ih]; rfl
theorem W_plain {l : List Nat} (p : Plain l) : Plain (W l) := by
  intro c hc
  unfold W at hc
  obtain ⟨d, hd, h⟩ := List.mem_flatMap.mp hc
  unfold wr at h
  split at h
  · simp only [List.mem_cons, List.not_mem_nil, or_false] at h
    rcases h with rfl | rfl <;> decide
  · split at h
    · simp only [List.mem_cons, List.not_mem_nil, or_false] at h
      rcases h with rfl | rfl <;> decide
    · rw [List.mem_singleton] at h; rw [h]; exact p d hd
theorem W_no10 (l : List Nat) : 10 ∉ W l := by
  intro hc
  unfold W at hc
  obtain ⟨d, hd, h⟩ := List.mem_flatMap.mp hc
  unfold wr at h
  split at h
  · simp at h
  · split at h
    · simp at h
    · rw [List.mem_singleton] at h
      omega
theorem unW_plain : ∀ {x l : List Nat}, unW x = some l → Plain x → Plain l
  | [], l, h, _ => by cases h; exact fun _ z => nomatch z
  | [c], l, h, p => by
    unfold unW at h
    split at h
    · cases h
    · cases h; exact p
  | c :: d :: s, l, h, p => by
    unfold unW at h
    have ps : Plain s := fun z hz => p z (List.mem_cons_of_mem _ (List.mem_cons_of_mem _ hz))
    have pd : Plain (d :: s) := fun z hz => p z (List.mem_cons_of_mem _ hz)
    have cons : ∀ {y : List Nat} {e : Nat}, plainC e → Plain y → Plain (e :: y) := fun he hy z hz => by
      rcases List.mem_cons.mp hz with z1 | z1
      · rw [z1]; exact he
      · exact hy z z1
    split at h
    · split at h
      · cases e : unW s with
        | none => rw [e] at h; cases h
        | some y => rw [e] at h; cases h; exact cons (by decide) (unW_plain e ps)
      · split at h
        · cases e : unW s with
          | none => rw [e] at h; cases h
          | some y => rw [e] at h; cases h; exact cons (by decide) (unW_plain e ps)
        · cases h
    · cases e : unW (d :: s) with
      | none => rw [e] at h; cases h
      | some y => rw [e] at h; cases h; exact cons (p c List.mem_cons_self) (unW_plain e pd)
theorem unW_len : ∀ {x l : List Nat}, unW x = some l → l.length ≤ x.length
  | [], l, h => by cases h; exact Nat.le_refl _
  | [c], l, h => by
    unfold unW at h
    split at h
    · cases h
    · cases h; exact Nat.le_refl _
  | c :: d :: s, l, h => by
    unfold unW at h
    split at h
    · split at h
      · cases e : unW s with
        | none => rw [e] at h; cases h
        | some y => rw [e] at h; cases h; have := unW_len e; simp; omega
      · split at h
        · cases e : unW s with
          | none => rw [e] at h; cases h
          | some y => rw [e] at h; cases h; have := unW_len e; simp; omega
        · cases h
    · cases e : unW (d :: s) with
      | none => rw [e] at h; cases h
      | some y => rw [e] at h; cases h; have := unW_len e; simp at this ⊢; omega
def readW (x : List Nat) : Option (List Nat) := if Plain x ∧ 10 ∉ x then unW x else none
theorem readW_W {l : List Nat} (p : Plain l) : readW (W l) = some l := by
  unfold readW
  rw [if_pos ⟨W_plain p, W_no10 l⟩, unW_W]
theorem readW_plain {x l : List Nat} (h : readW x = some l) : Plain l ∧ l.length ≤ x.length := by
  unfold readW at h
  split at h
  · exact ⟨unW_plain h ‹Plain x ∧ _›.1, unW_len h⟩
  · cases h
/-! ### numbers in figures -/
def Figs (x : List Nat) : Prop := ∀ c ∈ x, 48 ≤ c ∧ c ≤ 57
instance (x : List Nat) : Decidable (Figs x) := by unfold Figs; infer_instance
def numIn (x : List Nat) : Option Nat := if (1 ≤ x.length ∧ x.length ≤ 30 ∧ Figs x) ∧ ¬ (x.head? = some 48 ∧ x ≠ [48]) then some (NumText.digitsVal x) else none
theorem numL_head {n : Nat} (h : 0 < n) : (TL.numL n).head? ≠ some 48 := by
  induction n using Nat.strongRecOn with
  | _ n ih =>
    by_cases h1 : n < 10
    · rw [TL.numL_lt h1]
      simp; omega
    · rw [TL.numL_step (by omega)]
      have := ih (n / 10) (by omega) (by omega)
      have ne := TL.numL_ne (n / 10)
      cases e : TL.numL (n / 10) with
      | nil => exact absurd e ne
      | cons a b => rw [e] at this; exact this
theorem numIn_numL {n : Nat} (h : n < 10 ^ 30) : numIn (TL.numL n) = some n := by
  unfold numIn
  have ne := TL.numL_ne n
  have l1 : 1 ≤ (TL.numL n).length := List.length_pos_iff.mpr ne
  have l2 := TL.numL_len (k := 30) (by decide) h
  have hc : ¬ ((TL.numL n).head? = some 48 ∧ TL.numL n ≠ [48]) := fun z => by
    by_cases n0 : n = 0
    · subst n0; exact z.2 (by rw [TL.numL_lt (by decide)])
    · exact numL_head (by omega) z.1
  rw [if_pos ⟨⟨l1, l2, TL.numL_digits n⟩, hc⟩, TL.numL_val]
theorem num_str (n : Nat) : (toString ((n : Nat) : Int) : Str) = sT (TL.numL n) := by
  rw [sT_of (toString ((n : Nat) : Int) : Str)]
  exact congrArg sT (TL.tl_num n)
theorem numIn_lt {x : List Nat} {n : Nat} (h : numIn x = some n) : n < 10 ^ 30 := by
  unfold numIn at h
  split at h
  · rename_i c
    cases h
    obtain ⟨⟨_, l, f⟩, _⟩ := c
    have key : ∀ (y : List Nat) (a k : Nat), Figs y → a < 10 ^ k → y.foldl (fun acc c => acc * 10 + (c - 48)) a < 10 ^ (k + y.length) := by
      intro y
      induction y with
      | nil => intro a k _ ha; exact ha
      | cons c y ih =>
        intro a k f ha
        have fc := f c List.mem_cons_self
        have := ih (a * 10 + (c - 48)) (k + 1) (fun d hd => f d (List.mem_cons_of_mem _ hd)) (by rw [Nat.pow_succ]; omega)
        rw [List.foldl_cons, List.length_cons]
        rw [show k + (y.length + 1) = k + 1 + y.length by omega]
        exact this
    have := key x 0 0 f (by decide)
    rw [Nat.zero_add] at this
    exact Nat.lt_of_lt_of_le this (Nat.pow_le_pow_right (by decide) l)
  · cases h
/-! ### rows of shelves -/
def leafW : List Nat := [108, 101, 97, 102]
def forkW : List Nat := [102, 111, 114, 107]
def nth (S : List Tr) (a : Nat) : Option Tr := if a = 0 then none else S[a - 1]?
open Classical in
/-- the shelf with a new piece, none where it cannot lie there -/
noncomputable def layT (S : List Tr) (t : Tr) : Option (List Tr) := if Ok t ∧ t ∉ S then some (S ++ [t]) else none
theorem layT_ok {S : List Tr} {t : Tr} (o : Ok t) (n : t ∉ S) : layT S t = some (S ++ [t]) := by unfold layT; rw [if_pos ⟨o, n⟩]
theorem layT_no {S : List Tr} {t : Tr} (h : ¬ (Ok t ∧ t ∉ S)) : layT S t = none := by unfold layT; rw [if_neg h]
/-- the shelf with the piece that a row tells, none where it tells none -/
noncomputable def layRow (S : List Tr) (x : List Nat) : Option (List Tr) :=
  match TL.par [32] [] x with
  | none => none
  | some (w, q) =>
    if w = leafW then (match readW q with
      | none => none
      | some l => layT S (.lf l))
    else if w = forkW then (match (TL.spl [32] 0 [] q).map numIn with
      | [some a, some b] => (match nth S a, nth S b with
        | some t, some u => layT S (.fk t u)
        | _, _ => none)
      | _ => none)
    else none
def rowsOf (x : List Nat) : List (List Nat) := if x = [] then [] else TL.spl [10] 0 [] x
noncomputable def readAll : Nat → List Tr → List (List Nat) → Except Nat (List Tr)
  | _, S, [] => .ok S
  | k, S, x :: xs => match layRow S x with
    | none => .error k
    | some S' => readAll (k + 1) S' xs
/-! ### the text of a shelf -/
def rowL' (S : List Tr) : Tr → List Nat
  | .lf l => leafW ++ ([32] ++ W l)
  | .fk a b => forkW ++ ([32] ++ (TL.numL (num S a).toNat ++ ([32] ++ TL.numL (num S b).toNat)))
theorem nth_num {S : List Tr} {t : Tr} (h : t ∈ S) : nth S (num S t).toNat = some t := by
  obtain ⟨i, e, z⟩ := nm_num h
  unfold nth
  rw [z, if_neg (by omega), show ((i : Int) + 1).toNat - 1 = i by omega]
  exact e
theorem lay_good {S R : List Tr} (gR : Good R) (hS : S.length ≤ 16000000) {t : Tr} {i : Nat} (e : R[i]? = some t) (hl : R.length ≤ 16000000) : layRow (R.take i) (rowL' R t) = some (R.take (i + 1)) := by
  have ts : R.take (i + 1) = R.take i ++ [t] := by rw [List.take_add_one, e]; rfl
  have nt : t ∉ R.take i := take_notin gR.nd e
  have ot := gR.ok t (List.mem_of_getElem? e)
  unfold layRow
  cases t with
  | lf l =>
    have p : TL.par [32] [] (rowL' R (.lf l)) = some (leafW, W l) := TL.par_part1 (S := []) (by decide)
    rw [p]
    dsimp only
    rw [if_pos rfl, readW_W ot.2.2]
    dsimp only
    rw [layT_ok ot nt, ts]
  | fk a b =>
    obtain ⟨⟨j, jl, ea⟩, ⟨k, kl, eb⟩⟩ := gR.pr i a b e
    have na := num_at gR ea
    have nb := num_at gR eb
    have lj := (List.getElem?_eq_some_iff.mp ea).1
    have lk := (List.getElem?_eq_some_iff.mp eb).1
    have p : TL.par [32] [] (rowL' R (.fk a b)) = some (forkW, TL.numL (num R a).toNat ++ ([32] ++ TL.numL (num R b).toNat)) := TL.par_part1 (S := []) (by decide)
    rw [p]
    dsimp only
    rw [if_neg (by decide), if_pos rfl]
    have sp : TL.spl [32] 0 [] (TL.numL (num R a).toNat ++ ([32] ++ TL.numL (num R b).toNat)) = [TL.numL (num R a).toNat, TL.numL (num R b).toNat] := by
      have := TL.spl_part1 (s := 32) (S := []) (acc := []) (p := TL.numL (num R a).toNat) (rest := TL.numL (num R b).toNat) (TL.numL_free (by decide))
      rw [this, List.nil_append, TL.spl_last1 (TL.numL_free (by decide)), List.nil_append]
    have big : ∀ m : Nat, m ≤ 16000000 → m + 1 < 10 ^ 30 := fun m hm => Nat.lt_of_le_of_lt (Nat.add_le_add_right hm 1) (by decide)
    rw [sp]
    simp only [List.map_cons, List.map_nil]
    have hj : (num R a).toNat = j + 1 := by rw [na]; omega
    have hk : (num R b).toNat = k + 1 := by rw [nb]; omega
    rw [numIn_numL (by rw [hj]; exact big j (by omega)), numIn_numL (by rw [hk]; exact big k (by omega)), hj, hk]
    dsimp only
    have n1 : nth (R.take i) (j + 1) = some a := by
      unfold nth
      rw [if_neg (by omega), Nat.add_sub_cancel, List.getElem?_take_of_lt jl]; exact ea
    have n2 : nth (R.take i) (k + 1) = some b := by
      unfold nth
      rw [if_neg (by omega), Nat.add_sub_cancel, List.getElem?_take_of_lt kl]; exact eb
    rw [n1, n2]
    dsimp only
    rw [layT_ok ot nt, ts]
theorem readAll_good {R : List Tr} (gR : Good R) (hl : R.length ≤ 16000000) : ∀ (n i k : Nat), i + n = R.length → readAll k (R.take i) ((R.drop i).map (rowL' R)) = .ok R
  | 0, i, k, h => by
    rw [List.drop_eq_nil_of_le (by omega), List.take_of_length_le (by omega)]; rfl
  | n + 1, i, k, h => by
    have hi : i < R.length := by omega
    rw [List.drop_eq_getElem_cons hi, List.map_cons]
    unfold readAll
    have := lay_good (S := []) gR (by simp) (t := R[i]) (i := i) (List.getElem?_eq_getElem hi) hl
    rw [this]
    exact readAll_good gR hl n (i + 1) (k + 1) (by omega)
theorem rowL_no10 (S : List Tr) (t : Tr) : 10 ∉ rowL' S t := by
  cases t with
  | lf l =>
    show 10 ∉ leafW ++ ([32] ++ W l)
    rw [List.mem_append, List.mem_append, not_or, not_or]
    exact ⟨by decide, by decide, W_no10 l⟩
  | fk a b =>
    show 10 ∉ forkW ++ ([32] ++ (TL.numL (num S a).toNat ++ ([32] ++ TL.numL (num S b).toNat)))
    simp only [List.mem_append, not_or]
    exact ⟨by decide, by decide, TL.numL_free (by decide), by decide, TL.numL_free (by decide)⟩
theorem rowL_ne (S : List Tr) (t : Tr) : rowL' S t ≠ [] := by
  cases t <;> (intro h; have := congrArg List.length h; simp [rowL', leafW, forkW] at this)
/-- the text of a shelf, by signs -/
def shTx (S : List Tr) : List Nat := TL.joinL [10] (S.map (rowL' S))
theorem rows_shTx {S : List Tr} : rowsOf (shTx S) = S.map (rowL' S) := by
  unfold rowsOf shTx
  cases S with
  | nil => rfl
  | cons t S =>
    rw [if_neg]
    · exact TL.spl_join (by simp) fun p hp => by
        obtain ⟨u, _, rfl⟩ := List.mem_map.mp hp
        exact rowL_no10 _ u
    · intro h
      cases S with
      | nil => exact rowL_ne _ _ h
      | cons u S =>
        have : rowL' (t :: u :: S) t ++ ([10] ++ TL.joinL [10] ((u :: S).map (rowL' (t :: u :: S)))) = [] := h
        exact rowL_ne _ _ (List.append_eq_nil_iff.mp this).1
theorem read_shTx {S : List Tr} (g : Good S) (h : S.length ≤ 16000000) : readAll 0 [] (rowsOf (shTx S)) = .ok S := by
  rw [rows_shTx]
  have := readAll_good g h S.length 0 0 (by omega)
  simpa using this
end Sk

/-! A shelf's pieces in another order: the leaves backwards, then the forks. -/
namespace Sk
open PySem PySem.Spec PyProof.Rows L2
def isLf : Tr → Bool | .lf _ => true | .fk _ _ => false
def lvs (S : List Tr) : List Tr := (S.filter isLf).reverse
def fks (S : List Tr) : List Tr := S.filter fun t => !isLf t
def ord (S : List Tr) : List Tr := lvs S ++ fks S
theorem mem_ord {S : List Tr} {t : Tr} : t ∈ ord S ↔ t ∈ S := by
  unfold ord lvs fks
  rw [List.mem_append, List.mem_reverse, List.mem_filter, List.mem_filter]
  cases h : isLf t <;> simp
theorem ord_len (S : List Tr) : (ord S).length = S.length := by
  unfold ord lvs fks
  rw [List.length_append, List.length_reverse]
  induction S with
  | nil => rfl
  | cons t S ih =>
    rw [List.filter_cons, List.filter_cons]
    cases h : isLf t <;> simp <;> omega
theorem ord_nd {S : List Tr} (g : Good S) : (ord S).Nodup := by
  unfold ord
  rw [List.nodup_append]
  refine ⟨?_, g.nd.sublist List.filter_sublist, fun a ha b hb e => ?_⟩
  · unfold lvs; exact (List.reverse_perm _).nodup_iff.mpr (g.nd.sublist List.filter_sublist)
  · unfold lvs at ha
    unfold fks at hb
    rw [List.mem_reverse, List.mem_filter] at ha
    rw [List.mem_filter] at hb
    rw [e] at ha
    rw [ha.2] at hb
    exact absurd hb.2 (by simp)
theorem lvs_get {S : List Tr} {a b : Tr} {i : Nat} (h : (ord S)[i]? = some (.fk a b)) : (lvs S).length ≤ i ∧ (fks S)[i - (lvs S).length]? = some (.fk a b) := by
  unfold ord at h
  by_cases l : i < (lvs S).length
  · rw [List.getElem?_append_left l] at h
    have := List.mem_of_getElem? h
    unfold lvs at this
    rw [List.mem_reverse, List.mem_filter] at this
    exact absurd this.2 (by simp [isLf])
  · rw [List.getElem?_append_right (by omega)] at h
    exact ⟨by omega, h⟩
theorem part_ahead {S : List Tr} (g : Good S) {a u : Tr} {i : Nat} (h : (ord S)[i]? = some u) (hu : isLf u = false) (ha : a ∈ S) (lt : num S a < num S u) : ∃ j, j < i ∧ (ord S)[j]? = some a := by
  obtain ⟨c, d, rfl⟩ : ∃ c d, u = .fk c d := by cases u with | lf l => cases hu | fk c d => exact ⟨c, d, rfl⟩
  obtain ⟨l1, l2⟩ := lvs_get h
  cases e : isLf a with
  | true =>
    have : a ∈ lvs S := by unfold lvs; rw [List.mem_reverse, List.mem_filter]; exact ⟨ha, e⟩
    obtain ⟨j, hj, ej⟩ := List.getElem_of_mem this
    exact ⟨j, by omega, by unfold ord; rw [List.getElem?_append_left hj, List.getElem?_eq_getElem hj, ej]⟩
  | false =>
    have : a ∈ fks S := by unfold fks; rw [List.mem_filter]; exact ⟨ha, by rw [e]; rfl⟩
    obtain ⟨j, hj, ej⟩ := List.getElem_of_mem this
    have pw : (fks S).Pairwise fun a b => num S a < num S b := (num_rising g).sublist List.filter_sublist
    refine ⟨(lvs S).length + j, ?_, by unfold ord; rw [List.getElem?_append_right (by omega), Nat.add_sub_cancel_left, List.getElem?_eq_getElem hj, ej]⟩
    obtain ⟨hi, ei⟩ := List.getElem?_eq_some_iff.mp l2
    apply Decidable.byContradiction
    intro n
    have nl : i - (lvs S).length ≤ j := by omega
    rcases Nat.lt_or_eq_of_le nl with z | z
    · have := List.pairwise_iff_getElem.mp pw (i - (lvs S).length) j hi hj z
      rw [ei, ej] at this
      omega
    · subst z
      rw [ei] at ej
      rw [← ej] at lt
      omega
theorem ord_good {S : List Tr} (g : Good S) : Good (ord S) := by
  refine ⟨ord_nd g, fun t h => g.ok t (mem_ord.mp h), fun i a b h => ?_⟩
  have m := mem_ord.mp (List.mem_of_getElem? h)
  obtain ⟨ha, hb⟩ := g.parts m
  obtain ⟨la, lb⟩ := g.before m
  exact ⟨part_ahead g h rfl ha la, part_ahead g h rfl hb lb⟩
/-- the leaves behind a place, backwards -/
theorem lvs_drop {S : List Tr} {k : Nat} {t : Tr} (e : S[k]? = some t) : lvs (S.drop k) = if isLf t = true then lvs (S.drop (k + 1)) ++ [t] else lvs (S.drop (k + 1)) := by
  obtain ⟨hk, ek⟩ := List.getElem?_eq_some_iff.mp e
  rw [List.drop_eq_getElem_cons hk, ek]
  unfold lvs
  rw [List.filter_cons]
  by_cases h : isLf t = true
  · rw [if_pos h, if_pos h, List.reverse_cons]
  · rw [if_neg h, if_neg h]
theorem fks_take {S : List Tr} {k : Nat} {t : Tr} (e : S[k]? = some t) : fks (S.take (k + 1)) = if isLf t = true then fks (S.take k) else fks (S.take k) ++ [t] := by
  have : S.take (k + 1) = S.take k ++ [t] := by rw [List.take_add_one, e]; rfl
  rw [this]
  unfold fks
  rw [List.filter_append]
  by_cases h : isLf t = true
  · rw [if_pos h]; simp [h]
  · rw [if_neg h]; simp [h]
theorem lvs_ext {S : List Tr} (k : Nat) : Ext (lvs (S.drop k)) (ord S) := by
  have : lvs S = lvs (S.drop k) ++ lvs (S.take k) := by
    unfold lvs
    rw [← List.reverse_append, ← List.filter_append, List.take_append_drop]
  unfold ord
  rw [this, List.append_assoc]
  exact List.prefix_append _ _
theorem fks_ext {S : List Tr} (k : Nat) : Ext (lvs S ++ fks (S.take k)) (ord S) := by
  have : fks S = fks (S.take k) ++ fks (S.drop k) := by
    unfold fks
    rw [← List.filter_append, List.take_append_drop]
  unfold ord
  rw [this, ← List.append_assoc]
  exact List.prefix_append _ _
theorem num_next {R S : List Tr} {t : Tr} (e : Ext (R ++ [t]) S) (nd : S.Nodup) : num S t = (R.length : Int) + 1 := by
  have h : S[R.length]? = some t := by
    obtain ⟨m, rfl⟩ := e
    rw [List.append_assoc, List.getElem?_append_right (Nat.le_refl _), Nat.sub_self]; rfl
  exact (Nm.num (S := S) (n := (R.length : Int) + 1) ⟨R.length, h, rfl⟩ nd).symm
theorem putK_le {c : List (Key × V)} {k : Key} {x : V} : (putK c k x).length ≤ c.length + 1 := by
  unfold putK
  split
  · rw [List.length_map]; omega
  · rw [List.length_append]; exact Nat.le_refl _
/-- the numbers told so far -/
def Told (S R : List Tr) (kvs : List (Key × V)) : Prop := ∀ t ∈ R, valV kvs (Sum.inl (num S t)) = some (.int (num (ord S) t))
theorem Told.put {S R : List Tr} {kvs : List (Key × V)} {t : Tr} (h : Told S R kvs) (g : Good S) (hR : ∀ u ∈ R, u ∈ S) (ht : t ∈ S) (e : Ext (R ++ [t]) (ord S)) : Told S (R ++ [t]) (putK kvs (Sum.inl (num S t)) (.int ((R.length : Int) + 1))) := by
  have nx := num_next e (ord_nd g)
  have nt : t ∉ R := fun hm => by
    have := (ord_nd g).sublist e.sublist
    rw [List.nodup_append] at this
    exact this.2.2 t hm t (by simp) rfl
  intro u hu
  rw [valV_put]
  rcases List.mem_append.mp hu with z | z
  · rw [if_neg (fun y => nt (by rw [← num_inj (hR u z) ht (Sum.inl.inj y)]; exact z))]
    exact h u z
  · rw [List.mem_singleton] at z
    rw [z, if_pos rfl, nx]
end Sk

/-! except clauses with a tuple of classes. -/
namespace Sk
open PySem PySem.Spec PyProof.Rows L2

section
open PySem.W
theorem exm_tup5 {M : Model} {K : Frag} {c1 c2 c3 c4 c5 cls : Value} {tp e : Addr} {b : Bool} {h : Heap} (X : K.In h) (LT : Looks M h (typeOf (.ref e)) cls) (hp : h.get? tp = some { cls := .type "tuple", data := .seq [c1, c2, c3, c4, c5].toArray }) (hx : exmAny K cls [c1, c2, c3, c4, c5] = some b) :
    Looks M h (excMatches (.ref e) (.ref tp)) b := by
  intro A Q E s k₀ q
  obtain ⟨hh, g, d, tk, os⟩ := s
  have k : ∀ b o, h.get? b = some o → hh.get? b = some o := k₀
  have LT0 : Looks M h (isInstance (.ref tp) (.type "tuple")) true := ((Looks.ld hp).andThen .now).andThen (Looks.of_pure isSubtype_tuple_tuple)
  obtain ⟨b1, d1, x1, y1, z1⟩ := exmAny_cons hx
  obtain ⟨e1, S1⟩ := exm_cls (M := M) X x1
  have e1 := e1.keeps k
  have S1 := S1.keeps k
  obtain ⟨b2, d2, x2, y2, z2⟩ := exmAny_cons y1
  obtain ⟨e2, S2⟩ := exm_cls (M := M) X x2
  have e2 := e2.keeps k
  have S2 := S2.keeps k
  obtain ⟨b3, d3, x3, y3, z3⟩ := exmAny_cons y2
  obtain ⟨e3, S3⟩ := exm_cls (M := M) X x3
  have e3 := e3.keeps k
  have S3 := S3.keeps k
  obtain ⟨b4, d4, x4, y4, z4⟩ := exmAny_cons y3
  obtain ⟨e4, S4⟩ := exm_cls (M := M) X x4
  have e4 := e4.keeps k
  have S4 := S4.keeps k
  obtain ⟨b5, d5, x5, y5, z5⟩ := exmAny_cons y4
  obtain ⟨e5, S5⟩ := exm_cls (M := M) X x5
  have e5 := e5.keeps k
  have S5 := S5.keeps k
  have w5 : some false = some d5 := y5
  cases w5
  have LT := LT.keeps k
  have LT0 := LT0.keeps k
  have hp' := k _ _ hp
  subst z1 z2 z3 z4 z5
  unfold excMatches
  refine wpAny_bind (LT0.at ?_)
  dsimp only
  rw [if_pos rfl]
  first
    | refine wpAny_bind (wpAny_seqItems hp' rfl ?_)
    | refine wpAny_bind (wpAny_bind (wpAny_seqItems hp' rfl (wpAny_pure ?_)))
  dsimp only [Option.getD_some, Option.getD]
  cases b1 <;> cases b2 <;> cases b3 <;> cases b4 <;> cases b5 <;> ((repeat (first | simp only [List.forIn_cons, List.forIn_nil, Bool.not_true, Bool.false_eq_true, if_false, if_true] | lk)); exact q)
end
theorem nm_ld {X : Cx} {x : Str} {c : Value} {np : Pos} {a : Addr} {oe : Obj} {pn : List (Addr × Obj)} {σ : L2.St} {H : Hp} {s : Shared} {Q : Value → Shared → Prop} {E : Value → Shared → Prop} (hc : Names X x c) (S : Inv (X.suite a ((a, oe) :: pn)) [] σ H s) (q : Q c s) :
    wpAny (model X.prog X.w) (X.A.mark (some (.ref a))) (eval (.Name x np) X.env) Q E s := by
  obtain ⟨hg, hdb, h1 | ⟨h1, h2, h3⟩⟩ := hc
  · exact ld_glob (X := X.suite a ((a, oe) :: pn)) S hg h1 q hdb
  · exact ld_blt (X := X.suite a ((a, oe) :: pn)) S hg h1 h2 q h3 hdb
theorem test_tup2 {X : Cx} {x1 x2 : Str} {c1 c2 : Value} {p1 p2 tpos : Pos} {kk : Nat} (n1 : Names X x1 c1) (n2 : Names X x2 c2) : TestOk X (.Tuple [.Name x1 p1, .Name x2 p2] kk tpos) (fun cls => PySem.W.exmAny X.K cls [c1, c2]) := by
  intro a oe pn σ H s b Q E S e q
  have there := (S.pin (a, oe) (List.mem_append.mpr (.inl List.mem_cons_self))).1
  have LT : PySem.W.Looks (model X.prog X.w) s.heap (typeOf (.ref a)) oe.cls := fun A Q E s k q => wpAny_typeOf_ref (k _ _ there) q
  refine wpAny_Tuple ?_
  refine wpAny_items_cons (nm_ld n1 S ?_)
  refine wpAny_items_cons (nm_ld n2 S ?_)
  refine wpAny_items_nil ⟨by show _ ≤ sizeLine; rw [sizeLine_eq]; simp, ?_⟩
  have kp : ∀ q o, s.heap.get? q = some o → (s.heap.push { cls := .type "tuple", data := .seq [c1, c2].toArray }).get? q = some o := fun _ _ z => Heap.get?_push_of_some _ z
  exact (PySem.W.exm_tup2 (S.kIn.keeps kp) (LT.keeps kp) (Heap.get?_push_size s.heap rfl) e).here (q _ kp)
theorem test_tup5 {X : Cx} {x1 x2 x3 x4 x5 : Str} {c1 c2 c3 c4 c5 : Value} {p1 p2 p3 p4 p5 tpos : Pos} {kk : Nat} (n1 : Names X x1 c1) (n2 : Names X x2 c2) (n3 : Names X x3 c3) (n4 : Names X x4 c4) (n5 : Names X x5 c5) :
    TestOk X (.Tuple [.Name x1 p1, .Name x2 p2, .Name x3 p3, .Name x4 p4, .Name x5 p5] kk tpos) (fun cls => PySem.W.exmAny X.K cls [c1, c2, c3, c4, c5]) := by
  intro a oe pn σ H s b Q E S e q
  have there := (S.pin (a, oe) (List.mem_append.mpr (.inl List.mem_cons_self))).1
  have LT : PySem.W.Looks (model X.prog X.w) s.heap (typeOf (.ref a)) oe.cls := fun A Q E s k q => wpAny_typeOf_ref (k _ _ there) q
  refine wpAny_Tuple ?_
  refine wpAny_items_cons (nm_ld n1 S ?_)
  refine wpAny_items_cons (nm_ld n2 S ?_)
  refine wpAny_items_cons (nm_ld n3 S ?_)
  refine wpAny_items_cons (nm_ld n4 S ?_)
  refine wpAny_items_cons (nm_ld n5 S ?_)
  refine wpAny_items_nil ⟨by show _ ≤ sizeLine; rw [sizeLine_eq]; simp, ?_⟩
  have kp : ∀ q o, s.heap.get? q = some o → (s.heap.push { cls := .type "tuple", data := .seq [c1, c2, c3, c4, c5].toArray }).get? q = some o := fun _ _ z => Heap.get?_push_of_some _ z
  exact (exm_tup5 (S.kIn.keeps kp) (LT.keeps kp) (Heap.get?_push_size s.heap rfl) e).here (q _ kp)
/-! what a tuple of classes catches -/
theorem any_nil {K : PySem.W.Frag} {cls : Value} : PySem.W.exmAny K cls [] = some false := rfl
theorem any_cons {K : PySem.W.Frag} {cls c : Value} {r : List Value} {b d : Bool} (h1 : PySem.W.exmOne K cls c = some b) (h2 : PySem.W.exmAny K cls r = some d) : PySem.W.exmAny K cls (c :: r) = some (b || d) := by
  show (match PySem.W.exmOne K cls c, PySem.W.exmAny K cls r with | some b, some d => some (b || d) | _, _ => none) = _
  rw [h1, h2]
end Sk

/-! Where a word stands in a text. -/
namespace Sk
open PySem PySem.Spec PyProof.Rows L2

def occL (w l : List Nat) : List Nat := (List.range l.length).filter fun p => decide ((l.drop p).take w.length = w)
def occ (w l : List Nat) : Nat := (occL w l).length
def hdW (w l : List Nat) : List Nat := l.take (w.length - 1)
def tlW (w l : List Nat) : List Nat := l.drop (l.length - (w.length - 1))
theorem mem_occL {w l : List Nat} {p : Nat} : p ∈ occL w l ↔ p < l.length ∧ (l.drop p).take w.length = w := by
  unfold occL
  rw [List.mem_filter, List.mem_range, decide_eq_true_eq]
theorem occL_sorted (w l : List Nat) : (occL w l).Pairwise (· < ·) := List.pairwise_lt_range.sublist List.filter_sublist
theorem sorted_ext : ∀ {a b : List Nat}, a.Pairwise (· < ·) → b.Pairwise (· < ·) → (∀ x, x ∈ a ↔ x ∈ b) → a = b
  | [], [], _, _, _ => rfl
  | [], y :: b, _, _, h => absurd ((h y).mpr List.mem_cons_self) (by simp)
  | x :: a, [], _, _, h => absurd ((h x).mp List.mem_cons_self) (by simp)
  | x :: a, y :: b, ha, hb, h => by
    have e : x = y := by
      have h1 := (h x).mp List.mem_cons_self
      have h2 := (h y).mpr List.mem_cons_self
      rcases List.mem_cons.mp h1 with z | z
      · exact z
      · rcases List.mem_cons.mp h2 with z2 | z2
        · exact z2.symm
        · have := (List.pairwise_cons.mp hb).1 x z
          have := (List.pairwise_cons.mp ha).1 y z2
          omega
    subst e
    congr 1
    refine sorted_ext (List.pairwise_cons.mp ha).2 (List.pairwise_cons.mp hb).2 fun z => ?_
    have hz := h z
    constructor
    · intro m
      have := (List.pairwise_cons.mp ha).1 z m
      rcases List.mem_cons.mp (hz.mp (List.mem_cons_of_mem _ m)) with y | y
      · omega
      · exact y
    · intro m
      have := (List.pairwise_cons.mp hb).1 z m
      rcases List.mem_cons.mp (hz.mpr (List.mem_cons_of_mem _ m)) with y | y
      · omega
      · exact y
theorem occL_fit {w l : List Nat} {p : Nat} (h : p ∈ occL w l) : p + w.length ≤ l.length := by
  obtain ⟨h1, h2⟩ := mem_occL.mp h
  have := congrArg List.length h2
  rw [List.length_take, List.length_drop] at this
  omega
theorem mem_occ' {w l : List Nat} {p : Nat} (hw : w ≠ []) : p ∈ occL w l ↔ (l.drop p).take w.length = w := by
  refine ⟨fun h => (mem_occL.mp h).2, fun h => mem_occL.mpr ⟨?_, h⟩⟩
  have l0 := List.length_pos_iff.mpr hw
  have := congrArg List.length h
  rw [List.length_take, List.length_drop] at this
  omega
theorem occL_none {w l : List Nat} (h : l.length < w.length) : occL w l = [] := by
  cases e : occL w l with
  | nil => rfl
  | cons p r =>
    have := occL_fit (w := w) (l := l) (p := p) (by rw [e]; exact List.mem_cons_self)
    omega
theorem tlW_len (w l : List Nat) : (tlW w l).length = min (w.length - 1) l.length := by unfold tlW; rw [List.length_drop]; omega
theorem hdW_len (w l : List Nat) : (hdW w l).length = min (w.length - 1) l.length := by unfold hdW; rw [List.length_take]
/-- the signs around the seam -/
theorem occL_app {w : List Nat} (hw : w ≠ []) (a b : List Nat) : occL w (a ++ b) = occL w a ++ (occL w (tlW w a ++ hdW w b)).map (· + (a.length - (tlW w a).length)) ++ (occL w b).map (· + a.length) := by
  have L0 := List.length_pos_iff.mpr hw
  have lt := tlW_len w a
  have lh := hdW_len w b
  obtain ⟨s, es⟩ : ∃ s, s = a.length - (tlW w a).length := ⟨_, rfl⟩
  have et : tlW w a = a.drop s := by rw [es, lt]; unfold tlW; congr 1; omega
  rw [← es]
  have mid : ∀ q, q ∈ occL w (tlW w a ++ hdW w b) → q < (tlW w a).length ∧ (tlW w a).length < q + w.length := fun q hq => by
    have f := occL_fit hq
    rw [List.length_append] at f
    have e := (mem_occL.mp hq).2
    omega
  refine sorted_ext (occL_sorted _ _) ?_ fun p => ?_
  · rw [List.pairwise_append, List.pairwise_append]
    refine ⟨⟨occL_sorted _ _, ?_, fun x hx y hy => ?_⟩, ?_, fun x hx y hy => ?_⟩
    · exact List.pairwise_map.mpr ((occL_sorted w _).imp fun h => by omega)
    · obtain ⟨q, hq, rfl⟩ := List.mem_map.mp hy
      have := occL_fit hx
      have := mid q hq
      omega
    · exact List.pairwise_map.mpr ((occL_sorted w b).imp fun h => by omega)
    · obtain ⟨q, hq, rfl⟩ := List.mem_map.mp hy
      rcases List.mem_append.mp hx with z | z
      · have := occL_fit z; omega
      · obtain ⟨r, hr, rfl⟩ := List.mem_map.mp z
        have := mid r hr
        omega
  · rw [mem_occ' hw, List.mem_append, List.mem_append]
    by_cases c1 : p + w.length ≤ a.length
    · have e : ((a ++ b).drop p).take w.length = (a.drop p).take w.length := by
        rw [List.drop_append_of_le_length (by omega), List.take_append_of_le_length (by rw [List.length_drop]; omega)]
      rw [e]
      constructor
      · intro h
        exact .inl (.inl ((mem_occ' hw).mpr h))
      · rintro ((h | h) | h)
        · exact (mem_occ' hw).mp h
        · obtain ⟨q, hq, rfl⟩ := List.mem_map.mp h
          have := mid q hq
          omega
        · obtain ⟨q, hq, rfl⟩ := List.mem_map.mp h
          omega
    by_cases c2 : a.length ≤ p
    · have e : (a ++ b).drop p = b.drop (p - a.length) := by
        rw [List.drop_append, List.drop_eq_nil_of_le c2, List.nil_append]
      rw [e]
      constructor
      · intro h
        exact .inr (List.mem_map.mpr ⟨p - a.length, (mem_occ' hw).mpr h, by omega⟩)
      · rintro ((h | h) | h)
        · have := occL_fit h; omega
        · obtain ⟨q, hq, rfl⟩ := List.mem_map.mp h
          have := mid q hq
          omega
        · obtain ⟨q, hq, rfl⟩ := List.mem_map.mp h
          rw [Nat.add_sub_cancel]
          exact (mem_occ' hw).mp hq
    have e : ((a ++ b).drop p).take w.length = ((tlW w a ++ hdW w b).drop (p - s)).take w.length := by
      have sp : s ≤ p := by omega
      have h1 : (a ++ b).drop p = a.drop p ++ b := by rw [List.drop_append_of_le_length (by omega)]
      have h2 : (tlW w a ++ hdW w b).drop (p - s) = a.drop p ++ b.take (w.length - 1) := by
        rw [List.drop_append_of_le_length (by omega), et, List.drop_drop, show s + (p - s) = p by omega]; rfl
      rw [h1, h2, List.take_append, List.take_append, List.take_take]
      congr 2
      rw [List.length_drop]
      omega
    rw [e]
    constructor
    · intro h
      exact .inl (.inr (List.mem_map.mpr ⟨p - s, (mem_occ' hw).mpr h, by omega⟩))
    · rintro ((h | h) | h)
      · have := occL_fit h; omega
      · obtain ⟨q, hq, rfl⟩ := List.mem_map.mp h
        rw [Nat.add_sub_cancel]
        exact (mem_occ' hw).mp hq
      · obtain ⟨q, hq, rfl⟩ := List.mem_map.mp h
        omega
theorem occ_app {w : List Nat} (hw : w ≠ []) (a b : List Nat) : occ w (a ++ b) = occ w a + occ w (tlW w a ++ hdW w b) + occ w b := by
  unfold occ
  rw [occL_app hw, List.length_append, List.length_append, List.length_map, List.length_map]
theorem hdW_app (w a b : List Nat) : hdW w (a ++ b) = (hdW w a ++ hdW w b).take (w.length - 1) := by
  unfold hdW
  rw [List.take_append, List.take_append, List.take_take, List.take_take, List.length_take]
  congr 2
  · omega
  · omega
theorem tlW_app (w a b : List Nat) : tlW w (a ++ b) = (tlW w a ++ tlW w b).drop ((tlW w a ++ tlW w b).length - (w.length - 1)) := by
  have la := tlW_len w a
  have lb := tlW_len w b
  obtain ⟨k, ek⟩ : ∃ k, k = w.length - 1 := ⟨_, rfl⟩
  rw [← ek] at la lb
  unfold tlW at la lb ⊢
  rw [← ek] at la lb ⊢
  by_cases c : b.length < k
  · have e1 : b.drop (b.length - k) = b := by rw [show b.length - k = 0 by omega]; rfl
    rw [e1] at lb ⊢
    rw [List.length_append, List.length_append, List.drop_append, List.drop_append, List.drop_drop]
    rw [la]
    congr 1
    · congr 1; omega
    · congr 1; omega
  · rw [List.length_append, List.length_append, List.drop_append, List.drop_append]
    rw [List.drop_eq_nil_of_le (as := a) (by omega), List.drop_eq_nil_of_le (as := a.drop _) (by rw [la, lb]; omega), List.nil_append, List.nil_append, List.drop_drop]
    congr 1
    rw [la, lb]; omega
end Sk

/-! A finder in the heap. -/
namespace Sk
open PySem PySem.Spec PyProof.Rows L2

/-- keys that are texts, each once -/
structure KeyOk (S : List Tr) (kvs : List (Key × V)) : Prop where
  nd : (kvs.map (·.1)).Nodup
  all : ∀ k ∈ kvs.map (·.1), ∃ m : Int, k = Sum.inl m ∧ inR S m
theorem keys_put {kvs : List (Key × V)} {k : Key} {v : V} : (putK kvs k v).map (·.1) = if (kvs.any fun kv => decide (kv.1 = k)) = true then kvs.map (·.1) else kvs.map (·.1) ++ [k] := by
  unfold putK
  split
  · rw [List.map_map]
    refine List.map_congr_left fun x _ => ?_
    show (if x.1 = k then (x.1, v) else x).1 = x.1
    split <;> rfl
  · rw [List.map_append]; rfl
theorem KeyOk.put {S : List Tr} {kvs : List (Key × V)} (h : KeyOk S kvs) {m : Int} (hm : inR S m) (v : V) : KeyOk S (putK kvs (Sum.inl m) v) := by
  constructor
  · rw [keys_put]
    split
    · exact h.nd
    · rename_i c
      refine List.nodup_append.mpr ⟨h.nd, List.nodup_cons.mpr ⟨(fun z => nomatch z), List.nodup_nil⟩, fun x hx y hy e => c ?_⟩
      rw [List.mem_singleton] at hy
      subst hy; subst e
      obtain ⟨kv, mk, ek⟩ := List.mem_map.mp hx
      exact List.any_eq_true.mpr ⟨kv, mk, by simpa using ek⟩
  · intro k hk
    rw [keys_put] at hk
    split at hk
    · exact h.all k hk
    · rcases List.mem_append.mp hk with z | z
      · exact h.all k z
      · rw [List.mem_singleton] at z
        exact ⟨m, z, hm⟩
theorem nodup_sub {α : Type} [DecidableEq α] : ∀ {a b : List α}, a.Nodup → (∀ u ∈ a, u ∈ b) → a.length ≤ b.length
  | [], _, _, _ => Nat.zero_le _
  | u :: r, b, nd, sub => by
    have hu := sub u List.mem_cons_self
    have nd := List.nodup_cons.mp nd
    have := nodup_sub (a := r) (b := b.erase u) nd.2 fun x hx => (List.mem_erase_of_ne (fun z => nd.1 (by rw [← z]; exact hx))).mpr (sub x (List.mem_cons_of_mem _ hx))
    rw [List.length_erase_of_mem hu] at this
    have : 0 < b.length := List.length_pos_of_mem hu
    rw [List.length_cons]; omega
theorem KeyOk.len {S : List Tr} {kvs : List (Key × V)} (h : KeyOk S kvs) : kvs.length ≤ S.length + 1 := by
  have := nodup_sub (a := kvs.map (·.1)) (b := (List.range (S.length + 1)).map fun n : Nat => (Sum.inl (n : Int) : Key)) h.nd fun k hk => by
    obtain ⟨m, rfl, h0, h1⟩ := h.all k hk
    exact List.mem_map.mpr ⟨m.toNat, List.mem_range.mpr (by omega), by rw [Int.toNat_of_nonneg h0]⟩
  rwa [List.length_map, List.length_map, List.length_range] at this
theorem KeyOk.nil (S : List Tr) : KeyOk S [] := ⟨List.nodup_nil, fun _ h => nomatch h⟩

structure Fc where
  a : Addr
  dx : Addr
  kn : Addr
  en : Addr
abbrev fflds (wood : Addr) (w : List Nat) (f : Fc) : List (Str × V) := [("wood", .ref wood), ("word", .str (sT w)), ("known", .ref f.kn), ("ends_known", .ref f.en)]
theorem ff_wood (a : Addr) (w : List Nat) (f : Fc) : (fflds a w f).lookup ("wood" : Str) = some (V.ref a) := rfl
theorem ff_word (a : Addr) (w : List Nat) (f : Fc) : (fflds a w f).lookup ("word" : Str) = some (V.str (sT w)) := rfl
theorem ff_known (a : Addr) (w : List Nat) (f : Fc) : (fflds a w f).lookup ("known" : Str) = some (V.ref f.kn) := rfl
theorem ff_ends (a : Addr) (w : List Nat) (f : Fc) : (fflds a w f).lookup ("ends_known" : Str) = some (V.ref f.en) := rfl
theorem ff_no {a : Addr} {w : List Nat} {f : Fc} {m : Str} (h : (m == "wood" || m == "word" || m == "known" || m == "ends_known") = false) : (fflds a w f).lookup m = none := by
  simp only [Bool.or_eq_false_iff] at h
  obtain ⟨⟨⟨h1, h2⟩, h3⟩, h4⟩ := h
  unfold fflds
  simp only [List.lookup, h1, h2, h3, h4]
/-- a finder of the word w on the shelf at c -/
structure FiAt (CF : Addr) (f : Fc) (c : Cells) (S : List Tr) (w : List Nat) (H : Hp) : Prop where
  ob : H f.a = some (.ins CF f.dx (fflds c.a w f))
  ow : H f.dx = some (.own f.a)
  kn : ∃ kvs, H f.kn = some (.dK kvs) ∧ KeyOk S kvs ∧ valV kvs (Sum.inl 0) = some (.int 0) ∧ ∀ (m : Int) v, valV kvs (Sum.inl m) = some v → ∀ o, Tx S m o → v = .int (occ w (oX o) : Nat)
  en : ∃ kvs, H f.en = some (.dK kvs) ∧ KeyOk S kvs ∧ ∀ (m : Int) v, valV kvs (Sum.inl m) = some v → ∀ o, Tx S m o → ∃ r, v = .ref r ∧ H r = some (.tup [.str (sT (hdW w (oX o))), .str (sT (tlW w (oX o)))])
  ne : f.kn ≠ f.en
  ko : f.kn ∉ c.all
  eo : f.en ∉ c.all
theorem FiAt.same {CF : Addr} {f : Fc} {c : Cells} {S : List Tr} {w : List Nat} {H H' : Hp} (x : FiAt CF f c S w H) (s : Same H H') : FiAt CF f c S w H' :=
  ⟨s _ _ x.ob, s _ _ x.ow, let ⟨k, h1, h2⟩ := x.kn; ⟨k, s _ _ h1, h2⟩, let ⟨k, h1, h2, h3⟩ := x.en; ⟨k, s _ _ h1, h2, fun m v e o t => let ⟨r, e1, e2⟩ := h3 m v e o t; ⟨r, e1, s _ _ e2⟩⟩, x.ne, x.ko, x.eo⟩
theorem w_fm {CF : Addr} {f : Fc} {c : Cells} {S : List Tr} {w : List Nat} {H : Hp} {m : Str} {P : Prop} (x : FiAt CF f c S w H) (h : (m == "wood" || m == "word" || m == "known" || m == "ends_known") = false) (k : P) :
    ∃ a dx fs, V.ref f.a = .ref a ∧ H a = some (.ins CF dx fs) ∧ fs.lookup m = none ∧ P := ⟨f.a, f.dx, _, rfl, x.ob, ff_no h, k⟩
theorem tup_updK {H : Hp} {a : Addr} {kvs : List (Key × V)} {o : HO} (h : H a = some (.dK kvs)) : ∀ b ys, H b = some (.tup ys) → upd H a o b = some (.tup ys) := fun b ys e => by
  rw [upd_ne (ne_of e h (by intro z; cases z))]; exact e
/-- the finder knows how often the word stands in one more text -/
theorem FiAt.know {CF : Addr} {f : Fc} {c : Cells} {S : List Tr} {w : List Nat} {H : Hp} {kvs : List (Key × V)} {m : Int} {o : Option Tr} (x : FiAt CF f c S w H) (h : H f.kn = some (.dK kvs)) (t : Tx S m o) :
    FiAt CF f c S w (upd H f.kn (.dK (putK kvs (Sum.inl m) (.int (occ w (oX o) : Nat))))) := by
  obtain ⟨k1, h1, h2, h3, h4⟩ := x.kn
  obtain ⟨k2, g1, g2, g3⟩ := x.en
  rw [h] at h1; cases h1
  refine ⟨?_, ?_, ⟨_, upd_same, h2.put t.inR _, ?_, ?_⟩, ⟨k2, by rw [upd_ne x.ne.symm]; exact g1, g2, ?_⟩, x.ne, x.ko, x.eo⟩
  · rw [upd_ne (ne_of x.ob h (by intro z; cases z))]; exact x.ob
  · rw [upd_ne (ne_of x.ow h (by intro z; cases z))]; exact x.ow
  · rw [valV_put]
    split
    · rename_i e
      cases e
      cases (show Tx S 0 none from rfl).uni t
      rfl
    · exact h3
  · intro m' v e o' t'
    rw [valV_put] at e
    split at e
    · rename_i z
      cases z
      cases e
      cases t.uni t'
      rfl
    · exact h4 m' v e o' t'
  · intro m' v e o' t'
    obtain ⟨r, e1, e2⟩ := g3 m' v e o' t'
    exact ⟨r, e1, tup_updK h _ _ e2⟩
/-- the finder knows the ends of one more text -/
theorem FiAt.knowE {CF : Addr} {f : Fc} {c : Cells} {S : List Tr} {w : List Nat} {H : Hp} {kvs : List (Key × V)} {m : Int} {o : Option Tr} {r : Addr} (x : FiAt CF f c S w H) (h : H f.en = some (.dK kvs)) (t : Tx S m o)
    (hr : H r = some (.tup [.str (sT (hdW w (oX o))), .str (sT (tlW w (oX o)))])) : FiAt CF f c S w (upd H f.en (.dK (putK kvs (Sum.inl m) (.ref r)))) := by
  obtain ⟨k1, h1, h2, h3⟩ := x.kn
  obtain ⟨k2, g1, g2, g3⟩ := x.en
  rw [h] at g1; cases g1
  refine ⟨?_, ?_, ⟨k1, by rw [upd_ne x.ne]; exact h1, h2, h3⟩, ⟨_, upd_same, g2.put t.inR _, ?_⟩, x.ne, x.ko, x.eo⟩
  · rw [upd_ne (ne_of x.ob h (by intro z; cases z))]; exact x.ob
  · rw [upd_ne (ne_of x.ow h (by intro z; cases z))]; exact x.ow
  · intro m' v e o' t'
    rw [valV_put] at e
    split at e
    · rename_i z
      cases z
      cases e
      cases t.uni t'
      exact ⟨r, rfl, tup_updK h _ _ hr⟩
    · obtain ⟨r', e1, e2⟩ := g3 m' v e o' t'
      exact ⟨r', e1, tup_updK h _ _ e2⟩
/-- what a finder's walk leaves: all but its two dicts -/
structure FiGo (CF : Addr) (f : Fc) (c : Cells) (S : List Tr) (w : List Nat) (H H' : Hp) : Prop where
  fi : FiAt CF f c S w H'
  kp : KeepL [f.kn, f.en] H H'
theorem FiGo.tup {CF : Addr} {f : Fc} {c : Cells} {S : List Tr} {w : List Nat} {H H' : Hp} (x : FiAt CF f c S w H) (g : FiGo CF f c S w H H') : ∀ b ys, H b = some (.tup ys) → H' b = some (.tup ys) := fun b ys e => by
  obtain ⟨k1, h1, _⟩ := x.kn
  obtain ⟨k2, g1, _⟩ := x.en
  refine g.kp b _ ?_ e
  simp only [List.mem_cons, List.not_mem_nil, or_false, not_or]
  exact ⟨ne_of e h1 (by intro z; cases z), ne_of e g1 (by intro z; cases z)⟩
theorem FiGo.sh {CF C : Addr} {f : Fc} {c : Cells} {S : List Tr} {w : List Nat} {H H' : Hp} (x : FiAt CF f c S w H) (g : FiGo CF f c S w H H') (s : ShAt C c H S) : ShAt C c H' S :=
  s.keepL g.kp (fun b hb => by
    simp only [List.mem_cons, List.not_mem_nil, or_false] at hb
    rcases hb with e | e
    · rw [e]; exact x.ko
    · rw [e]; exact x.eo) (g.tup x)
theorem FiGo.refl {CF : Addr} {f : Fc} {c : Cells} {S : List Tr} {w : List Nat} {H : Hp} (x : FiAt CF f c S w H) : FiGo CF f c S w H H := ⟨x, KeepL.refl _ _⟩
theorem FiGo.trans {CF : Addr} {f : Fc} {c : Cells} {S : List Tr} {w : List Nat} {H H1 H2 : Hp} (x : FiGo CF f c S w H H1) (y : FiGo CF f c S w H1 H2) : FiGo CF f c S w H H2 := ⟨y.fi, x.kp.trans y.kp⟩
theorem FiGo.same {CF : Addr} {f : Fc} {c : Cells} {S : List Tr} {w : List Nat} {H H1 H2 : Hp} (x : FiGo CF f c S w H H1) (y : Same H1 H2) : FiGo CF f c S w H H2 := ⟨x.fi.same y, fun b o n e => y _ _ (x.kp b o n e)⟩
end Sk

/-! The end of a law's row: what the top leaves, with its great constants. -/
namespace Sk
open PySem PySem.Spec PyProof.Rows L2

theorem kint_loose {p : Program} {lv : List (Str × PySem.W.WData)} {mg : Str → Option Value} {h : Heap} (x : PySem.W.XL p lv mg h) {n : Str} {i : Int} (m : (n, PySem.W.WData.int i) ∈ lv) : KInt mg n i := by
  obtain ⟨v, e, r⟩ := x.2.val _ m
  cases r
  exact ⟨_, e⟩
theorem kint_of {K : PySem.W.Frag} {h : Heap} {mg : Str → Option Value} {n : Str} {i : Int} {t : Tok} (X : K.In h) (G : h.Ns mainGlobals mg) (e : PySem.W.nsIn K mainGlobals n = some (some (.int i t))) : KInt mg n i := ⟨t, PySem.W.mg_of X G e⟩
theorem kstr_of {K : PySem.W.Frag} {h : Heap} {mg : Str → Option Value} {n x : Str} {t : Tok} (X : K.In h) (G : h.Ns mainGlobals mg) (e : PySem.W.nsIn K mainGlobals n = some (some (.str x t))) : KStr mg n x := ⟨t, PySem.W.mg_of X G e⟩
/-- the law's call, where the promise is kept over any base; what is loose at the top is handed on -/
theorem walkX {l : PySem.W.OpenLaw} {k : Nat} {q : Program} {loose : List Str} {XP : (Str → Option Value) → Heap → Prop} {YP : World → Heap → Prop} {d : DefRec} {K : Params → PySem.W.Frag} {sp : PySem.W.Frag → Sp}
    (hn : l.most = some 63) (hdf : d.params.defaults = []) (hr : Room k callerA) (hY : ∀ (w : World) (h : Heap), YP w h → (K w.params).In h)
    (F : ∀ (w : World) (mg : Str → Option Value) (fa : Addr) (h : Heap), (K w.params).In h → h.Ns mainGlobals mg → XP mg h → mg d.name = some (.ref fa) →
      ∃ fd : FuncData, (∀ (s : Shared) (u : Value), BindsTo s fd ⟨[u], []⟩ [("script", u)]) ∧ ∀ base : Heap, (K w.params).In base → base.Ns mainGlobals mg → FnOk l.prog w (K w.params) mg base (L2.CX l.prog w) k fa fd ["script"] (sp (K w.params)))
    (hsp : ∀ (K : PySem.W.Frag) (H : Hp) (a : Addr) (ns : List Int), ns.length ≤ 63 → SqL K H a (ns.map V.int) → sp K [.ref a] H (fun v _ => v = .bl true) fun _ _ _ => False) :
    PySem.W.WalkO q loose XP YP l.row.toRowW d [] (fun f vs => PySem.call f vs) :=
  Att.attach_call hn hdf fun w s₀ s₁ mg mb fa o pm cd doc a vs ns G Y ho hd hcd hmg hobj hints hlen hg => by
    have KX := hY w _ Y
    obtain ⟨fd, hb, hF⟩ := F w mg fa _ KX G.T.g G.X hmg
    refine law_call KX G.T.g G.T.b G.T.builtins G.T.nolimit hg hobj hints ?_ hr hF hb (fun H _ hS => hsp _ H a ns hlen hS) fun H e s' hc => ?_
    · have := cap_line; unfold cap at this; omega
    · obtain ⟨_, _, _, _, _, _, _, _, _, _, _, _, z⟩ := hc
      exact z.elim
end Sk

namespace Sk
open PySem PySem.Spec PyProof.Rows L2
/-! one step of the walk: what has just one way -/
local macro_rules | `(tactic| walk_at "go1") => `(tactic| first
  | (with_reducible refine w_varx ?_; refine ⟨_, rfl, ?_⟩)
  | with_reducible refine w_op ?_
  | with_reducible refine w_c ?_
  | with_reducible refine w_rI0 ?_
  | with_reducible refine w_eqI ?_
  | with_reducible refine w_neI ?_
  | with_reducible refine w_bl ?_
  | with_reducible refine w_test ?_
  | with_reducible refine w_tB ?_
  | with_reducible refine w_tNot ?_
  | with_reducible refine w_tAnd ?_
  | with_reducible refine w_tOr ?_
  | with_reducible refine w_tIf ?_
  | with_reducible refine w_ret ?_
  | with_reducible refine w_drop ?_
  | with_reducible refine w_ifS ?_
  | with_reducible refine w_asg ?_
  | with_reducible refine w_nil ?_
  | with_reducible refine w_cons ?_
  | with_reducible refine w_call ?_
  | with_reducible refine w_cb ?_
  | with_reducible refine w_bm ?_
  | with_reducible refine w_bm0 ?_
  | with_reducible refine w_meth ?_
  | with_reducible refine w_fld ?_
  | with_reducible refine w_make ?_
  | with_reducible refine w_lst ?_
  | with_reducible refine w_tup ?_
  | with_reducible refine w_for ?_
  | with_reducible refine w_rng3 ?_
  | with_reducible refine w_rng1 ?_
  | with_reducible refine w_sl ?_
  | with_reducible refine w_part ?_
  | with_reducible refine w_nop ?_
  | with_reducible refine w_rng2 ?_
  | with_reducible refine w_ilist ?_
  | with_reducible refine w_istr ?_
  | with_reducible refine w_lc ?_
  | with_reducible refine w_chain ?_)
local macro_rules | `(tactic| walk_at "go") => `(tactic| repeat (walk_at "go1"))
local macro_rules | `(tactic| walk_at "st") => `(tactic| (with_reducible refine w_seq ?_; repeat (walk_at "go1")))
local macro_rules | `(tactic| walk_at "nx") => `(tactic| first | (with_reducible refine w_gname ?_; try dsimp only) | dsimp only)
local macro_rules | `(tactic| walk_at "sk") => `(tactic| (with_reducible refine w_next ?_; dsimp only))
/-! the same, methods of shelves too -/
local macro_rules | `(tactic| walk_at "w1") => `(tactic| first
  | walk_at "go1"
  | with_reducible refine w_sm (by assumption) (by decide +kernel) ?_
  | with_reducible refine w_callS ?_
  | with_reducible refine w_lrg3 ?_
  | with_reducible refine w_chain3 ?_
  | with_reducible refine w_revL ?_
  | with_reducible refine w_un ?_
  | with_reducible refine w_rU ?_
  | with_reducible refine w_eqS ?_
  | with_reducible refine w_neS ?_)
local macro_rules | `(tactic| walk_at "w") => `(tactic| repeat (walk_at "w1"))
local macro_rules | `(tactic| walk_at "s") => `(tactic| (with_reducible refine w_seq ?_; repeat (walk_at "w1")))
/-! more of the same -/
local macro_rules | `(tactic| walk_at "W1") => `(tactic| first
  | walk_at "w1"
  | (with_reducible refine w_zip ?_)
  | (with_reducible refine w_enum ?_)
  | (with_reducible refine w_rev ?_)
  | (with_reducible refine w_m1 ?_)
  | (with_reducible refine w_m0 ?_)
  | (with_reducible refine w_enumS ?_)
  | (with_reducible refine w_tAndV ?_)
  | (with_reducible refine w_tOrV ?_)
  | (with_reducible refine w_tNotV ?_))
local macro_rules | `(tactic| walk_at "W") => `(tactic| repeat (walk_at "W1"))
local macro_rules | `(tactic| walk_at "S") => `(tactic| (with_reducible refine w_seq ?_; repeat (walk_at "W1")))
def top (i : Nat) : Stmt := PySem.Challenge.pw_skeinwood_k78_whole_swept_and_gone_on.main.body.getD i (.Pass ⟨0, 0, 0, 0⟩)
abbrev s_is_plain : Stmt := top 9
abbrev s_ends_in : Stmt := top 10
abbrev s_Shelf___init__ : Stmt := inClass (top 14) 0
abbrev s_Shelf_want : Stmt := inClass (top 14) 1
abbrev s_Shelf_want_piece : Stmt := inClass (top 14) 2
abbrev s_Shelf_many : Stmt := inClass (top 14) 3
abbrev s_Shelf_piece : Stmt := inClass (top 14) 4
abbrev s_Shelf_signs : Stmt := inClass (top 14) 5
abbrev s_Shelf_ends : Stmt := inClass (top 14) 6
abbrev s_Shelf_leaves : Stmt := inClass (top 14) 7
abbrev s_Shelf_height : Stmt := inClass (top 14) 8
abbrev s_Shelf_first_leaf : Stmt := inClass (top 14) 9
abbrev s_Shelf_last_leaf : Stmt := inClass (top 14) 10
abbrev s_Shelf_laid : Stmt := inClass (top 14) 11
abbrev s_Shelf_leaf : Stmt := inClass (top 14) 12
abbrev s_Shelf_fork : Stmt := inClass (top 14) 13
abbrev s_Shelf_is_loose : Stmt := inClass (top 14) 14
abbrev s_reach_of : Stmt := top 16
abbrev s_swept : Stmt := top 17
abbrev s_is_leaf : Stmt := top 20
abbrev s_parts_of : Stmt := top 21
abbrev s_turned_right : Stmt := top 22
abbrev s_turned_left : Stmt := top 23
abbrev s_levelled : Stmt := top 24
abbrev s_linked : Stmt := top 25
abbrev s_without_last : Stmt := top 26
abbrev s_without_first : Stmt := top 27
abbrev s_leaf_text : Stmt := top 28
abbrev s_poured : Stmt := top 29
abbrev s_joined : Stmt := top 30
abbrev s_built_of : Stmt := top 31
abbrev s_built : Stmt := top 32
abbrev s_want_stretch : Stmt := top 34
abbrev s_leaf_cut : Stmt := top 35
abbrev s_halves : Stmt := top 36
abbrev s_put_in : Stmt := top 37
abbrev s_taken_out : Stmt := top 38
abbrev s_kept_part : Stmt := top 39
abbrev s_look_at_word : Stmt := top 42
abbrev s_places_in : Stmt := top 43
abbrev s_Finder___init__ : Stmt := inClass (top 44) 0
abbrev s_Finder_ends_of : Stmt := inClass (top 44) 1
abbrev s_Finder_seam : Stmt := inClass (top 44) 2
abbrev s_Finder_often : Stmt := inClass (top 44) 3
abbrev s_Finder_place : Stmt := inClass (top 44) 4
abbrev s_count_of : Stmt := top 45
abbrev s__law_mixed : Stmt := top 47
abbrev s__law_take : Stmt := top 48
abbrev s__law_plain : Stmt := top 49
abbrev s__law_read : Stmt := top 50
abbrev s__law_cell_stream : Stmt := top 51
abbrev s__law_deed : Stmt := top 52
abbrev s__law_kept : Stmt := top 53
abbrev s__law_all_read : Stmt := top 54
abbrev s__law_all_counted : Stmt := top 55
abbrev s_law : Stmt := top 56
abbrev p_is_plain : List Str := ["thing"]
abbrev p_ends_in : List Str := ["plain"]
abbrev p_Shelf___init__ : List Str := ["self"]
abbrev p_Shelf_want : List Str := ["self", "text"]
abbrev p_Shelf_want_piece : List Str := ["self", "number"]
abbrev p_Shelf_many : List Str := ["self"]
abbrev p_Shelf_piece : List Str := ["self", "number"]
abbrev p_Shelf_signs : List Str := ["self", "text"]
abbrev p_Shelf_ends : List Str := ["self", "text"]
abbrev p_Shelf_leaves : List Str := ["self", "text"]
abbrev p_Shelf_height : List Str := ["self", "text"]
abbrev p_Shelf_first_leaf : List Str := ["self", "text"]
abbrev p_Shelf_last_leaf : List Str := ["self", "text"]
abbrev p_Shelf_laid : List Str := ["self", "piece", "signs", "ends", "leaves", "height"]
abbrev p_Shelf_leaf : List Str := ["self", "plain"]
abbrev p_Shelf_fork : List Str := ["self", "one", "other"]
abbrev p_Shelf_is_loose : List Str := ["self", "one", "other"]
abbrev p_reach_of : List Str := ["shelf", "texts"]
abbrev p_swept : List Str := ["shelf", "texts"]
abbrev p_is_leaf : List Str := ["shelf", "text"]
abbrev p_parts_of : List Str := ["shelf", "text"]
abbrev p_turned_right : List Str := ["shelf", "one", "other"]
abbrev p_turned_left : List Str := ["shelf", "one", "other"]
abbrev p_levelled : List Str := ["shelf", "one", "other"]
abbrev p_linked : List Str := ["shelf", "one", "other"]
abbrev p_without_last : List Str := ["shelf", "text"]
abbrev p_without_first : List Str := ["shelf", "text"]
abbrev p_leaf_text : List Str := ["shelf", "number"]
abbrev p_poured : List Str := ["shelf", "one", "other"]
abbrev p_joined : List Str := ["shelf", "one", "other"]
abbrev p_built_of : List Str := ["shelf", "leaves"]
abbrev p_built : List Str := ["shelf", "plain"]
abbrev p_want_stretch : List Str := ["shelf", "text", "begin", "end"]
abbrev p_leaf_cut : List Str := ["shelf", "leaf", "at"]
abbrev p_halves : List Str := ["shelf", "text", "at"]
abbrev p_put_in : List Str := ["shelf", "text", "at", "other"]
abbrev p_taken_out : List Str := ["shelf", "text", "begin", "end"]
abbrev p_kept_part : List Str := ["shelf", "text", "begin", "end"]
abbrev p_look_at_word : List Str := ["word"]
abbrev p_places_in : List Str := ["plain", "word"]
abbrev p_Finder___init__ : List Str := ["self", "shelf", "word"]
abbrev p_Finder_ends_of : List Str := ["self", "text"]
abbrev p_Finder_seam : List Str := ["self", "one", "other"]
abbrev p_Finder_often : List Str := ["self", "text"]
abbrev p_Finder_place : List Str := ["self", "text", "k"]
abbrev p_count_of : List Str := ["shelf", "text", "word"]
abbrev p__law_mixed : List Str := ["cell", "k"]
abbrev p__law_take : List Str := ["stream", "many"]
abbrev p__law_plain : List Str := ["stream", "most"]
abbrev p__law_read : List Str := ["shelf", "text"]
abbrev p__law_cell_stream : List Str := ["cell", "k"]
abbrev p__law_deed : List Str := ["shelf", "found", "stream"]
abbrev p__law_kept : List Str := ["found", "stream"]
abbrev p__law_all_read : List Str := ["shelf", "found"]
abbrev p__law_all_counted : List Str := ["shelf", "found", "word"]
abbrev p_law : List Str := ["script"]
structure Ad where
  C_Shelf : Addr
  C_Finder : Addr
  C_Loose : Addr
  C_NoPiece : Addr
  C_NoPlace : Addr
  C_NoText : Addr
  C_TooLong : Addr
  C_Unlevel : Addr
  f_is_plain : Addr
  d_is_plain : FuncData
  f_ends_in : Addr
  d_ends_in : FuncData
  f_Shelf___init__ : Addr
  d_Shelf___init__ : FuncData
  f_Shelf_want : Addr
  d_Shelf_want : FuncData
  f_Shelf_want_piece : Addr
  d_Shelf_want_piece : FuncData
  f_Shelf_many : Addr
  d_Shelf_many : FuncData
  f_Shelf_piece : Addr
  d_Shelf_piece : FuncData
  f_Shelf_signs : Addr
  d_Shelf_signs : FuncData
  f_Shelf_ends : Addr
  d_Shelf_ends : FuncData
  f_Shelf_leaves : Addr
  d_Shelf_leaves : FuncData
  f_Shelf_height : Addr
  d_Shelf_height : FuncData
  f_Shelf_first_leaf : Addr
  d_Shelf_first_leaf : FuncData
  f_Shelf_last_leaf : Addr
  d_Shelf_last_leaf : FuncData
  f_Shelf_laid : Addr
  d_Shelf_laid : FuncData
  f_Shelf_leaf : Addr
  d_Shelf_leaf : FuncData
  f_Shelf_fork : Addr
  d_Shelf_fork : FuncData
  f_Shelf_is_loose : Addr
  d_Shelf_is_loose : FuncData
  f_reach_of : Addr
  d_reach_of : FuncData
  f_swept : Addr
  d_swept : FuncData
  f_is_leaf : Addr
  d_is_leaf : FuncData
  f_parts_of : Addr
  d_parts_of : FuncData
  f_turned_right : Addr
  d_turned_right : FuncData
  f_turned_left : Addr
  d_turned_left : FuncData
  f_levelled : Addr
  d_levelled : FuncData
  f_linked : Addr
  d_linked : FuncData
  f_without_last : Addr
  d_without_last : FuncData
  f_without_first : Addr
  d_without_first : FuncData
  f_leaf_text : Addr
  d_leaf_text : FuncData
  f_poured : Addr
  d_poured : FuncData
  f_joined : Addr
  d_joined : FuncData
  f_built_of : Addr
  d_built_of : FuncData
  f_built : Addr
  d_built : FuncData
  f_want_stretch : Addr
  d_want_stretch : FuncData
  f_leaf_cut : Addr
  d_leaf_cut : FuncData
  f_halves : Addr
  d_halves : FuncData
  f_put_in : Addr
  d_put_in : FuncData
  f_taken_out : Addr
  d_taken_out : FuncData
  f_kept_part : Addr
  d_kept_part : FuncData
  f_look_at_word : Addr
  d_look_at_word : FuncData
  f_places_in : Addr
  d_places_in : FuncData
  f_Finder___init__ : Addr
  d_Finder___init__ : FuncData
  f_Finder_ends_of : Addr
  d_Finder_ends_of : FuncData
  f_Finder_seam : Addr
  d_Finder_seam : FuncData
  f_Finder_often : Addr
  d_Finder_often : FuncData
  f_Finder_place : Addr
  d_Finder_place : FuncData
  f_count_of : Addr
  d_count_of : FuncData
  f__law_mixed : Addr
  d__law_mixed : FuncData
  f__law_take : Addr
  d__law_take : FuncData
  f__law_plain : Addr
  d__law_plain : FuncData
  f__law_read : Addr
  d__law_read : FuncData
  f__law_cell_stream : Addr
  d__law_cell_stream : FuncData
  f__law_deed : Addr
  d__law_deed : FuncData
  f__law_kept : Addr
  d__law_kept : FuncData
  f__law_all_read : Addr
  d__law_all_read : FuncData
  f__law_all_counted : Addr
  d__law_all_counted : FuncData
  f_law : Addr
  d_law : FuncData
structure Txt (K : PySem.W.Frag) (mg : Str → Option Value) (A : Ad) : Prop where
  cl_Shelf : Cls K A.C_Shelf
  mg_Shelf : mg "Shelf" = some (.ref A.C_Shelf)
  na_Shelf_pieces : NoAttr K A.C_Shelf "pieces"
  na_Shelf_numbers : NoAttr K A.C_Shelf "numbers"
  na_Shelf_told_signs : NoAttr K A.C_Shelf "told_signs"
  na_Shelf_told_ends : NoAttr K A.C_Shelf "told_ends"
  na_Shelf_told_leaves : NoAttr K A.C_Shelf "told_leaves"
  na_Shelf_told_heights : NoAttr K A.C_Shelf "told_heights"
  na_Shelf_firsts : NoAttr K A.C_Shelf "firsts"
  na_Shelf_lasts : NoAttr K A.C_Shelf "lasts"
  mk_Shelf : Mk K A.C_Shelf A.f_Shelf___init__
  cl_Finder : Cls K A.C_Finder
  mg_Finder : mg "Finder" = some (.ref A.C_Finder)
  na_Finder_wood : NoAttr K A.C_Finder "wood"
  na_Finder_word : NoAttr K A.C_Finder "word"
  na_Finder_known : NoAttr K A.C_Finder "known"
  na_Finder_ends_known : NoAttr K A.C_Finder "ends_known"
  mk_Finder : Mk K A.C_Finder A.f_Finder___init__
  ex_Loose : ExTx K mg "Loose" A.C_Loose
  ex_NoPiece : ExTx K mg "NoPiece" A.C_NoPiece
  ex_NoPlace : ExTx K mg "NoPlace" A.C_NoPlace
  ex_NoText : ExTx K mg "NoText" A.C_NoText
  ex_TooLong : ExTx K mg "TooLong" A.C_TooLong
  ex_Unlevel : ExTx K mg "Unlevel" A.C_Unlevel
  fn_is_plain : Fun K "is_plain" "is_plain" s_is_plain A.f_is_plain A.d_is_plain
  bi_is_plain : Binds K A.d_is_plain p_is_plain []
  mg_is_plain : mg "is_plain" = some (.ref A.f_is_plain)
  fn_ends_in : Fun K "ends_in" "ends_in" s_ends_in A.f_ends_in A.d_ends_in
  bi_ends_in : Binds K A.d_ends_in p_ends_in []
  mg_ends_in : mg "ends_in" = some (.ref A.f_ends_in)
  fn_Shelf___init__ : Fun K "__init__" "Shelf.__init__" s_Shelf___init__ A.f_Shelf___init__ A.d_Shelf___init__
  bi_Shelf___init__ : Binds K A.d_Shelf___init__ p_Shelf___init__ []
  fn_Shelf_want : Fun K "want" "Shelf.want" s_Shelf_want A.f_Shelf_want A.d_Shelf_want
  bi_Shelf_want : Binds K A.d_Shelf_want p_Shelf_want []
  me_Shelf_want : Meth K A.C_Shelf "want" A.f_Shelf_want
  fn_Shelf_want_piece : Fun K "want_piece" "Shelf.want_piece" s_Shelf_want_piece A.f_Shelf_want_piece A.d_Shelf_want_piece
  bi_Shelf_want_piece : Binds K A.d_Shelf_want_piece p_Shelf_want_piece []
  me_Shelf_want_piece : Meth K A.C_Shelf "want_piece" A.f_Shelf_want_piece
  fn_Shelf_many : Fun K "many" "Shelf.many" s_Shelf_many A.f_Shelf_many A.d_Shelf_many
  bi_Shelf_many : Binds K A.d_Shelf_many p_Shelf_many []
  me_Shelf_many : Meth K A.C_Shelf "many" A.f_Shelf_many
  fn_Shelf_piece : Fun K "piece" "Shelf.piece" s_Shelf_piece A.f_Shelf_piece A.d_Shelf_piece
  bi_Shelf_piece : Binds K A.d_Shelf_piece p_Shelf_piece []
  me_Shelf_piece : Meth K A.C_Shelf "piece" A.f_Shelf_piece
  fn_Shelf_signs : Fun K "signs" "Shelf.signs" s_Shelf_signs A.f_Shelf_signs A.d_Shelf_signs
  bi_Shelf_signs : Binds K A.d_Shelf_signs p_Shelf_signs []
  me_Shelf_signs : Meth K A.C_Shelf "signs" A.f_Shelf_signs
  fn_Shelf_ends : Fun K "ends" "Shelf.ends" s_Shelf_ends A.f_Shelf_ends A.d_Shelf_ends
  bi_Shelf_ends : Binds K A.d_Shelf_ends p_Shelf_ends []
  me_Shelf_ends : Meth K A.C_Shelf "ends" A.f_Shelf_ends
  fn_Shelf_leaves : Fun K "leaves" "Shelf.leaves" s_Shelf_leaves A.f_Shelf_leaves A.d_Shelf_leaves
  bi_Shelf_leaves : Binds K A.d_Shelf_leaves p_Shelf_leaves []
  me_Shelf_leaves : Meth K A.C_Shelf "leaves" A.f_Shelf_leaves
  fn_Shelf_height : Fun K "height" "Shelf.height" s_Shelf_height A.f_Shelf_height A.d_Shelf_height
  bi_Shelf_height : Binds K A.d_Shelf_height p_Shelf_height []
  me_Shelf_height : Meth K A.C_Shelf "height" A.f_Shelf_height
  fn_Shelf_first_leaf : Fun K "first_leaf" "Shelf.first_leaf" s_Shelf_first_leaf A.f_Shelf_first_leaf A.d_Shelf_first_leaf
  bi_Shelf_first_leaf : Binds K A.d_Shelf_first_leaf p_Shelf_first_leaf []
  me_Shelf_first_leaf : Meth K A.C_Shelf "first_leaf" A.f_Shelf_first_leaf
  fn_Shelf_last_leaf : Fun K "last_leaf" "Shelf.last_leaf" s_Shelf_last_leaf A.f_Shelf_last_leaf A.d_Shelf_last_leaf
  bi_Shelf_last_leaf : Binds K A.d_Shelf_last_leaf p_Shelf_last_leaf []
  me_Shelf_last_leaf : Meth K A.C_Shelf "last_leaf" A.f_Shelf_last_leaf
  fn_Shelf_laid : Fun K "laid" "Shelf.laid" s_Shelf_laid A.f_Shelf_laid A.d_Shelf_laid
  bi_Shelf_laid : Binds K A.d_Shelf_laid p_Shelf_laid []
  me_Shelf_laid : Meth K A.C_Shelf "laid" A.f_Shelf_laid
  fn_Shelf_leaf : Fun K "leaf" "Shelf.leaf" s_Shelf_leaf A.f_Shelf_leaf A.d_Shelf_leaf
  bi_Shelf_leaf : Binds K A.d_Shelf_leaf p_Shelf_leaf []
  me_Shelf_leaf : Meth K A.C_Shelf "leaf" A.f_Shelf_leaf
  fn_Shelf_fork : Fun K "fork" "Shelf.fork" s_Shelf_fork A.f_Shelf_fork A.d_Shelf_fork
  bi_Shelf_fork : Binds K A.d_Shelf_fork p_Shelf_fork []
  me_Shelf_fork : Meth K A.C_Shelf "fork" A.f_Shelf_fork
  fn_Shelf_is_loose : Fun K "is_loose" "Shelf.is_loose" s_Shelf_is_loose A.f_Shelf_is_loose A.d_Shelf_is_loose
  bi_Shelf_is_loose : Binds K A.d_Shelf_is_loose p_Shelf_is_loose []
  me_Shelf_is_loose : Meth K A.C_Shelf "is_loose" A.f_Shelf_is_loose
  fn_reach_of : Fun K "reach_of" "reach_of" s_reach_of A.f_reach_of A.d_reach_of
  bi_reach_of : Binds K A.d_reach_of p_reach_of []
  mg_reach_of : mg "reach_of" = some (.ref A.f_reach_of)
  fn_swept : Fun K "swept" "swept" s_swept A.f_swept A.d_swept
  bi_swept : Binds K A.d_swept p_swept []
  mg_swept : mg "swept" = some (.ref A.f_swept)
  fn_is_leaf : Fun K "is_leaf" "is_leaf" s_is_leaf A.f_is_leaf A.d_is_leaf
  bi_is_leaf : Binds K A.d_is_leaf p_is_leaf []
  mg_is_leaf : mg "is_leaf" = some (.ref A.f_is_leaf)
  fn_parts_of : Fun K "parts_of" "parts_of" s_parts_of A.f_parts_of A.d_parts_of
  bi_parts_of : Binds K A.d_parts_of p_parts_of []
  mg_parts_of : mg "parts_of" = some (.ref A.f_parts_of)
  fn_turned_right : Fun K "turned_right" "turned_right" s_turned_right A.f_turned_right A.d_turned_right
  bi_turned_right : Binds K A.d_turned_right p_turned_right []
  mg_turned_right : mg "turned_right" = some (.ref A.f_turned_right)
  fn_turned_left : Fun K "turned_left" "turned_left" s_turned_left A.f_turned_left A.d_turned_left
  bi_turned_left : Binds K A.d_turned_left p_turned_left []
  mg_turned_left : mg "turned_left" = some (.ref A.f_turned_left)
  fn_levelled : Fun K "levelled" "levelled" s_levelled A.f_levelled A.d_levelled
  bi_levelled : Binds K A.d_levelled p_levelled []
  mg_levelled : mg "levelled" = some (.ref A.f_levelled)
  fn_linked : Fun K "linked" "linked" s_linked A.f_linked A.d_linked
  bi_linked : Binds K A.d_linked p_linked []
  mg_linked : mg "linked" = some (.ref A.f_linked)
  fn_without_last : Fun K "without_last" "without_last" s_without_last A.f_without_last A.d_without_last
  bi_without_last : Binds K A.d_without_last p_without_last []
  mg_without_last : mg "without_last" = some (.ref A.f_without_last)
  fn_without_first : Fun K "without_first" "without_first" s_without_first A.f_without_first A.d_without_first
  bi_without_first : Binds K A.d_without_first p_without_first []
  mg_without_first : mg "without_first" = some (.ref A.f_without_first)
  fn_leaf_text : Fun K "leaf_text" "leaf_text" s_leaf_text A.f_leaf_text A.d_leaf_text
  bi_leaf_text : Binds K A.d_leaf_text p_leaf_text []
  mg_leaf_text : mg "leaf_text" = some (.ref A.f_leaf_text)
  fn_poured : Fun K "poured" "poured" s_poured A.f_poured A.d_poured
  bi_poured : Binds K A.d_poured p_poured []
  mg_poured : mg "poured" = some (.ref A.f_poured)
  fn_joined : Fun K "joined" "joined" s_joined A.f_joined A.d_joined
  bi_joined : Binds K A.d_joined p_joined []
  mg_joined : mg "joined" = some (.ref A.f_joined)
  fn_built_of : Fun K "built_of" "built_of" s_built_of A.f_built_of A.d_built_of
  bi_built_of : Binds K A.d_built_of p_built_of []
  mg_built_of : mg "built_of" = some (.ref A.f_built_of)
  fn_built : Fun K "built" "built" s_built A.f_built A.d_built
  bi_built : Binds K A.d_built p_built []
  mg_built : mg "built" = some (.ref A.f_built)
  fn_want_stretch : Fun K "want_stretch" "want_stretch" s_want_stretch A.f_want_stretch A.d_want_stretch
  bi_want_stretch : Binds K A.d_want_stretch p_want_stretch []
  mg_want_stretch : mg "want_stretch" = some (.ref A.f_want_stretch)
  fn_leaf_cut : Fun K "leaf_cut" "leaf_cut" s_leaf_cut A.f_leaf_cut A.d_leaf_cut
  bi_leaf_cut : Binds K A.d_leaf_cut p_leaf_cut []
  mg_leaf_cut : mg "leaf_cut" = some (.ref A.f_leaf_cut)
  fn_halves : Fun K "halves" "halves" s_halves A.f_halves A.d_halves
  bi_halves : Binds K A.d_halves p_halves []
  mg_halves : mg "halves" = some (.ref A.f_halves)
  fn_put_in : Fun K "put_in" "put_in" s_put_in A.f_put_in A.d_put_in
  bi_put_in : Binds K A.d_put_in p_put_in []
  mg_put_in : mg "put_in" = some (.ref A.f_put_in)
  fn_taken_out : Fun K "taken_out" "taken_out" s_taken_out A.f_taken_out A.d_taken_out
  bi_taken_out : Binds K A.d_taken_out p_taken_out []
  mg_taken_out : mg "taken_out" = some (.ref A.f_taken_out)
  fn_kept_part : Fun K "kept_part" "kept_part" s_kept_part A.f_kept_part A.d_kept_part
  bi_kept_part : Binds K A.d_kept_part p_kept_part []
  mg_kept_part : mg "kept_part" = some (.ref A.f_kept_part)
  fn_look_at_word : Fun K "look_at_word" "look_at_word" s_look_at_word A.f_look_at_word A.d_look_at_word
  bi_look_at_word : Binds K A.d_look_at_word p_look_at_word []
  mg_look_at_word : mg "look_at_word" = some (.ref A.f_look_at_word)
  fn_places_in : Fun K "places_in" "places_in" s_places_in A.f_places_in A.d_places_in
  bi_places_in : Binds K A.d_places_in p_places_in []
  mg_places_in : mg "places_in" = some (.ref A.f_places_in)
  fn_Finder___init__ : Fun K "__init__" "Finder.__init__" s_Finder___init__ A.f_Finder___init__ A.d_Finder___init__
  bi_Finder___init__ : Binds K A.d_Finder___init__ p_Finder___init__ []
  fn_Finder_ends_of : Fun K "ends_of" "Finder.ends_of" s_Finder_ends_of A.f_Finder_ends_of A.d_Finder_ends_of
  bi_Finder_ends_of : Binds K A.d_Finder_ends_of p_Finder_ends_of []
  me_Finder_ends_of : Meth K A.C_Finder "ends_of" A.f_Finder_ends_of
  fn_Finder_seam : Fun K "seam" "Finder.seam" s_Finder_seam A.f_Finder_seam A.d_Finder_seam
  bi_Finder_seam : Binds K A.d_Finder_seam p_Finder_seam []
  me_Finder_seam : Meth K A.C_Finder "seam" A.f_Finder_seam
  fn_Finder_often : Fun K "often" "Finder.often" s_Finder_often A.f_Finder_often A.d_Finder_often
  bi_Finder_often : Binds K A.d_Finder_often p_Finder_often []
  me_Finder_often : Meth K A.C_Finder "often" A.f_Finder_often
  fn_Finder_place : Fun K "place" "Finder.place" s_Finder_place A.f_Finder_place A.d_Finder_place
  bi_Finder_place : Binds K A.d_Finder_place p_Finder_place []
  me_Finder_place : Meth K A.C_Finder "place" A.f_Finder_place
  fn_count_of : Fun K "count_of" "count_of" s_count_of A.f_count_of A.d_count_of
  bi_count_of : Binds K A.d_count_of p_count_of []
  mg_count_of : mg "count_of" = some (.ref A.f_count_of)
  fn__law_mixed : Fun K "_law_mixed" "_law_mixed" s__law_mixed A.f__law_mixed A.d__law_mixed
  bi__law_mixed : Binds K A.d__law_mixed p__law_mixed []
  mg__law_mixed : mg "_law_mixed" = some (.ref A.f__law_mixed)
  fn__law_take : Fun K "_law_take" "_law_take" s__law_take A.f__law_take A.d__law_take
  bi__law_take : Binds K A.d__law_take p__law_take []
  mg__law_take : mg "_law_take" = some (.ref A.f__law_take)
  fn__law_plain : Fun K "_law_plain" "_law_plain" s__law_plain A.f__law_plain A.d__law_plain
  bi__law_plain : Binds K A.d__law_plain p__law_plain []
  mg__law_plain : mg "_law_plain" = some (.ref A.f__law_plain)
  fn__law_read : Fun K "_law_read" "_law_read" s__law_read A.f__law_read A.d__law_read
  bi__law_read : Binds K A.d__law_read p__law_read []
  mg__law_read : mg "_law_read" = some (.ref A.f__law_read)
  fn__law_cell_stream : Fun K "_law_cell_stream" "_law_cell_stream" s__law_cell_stream A.f__law_cell_stream A.d__law_cell_stream
  bi__law_cell_stream : Binds K A.d__law_cell_stream p__law_cell_stream []
  mg__law_cell_stream : mg "_law_cell_stream" = some (.ref A.f__law_cell_stream)
  fn__law_deed : Fun K "_law_deed" "_law_deed" s__law_deed A.f__law_deed A.d__law_deed
  bi__law_deed : Binds K A.d__law_deed p__law_deed []
  mg__law_deed : mg "_law_deed" = some (.ref A.f__law_deed)
  fn__law_kept : Fun K "_law_kept" "_law_kept" s__law_kept A.f__law_kept A.d__law_kept
  bi__law_kept : Binds K A.d__law_kept p__law_kept []
  mg__law_kept : mg "_law_kept" = some (.ref A.f__law_kept)
  fn__law_all_read : Fun K "_law_all_read" "_law_all_read" s__law_all_read A.f__law_all_read A.d__law_all_read
  bi__law_all_read : Binds K A.d__law_all_read p__law_all_read []
  mg__law_all_read : mg "_law_all_read" = some (.ref A.f__law_all_read)
  fn__law_all_counted : Fun K "_law_all_counted" "_law_all_counted" s__law_all_counted A.f__law_all_counted A.d__law_all_counted
  bi__law_all_counted : Binds K A.d__law_all_counted p__law_all_counted []
  mg__law_all_counted : mg "_law_all_counted" = some (.ref A.f__law_all_counted)
  fn_law : Fun K "law" "law" s_law A.f_law A.d_law
  bi_law : Binds K A.d_law p_law []
  mg_law : mg "law" = some (.ref A.f_law)
  k_MOST_IN_LEAF : KInt mg "MOST_IN_LEAF" 8
  k_MOST_SIGNS : KInt mg "MOST_SIGNS" 1000000000000000000
  k_MOST_WRITTEN : KInt mg "MOST_WRITTEN" 10000
  k_MOST_IN_WORD : KInt mg "MOST_IN_WORD" 8
  z_len : mg "len" = none
  z_max : mg "max" = none
  z_min : mg "min" = none
  z_range : mg "range" = none
  z_isinstance : mg "isinstance" = none
  z_all : mg "all" = none
  z_sum : mg "sum" = none
  z_sorted : mg "sorted" = none
  z_str : mg "str" = none
  z_int : mg "int" = none
  z_zip : mg "zip" = none
  z_enumerate : mg "enumerate" = none
/-! ### Shelf: the promises -/
section
variable {C : Addr}
/-- what is refused by its number -/
def eN (E : XK) (CN : Addr) (H : Hp) : Prop := E (.ref CN) none H
def spGet (C CN : Addr) (f : List Tr → Option Tr → V) : Sp := fun vs H Q E => ∃ c S n, vs = [.ref (Cells.a c), .int n] ∧ ShAt C c H S ∧ ((∃ o, Tx S n o ∧ Q (f S o) H) ∨ (¬ inR S n ∧ E (.ref CN) none H))
def gOne (S : List Tr) : Option Tr → V := fun _ => .non
def gSg (S : List Tr) : Option Tr → V | none => .int 0 | some t => .int t.sg
def gEn (S : List Tr) : Option Tr → V | none => .int 0 | some t => .int t.en
def gLv (S : List Tr) : Option Tr → V | none => .int 0 | some t => .int t.lv
def gHt (S : List Tr) : Option Tr → V | none => .int (-1) | some t => .int t.ht
def gFi (S : List Tr) : Option Tr → V | none => .int 0 | some t => .int (num S t.fi)
def gLa (S : List Tr) : Option Tr → V | none => .int 0 | some t => .int (num S t.la)
theorem c_get {CN : Addr} {f : List Tr → Option Tr → V} {c : Cells} {S : List Tr} {n : Int} {o : Option Tr} {H : Hp} {Q : VK} {E : XK} (s : ShAt C c H S) (h : Tx S n o) (k : Q (f S o) H) : spGet C CN f [.ref c.a, .int n] H Q E :=
  ⟨c, S, n, rfl, s, .inl ⟨o, h, k⟩⟩
theorem c_getN {CN : Addr} {f : List Tr → Option Tr → V} {c : Cells} {S : List Tr} {n : Int} {t : Tr} {H : Hp} {Q : VK} {E : XK} (s : ShAt C c H S) (h : Nm S n t) (k : Q (f S (some t)) H) : spGet C CN f [.ref c.a, .int n] H Q E := c_get s (o := some t) h k
/-- want_piece -/
def spWantP (C CN : Addr) : Sp := fun vs H Q E => ∃ c S n, vs = [.ref (Cells.a c), .int n] ∧ ShAt C c H S ∧ ((∃ t, Nm S n t ∧ Q .non H) ∨ ((∀ t, ¬ Nm S n t) ∧ E (.ref CN) none H))
def spMany (C : Addr) : Sp := fun vs H Q _ => ∃ c S, vs = [.ref (Cells.a c)] ∧ ShAt C c H S ∧ Q (.int S.length) H
def spPiece (C CN : Addr) : Sp := fun vs H Q E => ∃ c S n, vs = [.ref (Cells.a c), .int n] ∧ ShAt C c H S ∧ ((∃ t, Nm S n t ∧ ∀ r, H r = some (.tup (pvals S t)) → Q (.ref r) H) ∨ ((∀ t, ¬ Nm S n t) ∧ E (.ref CN) none H))
theorem c_many {c : Cells} {S : List Tr} {H : Hp} {Q : VK} {E : XK} (s : ShAt C c H S) (k : Q (.int S.length) H) : spMany C [.ref c.a] H Q E := ⟨c, S, rfl, s, k⟩
theorem c_piece {CN : Addr} {c : Cells} {S : List Tr} {n : Int} {t : Tr} {H : Hp} {Q : VK} {E : XK} (s : ShAt C c H S) (h : Nm S n t) (k : ∀ r, H r = some (.tup (pvals S t)) → Q (.ref r) H) : spPiece C CN [.ref c.a, .int n] H Q E := ⟨c, S, n, rfl, s, .inl ⟨t, h, k⟩⟩
theorem c_wantP {CN : Addr} {c : Cells} {S : List Tr} {n : Int} {t : Tr} {H : Hp} {Q : VK} {E : XK} (s : ShAt C c H S) (h : Nm S n t) (k : Q .non H) : spWantP C CN [.ref c.a, .int n] H Q E := ⟨c, S, n, rfl, s, .inl ⟨t, h, k⟩⟩
theorem not_nm {S : List Tr} {n : Int} (h : ∀ t, ¬ Nm S n t) : ¬ (0 < n ∧ n ≤ S.length) := fun z => let ⟨t, x⟩ := Nm.of z.1 z.2; h t x
end
section
variable {P : Program} {w : World} {K : PySem.W.Frag} {mg : Str → Option Value} {base : Heap} {A : Ad}

abbrev n_Shelf_want : List Str := ["self", "text"]
theorem sc_Shelf_want : FnScope n_Shelf_want p_Shelf_want (defScope s_Shelf_want) := ⟨rfl, rfl, rfl, by decide +kernel, rfl, by decide +kernel, by decide +kernel⟩
theorem ok_Shelf_want (T : Txt K mg A) : FnOk P w K mg base (L2.CX P w) 1 A.f_Shelf_want A.d_Shelf_want p_Shelf_want (spGet A.C_Shelf A.C_NoPiece gOne) := by
  refine T.fn_Shelf_want.okX sc_Shelf_want (fun vs H Q E h => ?_) (fun cdv B outer s H vs Q E hr h => ?_)
  · obtain ⟨c, S, n, rfl, _⟩ := h; rfl
  obtain ⟨c, S, n, rfl, hS, h⟩ := h
  refine ⟨_, (pss_one (ps_if (pt_not (pt_chain op_le op_lt pe_int (pv 1) (pe_callB call_len_seq (by rfl) T.z_len bt_len (pa_cons (pe_fld (pv 0) rfl) pa_nil)))) (pss_one (ps_raise0 rfl T.ex_NoPiece (takes_of rfl rfl rfl rfl) rfl)) pss_nil)), ?_⟩
  obtain ⟨rs, p1, p2, _⟩ := hS.pc
  have len : (V.non :: rs.map V.ref).length = S.length + 1 := by simp [p2]
  refine w_ifS (w_tNot (w_test (w_chain (w_c (w_var rfl (w_rI0 ⟨_, rfl, ite_d (fun h0 => ?_) (fun h0 => ?_)⟩))))))
  · refine w_cb (w_cons (w_fld (w_var rfl ⟨c.a, _, _, _, _, rfl, hS.ob, T.cl_Shelf, T.na_Shelf_pieces, fl_pieces c, w_nil ⟨_, _, rfl, .inl (SqL.of p1), w_rI0 ⟨_, rfl, ite_n (fun h1 => ?_) (fun h1 => ?_)⟩⟩⟩)))
    · rcases h with ⟨o, h, _⟩ | ⟨_, h⟩
      · have := Tx.inR h; rw [len] at h1; exact absurd (by have := this.2; omega) h1
      · exact h
    · rcases h with ⟨o, h, k⟩ | ⟨h, _⟩
      · exact k
      · rw [len] at h1; exact absurd ⟨h0, by omega⟩ h
  · refine ⟨_, rfl, iteT ?_⟩
    rcases h with ⟨o, h, _⟩ | ⟨_, h⟩
    · exact absurd (Tx.inR h).1 h0
    · exact h
abbrev n_Shelf_want_piece : List Str := ["self", "number"]
theorem sc_Shelf_want_piece : FnScope n_Shelf_want_piece p_Shelf_want_piece (defScope s_Shelf_want_piece) := ⟨rfl, rfl, rfl, by decide +kernel, rfl, by decide +kernel, by decide +kernel⟩
theorem ok_Shelf_want_piece (T : Txt K mg A) : FnOk P w K mg base (L2.CX P w) 1 A.f_Shelf_want_piece A.d_Shelf_want_piece p_Shelf_want_piece (spWantP A.C_Shelf A.C_NoPiece) := by
  refine T.fn_Shelf_want_piece.okX sc_Shelf_want_piece (fun vs H Q E h => ?_) (fun cdv B outer s H vs Q E hr h => ?_)
  · obtain ⟨c, S, n, rfl, _⟩ := h; rfl
  obtain ⟨c, S, n, rfl, hS, h⟩ := h
  refine ⟨_, (pss_one (ps_if (pt_not (pt_chain op_lt op_lt pe_int (pv 1) (pe_callB call_len_seq (by rfl) T.z_len bt_len (pa_cons (pe_fld (pv 0) rfl) pa_nil)))) (pss_one (ps_raise0 rfl T.ex_NoPiece (takes_of rfl rfl rfl rfl) rfl)) pss_nil)), ?_⟩
  obtain ⟨rs, p1, p2, _⟩ := hS.pc
  have len : (V.non :: rs.map V.ref).length = S.length + 1 := by simp [p2]
  refine w_ifS (w_tNot (w_test (w_chain (w_c (w_var rfl (w_rI0 ⟨_, rfl, ite_d (fun h0 => ?_) (fun h0 => ?_)⟩))))))
  · refine w_cb (w_cons (w_fld (w_var rfl ⟨c.a, _, _, _, _, rfl, hS.ob, T.cl_Shelf, T.na_Shelf_pieces, fl_pieces c, w_nil ⟨_, _, rfl, .inl (SqL.of p1), w_rI0 ⟨_, rfl, ite_n (fun h1 => ?_) (fun h1 => ?_)⟩⟩⟩)))
    · rcases h with ⟨o, h, _⟩ | ⟨_, h⟩
      · have := Nm.pos h; rw [len] at h1; exact absurd (by have := this.2; omega) h1
      · exact h
    · rcases h with ⟨o, h, k⟩ | ⟨h, _⟩
      · exact k
      · rw [len] at h1; exact absurd ⟨h0, by omega⟩ (not_nm h)
  · refine ⟨_, rfl, iteT ?_⟩
    rcases h with ⟨o, h, _⟩ | ⟨_, h⟩
    · exact absurd (Nm.pos h).1 h0
    · exact h

abbrev n_Shelf_many : List Str := ["self"]
theorem sc_Shelf_many : FnScope n_Shelf_many p_Shelf_many (defScope s_Shelf_many) := ⟨rfl, rfl, rfl, by decide +kernel, rfl, by decide +kernel, by decide +kernel⟩
theorem ok_Shelf_many (T : Txt K mg A) : FnOk P w K mg base (L2.CX P w) 1 A.f_Shelf_many A.d_Shelf_many p_Shelf_many (spMany A.C_Shelf) := by
  refine T.fn_Shelf_many.okX sc_Shelf_many (fun vs H Q E h => ?_) (fun cdv B outer s H vs Q E hr h => ?_)
  · obtain ⟨c, S, rfl, _⟩ := h; rfl
  obtain ⟨c, S, rfl, hS, h⟩ := h
  refine ⟨_, (pss_one (ps_ret (pe_op op_sub (pe_callB call_len_seq (by rfl) T.z_len bt_len (pa_cons (pe_fld (pv 0) rfl) pa_nil)) pe_int))), ?_⟩
  obtain ⟨rs, p1, p2, _⟩ := hS.pc
  have len : ((V.non :: rs.map V.ref).length : Int) - 1 = S.length := by simp [p2]
  refine w_ret (w_op (w_cb (w_cons (w_fld (w_var rfl ⟨c.a, _, _, _, _, rfl, hS.ob, T.cl_Shelf, T.na_Shelf_pieces, fl_pieces c, w_nil ⟨_, _, rfl, .inl (SqL.of p1), w_c (w_rI0 ?_)⟩⟩)))))
  rw [len]; exact h
abbrev n_Shelf_piece : List Str := ["self", "number"]
theorem sc_Shelf_piece : FnScope n_Shelf_piece p_Shelf_piece (defScope s_Shelf_piece) := ⟨rfl, rfl, rfl, by decide +kernel, rfl, by decide +kernel, by decide +kernel⟩
theorem ok_Shelf_piece (T : Txt K mg A) : FnOk P w K mg base (L2.CX P w) 2 A.f_Shelf_piece A.d_Shelf_piece p_Shelf_piece (spPiece A.C_Shelf A.C_NoPiece) := by
  refine T.fn_Shelf_piece.okX sc_Shelf_piece (fun vs H Q E h => ?_) (fun cdv B outer s H vs Q E hr h => ?_)
  · obtain ⟨c, S, n, rfl, _⟩ := h; rfl
  obtain ⟨c, S, n, rfl, hS, h⟩ := h
  refine ⟨_, (pss_cons (ps_expr (pe_meth (pv 0) T.cl_Shelf T.me_Shelf_want_piece (ok_Shelf_want_piece T) (hr.mono (by omega)) T.bi_Shelf_want_piece .nil (passes_call (takes_of rfl rfl rfl rfl) (fun _ _ _ _ h => h)) (pa_cons (pv 1) pa_nil)))
      (pss_one (ps_ret (pe_ix ix_list (pe_fld (pv 0) rfl) (pv 1) (fun _ _ => rfl))))), ?_⟩
  refine w_seq (w_drop (w_meth (w_var rfl ⟨c.a, c.dx, _, rfl, hS.ob, fl_no (by decide +kernel), w_cons (w_var rfl (w_nil ?_))⟩)))
  rcases h with ⟨t, h, k⟩ | ⟨h, k⟩
  · refine c_wantP hS h ?_
    obtain ⟨xs, r, p1, _, p3, p4⟩ := piece_at hS h
    exact w_ret (w_op (w_fld (w_var rfl ⟨c.a, _, _, _, _, rfl, hS.ob, T.cl_Shelf, T.na_Shelf_pieces, fl_pieces c, w_var rfl (w_ixl (SqL.of p1) p3 (k r p4))⟩)))
  · exact ⟨c, S, n, rfl, hS, .inr ⟨h, k⟩⟩
abbrev n_Shelf_signs : List Str := ["self", "text"]
theorem sc_Shelf_signs : FnScope n_Shelf_signs p_Shelf_signs (defScope s_Shelf_signs) := ⟨rfl, rfl, rfl, by decide +kernel, rfl, by decide +kernel, by decide +kernel⟩
theorem ok_Shelf_signs (T : Txt K mg A) : FnOk P w K mg base (L2.CX P w) 2 A.f_Shelf_signs A.d_Shelf_signs p_Shelf_signs (spGet A.C_Shelf A.C_NoPiece gSg) := by
  refine T.fn_Shelf_signs.okX sc_Shelf_signs (fun vs H Q E h => ?_) (fun cdv B outer s H vs Q E hr h => ?_)
  · obtain ⟨c, S, n, rfl, _⟩ := h; rfl
  obtain ⟨c, S, n, rfl, hS, h⟩ := h
  refine ⟨_, (pss_cons (ps_expr (pe_meth (pv 0) T.cl_Shelf T.me_Shelf_want (ok_Shelf_want T) (hr.mono (by omega)) T.bi_Shelf_want .nil (passes_call (takes_of rfl rfl rfl rfl) (fun _ _ _ _ h => h)) (pa_cons (pv 1) pa_nil)))
      (pss_one (ps_ret (pe_ix ix_list (pe_fld (pv 0) rfl) (pv 1) (fun _ _ => rfl))))), ?_⟩
  refine w_seq (w_drop (w_meth (w_var rfl ⟨c.a, c.dx, _, rfl, hS.ob, fl_no (by decide +kernel), w_cons (w_var rfl (w_nil ?_))⟩)))
  rcases h with ⟨o, h, k⟩ | ⟨h, k⟩
  · refine c_get hS h ?_
    refine w_ret (w_op (w_fld (w_var rfl ⟨c.a, _, _, _, _, rfl, hS.ob, T.cl_Shelf, T.na_Shelf_told_signs, fl_signs c, w_var rfl (w_ixl (SqL.of hS.sg) (atI_tx h) ?_)⟩)))
    cases o <;> exact k
  · exact ⟨c, S, n, rfl, hS, .inr ⟨h, k⟩⟩
abbrev n_Shelf_ends : List Str := ["self", "text"]
theorem sc_Shelf_ends : FnScope n_Shelf_ends p_Shelf_ends (defScope s_Shelf_ends) := ⟨rfl, rfl, rfl, by decide +kernel, rfl, by decide +kernel, by decide +kernel⟩
theorem ok_Shelf_ends (T : Txt K mg A) : FnOk P w K mg base (L2.CX P w) 2 A.f_Shelf_ends A.d_Shelf_ends p_Shelf_ends (spGet A.C_Shelf A.C_NoPiece gEn) := by
  refine T.fn_Shelf_ends.okX sc_Shelf_ends (fun vs H Q E h => ?_) (fun cdv B outer s H vs Q E hr h => ?_)
  · obtain ⟨c, S, n, rfl, _⟩ := h; rfl
  obtain ⟨c, S, n, rfl, hS, h⟩ := h
  refine ⟨_, (pss_cons (ps_expr (pe_meth (pv 0) T.cl_Shelf T.me_Shelf_want (ok_Shelf_want T) (hr.mono (by omega)) T.bi_Shelf_want .nil (passes_call (takes_of rfl rfl rfl rfl) (fun _ _ _ _ h => h)) (pa_cons (pv 1) pa_nil)))
      (pss_one (ps_ret (pe_ix ix_list (pe_fld (pv 0) rfl) (pv 1) (fun _ _ => rfl))))), ?_⟩
  refine w_seq (w_drop (w_meth (w_var rfl ⟨c.a, c.dx, _, rfl, hS.ob, fl_no (by decide +kernel), w_cons (w_var rfl (w_nil ?_))⟩)))
  rcases h with ⟨o, h, k⟩ | ⟨h, k⟩
  · refine c_get hS h ?_
    refine w_ret (w_op (w_fld (w_var rfl ⟨c.a, _, _, _, _, rfl, hS.ob, T.cl_Shelf, T.na_Shelf_told_ends, fl_ends c, w_var rfl (w_ixl (SqL.of hS.en) (atI_tx h) ?_)⟩)))
    cases o <;> exact k
  · exact ⟨c, S, n, rfl, hS, .inr ⟨h, k⟩⟩
abbrev n_Shelf_leaves : List Str := ["self", "text"]
theorem sc_Shelf_leaves : FnScope n_Shelf_leaves p_Shelf_leaves (defScope s_Shelf_leaves) := ⟨rfl, rfl, rfl, by decide +kernel, rfl, by decide +kernel, by decide +kernel⟩
theorem ok_Shelf_leaves (T : Txt K mg A) : FnOk P w K mg base (L2.CX P w) 2 A.f_Shelf_leaves A.d_Shelf_leaves p_Shelf_leaves (spGet A.C_Shelf A.C_NoPiece gLv) := by
  refine T.fn_Shelf_leaves.okX sc_Shelf_leaves (fun vs H Q E h => ?_) (fun cdv B outer s H vs Q E hr h => ?_)
  · obtain ⟨c, S, n, rfl, _⟩ := h; rfl
  obtain ⟨c, S, n, rfl, hS, h⟩ := h
  refine ⟨_, (pss_cons (ps_expr (pe_meth (pv 0) T.cl_Shelf T.me_Shelf_want (ok_Shelf_want T) (hr.mono (by omega)) T.bi_Shelf_want .nil (passes_call (takes_of rfl rfl rfl rfl) (fun _ _ _ _ h => h)) (pa_cons (pv 1) pa_nil)))
      (pss_one (ps_ret (pe_ix ix_list (pe_fld (pv 0) rfl) (pv 1) (fun _ _ => rfl))))), ?_⟩
  refine w_seq (w_drop (w_meth (w_var rfl ⟨c.a, c.dx, _, rfl, hS.ob, fl_no (by decide +kernel), w_cons (w_var rfl (w_nil ?_))⟩)))
  rcases h with ⟨o, h, k⟩ | ⟨h, k⟩
  · refine c_get hS h ?_
    refine w_ret (w_op (w_fld (w_var rfl ⟨c.a, _, _, _, _, rfl, hS.ob, T.cl_Shelf, T.na_Shelf_told_leaves, fl_leaves c, w_var rfl (w_ixl (SqL.of hS.lv) (atI_tx h) ?_)⟩)))
    cases o <;> exact k
  · exact ⟨c, S, n, rfl, hS, .inr ⟨h, k⟩⟩
abbrev n_Shelf_height : List Str := ["self", "text"]
theorem sc_Shelf_height : FnScope n_Shelf_height p_Shelf_height (defScope s_Shelf_height) := ⟨rfl, rfl, rfl, by decide +kernel, rfl, by decide +kernel, by decide +kernel⟩
theorem ok_Shelf_height (T : Txt K mg A) : FnOk P w K mg base (L2.CX P w) 2 A.f_Shelf_height A.d_Shelf_height p_Shelf_height (spGet A.C_Shelf A.C_NoPiece gHt) := by
  refine T.fn_Shelf_height.okX sc_Shelf_height (fun vs H Q E h => ?_) (fun cdv B outer s H vs Q E hr h => ?_)
  · obtain ⟨c, S, n, rfl, _⟩ := h; rfl
  obtain ⟨c, S, n, rfl, hS, h⟩ := h
  refine ⟨_, (pss_cons (ps_expr (pe_meth (pv 0) T.cl_Shelf T.me_Shelf_want (ok_Shelf_want T) (hr.mono (by omega)) T.bi_Shelf_want .nil (passes_call (takes_of rfl rfl rfl rfl) (fun _ _ _ _ h => h)) (pa_cons (pv 1) pa_nil)))
      (pss_one (ps_ret (pe_ix ix_list (pe_fld (pv 0) rfl) (pv 1) (fun _ _ => rfl))))), ?_⟩
  refine w_seq (w_drop (w_meth (w_var rfl ⟨c.a, c.dx, _, rfl, hS.ob, fl_no (by decide +kernel), w_cons (w_var rfl (w_nil ?_))⟩)))
  rcases h with ⟨o, h, k⟩ | ⟨h, k⟩
  · refine c_get hS h ?_
    refine w_ret (w_op (w_fld (w_var rfl ⟨c.a, _, _, _, _, rfl, hS.ob, T.cl_Shelf, T.na_Shelf_told_heights, fl_heights c, w_var rfl (w_ixl (SqL.of hS.ht) (atI_tx h) ?_)⟩)))
    cases o <;> exact k
  · exact ⟨c, S, n, rfl, hS, .inr ⟨h, k⟩⟩
abbrev n_Shelf_first_leaf : List Str := ["self", "text"]
theorem sc_Shelf_first_leaf : FnScope n_Shelf_first_leaf p_Shelf_first_leaf (defScope s_Shelf_first_leaf) := ⟨rfl, rfl, rfl, by decide +kernel, rfl, by decide +kernel, by decide +kernel⟩
theorem ok_Shelf_first_leaf (T : Txt K mg A) : FnOk P w K mg base (L2.CX P w) 2 A.f_Shelf_first_leaf A.d_Shelf_first_leaf p_Shelf_first_leaf (spGet A.C_Shelf A.C_NoPiece gFi) := by
  refine T.fn_Shelf_first_leaf.okX sc_Shelf_first_leaf (fun vs H Q E h => ?_) (fun cdv B outer s H vs Q E hr h => ?_)
  · obtain ⟨c, S, n, rfl, _⟩ := h; rfl
  obtain ⟨c, S, n, rfl, hS, h⟩ := h
  refine ⟨_, (pss_cons (ps_expr (pe_meth (pv 0) T.cl_Shelf T.me_Shelf_want (ok_Shelf_want T) (hr.mono (by omega)) T.bi_Shelf_want .nil (passes_call (takes_of rfl rfl rfl rfl) (fun _ _ _ _ h => h)) (pa_cons (pv 1) pa_nil)))
      (pss_one (ps_ret (pe_ix ix_list (pe_fld (pv 0) rfl) (pv 1) (fun _ _ => rfl))))), ?_⟩
  refine w_seq (w_drop (w_meth (w_var rfl ⟨c.a, c.dx, _, rfl, hS.ob, fl_no (by decide +kernel), w_cons (w_var rfl (w_nil ?_))⟩)))
  rcases h with ⟨o, h, k⟩ | ⟨h, k⟩
  · refine c_get hS h ?_
    refine w_ret (w_op (w_fld (w_var rfl ⟨c.a, _, _, _, _, rfl, hS.ob, T.cl_Shelf, T.na_Shelf_firsts, fl_firsts c, w_var rfl (w_ixl (SqL.of hS.fi) (atI_tx h) ?_)⟩)))
    cases o <;> exact k
  · exact ⟨c, S, n, rfl, hS, .inr ⟨h, k⟩⟩
abbrev n_Shelf_last_leaf : List Str := ["self", "text"]
theorem sc_Shelf_last_leaf : FnScope n_Shelf_last_leaf p_Shelf_last_leaf (defScope s_Shelf_last_leaf) := ⟨rfl, rfl, rfl, by decide +kernel, rfl, by decide +kernel, by decide +kernel⟩
theorem ok_Shelf_last_leaf (T : Txt K mg A) : FnOk P w K mg base (L2.CX P w) 2 A.f_Shelf_last_leaf A.d_Shelf_last_leaf p_Shelf_last_leaf (spGet A.C_Shelf A.C_NoPiece gLa) := by
  refine T.fn_Shelf_last_leaf.okX sc_Shelf_last_leaf (fun vs H Q E h => ?_) (fun cdv B outer s H vs Q E hr h => ?_)
  · obtain ⟨c, S, n, rfl, _⟩ := h; rfl
  obtain ⟨c, S, n, rfl, hS, h⟩ := h
  refine ⟨_, (pss_cons (ps_expr (pe_meth (pv 0) T.cl_Shelf T.me_Shelf_want (ok_Shelf_want T) (hr.mono (by omega)) T.bi_Shelf_want .nil (passes_call (takes_of rfl rfl rfl rfl) (fun _ _ _ _ h => h)) (pa_cons (pv 1) pa_nil)))
      (pss_one (ps_ret (pe_ix ix_list (pe_fld (pv 0) rfl) (pv 1) (fun _ _ => rfl))))), ?_⟩
  refine w_seq (w_drop (w_meth (w_var rfl ⟨c.a, c.dx, _, rfl, hS.ob, fl_no (by decide +kernel), w_cons (w_var rfl (w_nil ?_))⟩)))
  rcases h with ⟨o, h, k⟩ | ⟨h, k⟩
  · refine c_get hS h ?_
    refine w_ret (w_op (w_fld (w_var rfl ⟨c.a, _, _, _, _, rfl, hS.ob, T.cl_Shelf, T.na_Shelf_lasts, fl_lasts c, w_var rfl (w_ixl (SqL.of hS.la) (atI_tx h) ?_)⟩)))
    cases o <;> exact k
  · exact ⟨c, S, n, rfl, hS, .inr ⟨h, k⟩⟩
end

/-! ### Shelf: laid, leaf, fork -/
theorem lt1 {a b : Nat} : ([a] : List Nat) < [b] ↔ a < b := by rw [List.cons_lt_cons_iff]; simp
theorem dlt1 {a b : Nat} : (!decide (([a] : List Nat) < [b])) = decide (b ≤ a) := by
  by_cases h : a < b
  · rw [decide_eq_true (lt1.mpr h), decide_eq_false (by omega)]; rfl
  · rw [decide_eq_false (fun z => h (lt1.mp z)), decide_eq_true (by omega)]; rfl
theorem one_sT {a b : Nat} : ((⟨#[a]⟩ : Str) = sT [b]) ↔ a = b := by
  constructor
  · intro h; have := sT_inj (l := [a]) (m := [b]) h; simpa using this
  · intro h; rw [h]
theorem sT_bl : (" " : Str) = sT [32] := by decide +kernel
theorem sT_ti : ("~" : Str) = sT [126] := by decide +kernel
theorem all_plain (l : List Nat) : (l.map fun c => decide (plainC c)).all id = decide (Plain l) := by
  by_cases h : Plain l
  · rw [decide_eq_true h, List.all_eq_true]
    intro b hb
    obtain ⟨c, hc, rfl⟩ := List.mem_map.mp hb
    simpa using h c hc
  · rw [decide_eq_false h, List.all_eq_false]
    have : ∃ c, c ∈ l ∧ ¬ plainC c := by
      refine Classical.byContradiction fun z => h fun c hc => ?_
      exact Classical.byContradiction fun y => z ⟨c, hc, y⟩
    obtain ⟨c, hc, hn⟩ := this
    exact ⟨_, List.mem_map.mpr ⟨c, hc, rfl⟩, by simpa using hn⟩
theorem take_snoc {α : Type} {l : List α} {i : Nat} {x : α} (h : l[i]? = some x) : l.take (i + 1) = l.take i ++ [x] := by
  obtain ⟨hl, e⟩ := List.getElem?_eq_some_iff.mp h
  rw [List.take_succ, h]; rfl
def spPlain (K : PySem.W.Frag) : Sp := fun vs H Q _ => ∃ v, vs = [v] ∧ ((∃ l : List Nat, v = .str (sT l) ∧ l.length ≤ cap ∧ ∀ H', Same H H' → Q (.bl (decide (Plain l))) H') ∨
  (∃ t, TyX K H v t ∧ PySem.W.kitOne K t (.type "str") = some false ∧ Q (.bl false) H))
theorem c_plain {K : PySem.W.Frag} {l : List Nat} {H : Hp} {Q : VK} {E : XK} (hl : l.length ≤ cap) (k : ∀ H', Same H H' → Q (.bl (decide (Plain l))) H') : spPlain K [.str (sT l)] H Q E := ⟨_, rfl, .inl ⟨l, rfl, hl, k⟩⟩
def spEnds : Sp := fun vs H Q _ => ∃ l : List Nat, vs = [.str (sT l)] ∧ Q (.int (l.count 10 : Nat)) H
theorem c_ends {l : List Nat} {H : Hp} {Q : VK} {E : XK} (k : Q (.int (l.count 10 : Nat)) H) : spEnds [.str (sT l)] H Q E := ⟨l, rfl, k⟩
section
variable {C : Addr}
def spLaid (C : Addr) : Sp := fun vs H Q _ => ∃ c S t p xs, vs = [.ref (Cells.a c), .ref p, .int (t : Tr).sg, .int t.en, .int t.lv, .int t.ht] ∧ ShAt C c H S ∧ H p = some (.tup (pvals S t)) ∧ S.length < cap ∧ H c.pc = some (.lst xs) ∧ Q (.int (S.length + 1)) (laidH c H xs S t p)
def spLeaf (C CT : Addr) : Sp := fun vs H Q E => ∃ c S l, vs = [.ref (Cells.a c), .str (sT l)] ∧ ShAt C c H S ∧ l.length ≤ cap ∧ ((Ok (.lf l) ∧ S.length < cap ∧ ∀ H', ShAt C c H' (put S (.lf l)) → Keep c H H' → Q (.int (num (put S (.lf l)) (.lf l))) H') ∨
  (¬ Ok (.lf l) ∧ ∀ H', Same H H' → E (.ref CT) none H'))
theorem c_leaf {CT : Addr} {c : Cells} {S : List Tr} {l : List Nat} {H : Hp} {Q : VK} {E : XK} (s : ShAt C c H S) (o : Ok (.lf l)) (h : S.length < cap) (k : ∀ H', ShAt C c H' (put S (.lf l)) → Keep c H H' → Q (.int (num (put S (.lf l)) (.lf l))) H') :
    spLeaf C CT [.ref c.a, .str (sT l)] H Q E := ⟨c, S, l, rfl, s, by have := o.2.1; unfold cap; omega, .inl ⟨o, h, k⟩⟩
def spLoose (C : Addr) : Sp := fun vs H Q _ => ∃ c S n m a b, vs = [.ref (Cells.a c), .int n, .int m] ∧ ShAt C c H S ∧ Nm S n a ∧ Nm S m b ∧ Q (.bl (decide (a.la.sg + b.fi.sg ≤ 8))) H
theorem c_loose {c : Cells} {S : List Tr} {n m : Int} {a b : Tr} {H : Hp} {Q : VK} {E : XK} (s : ShAt C c H S) (ha : Nm S n a) (hb : Nm S m b) (k : Q (.bl (decide (a.la.sg + b.fi.sg ≤ 8))) H) : spLoose C [.ref c.a, .int n, .int m] H Q E := ⟨c, S, n, m, a, b, rfl, s, ha, hb, k⟩
/-- what a fork of two numbers comes to -/
def spFork (C CN CL CU CT : Addr) : Sp := fun vs H Q E => ∃ c S n m, vs = [.ref (Cells.a c), .int n, .int m] ∧ ShAt C c H S ∧
  ((((∀ t, ¬ Nm S n t) ∨ (∀ t, ¬ Nm S m t)) ∧ E (.ref CN) none H) ∨ ∃ a b, Nm S n a ∧ Nm S m b ∧
    ((a.la.sg + b.fi.sg ≤ 8 ∧ E (.ref CL) none H) ∨
     (8 < a.la.sg + b.fi.sg ∧ (b.ht + 1 < a.ht ∨ a.ht + 1 < b.ht) ∧ ∀ H', Same H H' → E (.ref CU) none H') ∨
     (8 < a.la.sg + b.fi.sg ∧ a.ht ≤ b.ht + 1 ∧ b.ht ≤ a.ht + 1 ∧ mostSg < a.sg + b.sg ∧ ∀ H', Same H H' → E (.ref CT) none H') ∨
     (Ok (.fk a b) ∧ S.length < cap ∧ ∀ H', ShAt C c H' (put S (.fk a b)) → Keep c H H' → Q (.int (num (put S (.fk a b)) (.fk a b))) H')))
theorem c_fork {CN CL CU CT : Addr} {c : Cells} {S : List Tr} {n m : Int} {a b : Tr} {H : Hp} {Q : VK} {E : XK} (s : ShAt C c H S) (ha : Nm S n a) (hb : Nm S m b) (o : Ok (.fk a b)) (h : S.length < cap)
    (k : ∀ H', ShAt C c H' (put S (.fk a b)) → Keep c H H' → Q (.int (num (put S (.fk a b)) (.fk a b))) H') : spFork C CN CL CU CT [.ref c.a, .int n, .int m] H Q E :=
  ⟨c, S, n, m, rfl, s, .inr ⟨a, b, ha, hb, .inr (.inr (.inr ⟨o, h, k⟩))⟩⟩
def spShelf (C : Addr) : Sp := fun vs H Q _ => ∃ p dx, vs = [.ref p] ∧ H p = some (.ins C dx []) ∧ H dx = some (.own p) ∧ dx ≠ p ∧ ∀ c H', c.a = p → ShAt C c H' [] → (∀ b o, H b = some o → b ≠ p → H' b = some o) → (∀ b ∈ c.all, b = p ∨ b = dx ∨ H b = none) → Q .non H'
end
theorem c_new {C : Addr} {H1 : Hp} {R : Addr → Hp → Prop} {E : XK} (k : ∀ c H', ShAt C c H' [] → Same H1 H' → (∀ b ∈ c.all, H1 b = none) → R c.a H') :
    ∀ x dx, H1 x = none → H1 dx = none → dx ≠ x → spShelf C (.ref x :: ([] ++ [])) (upd (upd H1 dx (.own x)) x (.ins C dx [])) (fun v H2 => v = .non ∧ R x H2) E := by
  intro x dx hx hdx ne
  refine ⟨x, dx, rfl, upd_same, by rw [upd_ne ne]; exact upd_same, ne, fun c H' ea hS kp fresh => ⟨rfl, ?_⟩⟩
  rw [← ea]
  refine k c H' hS (fun b o e => kp b o ?_ (ne_of_none e hx)) fun b hb => ?_
  · rw [upd_ne (ne_of_none e hx), upd_ne (ne_of_none e hdx)]; exact e
  · rcases fresh b hb with e | e | e
    · rw [e]; exact hx
    · rw [e]; exact hdx
    · cases q : H1 b with
      | none => rfl
      | some o =>
        rw [upd_ne (ne_of_none q hx), upd_ne (ne_of_none q hdx), q] at e
        cases e
section
variable {P : Program} {w : World} {K : PySem.W.Frag} {mg : Str → Option Value} {base : Heap} {A : Ad}
abbrev n_is_plain : List Str := ["thing", "sign"]
theorem sc_is_plain : FnScope n_is_plain p_is_plain (defScope s_is_plain) := ⟨rfl, rfl, rfl, by decide +kernel, rfl, by decide +kernel, by decide +kernel⟩
theorem ok_is_plain (T : Txt K mg A) : FnOk P w K mg base (L2.CX P w) 1 A.f_is_plain A.d_is_plain p_is_plain (spPlain K) := by
  refine T.fn_is_plain.okX sc_is_plain (fun vs H Q E h => ?_) (fun cdv B outer s H vs Q E hr h => ?_)
  · obtain ⟨v, rfl, _⟩ := h; rfl
  obtain ⟨v, rfl, h⟩ := h
  refine ⟨_, (pss_cons (ps_if (pt_not (pt_val (pe_callB call_isi (by rfl) T.z_isinstance bt_isinstance (pa_cons (pv 0) (pa_cons (pe_bltn (v := .ty "str") (u := .type "str") (by rfl) T.z_str bt_str rfl) pa_nil))))) (pss_one (ps_ret pe_bl)) pss_nil)
      (pss_one (ps_ret (pe_callB (cr_all rfl) (by rfl) T.z_all bt_all (pa_cons (pe_lc (own := [("sign", 1)]) (g := gName 1) (tt := tYes) rfl sc_is_plain.nd (pi_str (pv 0)) (blkOk_by (own := [("sign", 1)]) (N := n_is_plain) (sc := defScope s_is_plain) (by decide +kernel)) (fun _ _ _ _ _ => (pg_name (i := 1) sc_is_plain.nd rfl (Or.inl rfl))) (fun _ _ _ _ _ => pts_nil) (fun _ _ _ _ _ => (pe_or (pe_chain op_le_str op_le_str pe_str (pv 1) pe_str) (pe_one (pe_cmpR op_eq (pv 1) pe_str (nomark _)))))) pa_nil))))), ?_⟩
  refine w_seq (w_ifS (w_tNot (w_tB (w_cb (w_cons (w_var rfl (w_cons (w_c (w_nil ?_)))))))))
  rcases h with ⟨l, rfl, hl, k⟩ | ⟨t, ty, e, k⟩
  · refine ⟨_, _, _, _, true, rfl, .ty _, .base (.str _), kit_ty (by decide +kernel), w_bl (iteF ?_)⟩
    refine w_next ?_
    dsimp only
    refine w_ret (w_cb (w_cons ?_))
    refine ⟨_, rfl, _, rfl, fun D hD => ?_⟩
    refine lc_it walk_str (fun i H' => Same H H' ∧ H' D = some (.lst ((l.take i).map fun c => .bl (decide (plainC c))))) ⟨fun b o e => by rw [upd_ne (ne_of_none e hD)]; exact e, upd_same⟩ (fun _ _ _ _ => trivial) ?_ ?_
    · rintro i x H1 H2 hi ⟨q1, q2⟩ ⟨rfl, c, hc, rfl⟩
      have hc : l[i]? = some c := by simpa using hc
      have hi : i < l.length := by simpa using hi
      have key : ∀ (b : Bool), b = decide (plainC c) → ∃ acc, H2 D = some (.lst acc) ∧ acc.length < sizeLine ∧ Same H (upd H2 D (.lst (acc ++ [V.bl b]))) ∧ (upd H2 D (.lst (acc ++ [V.bl b]))) D = some (.lst ((l.take (i + 1)).map fun c => V.bl (decide (plainC c)))) := fun b eb => by
        refine ⟨_, q2, ?_, fun d o e => ?_, ?_⟩
        · have := cap_line; simp; omega
        · rw [upd_ne (ne_of_none e hD)]; exact q1 d o e
        · rw [upd_same, take_snoc hc, eb]; simp
      refine w_gname ⟨rfl, ?_⟩
      refine w_yes (iteT ?_)
      refine w_tOrV (w_chain (w_c (w_var rfl ⟨_, _, rfl, rfl, _, rfl, ?_⟩)))
      rw [sT_bl]
      show (if (!decide (([c] : List Nat) < [32])) = true then _ else _)
      rw [dlt1]
      refine ite_d (fun h1 => ?_) fun h1 => ?_
      · refine w_c ⟨_, _, rfl, rfl, _, rfl, ?_⟩
        rw [sT_ti]
        show (if (!decide (([126] : List Nat) < [c])) = true then _ else _)
        rw [dlt1]
        refine ite_d (fun h2 => ?_) fun h2 => ?_
        · exact key true (by rw [decide_eq_true]; exact .inl ⟨h1, h2⟩)
        · refine w_op (w_var rfl (w_c (w_eqS (key _ ?_))))
          rw [sT_lf]
          refine decide_eq_decide.mpr ⟨fun z => .inr (one_sT.mp z), fun z => one_sT.mpr ?_⟩
          rcases z with z | z
          · exact absurd z.2 h2
          · exact z
      · refine ⟨_, rfl, iteF ?_⟩
        refine w_op (w_var rfl (w_c (w_eqS (key _ ?_))))
        rw [sT_lf]
        refine decide_eq_decide.mpr ⟨fun z => .inr (one_sT.mp z), fun z => one_sT.mpr ?_⟩
        rcases z with z | z
        · exact absurd z.1 h1
        · exact z
    · rintro H1 ⟨q1, q2⟩
      refine w_nil ⟨D, l.map fun c => decide (plainC c), rfl, ?_, ?_⟩
      · rw [List.map_map]
        have : l.take (sT l).cps.size = l := List.take_of_length_le (by simp)
        rw [this] at q2
        exact SqL.of q2
      · rw [all_plain]; exact k H1 q1
  · exact ⟨_, _, _, _, false, rfl, .ty _, ty, e, w_bl (iteT (w_ret (w_c k)))⟩
abbrev n_ends_in : List Str := ["plain"]
theorem sc_ends_in : FnScope n_ends_in p_ends_in (defScope s_ends_in) := ⟨rfl, rfl, rfl, by decide +kernel, rfl, by decide +kernel, by decide +kernel⟩
theorem ok_ends_in (T : Txt K mg A) : FnOk P w K mg base (L2.CX P w) 1 A.f_ends_in A.d_ends_in p_ends_in spEnds := by
  refine T.fn_ends_in.okX sc_ends_in (fun vs H Q E h => ?_) (fun cdv B outer s H vs Q E hr h => ?_)
  · obtain ⟨l, rfl, _⟩ := h; rfl
  obtain ⟨l, rfl, h⟩ := h
  refine ⟨_, (pss_one (ps_ret (pe_m1 PySem.F.slot_str_count PySem.F.type_str_count mt_count (pv 0) pe_str))), ?_⟩
  refine w_ret ⟨_, rfl, ⟨_, rfl⟩, _, _, rfl, rfl, ?_⟩
  rw [sT_lf, count_one]; exact h
abbrev n_Shelf_laid : List Str := ["self", "piece", "signs", "ends", "leaves", "height", "number"]
theorem sc_Shelf_laid : FnScope n_Shelf_laid p_Shelf_laid (defScope s_Shelf_laid) := ⟨rfl, rfl, rfl, by decide +kernel, rfl, by decide +kernel, by decide +kernel⟩
theorem ok_Shelf_laid (T : Txt K mg A) : FnOk P w K mg base (L2.CX P w) 1 A.f_Shelf_laid A.d_Shelf_laid p_Shelf_laid (spLaid A.C_Shelf) := by
  refine T.fn_Shelf_laid.okX sc_Shelf_laid (fun vs H Q E h => ?_) (fun cdv B outer s H vs Q E hr h => ?_)
  · obtain ⟨c, S, t, p, xs, rfl, _⟩ := h; rfl
  obtain ⟨c, S, t, p, xs, rfl, hS, hp, cp, hx, k⟩ := h
  have hu := hu_of hr
  refine ⟨_, (pss_cons (ps_set (i := 6) sc_Shelf_laid.nd rfl (Or.inl rfl) (pe_callB call_len_seq (by rfl) T.z_len bt_len (pa_cons (pe_fld (pv 0) rfl) pa_nil)))
      (pss_cons (ps_expr (pe_bm PySem.F.plainAttrs_list PySem.F.slot_list_append PySem.F.type_list_append mt_append (pe_fld (pv 0) rfl) (pa_cons (pv 1) pa_nil)))
      (pss_cons (ps_dput hu (pe_fld (pv 0) rfl) (pv 1) (pv 6) rfl)
      (pss_cons (ps_expr (pe_bm PySem.F.plainAttrs_list PySem.F.slot_list_append PySem.F.type_list_append mt_append (pe_fld (pv 0) rfl) (pa_cons (pv 2) pa_nil)))
      (pss_cons (ps_expr (pe_bm PySem.F.plainAttrs_list PySem.F.slot_list_append PySem.F.type_list_append mt_append (pe_fld (pv 0) rfl) (pa_cons (pv 3) pa_nil)))
      (pss_cons (ps_expr (pe_bm PySem.F.plainAttrs_list PySem.F.slot_list_append PySem.F.type_list_append mt_append (pe_fld (pv 0) rfl) (pa_cons (pv 4) pa_nil)))
      (pss_cons (ps_expr (pe_bm PySem.F.plainAttrs_list PySem.F.slot_list_append PySem.F.type_list_append mt_append (pe_fld (pv 0) rfl) (pa_cons (pv 5) pa_nil)))
      (pss_one (ps_ret (pv 6)))))))))), ?_⟩
  have nd := hS.nd
  have pp : p ≠ c.pc := ne_of hp hx (by intro z; cases z)
  have lx : xs.length = S.length + 1 := by
    obtain ⟨rs, h1, h2, _⟩ := hS.pc
    rw [h1] at hx; injection hx with z; injection z with z; rw [← z]; simp [h2]
  have ob := hS.ob
  have sz : S.length + 1 < sizeLine := by have := cap_line; omega
  have szm : ∀ (z : V) (F : Tr → V), (z :: S.map F).length < sizeLine := fun z F => by simp; omega
  have szk : (kvs S).length < sizeLine := by unfold kvs; simp; omega
  refine w_seq (w_asg (w_cb (w_cons (w_fld (w_var rfl ⟨c.a, _, _, _, _, rfl, ob, T.cl_Shelf, T.na_Shelf_pieces, fl_pieces c, w_nil ⟨_, _, rfl, .inl (SqL.of hx), w_gname ?_⟩⟩)))))
  rw [show ((xs.length : Nat) : Int) = (S.length : Int) + 1 from by omega]
  dsimp only
  refine w_seq ?_
  refine w_drop (w_bm (w_fld (w_var rfl ⟨c.a, _, _, _, _, rfl, ob, T.cl_Shelf, T.na_Shelf_pieces, fl_pieces c, .inl ⟨rfl, _, SqL.of hx⟩, w_cons (w_var rfl (w_nil ⟨c.pc, xs, _, rfl, rfl, hx, by omega, ?_⟩))⟩)))
  dsimp only
  refine w_seq ?_
  refine ⟨_, rfl, _, rfl, c.a, _, _, _, _, rfl, (uc nd 0 2 ob), T.cl_Shelf, T.na_Shelf_numbers, fl_numbers c, _, rfl, c.nb, _, rfl, DPut.t (uc nd 3 2 hS.nb) (by rw [upd_ne pp]; exact hp) szk, ?_⟩
  dsimp only
  refine w_seq ?_
  refine w_drop (w_bm (w_fld (w_var rfl ⟨c.a, _, _, _, _, rfl, (uc nd 0 3 (uc nd 0 2 ob)), T.cl_Shelf, T.na_Shelf_told_signs, fl_signs c, .inl ⟨rfl, _, SqL.of (uc nd 4 3 (uc nd 4 2 hS.sg))⟩, w_cons (w_var rfl (w_nil ⟨c.sg, _, _, rfl, rfl, (uc nd 4 3 (uc nd 4 2 hS.sg)), szm _ _, ?_⟩))⟩)))
  dsimp only
  refine w_seq ?_
  refine w_drop (w_bm (w_fld (w_var rfl ⟨c.a, _, _, _, _, rfl, (uc nd 0 4 (uc nd 0 3 (uc nd 0 2 ob))), T.cl_Shelf, T.na_Shelf_told_ends, fl_ends c, .inl ⟨rfl, _, SqL.of (uc nd 5 4 (uc nd 5 3 (uc nd 5 2 hS.en)))⟩, w_cons (w_var rfl (w_nil ⟨c.en, _, _, rfl, rfl, (uc nd 5 4 (uc nd 5 3 (uc nd 5 2 hS.en))), szm _ _, ?_⟩))⟩)))
  dsimp only
  refine w_seq ?_
  refine w_drop (w_bm (w_fld (w_var rfl ⟨c.a, _, _, _, _, rfl, (uc nd 0 5 (uc nd 0 4 (uc nd 0 3 (uc nd 0 2 ob)))), T.cl_Shelf, T.na_Shelf_told_leaves, fl_leaves c, .inl ⟨rfl, _, SqL.of (uc nd 6 5 (uc nd 6 4 (uc nd 6 3 (uc nd 6 2 hS.lv))))⟩, w_cons (w_var rfl (w_nil ⟨c.lv, _, _, rfl, rfl, (uc nd 6 5 (uc nd 6 4 (uc nd 6 3 (uc nd 6 2 hS.lv)))), szm _ _, ?_⟩))⟩)))
  dsimp only
  refine w_seq ?_
  refine w_drop (w_bm (w_fld (w_var rfl ⟨c.a, _, _, _, _, rfl, (uc nd 0 6 (uc nd 0 5 (uc nd 0 4 (uc nd 0 3 (uc nd 0 2 ob))))), T.cl_Shelf, T.na_Shelf_told_heights, fl_heights c, .inl ⟨rfl, _, SqL.of (uc nd 7 6 (uc nd 7 5 (uc nd 7 4 (uc nd 7 3 (uc nd 7 2 hS.ht)))))⟩, w_cons (w_var rfl (w_nil ⟨c.ht, _, _, rfl, rfl, (uc nd 7 6 (uc nd 7 5 (uc nd 7 4 (uc nd 7 3 (uc nd 7 2 hS.ht))))), szm _ _, ?_⟩))⟩)))
  dsimp only
  exact w_ret (w_var rfl k)
end

section
variable {P : Program} {w : World} {K : PySem.W.Frag} {mg : Str → Option Value} {base : Heap} {A : Ad}
theorem put_num_new {S : List Tr} {t : Tr} (h : t ∉ S) : num (put S t) t = S.length + 1 := by rw [put_new h, num_last h]
abbrev n_Shelf_leaf : List Str := ["self", "plain", "piece", "number"]
theorem sc_Shelf_leaf : FnScope n_Shelf_leaf p_Shelf_leaf (defScope s_Shelf_leaf) := ⟨rfl, rfl, rfl, by decide +kernel, rfl, by decide +kernel, by decide +kernel⟩
theorem ok_Shelf_leaf (T : Txt K mg A) : FnOk P w K mg base (L2.CX P w) 2 A.f_Shelf_leaf A.d_Shelf_leaf p_Shelf_leaf (spLeaf A.C_Shelf A.C_NoText) := by
  refine T.fn_Shelf_leaf.okX sc_Shelf_leaf (fun vs H Q E h => ?_) (fun cdv B outer s H vs Q E hr h => ?_)
  · obtain ⟨c, S, l, rfl, _⟩ := h; rfl
  obtain ⟨c, S, l, rfl, hS, hl, h⟩ := h
  have hu := hu_of hr
  refine ⟨_, (pss_cons (ps_if (PW.pt (pw_or (pt_not (pt_val (pe_call (ok_is_plain T) (hr.mono (by omega)) (by rfl) T.mg_is_plain T.fn_is_plain.kp T.bi_is_plain .nil (passes_call (takes_of rfl rfl rfl rfl) (fun _ _ _ _ h => h)) (pa_cons (pv 1) pa_nil)))) (pw_or1 (pt_not (pt_chain op_le op_le pe_int (pe_callB call_len_str (by rfl) T.z_len bt_len (pa_cons (pv 1) pa_nil)) (pe_kint T.k_MOST_IN_LEAF (by rfl))))))) (pss_one (ps_raise0 rfl T.ex_NoText (takes_of rfl rfl rfl rfl) rfl)) pss_nil)
      (pss_cons (ps_set (i := 2) sc_Shelf_leaf.nd rfl (Or.inl rfl) (pe_tup (pa_cons pe_str (pa_cons (pv 1) pa_nil))))
      (pss_cons (ps_if (pt_cmp (pc_din hu (pv 2) (pe_fld (pv 0) rfl))) (pss_one (ps_ret (pe_dget hu (pe_fld (pv 0) rfl) (pv 2) (fun _ _ => rfl)))) pss_nil)
      (pss_cons (ps_set (i := 3) sc_Shelf_leaf.nd rfl (Or.inl rfl) (pe_meth (pv 0) T.cl_Shelf T.me_Shelf_laid (ok_Shelf_laid T) (hr.mono (by omega)) T.bi_Shelf_laid .nil (passes_call (takes_of rfl rfl rfl rfl) (fun _ _ _ _ h => h)) (pa_cons (pv 2) (pa_cons (pe_callB call_len_str (by rfl) T.z_len bt_len (pa_cons (pv 1) pa_nil)) (pa_cons (pe_call (ok_ends_in T) (hr.mono (by omega)) (by rfl) T.mg_ends_in T.fn_ends_in.kp T.bi_ends_in .nil (passes_call (takes_of rfl rfl rfl rfl) (fun _ _ _ _ h => h)) (pa_cons (pv 1) pa_nil)) (pa_cons pe_int (pa_cons pe_int pa_nil)))))))
      (pss_cons (ps_expr (pe_bm PySem.F.plainAttrs_list PySem.F.slot_list_append PySem.F.type_list_append mt_append (pe_fld (pv 0) rfl) (pa_cons (pv 3) pa_nil)))
      (pss_cons (ps_expr (pe_bm PySem.F.plainAttrs_list PySem.F.slot_list_append PySem.F.type_list_append mt_append (pe_fld (pv 0) rfl) (pa_cons (pv 3) pa_nil)))
      (pss_one (ps_ret (pv 3))))))))), ?_⟩
  have lline : l.length ≤ sizeLine := by have := cap_line; omega
  refine w_seq ?_
  refine w_ifS (w_tOr (w_tNot (w_tB (w_call (w_cons (w_var rfl (w_nil (c_plain hl fun H1 s1 => w_bl (ite_n (fun hn => ?_) (fun hp => ?_))))))))))
  · refine iteT ?_
    rcases h with ⟨o, _⟩ | ⟨_, k⟩
    · exact absurd o.2.2 hn
    · exact k H1 s1
  refine w_tNot (w_test (w_chain (w_c (w_cb (w_cons (w_var rfl (w_nil ⟨_, rfl, (by rw [sT_len]; exact lline), w_rI0 ⟨_, rfl, ite_d (fun h1 => ?_) (fun h1 => ?_)⟩⟩)))))))
  rotate_left
  · refine ⟨_, rfl, iteT ?_⟩
    rcases h with ⟨o, _⟩ | ⟨_, k⟩
    · exact absurd (by rw [sT_len]; have := o.1; omega) h1
    · exact k H1 s1
  refine w_c (w_rI0 ⟨_, rfl, ite_n (fun h2 => ?_) (fun h2 => ?_)⟩)
  · rcases h with ⟨o, _⟩ | ⟨_, k⟩
    · exact absurd (by rw [sT_len]; have := o.2.1; omega) h2
    · exact k H1 s1
  rw [sT_len] at h1 h2
  have ok : Ok (.lf l) := ⟨by omega, by omega, hp⟩
  rcases h with ⟨_, hc, k⟩ | ⟨n, _⟩
  rotate_left
  · exact absurd ok n
  have hS1 := hS.same s1
  refine w_next ?_
  dsimp only
  refine w_seq ?_
  refine w_asg (w_tup (w_cons (w_c (w_cons (w_var rfl (w_nil (w_mkt (by show 2 ≤ sizeLine; rw [sizeLine_eq]; decide) fun p H2 np s2 hp2 => w_gname ?_)))))))
  dsimp only
  have hS2 := hS1.same s2
  have kt : ∀ a b, Tr.lf l = .fk a b → a ∈ S ∧ b ∈ S := fun _ _ z => nomatch z
  have hp2' : H2 p = some (.tup ((key S (.lf l)).map kV)) := hp2
  refine w_seq ?_
  refine ⟨_, rfl, _, rfl, c.a, _, _, _, _, rfl, hS2.ob, T.cl_Shelf, T.na_Shelf_numbers, fl_numbers c, c.nb, _, rfl, DGet.t (k := key S (.lf l)) hS2.nb hp2', _, rfl, ?_⟩
  rw [valV_kvs hS.gd kt]
  by_cases hm : Tr.lf l ∈ S
  · rw [if_pos hm]
    refine iteT (w_ret ?_)
    refine ⟨_, rfl, c.a, _, _, _, _, rfl, hS2.ob, T.cl_Shelf, T.na_Shelf_numbers, fl_numbers c, _, rfl, c.nb, V.int (num S (.lf l)), rfl, ?_, ?_⟩
    · have := DGet.t (k := key S (.lf l)) hS2.nb hp2'
      rw [valV_kvs hS.gd kt, if_pos hm] at this; exact this
    · have := k H2 (by rw [put_in hm]; exact hS2) (Keep.of (s1.trans s2))
      rw [put_in hm] at this; exact this
  rw [if_neg hm]
  refine iteF (w_next ?_)
  dsimp only
  obtain ⟨rs, q1, q2, q3⟩ := hS2.pc
  refine w_seq ?_
  refine w_asg (w_meth (w_var rfl ⟨c.a, c.dx, _, rfl, hS2.ob, fl_no (by decide +kernel), w_cons (w_var rfl (w_cons (w_cb (w_cons (w_var rfl (w_nil ⟨_, rfl, (by rw [sT_len]; exact lline), ?_⟩)))))) ⟩))
  rw [sT_len]
  refine w_cons (w_call (w_cons (w_var rfl (w_nil (c_ends (w_cons (w_c (w_cons (w_c (w_nil ?_))))))))))
  refine ⟨c, S, .lf l, p, _, rfl, hS2, hp2', hc, q1, w_gname ?_⟩
  dsimp only
  have nd := hS.nd
  have szm : ∀ (z : V) (F : Tr → V), (z :: S.map F).length < sizeLine := fun z F => by have := cap_line; simp; omega
  refine w_seq ?_
  refine w_drop (w_bm (w_fld (w_var rfl ⟨c.a, _, _, _, _, rfl, (laid_at nd 0).trans hS2.ob, T.cl_Shelf, T.na_Shelf_firsts, fl_firsts c, ?_⟩)))
  have hfi := (laid_at (xs := .non :: rs.map V.ref) (t := .lf l) (p := p) (S := S) nd 8).trans hS2.fi
  refine ⟨.inl ⟨rfl, _, SqL.of hfi⟩, w_cons (w_var rfl (w_nil ⟨c.fi, _, _, rfl, rfl, hfi, szm _ _, ?_⟩))⟩
  dsimp only
  refine w_seq ?_
  refine w_drop (w_bm (w_fld (w_var rfl ⟨c.a, _, _, _, _, rfl, uc nd 0 8 ((laid_at nd 0).trans hS2.ob), T.cl_Shelf, T.na_Shelf_lasts, fl_lasts c, ?_⟩)))
  have hla := (laid_at (xs := .non :: rs.map V.ref) (t := .lf l) (p := p) (S := S) nd 9).trans hS2.la
  refine ⟨.inl ⟨rfl, _, SqL.of (uc nd 9 8 hla)⟩, w_cons (w_var rfl (w_nil ⟨c.la, _, _, rfl, rfl, uc nd 9 8 hla, szm _ _, ?_⟩))⟩
  dsimp only
  refine w_ret (w_var rfl ?_)
  have en : (S.length : Int) + 1 = num (S ++ [Tr.lf l]) (.lf l) := (num_last hm).symm
  obtain ⟨x1, x2⟩ := lain_ok hS2 q1 hp2' ok hm kt hc (f := S.length + 1) (l := S.length + 1) en en
  have := k _ (by rw [put_new hm]; exact x1) ((Keep.of (s1.trans s2)).trans x2)
  rw [put_num_new hm] at this
  exact this
abbrev n_Shelf_is_loose : List Str := ["self", "one", "other"]
theorem sc_Shelf_is_loose : FnScope n_Shelf_is_loose p_Shelf_is_loose (defScope s_Shelf_is_loose) := ⟨rfl, rfl, rfl, by decide +kernel, rfl, by decide +kernel, by decide +kernel⟩
theorem ok_Shelf_is_loose (T : Txt K mg A) : FnOk P w K mg base (L2.CX P w) 1 A.f_Shelf_is_loose A.d_Shelf_is_loose p_Shelf_is_loose (spLoose A.C_Shelf) := by
  refine T.fn_Shelf_is_loose.okX sc_Shelf_is_loose (fun vs H Q E h => ?_) (fun cdv B outer s H vs Q E hr h => ?_)
  · obtain ⟨c, S, n, m, a, b, rfl, _⟩ := h; rfl
  obtain ⟨c, S, n, m, a, b, rfl, hS, ha, hb, k⟩ := h
  refine ⟨_, (pss_one (ps_ret (pe_cmpR op_le (pe_op op_add (pe_ix ix_list (pe_fld (pv 0) rfl) (pe_ix ix_list (pe_fld (pv 0) rfl) (pv 1) (fun _ _ => rfl)) (fun _ _ => rfl)) (pe_ix ix_list (pe_fld (pv 0) rfl) (pe_ix ix_list (pe_fld (pv 0) rfl) (pv 2) (fun _ _ => rfl)) (fun _ _ => rfl))) (pe_kint T.k_MOST_IN_LEAF (by rfl)) (nomark _)))), ?_⟩
  refine w_ret (w_op (w_op (w_op (w_fld (w_var rfl ⟨c.a, _, _, _, _, rfl, hS.ob, T.cl_Shelf, T.na_Shelf_told_signs, fl_signs c, w_op (w_fld (w_var rfl ⟨c.a, _, _, _, _, rfl, hS.ob, T.cl_Shelf, T.na_Shelf_lasts, fl_lasts c, w_var rfl (w_ixl (SqL.of hS.la) (atI_nm ha) (w_ixl (SqL.of hS.sg) (atI_nm (nm_num (hS.gd.la ha.mem))) ?_))⟩))⟩)))))
  refine w_op (w_fld (w_var rfl ⟨c.a, _, _, _, _, rfl, hS.ob, T.cl_Shelf, T.na_Shelf_told_signs, fl_signs c, w_op (w_fld (w_var rfl ⟨c.a, _, _, _, _, rfl, hS.ob, T.cl_Shelf, T.na_Shelf_firsts, fl_firsts c, w_var rfl (w_ixl (SqL.of hS.fi) (atI_nm hb) (w_ixl (SqL.of hS.sg) (atI_nm (nm_num (hS.gd.fi hb.mem))) (w_rI0 (w_c (w_rI0 ?_)))))⟩))⟩))
  rw [show decide ((a.la.sg : Int) + (b.fi.sg : Int) ≤ 8) = decide (a.la.sg + b.fi.sg ≤ 8) from decide_eq_decide.mpr (by omega)]
  exact k
theorem mem2 {x a b : Int} (h : x ∈ [a, b]) : x = a ∨ x = b := by simpa using h
abbrev n_Shelf_fork : List Str := ["self", "one", "other", "heights", "signs", "piece", "ends", "leaves", "number"]
theorem sc_Shelf_fork : FnScope n_Shelf_fork p_Shelf_fork (defScope s_Shelf_fork) := ⟨rfl, rfl, rfl, by decide +kernel, rfl, by decide +kernel, by decide +kernel⟩
theorem ok_Shelf_fork (T : Txt K mg A) : FnOk P w K mg base (L2.CX P w) 2 A.f_Shelf_fork A.d_Shelf_fork p_Shelf_fork (spFork A.C_Shelf A.C_NoPiece A.C_Loose A.C_Unlevel A.C_TooLong) := by
  refine T.fn_Shelf_fork.okX sc_Shelf_fork (fun vs H Q E h => ?_) (fun cdv B outer s H vs Q E hr h => ?_)
  · obtain ⟨c, S, n, m, rfl, _⟩ := h; rfl
  obtain ⟨c, S, n, m, rfl, hS, h⟩ := h
  have hu := hu_of hr
  refine ⟨_, (pss_cons (ps_expr (pe_meth (pv 0) T.cl_Shelf T.me_Shelf_want_piece (ok_Shelf_want_piece T) (hr.mono (by omega)) T.bi_Shelf_want_piece .nil (passes_call (takes_of rfl rfl rfl rfl) (fun _ _ _ _ h => h)) (pa_cons (pv 1) pa_nil)))
      (pss_cons (ps_expr (pe_meth (pv 0) T.cl_Shelf T.me_Shelf_want_piece (ok_Shelf_want_piece T) (hr.mono (by omega)) T.bi_Shelf_want_piece .nil (passes_call (takes_of rfl rfl rfl rfl) (fun _ _ _ _ h => h)) (pa_cons (pv 2) pa_nil)))
      (pss_cons (ps_if (pt_val (pe_meth (pv 0) T.cl_Shelf T.me_Shelf_is_loose (ok_Shelf_is_loose T) (hr.mono (by omega)) T.bi_Shelf_is_loose .nil (passes_call (takes_of rfl rfl rfl rfl) (fun _ _ _ _ h => h)) (pa_cons (pv 1) (pa_cons (pv 2) pa_nil)))) (pss_one (ps_raise0 rfl T.ex_Loose (takes_of rfl rfl rfl rfl) rfl)) pss_nil)
      (pss_cons (ps_set (i := 3) sc_Shelf_fork.nd rfl (Or.inl rfl) (pe_lst (pa_cons (pe_ix ix_list (pe_fld (pv 0) rfl) (pv 1) (fun _ _ => rfl)) (pa_cons (pe_ix ix_list (pe_fld (pv 0) rfl) (pv 2) (fun _ _ => rfl)) pa_nil))))
      (pss_cons (ps_if (pt_cmpR op_gt (pe_op op_sub (pe_callB (cr_max rfl) (by rfl) T.z_max bt_max (pa_cons (pv 3) pa_nil)) (pe_callB (cr_min rfl) (by rfl) T.z_min bt_min (pa_cons (pv 3) pa_nil))) pe_int (nomark _)) (pss_one (ps_raise0 rfl T.ex_Unlevel (takes_of rfl rfl rfl rfl) rfl)) pss_nil)
      (pss_cons (ps_set (i := 4) sc_Shelf_fork.nd rfl (Or.inl rfl) (pe_op op_add (pe_ix ix_list (pe_fld (pv 0) rfl) (pv 1) (fun _ _ => rfl)) (pe_ix ix_list (pe_fld (pv 0) rfl) (pv 2) (fun _ _ => rfl))))
      (pss_cons (ps_if (pt_cmpR op_gt (pv 4) (pe_kint T.k_MOST_SIGNS (by rfl)) (nomark _)) (pss_one (ps_raise0 rfl T.ex_TooLong (takes_of rfl rfl rfl rfl) rfl)) pss_nil)
      (pss_cons (ps_set (i := 5) sc_Shelf_fork.nd rfl (Or.inl rfl) (pe_tup (pa_cons pe_str (pa_cons (pv 1) (pa_cons (pv 2) pa_nil)))))
      (pss_cons (ps_if (pt_cmp (pc_din hu (pv 5) (pe_fld (pv 0) rfl))) (pss_one (ps_ret (pe_dget hu (pe_fld (pv 0) rfl) (pv 5) (fun _ _ => rfl)))) pss_nil)
      (pss_cons (ps_set (i := 6) sc_Shelf_fork.nd rfl (Or.inl rfl) (pe_op op_add (pe_ix ix_list (pe_fld (pv 0) rfl) (pv 1) (fun _ _ => rfl)) (pe_ix ix_list (pe_fld (pv 0) rfl) (pv 2) (fun _ _ => rfl))))
      (pss_cons (ps_set (i := 7) sc_Shelf_fork.nd rfl (Or.inl rfl) (pe_op op_add (pe_ix ix_list (pe_fld (pv 0) rfl) (pv 1) (fun _ _ => rfl)) (pe_ix ix_list (pe_fld (pv 0) rfl) (pv 2) (fun _ _ => rfl))))
      (pss_cons (ps_set (i := 8) sc_Shelf_fork.nd rfl (Or.inl rfl) (pe_meth (pv 0) T.cl_Shelf T.me_Shelf_laid (ok_Shelf_laid T) (hr.mono (by omega)) T.bi_Shelf_laid .nil (passes_call (takes_of rfl rfl rfl rfl) (fun _ _ _ _ h => h)) (pa_cons (pv 5) (pa_cons (pv 4) (pa_cons (pv 6) (pa_cons (pv 7) (pa_cons (pe_op op_add pe_int (pe_callB (cr_max rfl) (by rfl) T.z_max bt_max (pa_cons (pv 3) pa_nil))) pa_nil)))))))
      (pss_cons (ps_expr (pe_bm PySem.F.plainAttrs_list PySem.F.slot_list_append PySem.F.type_list_append mt_append (pe_fld (pv 0) rfl) (pa_cons (pe_ix ix_list (pe_fld (pv 0) rfl) (pv 1) (fun _ _ => rfl)) pa_nil)))
      (pss_cons (ps_expr (pe_bm PySem.F.plainAttrs_list PySem.F.slot_list_append PySem.F.type_list_append mt_append (pe_fld (pv 0) rfl) (pa_cons (pe_ix ix_list (pe_fld (pv 0) rfl) (pv 2) (fun _ _ => rfl)) pa_nil)))
      (pss_one (ps_ret (pv 8))))))))))))))))), ?_⟩
  have no : ∀ {x : Str}, (x == "pieces" || x == "numbers" || x == "told_signs" || x == "told_ends" || x == "told_leaves" || x == "told_heights" || x == "firsts" || x == "lasts") = false → (flds c).lookup x = none := fl_no
  refine w_seq ?_
  refine w_drop (w_meth (w_var rfl ⟨c.a, c.dx, _, rfl, hS.ob, fl_no (by decide +kernel), w_cons (w_var rfl (w_nil ?_))⟩))
  by_cases e1 : ∃ a, Nm S n a
  rotate_left
  · have e1 : ∀ t, ¬ Nm S n t := fun t z => e1 ⟨t, z⟩
    rcases h with ⟨_, h⟩ | ⟨a, _, ha, _⟩
    · exact ⟨c, S, n, rfl, hS, .inr ⟨e1, h⟩⟩
    · exact absurd ha (e1 a)
  obtain ⟨a, ha⟩ := e1
  refine c_wantP hS ha ?_
  dsimp only
  refine w_seq ?_
  refine w_drop (w_meth (w_var rfl ⟨c.a, c.dx, _, rfl, hS.ob, fl_no (by decide +kernel), w_cons (w_var rfl (w_nil ?_))⟩))
  by_cases e2 : ∃ a, Nm S m a
  rotate_left
  · have e2 : ∀ t, ¬ Nm S m t := fun t z => e2 ⟨t, z⟩
    rcases h with ⟨_, h⟩ | ⟨_, b, _, hb, _⟩
    · exact ⟨c, S, m, rfl, hS, .inr ⟨e2, h⟩⟩
    · exact absurd hb (e2 b)
  obtain ⟨b, hb⟩ := e2
  refine c_wantP hS hb ?_
  dsimp only
  rcases h with ⟨z, _⟩ | ⟨a', b', ha', hb', h⟩
  · rcases z with z | z
    · exact absurd ha (z a)
    · exact absurd hb (z b)
  have ea := ha'.uni ha
  have eb := hb'.uni hb
  subst ea eb
  refine w_seq ?_
  refine w_ifS (w_tB (w_meth (w_var rfl ⟨c.a, c.dx, _, rfl, hS.ob, fl_no (by decide +kernel), w_cons (w_var rfl (w_cons (w_var rfl (w_nil (c_loose hS ha hb (w_bl (ite_d (fun l1 => ?_) (fun l1 => ?_)))))))) ⟩)))
  · rcases h with ⟨_, h⟩ | ⟨z, _⟩ | ⟨z, _⟩ | ⟨o, _⟩
    · exact h
    · omega
    · omega
    · have := o.2.2.2.2.1; omega
  refine w_next ?_
  dsimp only
  have hh : ∀ {x : Int} {t : Tr}, Nm S x t → atI (V.int (-1) :: S.map fun t => V.int t.ht) x = some (.int t.ht) := fun z => atI_nm z
  refine w_seq ?_
  refine w_asg (w_lst (w_cons (w_op (w_fld (w_var rfl ⟨c.a, _, _, _, _, rfl, hS.ob, T.cl_Shelf, T.na_Shelf_told_heights, fl_heights c, w_var rfl (w_ixl (SqL.of hS.ht) (hh ha) ?_)⟩)))))
  refine w_cons (w_op (w_fld (w_var rfl ⟨c.a, _, _, _, _, rfl, hS.ob, T.cl_Shelf, T.na_Shelf_told_heights, fl_heights c, w_var rfl (w_ixl (SqL.of hS.ht) (hh hb) (w_nil (w_mkl (by show 2 ≤ sizeLine; rw [sizeLine_eq]; decide) fun hl H1 nh s1 hh1 => w_gname ?_)))⟩)))
  dsimp only
  have hS1 := hS.same s1
  have hq : SqL K H1 hl (([(a'.ht : Int), (b'.ht : Int)] : List Int).map V.int) := SqL.of hh1
  refine w_seq ?_
  refine w_ifS (w_test (w_op (w_op (w_cb (w_cons (w_var rfl (w_nil ⟨hl, _, rfl, hq, by simp, fun M hM hM2 => ?_⟩)))))))
  refine w_cb (w_cons (w_var rfl (w_nil ⟨hl, _, rfl, hq, by simp, fun N hN hN2 => w_rI0 (w_c (w_rI0 ⟨_, rfl, ?_⟩))⟩)))
  have M1 := hM2 a'.ht (by simp)
  have M2 := hM2 b'.ht (by simp)
  have N1 := hN2 a'.ht (by simp)
  have N2 := hN2 b'.ht (by simp)
  have M3 := mem2 hM
  have N3 := mem2 hN
  refine ite_d (fun l2 => ?_) (fun l2 => ?_)
  · rcases h with ⟨z, _⟩ | ⟨_, _, h⟩ | ⟨_, _, _, _⟩ | ⟨o, _⟩
    · exact absurd z l1
    · exact h H1 s1
    · omega
    · have := o.2.2.1; have := o.2.2.2.1; omega
  refine w_next ?_
  dsimp only
  refine w_seq ?_
  refine w_asg (w_op (w_op (w_fld (w_var rfl ⟨c.a, _, _, _, _, rfl, hS1.ob, T.cl_Shelf, T.na_Shelf_told_signs, fl_signs c, w_var rfl (w_ixl (SqL.of hS1.sg) (atI_nm ha) ?_)⟩))))
  refine w_op (w_fld (w_var rfl ⟨c.a, _, _, _, _, rfl, hS1.ob, T.cl_Shelf, T.na_Shelf_told_signs, fl_signs c, w_var rfl (w_ixl (SqL.of hS1.sg) (atI_nm hb) (w_rI0 (w_gname ?_)))⟩))
  dsimp only
  refine w_seq ?_
  refine w_ifS (w_test (w_op (w_var rfl (w_c (w_rI0 ⟨_, rfl, ite_d (fun l3 => ?_) (fun l3 => ?_)⟩)))))
  · rcases h with ⟨z, _⟩ | ⟨_, z, _⟩ | ⟨_, _, _, _, h⟩ | ⟨o, _⟩
    · exact absurd z l1
    · omega
    · exact h H1 s1
    · have := o.2.2.2.2.2; unfold mostSg at this; omega
  refine w_next ?_
  dsimp only
  rcases h with ⟨z, _⟩ | ⟨_, z, _⟩ | ⟨_, _, _, z, _⟩ | ⟨o, hc, k⟩
  · exact absurd z l1
  · omega
  · unfold mostSg at z; omega
  have en : n = num S a' := ha.num hS.gd.nd
  have em : m = num S b' := hb.num hS.gd.nd
  have kt : ∀ x y, Tr.fk a' b' = .fk x y → x ∈ S ∧ y ∈ S := fun x y z => by
    injection z with z1 z2
    subst z1 z2
    exact ⟨ha.mem, hb.mem⟩
  refine w_seq ?_
  refine w_asg (w_tup (w_cons (w_c (w_cons (w_var rfl (w_cons (w_var rfl (w_nil (w_mkt (by show 3 ≤ sizeLine; rw [sizeLine_eq]; decide) fun p H2 np s2 hp2 => w_gname ?_)))))))))
  dsimp only
  have hS2 := hS1.same s2
  have hp2' : H2 p = some (.tup ((key S (.fk a' b')).map kV)) := by
    rw [hp2, key_fk, en, em]; rfl
  refine w_seq ?_
  refine ⟨_, rfl, _, rfl, c.a, _, _, _, _, rfl, hS2.ob, T.cl_Shelf, T.na_Shelf_numbers, fl_numbers c, c.nb, _, rfl, DGet.t (k := key S (.fk a' b')) hS2.nb hp2', _, rfl, ?_⟩
  rw [valV_kvs hS.gd kt]
  by_cases hm : Tr.fk a' b' ∈ S
  · rw [if_pos hm]
    refine iteT (w_ret ?_)
    refine ⟨_, rfl, c.a, _, _, _, _, rfl, hS2.ob, T.cl_Shelf, T.na_Shelf_numbers, fl_numbers c, _, rfl, c.nb, V.int (num S (.fk a' b')), rfl, ?_, ?_⟩
    · have := DGet.t (k := key S (.fk a' b')) hS2.nb hp2'
      rw [valV_kvs hS.gd kt, if_pos hm] at this; exact this
    · have := k H2 (by rw [put_in hm]; exact hS2) (Keep.of (s1.trans s2))
      rw [put_in hm] at this; exact this
  rw [if_neg hm]
  refine iteF (w_next ?_)
  dsimp only
  refine w_seq ?_
  refine w_asg (w_op (w_op (w_fld (w_var rfl ⟨c.a, _, _, _, _, rfl, hS2.ob, T.cl_Shelf, T.na_Shelf_told_ends, fl_ends c, w_var rfl (w_ixl (SqL.of hS2.en) (atI_nm ha) ?_)⟩))))
  refine w_op (w_fld (w_var rfl ⟨c.a, _, _, _, _, rfl, hS2.ob, T.cl_Shelf, T.na_Shelf_told_ends, fl_ends c, w_var rfl (w_ixl (SqL.of hS2.en) (atI_nm hb) (w_rI0 (w_gname ?_)))⟩))
  dsimp only
  refine w_seq ?_
  refine w_asg (w_op (w_op (w_fld (w_var rfl ⟨c.a, _, _, _, _, rfl, hS2.ob, T.cl_Shelf, T.na_Shelf_told_leaves, fl_leaves c, w_var rfl (w_ixl (SqL.of hS2.lv) (atI_nm ha) ?_)⟩))))
  refine w_op (w_fld (w_var rfl ⟨c.a, _, _, _, _, rfl, hS2.ob, T.cl_Shelf, T.na_Shelf_told_leaves, fl_leaves c, w_var rfl (w_ixl (SqL.of hS2.lv) (atI_nm hb) (w_rI0 (w_gname ?_)))⟩))
  dsimp only
  obtain ⟨rs, q1, q2, q3⟩ := hS2.pc
  have hq2 : SqL K H2 hl (([(a'.ht : Int), (b'.ht : Int)] : List Int).map V.int) := SqL.of (s2 _ _ hh1)
  refine w_seq ?_
  refine w_asg (w_meth (w_var rfl ⟨c.a, c.dx, _, rfl, hS2.ob, fl_no (by decide +kernel), w_cons (w_var rfl (w_cons (w_var rfl (w_cons (w_var rfl (w_cons (w_var rfl ?_))))))) ⟩))
  refine w_cons (w_op (w_c (w_cb (w_cons (w_var rfl (w_nil ⟨hl, _, rfl, hq2, by simp, fun M' hM' hM2' => w_rI0 (w_nil ?_)⟩))))))
  have M1' := hM2' a'.ht (by simp)
  have M2' := hM2' b'.ht (by simp)
  have M3' := mem2 hM'
  have eht : (1 : Int) + M' = ((Tr.fk a' b').ht : Int) := by rw [Tr.ht]; omega
  have esg : (a'.sg : Int) + b'.sg = ((Tr.fk a' b').sg : Int) := by rw [Tr.sg]; omega
  have een : (a'.en : Int) + b'.en = ((Tr.fk a' b').en : Int) := by rw [Tr.en]; omega
  have elv : (a'.lv : Int) + b'.lv = ((Tr.fk a' b').lv : Int) := by rw [Tr.lv]; omega
  rw [eht, esg, een, elv]
  refine ⟨c, S, .fk a' b', p, _, rfl, hS2, hp2', hc, q1, w_gname ?_⟩
  dsimp only
  have nd := hS.nd
  have szm : ∀ (z : V) (F : Tr → V), (z :: S.map F).length < sizeLine := fun z F => by have := cap_line; simp; omega
  have hob := (laid_at (xs := .non :: rs.map V.ref) (t := .fk a' b') (p := p) (S := S) nd 0).trans hS2.ob
  have hfi := (laid_at (xs := .non :: rs.map V.ref) (t := .fk a' b') (p := p) (S := S) nd 8).trans hS2.fi
  have hla := (laid_at (xs := .non :: rs.map V.ref) (t := .fk a' b') (p := p) (S := S) nd 9).trans hS2.la
  refine w_seq ?_
  refine w_drop (w_bm (w_fld (w_var rfl ⟨c.a, _, _, _, _, rfl, hob, T.cl_Shelf, T.na_Shelf_firsts, fl_firsts c, .inl ⟨rfl, _, SqL.of hfi⟩, ?_⟩)))
  refine w_cons (w_op (w_fld (w_var rfl ⟨c.a, _, _, _, _, rfl, hob, T.cl_Shelf, T.na_Shelf_firsts, fl_firsts c, w_var rfl (w_ixl (SqL.of hfi) (atI_nm ha) (w_nil ⟨c.fi, _, _, rfl, rfl, hfi, szm _ _, ?_⟩))⟩)))
  dsimp only
  refine w_seq ?_
  refine w_drop (w_bm (w_fld (w_var rfl ⟨c.a, _, _, _, _, rfl, uc nd 0 8 hob, T.cl_Shelf, T.na_Shelf_lasts, fl_lasts c, .inl ⟨rfl, _, SqL.of (uc nd 9 8 hla)⟩, ?_⟩)))
  refine w_cons (w_op (w_fld (w_var rfl ⟨c.a, _, _, _, _, rfl, uc nd 0 8 hob, T.cl_Shelf, T.na_Shelf_lasts, fl_lasts c, w_var rfl (w_ixl (SqL.of (uc nd 9 8 hla)) (atI_nm hb) (w_nil ⟨c.la, _, _, rfl, rfl, uc nd 9 8 hla, szm _ _, ?_⟩))⟩)))
  dsimp only
  refine w_ret (w_var rfl ?_)
  have ex : Ext S (S ++ [Tr.fk a' b']) := List.prefix_append _ _
  obtain ⟨x1, x2⟩ := lain_ok hS2 q1 hp2' o hm kt hc (f := num S a'.fi) (l := num S b'.la) (num_ext ex (hS.gd.fi ha.mem)).symm (num_ext ex (hS.gd.la hb.mem)).symm
  have := k _ (by rw [put_new hm]; exact x1) ((Keep.of (s1.trans s2)).trans x2)
  rw [put_num_new hm] at this
  exact this
end

section
variable {P : Program} {w : World} {K : PySem.W.Frag} {mg : Str → Option Value} {base : Heap} {A : Ad}
abbrev n_Shelf___init__ : List Str := ["self"]
theorem sc_Shelf___init__ : FnScope n_Shelf___init__ p_Shelf___init__ (defScope s_Shelf___init__) := ⟨rfl, rfl, rfl, by decide +kernel, rfl, by decide +kernel, by decide +kernel⟩
theorem ok_Shelf___init__ (T : Txt K mg A) : FnOk P w K mg base (L2.CX P w) 1 A.f_Shelf___init__ A.d_Shelf___init__ p_Shelf___init__ (spShelf A.C_Shelf) := by
  refine T.fn_Shelf___init__.okX sc_Shelf___init__ (fun vs H Q E h => ?_) (fun cdv B outer s H vs Q E hr h => ?_)
  · obtain ⟨p, dx, rfl, _⟩ := h; rfl
  obtain ⟨p, dx, rfl, hp, hd, hne, k⟩ := h
  refine ⟨_, (pss_cons (ps_fld (pv 0) (pe_lst (pa_cons pe_non pa_nil)) rfl)
      (pss_cons (ps_fld (pv 0) pe_dnewT rfl)
      (pss_cons (ps_fld (pv 0) (pe_lst (pa_cons pe_int pa_nil)) rfl)
      (pss_cons (ps_fld (pv 0) (pe_lst (pa_cons pe_int pa_nil)) rfl)
      (pss_cons (ps_fld (pv 0) (pe_lst (pa_cons pe_int pa_nil)) rfl)
      (pss_cons (ps_fld (pv 0) (pe_lst (pa_cons (pe_un un_neg pe_int) pa_nil)) rfl)
      (pss_cons (ps_fld (pv 0) (pe_lst (pa_cons pe_int pa_nil)) rfl)
      (pss_one (ps_fld (pv 0) (pe_lst (pa_cons pe_int pa_nil)) rfl))))))))), ?_⟩
  have l1 : ∀ x : V, [x].length ≤ sizeLine := fun x => by show 1 ≤ sizeLine; rw [sizeLine_eq]; decide
  refine w_seq ?_
  refine w_lst (w_cons (w_c (w_nil ⟨l1 _, fun zpc npc => ?_⟩)))
  have ppc : zpc ≠ p := (ne_of_none hp npc).symm
  refine ⟨_, rfl, p, _, dx, _, rfl, (by rw [upd_ne ppc.symm]; exact hp), T.cl_Shelf, T.na_Shelf_pieces, (by show 0 < 1000; decide), ?_⟩
  rw [show putF "pieces" (V.ref zpc) ([] : List (Str × V)) = [(("pieces" : Str), V.ref zpc)] from putF_new (ks := ([] : List Str)) rfl (by decide +kernel)]
  generalize e0 : upd (upd H zpc (HO.lst [.non])) p (.ins A.C_Shelf dx [(("pieces" : Str), V.ref zpc)]) = H0
  have g0 : H0 p = some (.ins A.C_Shelf dx [(("pieces" : Str), V.ref zpc)]) := by rw [← e0]; exact upd_same
  have hd_0 : H0 dx = some (.own p) := by rw [← e0]; exact mkS npc hne hd
  have cpc_0 : H0 zpc = some (.lst [.non]) := by rw [← e0]; exact mkN ppc
  have fr0 : ∀ b o, H b = some o → b ≠ p → H0 b = some o := fun b o e nb => by rw [← e0]; exact mkS npc nb e
  have opc : H zpc = none := by cases e : H zpc with | none => rfl | some o => exact absurd (e.symm.trans npc) (by simp)
  dsimp only
  have ddxpc : dx ≠ zpc := ne_of_none hd npc
  refine w_seq ?_
  refine fun znb nnb => ?_
  have pnb : znb ≠ p := (ne_of_none g0 nnb).symm
  refine ⟨_, rfl, p, _, dx, _, rfl, (by rw [upd_ne pnb.symm]; exact g0), T.cl_Shelf, T.na_Shelf_numbers, (by show 1 < 1000; decide), ?_⟩
  rw [show putF "numbers" (V.ref znb) ([(("pieces" : Str), V.ref zpc)] : List (Str × V)) = [(("pieces" : Str), V.ref zpc), (("numbers" : Str), V.ref znb)] from putF_new (ks := (["pieces"] : List Str)) rfl (by decide +kernel)]
  generalize e1 : upd (upd H0 znb (HO.dT [])) p (.ins A.C_Shelf dx [(("pieces" : Str), V.ref zpc), (("numbers" : Str), V.ref znb)]) = H1
  have g1 : H1 p = some (.ins A.C_Shelf dx [(("pieces" : Str), V.ref zpc), (("numbers" : Str), V.ref znb)]) := by rw [← e1]; exact upd_same
  have hd_1 : H1 dx = some (.own p) := by rw [← e1]; exact mkS nnb hne hd_0
  have cpc_1 : H1 zpc = some (.lst [.non]) := by rw [← e1]; exact mkS nnb ppc cpc_0
  have cnb_1 : H1 znb = some (.dT []) := by rw [← e1]; exact mkN pnb
  have fr1 : ∀ b o, H b = some o → b ≠ p → H1 b = some o := fun b o e nb => by rw [← e1]; exact mkS nnb nb (fr0 b o e nb)
  have onb : H znb = none := by cases e : H znb with | none => rfl | some o => exact absurd ((fr0 _ o e (fun z => by rw [z, hp] at e; exact pnb z)).symm.trans nnb) (by simp)
  dsimp only
  have dpcnb : zpc ≠ znb := ne_of_none cpc_0 nnb
  have ddxnb : dx ≠ znb := ne_of_none hd_0 nnb
  refine w_seq ?_
  refine w_lst (w_cons (w_c (w_nil ⟨l1 _, fun zsg nsg => ?_⟩)))
  have psg : zsg ≠ p := (ne_of_none g1 nsg).symm
  refine ⟨_, rfl, p, _, dx, _, rfl, (by rw [upd_ne psg.symm]; exact g1), T.cl_Shelf, T.na_Shelf_told_signs, (by show 2 < 1000; decide), ?_⟩
  rw [show putF "told_signs" (V.ref zsg) ([(("pieces" : Str), V.ref zpc), (("numbers" : Str), V.ref znb)] : List (Str × V)) = [(("pieces" : Str), V.ref zpc), (("numbers" : Str), V.ref znb), (("told_signs" : Str), V.ref zsg)] from putF_new (ks := (["pieces", "numbers"] : List Str)) rfl (by decide +kernel)]
  generalize e2 : upd (upd H1 zsg (HO.lst [.int 0])) p (.ins A.C_Shelf dx [(("pieces" : Str), V.ref zpc), (("numbers" : Str), V.ref znb), (("told_signs" : Str), V.ref zsg)]) = H2
  have g2 : H2 p = some (.ins A.C_Shelf dx [(("pieces" : Str), V.ref zpc), (("numbers" : Str), V.ref znb), (("told_signs" : Str), V.ref zsg)]) := by rw [← e2]; exact upd_same
  have hd_2 : H2 dx = some (.own p) := by rw [← e2]; exact mkS nsg hne hd_1
  have cpc_2 : H2 zpc = some (.lst [.non]) := by rw [← e2]; exact mkS nsg ppc cpc_1
  have cnb_2 : H2 znb = some (.dT []) := by rw [← e2]; exact mkS nsg pnb cnb_1
  have csg_2 : H2 zsg = some (.lst [.int 0]) := by rw [← e2]; exact mkN psg
  have fr2 : ∀ b o, H b = some o → b ≠ p → H2 b = some o := fun b o e nb => by rw [← e2]; exact mkS nsg nb (fr1 b o e nb)
  have osg : H zsg = none := by cases e : H zsg with | none => rfl | some o => exact absurd ((fr1 _ o e (fun z => by rw [z, hp] at e; exact psg z)).symm.trans nsg) (by simp)
  dsimp only
  have dpcsg : zpc ≠ zsg := ne_of_none cpc_1 nsg
  have dnbsg : znb ≠ zsg := ne_of_none cnb_1 nsg
  have ddxsg : dx ≠ zsg := ne_of_none hd_1 nsg
  refine w_seq ?_
  refine w_lst (w_cons (w_c (w_nil ⟨l1 _, fun zen nen => ?_⟩)))
  have pen : zen ≠ p := (ne_of_none g2 nen).symm
  refine ⟨_, rfl, p, _, dx, _, rfl, (by rw [upd_ne pen.symm]; exact g2), T.cl_Shelf, T.na_Shelf_told_ends, (by show 3 < 1000; decide), ?_⟩
  rw [show putF "told_ends" (V.ref zen) ([(("pieces" : Str), V.ref zpc), (("numbers" : Str), V.ref znb), (("told_signs" : Str), V.ref zsg)] : List (Str × V)) = [(("pieces" : Str), V.ref zpc), (("numbers" : Str), V.ref znb), (("told_signs" : Str), V.ref zsg), (("told_ends" : Str), V.ref zen)] from putF_new (ks := (["pieces", "numbers", "told_signs"] : List Str)) rfl (by decide +kernel)]
  generalize e3 : upd (upd H2 zen (HO.lst [.int 0])) p (.ins A.C_Shelf dx [(("pieces" : Str), V.ref zpc), (("numbers" : Str), V.ref znb), (("told_signs" : Str), V.ref zsg), (("told_ends" : Str), V.ref zen)]) = H3
  have g3 : H3 p = some (.ins A.C_Shelf dx [(("pieces" : Str), V.ref zpc), (("numbers" : Str), V.ref znb), (("told_signs" : Str), V.ref zsg), (("told_ends" : Str), V.ref zen)]) := by rw [← e3]; exact upd_same
  have hd_3 : H3 dx = some (.own p) := by rw [← e3]; exact mkS nen hne hd_2
  have cpc_3 : H3 zpc = some (.lst [.non]) := by rw [← e3]; exact mkS nen ppc cpc_2
  have cnb_3 : H3 znb = some (.dT []) := by rw [← e3]; exact mkS nen pnb cnb_2
  have csg_3 : H3 zsg = some (.lst [.int 0]) := by rw [← e3]; exact mkS nen psg csg_2
  have cen_3 : H3 zen = some (.lst [.int 0]) := by rw [← e3]; exact mkN pen
  have fr3 : ∀ b o, H b = some o → b ≠ p → H3 b = some o := fun b o e nb => by rw [← e3]; exact mkS nen nb (fr2 b o e nb)
  have oen : H zen = none := by cases e : H zen with | none => rfl | some o => exact absurd ((fr2 _ o e (fun z => by rw [z, hp] at e; exact pen z)).symm.trans nen) (by simp)
  dsimp only
  have dpcen : zpc ≠ zen := ne_of_none cpc_2 nen
  have dnben : znb ≠ zen := ne_of_none cnb_2 nen
  have dsgen : zsg ≠ zen := ne_of_none csg_2 nen
  have ddxen : dx ≠ zen := ne_of_none hd_2 nen
  refine w_seq ?_
  refine w_lst (w_cons (w_c (w_nil ⟨l1 _, fun zlv nlv => ?_⟩)))
  have plv : zlv ≠ p := (ne_of_none g3 nlv).symm
  refine ⟨_, rfl, p, _, dx, _, rfl, (by rw [upd_ne plv.symm]; exact g3), T.cl_Shelf, T.na_Shelf_told_leaves, (by show 4 < 1000; decide), ?_⟩
  rw [show putF "told_leaves" (V.ref zlv) ([(("pieces" : Str), V.ref zpc), (("numbers" : Str), V.ref znb), (("told_signs" : Str), V.ref zsg), (("told_ends" : Str), V.ref zen)] : List (Str × V)) = [(("pieces" : Str), V.ref zpc), (("numbers" : Str), V.ref znb), (("told_signs" : Str), V.ref zsg), (("told_ends" : Str), V.ref zen), (("told_leaves" : Str), V.ref zlv)] from putF_new (ks := (["pieces", "numbers", "told_signs", "told_ends"] : List Str)) rfl (by decide +kernel)]
  generalize e4 : upd (upd H3 zlv (HO.lst [.int 0])) p (.ins A.C_Shelf dx [(("pieces" : Str), V.ref zpc), (("numbers" : Str), V.ref znb), (("told_signs" : Str), V.ref zsg), (("told_ends" : Str), V.ref zen), (("told_leaves" : Str), V.ref zlv)]) = H4
  have g4 : H4 p = some (.ins A.C_Shelf dx [(("pieces" : Str), V.ref zpc), (("numbers" : Str), V.ref znb), (("told_signs" : Str), V.ref zsg), (("told_ends" : Str), V.ref zen), (("told_leaves" : Str), V.ref zlv)]) := by rw [← e4]; exact upd_same
  have hd_4 : H4 dx = some (.own p) := by rw [← e4]; exact mkS nlv hne hd_3
  have cpc_4 : H4 zpc = some (.lst [.non]) := by rw [← e4]; exact mkS nlv ppc cpc_3
  have cnb_4 : H4 znb = some (.dT []) := by rw [← e4]; exact mkS nlv pnb cnb_3
  have csg_4 : H4 zsg = some (.lst [.int 0]) := by rw [← e4]; exact mkS nlv psg csg_3
  have cen_4 : H4 zen = some (.lst [.int 0]) := by rw [← e4]; exact mkS nlv pen cen_3
  have clv_4 : H4 zlv = some (.lst [.int 0]) := by rw [← e4]; exact mkN plv
  have fr4 : ∀ b o, H b = some o → b ≠ p → H4 b = some o := fun b o e nb => by rw [← e4]; exact mkS nlv nb (fr3 b o e nb)
  have olv : H zlv = none := by cases e : H zlv with | none => rfl | some o => exact absurd ((fr3 _ o e (fun z => by rw [z, hp] at e; exact plv z)).symm.trans nlv) (by simp)
  dsimp only
  have dpclv : zpc ≠ zlv := ne_of_none cpc_3 nlv
  have dnblv : znb ≠ zlv := ne_of_none cnb_3 nlv
  have dsglv : zsg ≠ zlv := ne_of_none csg_3 nlv
  have denlv : zen ≠ zlv := ne_of_none cen_3 nlv
  have ddxlv : dx ≠ zlv := ne_of_none hd_3 nlv
  refine w_seq ?_
  refine w_lst (w_cons (w_un (w_c (w_rU (w_nil ⟨l1 _, fun zht nht => ?_⟩)))))
  have pht : zht ≠ p := (ne_of_none g4 nht).symm
  refine ⟨_, rfl, p, _, dx, _, rfl, (by rw [upd_ne pht.symm]; exact g4), T.cl_Shelf, T.na_Shelf_told_heights, (by show 5 < 1000; decide), ?_⟩
  rw [show putF "told_heights" (V.ref zht) ([(("pieces" : Str), V.ref zpc), (("numbers" : Str), V.ref znb), (("told_signs" : Str), V.ref zsg), (("told_ends" : Str), V.ref zen), (("told_leaves" : Str), V.ref zlv)] : List (Str × V)) = [(("pieces" : Str), V.ref zpc), (("numbers" : Str), V.ref znb), (("told_signs" : Str), V.ref zsg), (("told_ends" : Str), V.ref zen), (("told_leaves" : Str), V.ref zlv), (("told_heights" : Str), V.ref zht)] from putF_new (ks := (["pieces", "numbers", "told_signs", "told_ends", "told_leaves"] : List Str)) rfl (by decide +kernel)]
  generalize e5 : upd (upd H4 zht (HO.lst [.int (-1)])) p (.ins A.C_Shelf dx [(("pieces" : Str), V.ref zpc), (("numbers" : Str), V.ref znb), (("told_signs" : Str), V.ref zsg), (("told_ends" : Str), V.ref zen), (("told_leaves" : Str), V.ref zlv), (("told_heights" : Str), V.ref zht)]) = H5
  have g5 : H5 p = some (.ins A.C_Shelf dx [(("pieces" : Str), V.ref zpc), (("numbers" : Str), V.ref znb), (("told_signs" : Str), V.ref zsg), (("told_ends" : Str), V.ref zen), (("told_leaves" : Str), V.ref zlv), (("told_heights" : Str), V.ref zht)]) := by rw [← e5]; exact upd_same
  have hd_5 : H5 dx = some (.own p) := by rw [← e5]; exact mkS nht hne hd_4
  have cpc_5 : H5 zpc = some (.lst [.non]) := by rw [← e5]; exact mkS nht ppc cpc_4
  have cnb_5 : H5 znb = some (.dT []) := by rw [← e5]; exact mkS nht pnb cnb_4
  have csg_5 : H5 zsg = some (.lst [.int 0]) := by rw [← e5]; exact mkS nht psg csg_4
  have cen_5 : H5 zen = some (.lst [.int 0]) := by rw [← e5]; exact mkS nht pen cen_4
  have clv_5 : H5 zlv = some (.lst [.int 0]) := by rw [← e5]; exact mkS nht plv clv_4
  have cht_5 : H5 zht = some (.lst [.int (-1)]) := by rw [← e5]; exact mkN pht
  have fr5 : ∀ b o, H b = some o → b ≠ p → H5 b = some o := fun b o e nb => by rw [← e5]; exact mkS nht nb (fr4 b o e nb)
  have oht : H zht = none := by cases e : H zht with | none => rfl | some o => exact absurd ((fr4 _ o e (fun z => by rw [z, hp] at e; exact pht z)).symm.trans nht) (by simp)
  dsimp only
  have dpcht : zpc ≠ zht := ne_of_none cpc_4 nht
  have dnbht : znb ≠ zht := ne_of_none cnb_4 nht
  have dsght : zsg ≠ zht := ne_of_none csg_4 nht
  have denht : zen ≠ zht := ne_of_none cen_4 nht
  have dlvht : zlv ≠ zht := ne_of_none clv_4 nht
  have ddxht : dx ≠ zht := ne_of_none hd_4 nht
  refine w_seq ?_
  refine w_lst (w_cons (w_c (w_nil ⟨l1 _, fun zfi nfi => ?_⟩)))
  have pfi : zfi ≠ p := (ne_of_none g5 nfi).symm
  refine ⟨_, rfl, p, _, dx, _, rfl, (by rw [upd_ne pfi.symm]; exact g5), T.cl_Shelf, T.na_Shelf_firsts, (by show 6 < 1000; decide), ?_⟩
  rw [show putF "firsts" (V.ref zfi) ([(("pieces" : Str), V.ref zpc), (("numbers" : Str), V.ref znb), (("told_signs" : Str), V.ref zsg), (("told_ends" : Str), V.ref zen), (("told_leaves" : Str), V.ref zlv), (("told_heights" : Str), V.ref zht)] : List (Str × V)) = [(("pieces" : Str), V.ref zpc), (("numbers" : Str), V.ref znb), (("told_signs" : Str), V.ref zsg), (("told_ends" : Str), V.ref zen), (("told_leaves" : Str), V.ref zlv), (("told_heights" : Str), V.ref zht), (("firsts" : Str), V.ref zfi)] from putF_new (ks := (["pieces", "numbers", "told_signs", "told_ends", "told_leaves", "told_heights"] : List Str)) rfl (by decide +kernel)]
  generalize e6 : upd (upd H5 zfi (HO.lst [.int 0])) p (.ins A.C_Shelf dx [(("pieces" : Str), V.ref zpc), (("numbers" : Str), V.ref znb), (("told_signs" : Str), V.ref zsg), (("told_ends" : Str), V.ref zen), (("told_leaves" : Str), V.ref zlv), (("told_heights" : Str), V.ref zht), (("firsts" : Str), V.ref zfi)]) = H6
  have g6 : H6 p = some (.ins A.C_Shelf dx [(("pieces" : Str), V.ref zpc), (("numbers" : Str), V.ref znb), (("told_signs" : Str), V.ref zsg), (("told_ends" : Str), V.ref zen), (("told_leaves" : Str), V.ref zlv), (("told_heights" : Str), V.ref zht), (("firsts" : Str), V.ref zfi)]) := by rw [← e6]; exact upd_same
  have hd_6 : H6 dx = some (.own p) := by rw [← e6]; exact mkS nfi hne hd_5
  have cpc_6 : H6 zpc = some (.lst [.non]) := by rw [← e6]; exact mkS nfi ppc cpc_5
  have cnb_6 : H6 znb = some (.dT []) := by rw [← e6]; exact mkS nfi pnb cnb_5
  have csg_6 : H6 zsg = some (.lst [.int 0]) := by rw [← e6]; exact mkS nfi psg csg_5
  have cen_6 : H6 zen = some (.lst [.int 0]) := by rw [← e6]; exact mkS nfi pen cen_5
  have clv_6 : H6 zlv = some (.lst [.int 0]) := by rw [← e6]; exact mkS nfi plv clv_5
  have cht_6 : H6 zht = some (.lst [.int (-1)]) := by rw [← e6]; exact mkS nfi pht cht_5
  have cfi_6 : H6 zfi = some (.lst [.int 0]) := by rw [← e6]; exact mkN pfi
  have fr6 : ∀ b o, H b = some o → b ≠ p → H6 b = some o := fun b o e nb => by rw [← e6]; exact mkS nfi nb (fr5 b o e nb)
  have ofi : H zfi = none := by cases e : H zfi with | none => rfl | some o => exact absurd ((fr5 _ o e (fun z => by rw [z, hp] at e; exact pfi z)).symm.trans nfi) (by simp)
  dsimp only
  have dpcfi : zpc ≠ zfi := ne_of_none cpc_5 nfi
  have dnbfi : znb ≠ zfi := ne_of_none cnb_5 nfi
  have dsgfi : zsg ≠ zfi := ne_of_none csg_5 nfi
  have denfi : zen ≠ zfi := ne_of_none cen_5 nfi
  have dlvfi : zlv ≠ zfi := ne_of_none clv_5 nfi
  have dhtfi : zht ≠ zfi := ne_of_none cht_5 nfi
  have ddxfi : dx ≠ zfi := ne_of_none hd_5 nfi
  refine w_lst (w_cons (w_c (w_nil ⟨l1 _, fun zla nla => ?_⟩)))
  have pla : zla ≠ p := (ne_of_none g6 nla).symm
  refine ⟨_, rfl, p, _, dx, _, rfl, (by rw [upd_ne pla.symm]; exact g6), T.cl_Shelf, T.na_Shelf_lasts, (by show 7 < 1000; decide), ?_⟩
  rw [show putF "lasts" (V.ref zla) ([(("pieces" : Str), V.ref zpc), (("numbers" : Str), V.ref znb), (("told_signs" : Str), V.ref zsg), (("told_ends" : Str), V.ref zen), (("told_leaves" : Str), V.ref zlv), (("told_heights" : Str), V.ref zht), (("firsts" : Str), V.ref zfi)] : List (Str × V)) = [(("pieces" : Str), V.ref zpc), (("numbers" : Str), V.ref znb), (("told_signs" : Str), V.ref zsg), (("told_ends" : Str), V.ref zen), (("told_leaves" : Str), V.ref zlv), (("told_heights" : Str), V.ref zht), (("firsts" : Str), V.ref zfi), (("lasts" : Str), V.ref zla)] from putF_new (ks := (["pieces", "numbers", "told_signs", "told_ends", "told_leaves", "told_heights", "firsts"] : List Str)) rfl (by decide +kernel)]
  generalize e7 : upd (upd H6 zla (HO.lst [.int 0])) p (.ins A.C_Shelf dx [(("pieces" : Str), V.ref zpc), (("numbers" : Str), V.ref znb), (("told_signs" : Str), V.ref zsg), (("told_ends" : Str), V.ref zen), (("told_leaves" : Str), V.ref zlv), (("told_heights" : Str), V.ref zht), (("firsts" : Str), V.ref zfi), (("lasts" : Str), V.ref zla)]) = H7
  have g7 : H7 p = some (.ins A.C_Shelf dx [(("pieces" : Str), V.ref zpc), (("numbers" : Str), V.ref znb), (("told_signs" : Str), V.ref zsg), (("told_ends" : Str), V.ref zen), (("told_leaves" : Str), V.ref zlv), (("told_heights" : Str), V.ref zht), (("firsts" : Str), V.ref zfi), (("lasts" : Str), V.ref zla)]) := by rw [← e7]; exact upd_same
  have hd_7 : H7 dx = some (.own p) := by rw [← e7]; exact mkS nla hne hd_6
  have cpc_7 : H7 zpc = some (.lst [.non]) := by rw [← e7]; exact mkS nla ppc cpc_6
  have cnb_7 : H7 znb = some (.dT []) := by rw [← e7]; exact mkS nla pnb cnb_6
  have csg_7 : H7 zsg = some (.lst [.int 0]) := by rw [← e7]; exact mkS nla psg csg_6
  have cen_7 : H7 zen = some (.lst [.int 0]) := by rw [← e7]; exact mkS nla pen cen_6
  have clv_7 : H7 zlv = some (.lst [.int 0]) := by rw [← e7]; exact mkS nla plv clv_6
  have cht_7 : H7 zht = some (.lst [.int (-1)]) := by rw [← e7]; exact mkS nla pht cht_6
  have cfi_7 : H7 zfi = some (.lst [.int 0]) := by rw [← e7]; exact mkS nla pfi cfi_6
  have cla_7 : H7 zla = some (.lst [.int 0]) := by rw [← e7]; exact mkN pla
  have fr7 : ∀ b o, H b = some o → b ≠ p → H7 b = some o := fun b o e nb => by rw [← e7]; exact mkS nla nb (fr6 b o e nb)
  have ola : H zla = none := by cases e : H zla with | none => rfl | some o => exact absurd ((fr6 _ o e (fun z => by rw [z, hp] at e; exact pla z)).symm.trans nla) (by simp)
  dsimp only
  have dpcla : zpc ≠ zla := ne_of_none cpc_6 nla
  have dnbla : znb ≠ zla := ne_of_none cnb_6 nla
  have dsgla : zsg ≠ zla := ne_of_none csg_6 nla
  have denla : zen ≠ zla := ne_of_none cen_6 nla
  have dlvla : zlv ≠ zla := ne_of_none clv_6 nla
  have dhtla : zht ≠ zla := ne_of_none cht_6 nla
  have dfila : zfi ≠ zla := ne_of_none cfi_6 nla
  have ddxla : dx ≠ zla := ne_of_none hd_6 nla
  refine k ⟨p, dx, zpc, znb, zsg, zen, zlv, zht, zfi, zla⟩ H7 rfl ⟨g7, hd_7, ⟨[], cpc_7, rfl, fun i r t e => by simp at e⟩, cnb_7, csg_7, cen_7, clv_7, cht_7, cfi_7, cla_7, good_nil, ?_, Nat.zero_le _⟩ fr7 ?_
  · simp only [Cells.all, List.nodup_cons, List.mem_cons, List.not_mem_nil, or_false, not_or, List.nodup_nil, not_false_eq_true, and_true]
    exact ⟨⟨hne.symm, ppc.symm, pnb.symm, psg.symm, pen.symm, plv.symm, pht.symm, pfi.symm, pla.symm⟩, ⟨ddxpc, ddxnb, ddxsg, ddxen, ddxlv, ddxht, ddxfi, ddxla⟩, ⟨dpcnb, dpcsg, dpcen, dpclv, dpcht, dpcfi, dpcla⟩, ⟨dnbsg, dnben, dnblv, dnbht, dnbfi, dnbla⟩, ⟨dsgen, dsglv, dsght, dsgfi, dsgla⟩, ⟨denlv, denht, denfi, denla⟩, ⟨dlvht, dlvfi, dlvla⟩, ⟨dhtfi, dhtla⟩, dfila⟩
  · intro b hb
    simp only [Cells.all, List.mem_cons, List.not_mem_nil, or_false] at hb
    rcases hb with e | e | e | e | e | e | e | e | e | e
    · exact .inl e
    · exact .inr (.inl e)
    all_goals (rw [e]; refine .inr (.inr ?_); assumption)
end

/-! ### joining -/
structure Grow (C : Addr) (c : Cells) (H : Hp) (S : List Tr) (H' : Hp) (S' : List Tr) (more M : Nat) : Prop where
  sh : ShAt C c H' S'
  ex : Ext S S'
  len : S'.length ≤ S.length + more
  kp : Keep c H H'
  nw : ∀ t ∈ S', t ∈ S ∨ t.sg ≤ M
theorem Grow.refl {C : Addr} {c : Cells} {H : Hp} {S : List Tr} (s : ShAt C c H S) : Grow C c H S H S 0 0 := ⟨s, List.prefix_refl _, Nat.le_refl _, Keep.refl _ _, fun _ h => .inl h⟩
theorem Grow.trans {C : Addr} {c : Cells} {H H1 H2 : Hp} {S S1 S2 : List Tr} {m k M N : Nat} (g : Grow C c H S H1 S1 m M) (h : Grow C c H1 S1 H2 S2 k N) : Grow C c H S H2 S2 (m + k) (max M N) :=
  ⟨h.sh, g.ex.trans h.ex, by have := g.len; have := h.len; omega, g.kp.trans h.kp, fun t ht => (h.nw t ht).elim (fun z => (g.nw t z).elim .inl fun y => .inr (by omega)) fun y => .inr (by omega)⟩
theorem Grow.same {C : Addr} {c : Cells} {H H1 H2 : Hp} {S S1 : List Tr} {m M : Nat} (g : Grow C c H S H1 S1 m M) (s : Same H1 H2) : Grow C c H S H2 S1 m M := ⟨g.sh.same s, g.ex, g.len, g.kp.trans (Keep.of s), g.nw⟩
theorem Grow.mono {C : Addr} {c : Cells} {H H1 : Hp} {S S1 : List Tr} {m k M N : Nat} (g : Grow C c H S H1 S1 m M) (h : m ≤ k) (hM : M ≤ N) : Grow C c H S H1 S1 k N := ⟨g.sh, g.ex, Nat.le_trans g.len (Nat.add_le_add_left h _), g.kp, fun t ht => (g.nw t ht).imp id fun y => Nat.le_trans y hM⟩
theorem put_nw {S : List Tr} {t : Tr} : ∀ u ∈ put S t, u ∈ S ∨ u.sg ≤ t.sg := fun u hu => by
  unfold put at hu
  split at hu
  · exact .inl hu
  · rcases List.mem_append.mp hu with z | z
    · exact .inl z
    · rw [List.mem_singleton] at z; rw [z]; exact .inr (Nat.le_refl _)
theorem c_forkG {C CN CL CU CT : Addr} {c : Cells} {S : List Tr} {n m : Int} {a b : Tr} {H : Hp} {Q : VK} {E : XK} (s : ShAt C c H S) (ha : Nm S n a) (hb : Nm S m b) (o : Ok (.fk a b)) (h : S.length + 1 ≤ cap)
    (k : ∀ H' S' n', Grow C c H S H' S' 1 (Tr.fk a b).sg → Nm S' n' (.fk a b) → Q (.int n') H') : spFork C CN CL CU CT [.ref c.a, .int n, .int m] H Q E :=
  c_fork s ha hb o (by omega) fun H' s' k' => k H' _ _ ⟨s', put_ext, put_len, k', put_nw⟩ (nm_num put_mem)
theorem c_leafG {C CT : Addr} {c : Cells} {S : List Tr} {l : List Nat} {H : Hp} {Q : VK} {E : XK} (s : ShAt C c H S) (o : Ok (.lf l)) (h : S.length + 1 ≤ cap)
    (k : ∀ H' S' n', Grow C c H S H' S' 1 (Tr.lf l).sg → Nm S' n' (.lf l) → Q (.int n') H') : spLeaf C CT [.ref c.a, .str (sT l)] H Q E :=
  c_leaf s o (by omega) fun H' s' k' => k H' _ _ ⟨s', put_ext, put_len, k', put_nw⟩ (nm_num put_mem)
theorem Good.okO {S : List Tr} (g : Good S) {n : Int} {o : Option Tr} (h : Tx S n o) : OkO o := fun t e => by
  subst e; exact g.ok t (Nm.mem h)
theorem Good.parts2 {S : List Tr} (g : Good S) {n : Int} {a b : Tr} (h : Nm S n (.fk a b)) : Nm S (num S a) a ∧ Nm S (num S b) b := ⟨nm_num (g.parts h.mem).1, nm_num (g.parts h.mem).2⟩
theorem c_htN {C CN : Addr} {c : Cells} {S : List Tr} {n : Int} {t : Tr} {H : Hp} {Q : VK} {E : XK} (s : ShAt C c H S) (h : Nm S n t) (k : Q (.int t.ht) H) : spGet C CN gHt [.ref c.a, .int n] H Q E := c_getN s h k
theorem c_sgN {C CN : Addr} {c : Cells} {S : List Tr} {n : Int} {t : Tr} {H : Hp} {Q : VK} {E : XK} (s : ShAt C c H S) (h : Nm S n t) (k : Q (.int t.sg) H) : spGet C CN gSg [.ref c.a, .int n] H Q E := c_getN s h k
theorem c_fiN {C CN : Addr} {c : Cells} {S : List Tr} {n : Int} {t : Tr} {H : Hp} {Q : VK} {E : XK} (s : ShAt C c H S) (h : Nm S n t) (k : Q (.int (num S t.fi)) H) : spGet C CN gFi [.ref c.a, .int n] H Q E := c_getN s h k
theorem c_laN {C CN : Addr} {c : Cells} {S : List Tr} {n : Int} {t : Tr} {H : Hp} {Q : VK} {E : XK} (s : ShAt C c H S) (h : Nm S n t) (k : Q (.int (num S t.la)) H) : spGet C CN gLa [.ref c.a, .int n] H Q E := c_getN s h k
theorem c_sgO {C CN : Addr} {c : Cells} {S : List Tr} {n : Int} {o : Option Tr} {H : Hp} {Q : VK} {E : XK} (s : ShAt C c H S) (h : Tx S n o) (k : Q (.int (oS o)) H) : spGet C CN gSg [.ref c.a, .int n] H Q E := c_get s h (by cases o <;> exact k)
def oHi : Option Tr → Int | none => -1 | some t => t.ht
theorem c_htO {C CN : Addr} {c : Cells} {S : List Tr} {n : Int} {o : Option Tr} {H : Hp} {Q : VK} {E : XK} (s : ShAt C c H S) (h : Tx S n o) (k : Q (.int (oHi o)) H) : spGet C CN gHt [.ref c.a, .int n] H Q E := c_get s h (by cases o <;> exact k)
def oE : Option Tr → Nat | none => 0 | some t => t.en
theorem c_enO {C CN : Addr} {c : Cells} {S : List Tr} {n : Int} {o : Option Tr} {H : Hp} {Q : VK} {E : XK} (s : ShAt C c H S) (h : Tx S n o) (k : Q (.int (oE o)) H) : spGet C CN gEn [.ref c.a, .int n] H Q E := c_get s h (by cases o <;> exact k)
def oL : Option Tr → Nat | none => 0 | some t => t.lv
theorem c_lvO {C CN : Addr} {c : Cells} {S : List Tr} {n : Int} {o : Option Tr} {H : Hp} {Q : VK} {E : XK} (s : ShAt C c H S) (h : Tx S n o) (k : Q (.int (oL o)) H) : spGet C CN gLv [.ref c.a, .int n] H Q E := c_get s h (by cases o <;> exact k)
section
variable {C : Addr}
def spIsLeaf (C : Addr) : Sp := fun vs H Q _ => ∃ c S n t, vs = [.ref (Cells.a c), .int n] ∧ ShAt C c H S ∧ Nm S n t ∧ Q (.bl (decide (t.ht = 0))) H
theorem c_isLeaf {c : Cells} {S : List Tr} {n : Int} {t : Tr} {H : Hp} {Q : VK} {E : XK} (s : ShAt C c H S) (h : Nm S n t) (k : Q (.bl (decide (t.ht = 0))) H) : spIsLeaf C [.ref c.a, .int n] H Q E := ⟨c, S, n, t, rfl, s, h, k⟩
def spParts (C : Addr) : Sp := fun vs H Q _ => ∃ c S n a b, vs = [.ref (Cells.a c), .int n] ∧ ShAt C c H S ∧ Nm S n (.fk a b) ∧ ∀ p H', H p = none → Same H H' → H' p = some (.tup [.int (num S a), .int (num S b)]) → Q (.ref p) H'
theorem c_parts {c : Cells} {S : List Tr} {n : Int} {a b : Tr} {H : Hp} {Q : VK} {E : XK} (s : ShAt C c H S) (h : Nm S n (.fk a b)) (k : ∀ p H', H p = none → Same H H' → H' p = some (.tup [.int (num S a), .int (num S b)]) → Q (.ref p) H') : spParts C [.ref c.a, .int n] H Q E := ⟨c, S, n, a, b, rfl, s, h, k⟩
def spLeafText (C : Addr) : Sp := fun vs H Q _ => ∃ c S n l, vs = [.ref (Cells.a c), .int n] ∧ ShAt C c H S ∧ Nm S n (.lf l) ∧ Q (.str (sT l)) H
theorem c_leafText {c : Cells} {S : List Tr} {n : Int} {l : List Nat} {H : Hp} {Q : VK} {E : XK} (s : ShAt C c H S) (h : Nm S n (.lf l)) (k : Q (.str (sT l)) H) : spLeafText C [.ref c.a, .int n] H Q E := ⟨c, S, n, l, rfl, s, h, k⟩
/-- two texts levelled: f tells on which side -/
def spTurn (C : Addr) (f : Tr → Tr → Prop) : Sp := fun vs H Q _ => ∃ c S n m a b, vs = [.ref (Cells.a c), .int n, .int m] ∧ ShAt C c H S ∧ Nm S n a ∧ Nm S m b ∧ Jn a b ∧ f a b ∧ (a.ht ≤ b.ht + 2 ∧ b.ht ≤ a.ht + 2) ∧ S.length + 3 ≤ cap ∧
  ∀ H' S' n', Grow C c H S H' S' (clev a b) (a.sg + b.sg) → Nm S' n' (levelled a b) → Q (.int n') H'
theorem c_turn {f : Tr → Tr → Prop} {c : Cells} {S : List Tr} {n m : Int} {a b : Tr} {H : Hp} {Q : VK} {E : XK} (s : ShAt C c H S) (ha : Nm S n a) (hb : Nm S m b) (j : Jn a b) (hf : f a b) (h1 : a.ht ≤ b.ht + 2) (h2 : b.ht ≤ a.ht + 2) (cp : S.length + 3 ≤ cap)
    (k : ∀ H' S' n', Grow C c H S H' S' (clev a b) (a.sg + b.sg) → Nm S' n' (levelled a b) → Q (.int n') H') : spTurn C f [.ref c.a, .int n, .int m] H Q E := ⟨c, S, n, m, a, b, rfl, s, ha, hb, j, hf, ⟨h1, h2⟩, cp, k⟩
def spLinked (C : Addr) (N : Nat) : Sp := fun vs H Q _ => ∃ c S n m o p, vs = [.ref (Cells.a c), .int n, .int m] ∧ ShAt C c H S ∧ Tx S n o ∧ Tx S m p ∧ 1 ≤ N ∧ (∀ a b, o = some a → p = some b → Jn a b ∧ a.ht + 1 ≤ b.ht + N ∧ b.ht + 1 ≤ a.ht + N) ∧ S.length + clinkO o p + 3 ≤ cap ∧
  ∀ H' S' n', Grow C c H S H' S' (clinkO o p) (oS o + oS p) → Tx S' n' (linkedO o p) → Q (.int n') H'
theorem c_linked {N : Nat} {c : Cells} {S : List Tr} {n m : Int} {o p : Option Tr} {H : Hp} {Q : VK} {E : XK} (s : ShAt C c H S) (ho : Tx S n o) (hp : Tx S m p) (hN : 1 ≤ N) (j : ∀ a b, o = some a → p = some b → Jn a b ∧ a.ht + 1 ≤ b.ht + N ∧ b.ht + 1 ≤ a.ht + N) (cp : S.length + clinkO o p + 3 ≤ cap)
    (k : ∀ H' S' n', Grow C c H S H' S' (clinkO o p) (oS o + oS p) → Tx S' n' (linkedO o p) → Q (.int n') H') : spLinked C N [.ref c.a, .int n, .int m] H Q E := ⟨c, S, n, m, o, p, rfl, s, ho, hp, hN, j, cp, k⟩
def spWl (C : Addr) (f : Tr → Option Tr) (g : Tr → Nat) (N : Nat) : Sp := fun vs H Q _ => ∃ c S n t, vs = [.ref (Cells.a c), .int n] ∧ ShAt C c H S ∧ Nm S n t ∧ t.ht < N ∧ S.length + g t + 3 ≤ cap ∧ ∀ H' S' n', Grow C c H S H' S' (g t) t.sg → Tx S' n' (f t) → Q (.int n') H'
def spPour (C : Addr) : Sp := fun vs H Q _ => ∃ c S n m a b, vs = [.ref (Cells.a c), .int n, .int m] ∧ ShAt C c H S ∧ Nm S n a ∧ Nm S m b ∧ a.la.sg + b.fi.sg ≤ 8 ∧ a.sg + b.sg ≤ mostSg ∧ S.length + cpour a b + 3 ≤ cap ∧
  ∀ H' S' n', Grow C c H S H' S' (cpour a b) (a.sg + b.sg) → Tx S' n' (poured a b) → Q (.int n') H'
/-- joined -/
def spJoined (C CN CT : Addr) : Sp := fun vs H Q E => ∃ c S n m, vs = [.ref (Cells.a c), .int n, .int m] ∧ ShAt C c H S ∧
  (((¬ inR S n ∨ ¬ inR S m) ∧ E (.ref CN) none H) ∨ ∃ o p, Tx S n o ∧ Tx S m p ∧ ((mostSg < oS o + oS p ∧ E (.ref CT) none H) ∨ (oS o + oS p ≤ mostSg ∧ S.length + cjoin o p + 3 ≤ cap ∧ ∀ H' S' n', Grow C c H S H' S' (cjoin o p) (oS o + oS p) → Tx S' n' (joinedO o p) → Q (.int n') H')))
theorem c_joined {CN CT : Addr} {c : Cells} {S : List Tr} {n m : Int} {o p : Option Tr} {H : Hp} {Q : VK} {E : XK} (s : ShAt C c H S) (ho : Tx S n o) (hp : Tx S m p) (h : oS o + oS p ≤ mostSg) (cp : S.length + 1000 ≤ cap)
    (k : ∀ H' S' n', Grow C c H S H' S' (cjoin o p) (oS o + oS p) → Tx S' n' (joinedO o p) → Q (.int n') H') : spJoined C CN CT [.ref c.a, .int n, .int m] H Q E := by
  have oo := s.gd.okO ho
  have op := s.gd.okO hp
  have := (joinedO_ok oo op h).2.2.1
  have := oo.low
  have := op.low
  exact ⟨c, S, n, m, rfl, s, .inr ⟨o, p, ho, hp, .inr ⟨h, by omega, k⟩⟩⟩
end
section
variable {P : Program} {w : World} {K : PySem.W.Frag} {mg : Str → Option Value} {base : Heap} {A : Ad}
theorem nevr_ok {f : Addr} {fd : FuncData} {ps : List Str} {k : Nat} {sp : Sp} (h : ∀ vs H Q E, ¬ sp vs H Q E) : FnOk P w K mg base (L2.CX P w) k f fd ps sp :=
  ⟨fun vs H Q E z => (h _ _ _ _ z).elim, fun _ _ _ _ _ _ _ _ _ _ _ _ _ z => (h _ _ _ _ z).elim⟩
abbrev n_is_leaf : List Str := ["shelf", "text"]
theorem sc_is_leaf : FnScope n_is_leaf p_is_leaf (defScope s_is_leaf) := ⟨rfl, rfl, rfl, by decide +kernel, rfl, by decide +kernel, by decide +kernel⟩
theorem ok_is_leaf (T : Txt K mg A) : FnOk P w K mg base (L2.CX P w) 3 A.f_is_leaf A.d_is_leaf p_is_leaf (spIsLeaf A.C_Shelf) := by
  refine T.fn_is_leaf.okX sc_is_leaf (fun vs H Q E h => ?_) (fun cdv B outer s H vs Q E hr h => ?_)
  · obtain ⟨c, S, n, t, rfl, _⟩ := h; rfl
  obtain ⟨c, S, n, t, rfl, hS, ht, q⟩ := h
  refine ⟨_, (pss_one (ps_ret (pe_cmpR op_eq (pe_meth (pv 0) T.cl_Shelf T.me_Shelf_height (ok_Shelf_height T) (hr.mono (by omega)) T.bi_Shelf_height .nil (passes_call (takes_of rfl rfl rfl rfl) (fun _ _ _ _ h => h)) (pa_cons (pv 1) pa_nil)) pe_int (nomark _)))), ?_⟩
  walk_at "go"
  refine ⟨c.a, c.dx, _, rfl, hS.ob, fl_no (by decide +kernel), ?_⟩
  walk_at "go"
  refine c_htN hS ht ?_
  refine w_c (w_eqI ?_)
  rw [show decide ((t.ht : Int) = 0) = decide (t.ht = 0) from decide_eq_decide.mpr (by omega)]
  exact q
abbrev n_parts_of : List Str := ["shelf", "text", "word", "one", "other"]
theorem sc_parts_of : FnScope n_parts_of p_parts_of (defScope s_parts_of) := ⟨rfl, rfl, rfl, by decide +kernel, rfl, by decide +kernel, by decide +kernel⟩
theorem ok_parts_of (T : Txt K mg A) : FnOk P w K mg base (L2.CX P w) 3 A.f_parts_of A.d_parts_of p_parts_of (spParts A.C_Shelf) := by
  refine T.fn_parts_of.okX sc_parts_of (fun vs H Q E h => ?_) (fun cdv B outer s H vs Q E hr h => ?_)
  · obtain ⟨c, S, n, a, b, rfl, _⟩ := h; rfl
  obtain ⟨c, S, n, a, b, rfl, hS, ht, q⟩ := h
  refine ⟨_, (pss_cons (ps_asg (pe_meth (pv 0) T.cl_Shelf T.me_Shelf_piece (ok_Shelf_piece T) (hr.mono (by omega)) T.bi_Shelf_piece .nil (passes_call (takes_of rfl rfl rfl rfl) (fun _ _ _ _ h => h)) (pa_cons (pv 1) pa_nil)) (pg_tup rfl (pgs_cons (pg_name (i := 2) sc_parts_of.nd rfl (Or.inl rfl)) (pgs_cons (pg_name (i := 3) sc_parts_of.nd rfl (Or.inl rfl)) (pgs_cons (pg_name (i := 4) sc_parts_of.nd rfl (Or.inl rfl)) pgs_nil)))))
      (pss_one (ps_ret (pe_tup (pa_cons (pv 3) (pa_cons (pv 4) pa_nil)))))), ?_⟩
  walk_at "st"
  refine ⟨c.a, c.dx, _, rfl, hS.ob, fl_no (by decide +kernel), ?_⟩
  walk_at "go"
  refine c_piece hS ht fun r hr1 => ?_
  refine w_gtup (SqT.of hr1) rfl (w_gcons (w_gname (w_gcons (w_gname (w_gcons (w_gname (w_gnil ?_)))))))
  dsimp only
  walk_at "go"
  exact w_mkt (line_of (n := 2) rfl (by decide)) fun p H1 np s1 hp => q p H1 np s1 hp
abbrev n_leaf_text : List Str := ["shelf", "number"]
theorem sc_leaf_text : FnScope n_leaf_text p_leaf_text (defScope s_leaf_text) := ⟨rfl, rfl, rfl, by decide +kernel, rfl, by decide +kernel, by decide +kernel⟩
theorem ok_leaf_text (T : Txt K mg A) : FnOk P w K mg base (L2.CX P w) 3 A.f_leaf_text A.d_leaf_text p_leaf_text (spLeafText A.C_Shelf) := by
  refine T.fn_leaf_text.okX sc_leaf_text (fun vs H Q E h => ?_) (fun cdv B outer s H vs Q E hr h => ?_)
  · obtain ⟨c, S, n, l, rfl, _⟩ := h; rfl
  obtain ⟨c, S, n, l, rfl, hS, ht, q⟩ := h
  refine ⟨_, (pss_one (ps_ret (pe_ix ix_tup (pe_meth (pv 0) T.cl_Shelf T.me_Shelf_piece (ok_Shelf_piece T) (hr.mono (by omega)) T.bi_Shelf_piece .nil (passes_call (takes_of rfl rfl rfl rfl) (fun _ _ _ _ h => h)) (pa_cons (pv 1) pa_nil)) pe_int (fun _ _ => rfl)))), ?_⟩
  walk_at "go"
  refine ⟨c.a, c.dx, _, rfl, hS.ob, fl_no (by decide +kernel), ?_⟩
  walk_at "go"
  refine c_piece hS ht fun r hr1 => ?_
  have i1 : atI (pvals S (.lf l)) 1 = some (.str (sT l)) := rfl
  exact w_c (w_ixt (SqT.of hr1) i1 q)
abbrev n_turned_right : List Str := ["shelf", "one", "other", "inner", "outer", "left", "right"]
theorem sc_turned_right : FnScope n_turned_right p_turned_right (defScope s_turned_right) := ⟨rfl, rfl, rfl, by decide +kernel, rfl, by decide +kernel, by decide +kernel⟩
theorem ok_turned_right (T : Txt K mg A) : FnOk P w K mg base (L2.CX P w) 4 A.f_turned_right A.d_turned_right p_turned_right (spTurn A.C_Shelf (fun a b => a.ht + 1 < b.ht)) := by
  refine T.fn_turned_right.okX sc_turned_right (fun vs H Q E h => ?_) (fun cdv B outer s H vs Q E hr h => ?_)
  · obtain ⟨c, S, n, m, a, b, rfl, _⟩ := h; rfl
  obtain ⟨c, S, n, m, a, b, rfl, hS, ha, hb, j, hl, hh, cp, q⟩ := h
  refine ⟨_, (pss_cons (ps_asg (pe_call (ok_parts_of T) (hr.mono (by omega)) (by rfl) T.mg_parts_of T.fn_parts_of.kp T.bi_parts_of .nil (passes_call (takes_of rfl rfl rfl rfl) (fun _ _ _ _ h => h)) (pa_cons (pv 0) (pa_cons (pv 2) pa_nil))) (pg_tup rfl (pgs_cons (pg_name (i := 3) sc_turned_right.nd rfl (Or.inl rfl)) (pgs_cons (pg_name (i := 4) sc_turned_right.nd rfl (Or.inl rfl)) pgs_nil))))
      (pss_cons (ps_if (pt_cmpR op_le (pe_meth (pv 0) T.cl_Shelf T.me_Shelf_height (ok_Shelf_height T) (hr.mono (by omega)) T.bi_Shelf_height .nil (passes_call (takes_of rfl rfl rfl rfl) (fun _ _ _ _ h => h)) (pa_cons (pv 3) pa_nil)) (pe_meth (pv 0) T.cl_Shelf T.me_Shelf_height (ok_Shelf_height T) (hr.mono (by omega)) T.bi_Shelf_height .nil (passes_call (takes_of rfl rfl rfl rfl) (fun _ _ _ _ h => h)) (pa_cons (pv 4) pa_nil)) (nomark _)) (pss_one (ps_ret (pe_meth (pv 0) T.cl_Shelf T.me_Shelf_fork (ok_Shelf_fork T) (hr.mono (by omega)) T.bi_Shelf_fork .nil (passes_call (takes_of rfl rfl rfl rfl) (fun _ _ _ _ h => h)) (pa_cons (pe_meth (pv 0) T.cl_Shelf T.me_Shelf_fork (ok_Shelf_fork T) (hr.mono (by omega)) T.bi_Shelf_fork .nil (passes_call (takes_of rfl rfl rfl rfl) (fun _ _ _ _ h => h)) (pa_cons (pv 1) (pa_cons (pv 3) pa_nil))) (pa_cons (pv 4) pa_nil))))) pss_nil)
      (pss_cons (ps_asg (pe_call (ok_parts_of T) (hr.mono (by omega)) (by rfl) T.mg_parts_of T.fn_parts_of.kp T.bi_parts_of .nil (passes_call (takes_of rfl rfl rfl rfl) (fun _ _ _ _ h => h)) (pa_cons (pv 0) (pa_cons (pv 3) pa_nil))) (pg_tup rfl (pgs_cons (pg_name (i := 5) sc_turned_right.nd rfl (Or.inl rfl)) (pgs_cons (pg_name (i := 6) sc_turned_right.nd rfl (Or.inl rfl)) pgs_nil))))
      (pss_one (ps_ret (pe_meth (pv 0) T.cl_Shelf T.me_Shelf_fork (ok_Shelf_fork T) (hr.mono (by omega)) T.bi_Shelf_fork .nil (passes_call (takes_of rfl rfl rfl rfl) (fun _ _ _ _ h => h)) (pa_cons (pe_meth (pv 0) T.cl_Shelf T.me_Shelf_fork (ok_Shelf_fork T) (hr.mono (by omega)) T.bi_Shelf_fork .nil (passes_call (takes_of rfl rfl rfl rfl) (fun _ _ _ _ h => h)) (pa_cons (pv 1) (pa_cons (pv 5) pa_nil))) (pa_cons (pe_meth (pv 0) T.cl_Shelf T.me_Shelf_fork (ok_Shelf_fork T) (hr.mono (by omega)) T.bi_Shelf_fork .nil (passes_call (takes_of rfl rfl rfl rfl) (fun _ _ _ _ h => h)) (pa_cons (pv 6) (pa_cons (pv 4) pa_nil))) pa_nil)))))))), ?_⟩
  have hN : b.ht ≠ 0 := by omega
  obtain ⟨i, u, rfl⟩ := ht_pos hN
  obtain ⟨mi, mu⟩ := hS.gd.parts2 hb
  have lv := (levelled_ok j hh.1 hh.2).ok
  have e3 : clev a (.fk i u) = 3 := by unfold clev; rw [if_pos hl]
  walk_at "st"
  refine c_parts hS hb fun p H1 np s1 hp => ?_
  refine w_gtup (SqT.of hp) rfl (w_gcons (w_gname (w_gcons (w_gname (w_gnil ?_)))))
  dsimp only
  have hS1 := hS.same s1
  walk_at "st"
  refine ⟨c.a, c.dx, _, rfl, hS1.ob, fl_no (by decide +kernel), ?_⟩
  walk_at "go"
  refine c_htN hS1 mi ?_
  walk_at "go"
  refine ⟨c.a, c.dx, _, rfl, hS1.ob, fl_no (by decide +kernel), ?_⟩
  walk_at "go"
  refine c_htN hS1 mu ?_
  walk_at "go"
  refine ite_d (fun h1 => ?_) (fun h1 => ?_)
  · have el : levelled a (.fk i u) = .fk (.fk a i) u := by unfold levelled; rw [if_pos hl, turnedR_hi (by omega)]
    rw [el] at lv q
    walk_at "go"
    refine ⟨c.a, c.dx, _, rfl, hS1.ob, fl_no (by decide +kernel), ?_⟩
    walk_at "go"
    refine ⟨c.a, c.dx, _, rfl, hS1.ob, fl_no (by decide +kernel), ?_⟩
    walk_at "go"
    refine c_forkG hS1 ha mi lv.1 (by omega) fun H2 S2 n2 g2 m2 => ?_
    have l2 := g2.len
    walk_at "go"
    refine c_forkG g2.sh m2 (mu.ext g2.ex) lv (by omega) fun H3 S3 n3 g3 m3 => ?_
    exact q H3 S3 n3 ((((Grow.refl hS).same s1).trans (g2.trans g3)).mono (by omega) (by simp only [Tr.sg]; omega)) m3
  walk_at "sk"
  have hN2 : i.ht ≠ 0 := by omega
  obtain ⟨x, y, rfl⟩ := ht_pos hN2
  obtain ⟨mx, my⟩ := hS1.gd.parts2 mi
  have el : levelled a (.fk (.fk x y) u) = .fk (.fk a x) (.fk y u) := by unfold levelled; rw [if_pos hl, turnedR_lo (by omega)]
  rw [el] at lv q
  walk_at "st"
  refine c_parts hS1 mi fun p2 H2 np2 s2 hp2 => ?_
  refine w_gtup (SqT.of hp2) rfl (w_gcons (w_gname (w_gcons (w_gname (w_gnil ?_)))))
  dsimp only
  have hS2 := hS1.same s2
  walk_at "go"
  refine ⟨c.a, c.dx, _, rfl, hS2.ob, fl_no (by decide +kernel), ?_⟩
  walk_at "go"
  refine ⟨c.a, c.dx, _, rfl, hS2.ob, fl_no (by decide +kernel), ?_⟩
  walk_at "go"
  refine c_forkG hS2 ha mx lv.1 (by omega) fun H3 S3 n3 g3 m3 => ?_
  have l3 := g3.len
  walk_at "go"
  refine ⟨c.a, c.dx, _, rfl, g3.sh.ob, fl_no (by decide +kernel), ?_⟩
  walk_at "go"
  refine c_forkG g3.sh (my.ext g3.ex) (mu.ext g3.ex) lv.2.1 (by omega) fun H4 S4 n4 g4 m4 => ?_
  have l4 := g4.len
  walk_at "go"
  refine c_forkG g4.sh (m3.ext g4.ex) m4 lv (by omega) fun H5 S5 n5 g5 m5 => ?_
  exact q H5 S5 n5 ((((Grow.refl hS).same (s1.trans s2)).trans (g3.trans (g4.trans g5))).mono (by omega) (by simp only [Tr.sg]; omega)) m5
abbrev n_turned_left : List Str := ["shelf", "one", "other", "outer", "inner", "left", "right"]
theorem sc_turned_left : FnScope n_turned_left p_turned_left (defScope s_turned_left) := ⟨rfl, rfl, rfl, by decide +kernel, rfl, by decide +kernel, by decide +kernel⟩
theorem ok_turned_left (T : Txt K mg A) : FnOk P w K mg base (L2.CX P w) 4 A.f_turned_left A.d_turned_left p_turned_left (spTurn A.C_Shelf (fun a b => b.ht + 1 < a.ht)) := by
  refine T.fn_turned_left.okX sc_turned_left (fun vs H Q E h => ?_) (fun cdv B outer s H vs Q E hr h => ?_)
  · obtain ⟨c, S, n, m, a, b, rfl, _⟩ := h; rfl
  obtain ⟨c, S, n, m, a, b, rfl, hS, ha, hb, j, hl, hh, cp, q⟩ := h
  refine ⟨_, (pss_cons (ps_asg (pe_call (ok_parts_of T) (hr.mono (by omega)) (by rfl) T.mg_parts_of T.fn_parts_of.kp T.bi_parts_of .nil (passes_call (takes_of rfl rfl rfl rfl) (fun _ _ _ _ h => h)) (pa_cons (pv 0) (pa_cons (pv 1) pa_nil))) (pg_tup rfl (pgs_cons (pg_name (i := 3) sc_turned_left.nd rfl (Or.inl rfl)) (pgs_cons (pg_name (i := 4) sc_turned_left.nd rfl (Or.inl rfl)) pgs_nil))))
      (pss_cons (ps_if (pt_cmpR op_le (pe_meth (pv 0) T.cl_Shelf T.me_Shelf_height (ok_Shelf_height T) (hr.mono (by omega)) T.bi_Shelf_height .nil (passes_call (takes_of rfl rfl rfl rfl) (fun _ _ _ _ h => h)) (pa_cons (pv 4) pa_nil)) (pe_meth (pv 0) T.cl_Shelf T.me_Shelf_height (ok_Shelf_height T) (hr.mono (by omega)) T.bi_Shelf_height .nil (passes_call (takes_of rfl rfl rfl rfl) (fun _ _ _ _ h => h)) (pa_cons (pv 3) pa_nil)) (nomark _)) (pss_one (ps_ret (pe_meth (pv 0) T.cl_Shelf T.me_Shelf_fork (ok_Shelf_fork T) (hr.mono (by omega)) T.bi_Shelf_fork .nil (passes_call (takes_of rfl rfl rfl rfl) (fun _ _ _ _ h => h)) (pa_cons (pv 3) (pa_cons (pe_meth (pv 0) T.cl_Shelf T.me_Shelf_fork (ok_Shelf_fork T) (hr.mono (by omega)) T.bi_Shelf_fork .nil (passes_call (takes_of rfl rfl rfl rfl) (fun _ _ _ _ h => h)) (pa_cons (pv 4) (pa_cons (pv 2) pa_nil))) pa_nil))))) pss_nil)
      (pss_cons (ps_asg (pe_call (ok_parts_of T) (hr.mono (by omega)) (by rfl) T.mg_parts_of T.fn_parts_of.kp T.bi_parts_of .nil (passes_call (takes_of rfl rfl rfl rfl) (fun _ _ _ _ h => h)) (pa_cons (pv 0) (pa_cons (pv 4) pa_nil))) (pg_tup rfl (pgs_cons (pg_name (i := 5) sc_turned_left.nd rfl (Or.inl rfl)) (pgs_cons (pg_name (i := 6) sc_turned_left.nd rfl (Or.inl rfl)) pgs_nil))))
      (pss_one (ps_ret (pe_meth (pv 0) T.cl_Shelf T.me_Shelf_fork (ok_Shelf_fork T) (hr.mono (by omega)) T.bi_Shelf_fork .nil (passes_call (takes_of rfl rfl rfl rfl) (fun _ _ _ _ h => h)) (pa_cons (pe_meth (pv 0) T.cl_Shelf T.me_Shelf_fork (ok_Shelf_fork T) (hr.mono (by omega)) T.bi_Shelf_fork .nil (passes_call (takes_of rfl rfl rfl rfl) (fun _ _ _ _ h => h)) (pa_cons (pv 3) (pa_cons (pv 5) pa_nil))) (pa_cons (pe_meth (pv 0) T.cl_Shelf T.me_Shelf_fork (ok_Shelf_fork T) (hr.mono (by omega)) T.bi_Shelf_fork .nil (passes_call (takes_of rfl rfl rfl rfl) (fun _ _ _ _ h => h)) (pa_cons (pv 6) (pa_cons (pv 2) pa_nil))) pa_nil)))))))), ?_⟩
  have hN : a.ht ≠ 0 := by omega
  obtain ⟨u, i, rfl⟩ := ht_pos hN
  obtain ⟨mu, mi⟩ := hS.gd.parts2 ha
  have lv := (levelled_ok j hh.1 hh.2).ok
  have e3 : clev (.fk u i) b = 3 := by unfold clev; rw [if_neg (by omega), if_pos hl]
  walk_at "st"
  refine c_parts hS ha fun p H1 np s1 hp => ?_
  refine w_gtup (SqT.of hp) rfl (w_gcons (w_gname (w_gcons (w_gname (w_gnil ?_)))))
  dsimp only
  have hS1 := hS.same s1
  walk_at "st"
  refine ⟨c.a, c.dx, _, rfl, hS1.ob, fl_no (by decide +kernel), ?_⟩
  walk_at "go"
  refine c_htN hS1 mi ?_
  walk_at "go"
  refine ⟨c.a, c.dx, _, rfl, hS1.ob, fl_no (by decide +kernel), ?_⟩
  walk_at "go"
  refine c_htN hS1 mu ?_
  walk_at "go"
  refine ite_d (fun h1 => ?_) (fun h1 => ?_)
  · have el : levelled (.fk u i) b = .fk u (.fk i b) := by unfold levelled; rw [if_neg (by omega), if_pos hl, turnedL_hi (by omega)]
    rw [el] at lv q
    walk_at "go"
    refine ⟨c.a, c.dx, _, rfl, hS1.ob, fl_no (by decide +kernel), ?_⟩
    walk_at "go"
    refine ⟨c.a, c.dx, _, rfl, hS1.ob, fl_no (by decide +kernel), ?_⟩
    walk_at "go"
    refine c_forkG hS1 mi hb lv.2.1 (by omega) fun H2 S2 n2 g2 m2 => ?_
    have l2 := g2.len
    walk_at "go"
    refine c_forkG g2.sh (mu.ext g2.ex) m2 lv (by omega) fun H3 S3 n3 g3 m3 => ?_
    exact q H3 S3 n3 ((((Grow.refl hS).same s1).trans (g2.trans g3)).mono (by omega) (by simp only [Tr.sg]; omega)) m3
  walk_at "sk"
  have hN2 : i.ht ≠ 0 := by omega
  obtain ⟨x, y, rfl⟩ := ht_pos hN2
  obtain ⟨mx, my⟩ := hS1.gd.parts2 mi
  have el : levelled (.fk u (.fk x y)) b = .fk (.fk u x) (.fk y b) := by unfold levelled; rw [if_neg (by omega), if_pos hl, turnedL_lo (by omega)]
  rw [el] at lv q
  walk_at "st"
  refine c_parts hS1 mi fun p2 H2 np2 s2 hp2 => ?_
  refine w_gtup (SqT.of hp2) rfl (w_gcons (w_gname (w_gcons (w_gname (w_gnil ?_)))))
  dsimp only
  have hS2 := hS1.same s2
  walk_at "go"
  refine ⟨c.a, c.dx, _, rfl, hS2.ob, fl_no (by decide +kernel), ?_⟩
  walk_at "go"
  refine ⟨c.a, c.dx, _, rfl, hS2.ob, fl_no (by decide +kernel), ?_⟩
  walk_at "go"
  refine c_forkG hS2 mu mx lv.1 (by omega) fun H3 S3 n3 g3 m3 => ?_
  have l3 := g3.len
  walk_at "go"
  refine ⟨c.a, c.dx, _, rfl, g3.sh.ob, fl_no (by decide +kernel), ?_⟩
  walk_at "go"
  refine c_forkG g3.sh (my.ext g3.ex) (hb.ext g3.ex) lv.2.1 (by omega) fun H4 S4 n4 g4 m4 => ?_
  have l4 := g4.len
  walk_at "go"
  refine c_forkG g4.sh (m3.ext g4.ex) m4 lv (by omega) fun H5 S5 n5 g5 m5 => ?_
  exact q H5 S5 n5 ((((Grow.refl hS).same (s1.trans s2)).trans (g3.trans (g4.trans g5))).mono (by omega) (by simp only [Tr.sg]; omega)) m5
abbrev n_levelled : List Str := ["shelf", "one", "other"]
theorem sc_levelled : FnScope n_levelled p_levelled (defScope s_levelled) := ⟨rfl, rfl, rfl, by decide +kernel, rfl, by decide +kernel, by decide +kernel⟩
theorem ok_levelled (T : Txt K mg A) : FnOk P w K mg base (L2.CX P w) 5 A.f_levelled A.d_levelled p_levelled (spTurn A.C_Shelf (fun _ _ => True)) := by
  refine T.fn_levelled.okX sc_levelled (fun vs H Q E h => ?_) (fun cdv B outer s H vs Q E hr h => ?_)
  · obtain ⟨c, S, n, m, a, b, rfl, _⟩ := h; rfl
  obtain ⟨c, S, n, m, a, b, rfl, hS, ha, hb, j, _, hh, cp, q⟩ := h
  refine ⟨_, (pss_cons (ps_if (pt_cmpR op_gt (pe_meth (pv 0) T.cl_Shelf T.me_Shelf_height (ok_Shelf_height T) (hr.mono (by omega)) T.bi_Shelf_height .nil (passes_call (takes_of rfl rfl rfl rfl) (fun _ _ _ _ h => h)) (pa_cons (pv 2) pa_nil)) (pe_op op_add (pe_meth (pv 0) T.cl_Shelf T.me_Shelf_height (ok_Shelf_height T) (hr.mono (by omega)) T.bi_Shelf_height .nil (passes_call (takes_of rfl rfl rfl rfl) (fun _ _ _ _ h => h)) (pa_cons (pv 1) pa_nil)) pe_int) (nomark _)) (pss_one (ps_ret (pe_call (ok_turned_right T) (hr.mono (by omega)) (by rfl) T.mg_turned_right T.fn_turned_right.kp T.bi_turned_right .nil (passes_call (takes_of rfl rfl rfl rfl) (fun _ _ _ _ h => h)) (pa_cons (pv 0) (pa_cons (pv 1) (pa_cons (pv 2) pa_nil)))))) pss_nil)
      (pss_cons (ps_if (pt_cmpR op_gt (pe_meth (pv 0) T.cl_Shelf T.me_Shelf_height (ok_Shelf_height T) (hr.mono (by omega)) T.bi_Shelf_height .nil (passes_call (takes_of rfl rfl rfl rfl) (fun _ _ _ _ h => h)) (pa_cons (pv 1) pa_nil)) (pe_op op_add (pe_meth (pv 0) T.cl_Shelf T.me_Shelf_height (ok_Shelf_height T) (hr.mono (by omega)) T.bi_Shelf_height .nil (passes_call (takes_of rfl rfl rfl rfl) (fun _ _ _ _ h => h)) (pa_cons (pv 2) pa_nil)) pe_int) (nomark _)) (pss_one (ps_ret (pe_call (ok_turned_left T) (hr.mono (by omega)) (by rfl) T.mg_turned_left T.fn_turned_left.kp T.bi_turned_left .nil (passes_call (takes_of rfl rfl rfl rfl) (fun _ _ _ _ h => h)) (pa_cons (pv 0) (pa_cons (pv 1) (pa_cons (pv 2) pa_nil)))))) pss_nil)
      (pss_one (ps_ret (pe_meth (pv 0) T.cl_Shelf T.me_Shelf_fork (ok_Shelf_fork T) (hr.mono (by omega)) T.bi_Shelf_fork .nil (passes_call (takes_of rfl rfl rfl rfl) (fun _ _ _ _ h => h)) (pa_cons (pv 1) (pa_cons (pv 2) pa_nil))))))), ?_⟩
  walk_at "st"
  refine ⟨c.a, c.dx, _, rfl, hS.ob, fl_no (by decide +kernel), ?_⟩
  walk_at "go"
  refine c_htN hS hb ?_
  walk_at "go"
  refine ⟨c.a, c.dx, _, rfl, hS.ob, fl_no (by decide +kernel), ?_⟩
  walk_at "go"
  refine c_htN hS ha ?_
  walk_at "go"
  refine ite_d (fun h1 => ?_) (fun h1 => ?_)
  · walk_at "go"
    exact c_turn hS ha hb j (by omega) hh.1 hh.2 cp q
  walk_at "sk"
  walk_at "st"
  refine ⟨c.a, c.dx, _, rfl, hS.ob, fl_no (by decide +kernel), ?_⟩
  walk_at "go"
  refine c_htN hS ha ?_
  walk_at "go"
  refine ⟨c.a, c.dx, _, rfl, hS.ob, fl_no (by decide +kernel), ?_⟩
  walk_at "go"
  refine c_htN hS hb ?_
  walk_at "go"
  refine ite_d (fun h2 => ?_) (fun h2 => ?_)
  · walk_at "go"
    exact c_turn hS ha hb j (by omega) hh.1 hh.2 cp q
  walk_at "sk"
  have el := levelled_mid (a := a) (b := b) (by omega) (by omega)
  have e1 : clev a b = 1 := by unfold clev; rw [if_neg (by omega), if_neg (by omega)]
  rw [el, e1] at q
  walk_at "go"
  refine ⟨c.a, c.dx, _, rfl, hS.ob, fl_no (by decide +kernel), ?_⟩
  walk_at "go"
  exact c_forkG hS ha hb (fkOk j (by omega) (by omega)) (by omega) q
end

section
variable {P : Program} {w : World} {K : PySem.W.Frag} {mg : Str → Option Value} {base : Heap} {A : Ad}
theorem tx_zero {S : List Tr} {n : Int} {o : Option Tr} (h : Tx S n o) : n = 0 ↔ o = none := by
  cases o with
  | none => exact ⟨fun _ => rfl, fun _ => h⟩
  | some t =>
    have := (show Nm S n t from h).pos
    exact ⟨fun z => by omega, fun z => nomatch z⟩
abbrev n_linked : List Str := ["shelf", "one", "other", "first", "last"]
theorem sc_linked : FnScope n_linked p_linked (defScope s_linked) := ⟨rfl, rfl, rfl, by decide +kernel, rfl, by decide +kernel, by decide +kernel⟩
theorem ok_linked (T : Txt K mg A) : ∀ N, FnOk P w K mg base (L2.CX P w) (N + 6) A.f_linked A.d_linked p_linked (spLinked A.C_Shelf N) := by
  intro N
  induction N with
  | zero => exact nevr_ok fun vs H Q E ⟨_, _, _, _, _, _, _, _, _, _, z, _⟩ => by omega
  | succ N ih =>
  refine T.fn_linked.okX sc_linked (fun vs H Q E h => ?_) (fun cdv B outer s H vs Q E hr h => ?_)
  · obtain ⟨c, S, n, m, o, p, rfl, _⟩ := h; rfl
  obtain ⟨c, S, n, m, o, p, rfl, hS, ho, hp, _, j, cp, q⟩ := h
  refine ⟨_, (pss_cons (ps_if (PW.pt (pw_or (pt_cmpR op_eq (pv 1) pe_int (nomark _)) (pw_or1 (pt_cmpR op_eq (pv 2) pe_int (nomark _))))) (pss_one (ps_ret (pe_op op_add (pv 1) (pv 2)))) pss_nil)
      (pss_cons (ps_if (pt_cmpR op_gt (pe_meth (pv 0) T.cl_Shelf T.me_Shelf_height (ok_Shelf_height T) (hr.mono (by omega)) T.bi_Shelf_height .nil (passes_call (takes_of rfl rfl rfl rfl) (fun _ _ _ _ h => h)) (pa_cons (pv 1) pa_nil)) (pe_op op_add (pe_meth (pv 0) T.cl_Shelf T.me_Shelf_height (ok_Shelf_height T) (hr.mono (by omega)) T.bi_Shelf_height .nil (passes_call (takes_of rfl rfl rfl rfl) (fun _ _ _ _ h => h)) (pa_cons (pv 2) pa_nil)) pe_int) (nomark _)) (pss_cons (ps_asg (pe_call (ok_parts_of T) (hr.mono (by omega)) (by rfl) T.mg_parts_of T.fn_parts_of.kp T.bi_parts_of .nil (passes_call (takes_of rfl rfl rfl rfl) (fun _ _ _ _ h => h)) (pa_cons (pv 0) (pa_cons (pv 1) pa_nil))) (pg_tup rfl (pgs_cons (pg_name (i := 3) sc_linked.nd rfl (Or.inl rfl)) (pgs_cons (pg_name (i := 4) sc_linked.nd rfl (Or.inl rfl)) pgs_nil))))
      (pss_one (ps_ret (pe_call (ok_levelled T) (hr.mono (by omega)) (by rfl) T.mg_levelled T.fn_levelled.kp T.bi_levelled .nil (passes_call (takes_of rfl rfl rfl rfl) (fun _ _ _ _ h => h)) (pa_cons (pv 0) (pa_cons (pv 3) (pa_cons (pe_call ih (hr.mono (by omega)) (by rfl) T.mg_linked T.fn_linked.kp T.bi_linked .nil (passes_call (takes_of rfl rfl rfl rfl) (fun _ _ _ _ h => h)) (pa_cons (pv 0) (pa_cons (pv 4) (pa_cons (pv 2) pa_nil)))) pa_nil))))))) pss_nil)
      (pss_cons (ps_if (pt_cmpR op_gt (pe_meth (pv 0) T.cl_Shelf T.me_Shelf_height (ok_Shelf_height T) (hr.mono (by omega)) T.bi_Shelf_height .nil (passes_call (takes_of rfl rfl rfl rfl) (fun _ _ _ _ h => h)) (pa_cons (pv 2) pa_nil)) (pe_op op_add (pe_meth (pv 0) T.cl_Shelf T.me_Shelf_height (ok_Shelf_height T) (hr.mono (by omega)) T.bi_Shelf_height .nil (passes_call (takes_of rfl rfl rfl rfl) (fun _ _ _ _ h => h)) (pa_cons (pv 1) pa_nil)) pe_int) (nomark _)) (pss_cons (ps_asg (pe_call (ok_parts_of T) (hr.mono (by omega)) (by rfl) T.mg_parts_of T.fn_parts_of.kp T.bi_parts_of .nil (passes_call (takes_of rfl rfl rfl rfl) (fun _ _ _ _ h => h)) (pa_cons (pv 0) (pa_cons (pv 2) pa_nil))) (pg_tup rfl (pgs_cons (pg_name (i := 3) sc_linked.nd rfl (Or.inl rfl)) (pgs_cons (pg_name (i := 4) sc_linked.nd rfl (Or.inl rfl)) pgs_nil))))
      (pss_one (ps_ret (pe_call (ok_levelled T) (hr.mono (by omega)) (by rfl) T.mg_levelled T.fn_levelled.kp T.bi_levelled .nil (passes_call (takes_of rfl rfl rfl rfl) (fun _ _ _ _ h => h)) (pa_cons (pv 0) (pa_cons (pe_call ih (hr.mono (by omega)) (by rfl) T.mg_linked T.fn_linked.kp T.bi_linked .nil (passes_call (takes_of rfl rfl rfl rfl) (fun _ _ _ _ h => h)) (pa_cons (pv 0) (pa_cons (pv 1) (pa_cons (pv 3) pa_nil)))) (pa_cons (pv 4) pa_nil))))))) pss_nil)
      (pss_one (ps_ret (pe_meth (pv 0) T.cl_Shelf T.me_Shelf_fork (ok_Shelf_fork T) (hr.mono (by omega)) T.bi_Shelf_fork .nil (passes_call (takes_of rfl rfl rfl rfl) (fun _ _ _ _ h => h)) (pa_cons (pv 1) (pa_cons (pv 2) pa_nil)))))))), ?_⟩
  walk_at "st"
  have zo := tx_zero ho
  have zp := tx_zero hp
  have none_way : (o = none ∨ p = none) → Q (.int (n + m)) H := fun z => by
    rcases z with rfl | rfl
    · rw [zo.mpr rfl, Int.zero_add]
      exact q H S m ((Grow.refl hS).mono (Nat.zero_le _) (Nat.zero_le _)) hp
    · rw [zp.mpr rfl, Int.add_zero]
      refine q H S n ((Grow.refl hS).mono (Nat.zero_le _) (Nat.zero_le _)) ?_
      cases o <;> exact ho
  refine ite_d (fun h1 => ?_) (fun h1 => ?_)
  · refine iteT ?_
    walk_at "go"
    exact none_way (.inl (zo.mp h1))
  walk_at "go"
  refine ite_d (fun h2 => ?_) (fun h2 => ?_)
  · walk_at "go"
    exact none_way (.inr (zp.mp h2))
  walk_at "sk"
  cases o with
  | none => exact absurd (zo.mpr rfl) h1
  | some a =>
  cases p with
  | none => exact absurd (zp.mpr rfl) h2
  | some b =>
  have ha : Nm S n a := ho
  have hb : Nm S m b := hp
  obtain ⟨j, hN1, hN2⟩ := j a b rfl rfl
  have cp : S.length + clink a b + 3 ≤ cap := cp
  have q : ∀ H' S' n', Grow A.C_Shelf c H S H' S' (clink a b) (a.sg + b.sg) → Nm S' n' (linked a b) → Q (.int n') H' := q
  walk_at "st"
  refine ⟨c.a, c.dx, _, rfl, hS.ob, fl_no (by decide +kernel), ?_⟩
  walk_at "go"
  refine c_htN hS ha ?_
  walk_at "go"
  refine ⟨c.a, c.dx, _, rfl, hS.ob, fl_no (by decide +kernel), ?_⟩
  walk_at "go"
  refine c_htN hS hb ?_
  walk_at "go"
  refine ite_d (fun h3 => ?_) (fun h3 => ?_)
  · obtain ⟨f, l, rfl⟩ := ht_pos (t := a) (by omega)
    obtain ⟨mf, ml⟩ := hS.gd.parts2 ha
    obtain ⟨of, ol, l1, l2, c2, s2⟩ := j.oa
    have ea : (Tr.fk f l).ht = 1 + max f.ht l.ht := rfl
    have es : (Tr.fk f l).sg = f.sg + l.sg := rfl
    have sg := j.sg
    obtain ⟨el, ec⟩ := linked_left (f := f) (l := l) (b := b) (by omega)
    rw [el, ec] at q
    rw [ec] at cp
    have j2 : Jn l b := ⟨ol, j.ob, j.cl, by omega⟩
    have r := j2.linked
    have rlo := r.lo
    have rhi := r.hi
    walk_at "st"
    refine c_parts hS ha fun p1 H1 np s1 hp1 => ?_
    refine w_gtup (SqT.of hp1) rfl (w_gcons (w_gname (w_gcons (w_gname (w_gnil ?_)))))
    dsimp only
    have hS1 := hS.same s1
    walk_at "go"
    refine c_linked hS1 (o := some l) (p := some b) ml hb (by omega) (fun x y ex ey => by cases ex; cases ey; exact ⟨j2, by omega, by omega⟩) (by show S.length + clink l b + 3 ≤ cap; omega) fun H2 S2 n2 g2 m2 => ?_
    have g2 : Grow A.C_Shelf c H1 S H2 S2 (clink l b) (l.sg + b.sg) := g2
    have l2 := g2.len
    have lv1 : 1 ≤ clev f (linked l b) := by unfold clev; split; omega; split <;> omega
    have lv3 := clev_le f (linked l b)
    walk_at "go"
    refine c_turn g2.sh (mf.ext g2.ex) m2 ⟨of, r.ok, by rw [r.fi]; exact c2, by rw [r.sg]; omega⟩ trivial (by omega) (by omega) (by omega) fun H3 S3 n3 g3 m3 => ?_
    exact q H3 S3 n3 (((Grow.refl hS).same s1).trans (g2.trans g3) |>.mono (by omega) (by have := r.sg; omega)) m3
  walk_at "sk"
  walk_at "st"
  refine ⟨c.a, c.dx, _, rfl, hS.ob, fl_no (by decide +kernel), ?_⟩
  walk_at "go"
  refine c_htN hS hb ?_
  walk_at "go"
  refine ⟨c.a, c.dx, _, rfl, hS.ob, fl_no (by decide +kernel), ?_⟩
  walk_at "go"
  refine c_htN hS ha ?_
  walk_at "go"
  refine ite_d (fun h4 => ?_) (fun h4 => ?_)
  · obtain ⟨f, l, rfl⟩ := ht_pos (t := b) (by omega)
    obtain ⟨mf, ml⟩ := hS.gd.parts2 hb
    obtain ⟨of, ol, l1, l2, c2, s2⟩ := j.ob
    have ea : (Tr.fk f l).ht = 1 + max f.ht l.ht := rfl
    have es : (Tr.fk f l).sg = f.sg + l.sg := rfl
    have sg := j.sg
    obtain ⟨el, ec⟩ := linked_right (a := a) (f := f) (l := l) (by omega)
    rw [el, ec] at q
    rw [ec] at cp
    have j2 : Jn a f := ⟨j.oa, of, j.cl, by omega⟩
    have r := j2.linked
    have rlo := r.lo
    have rhi := r.hi
    walk_at "st"
    refine c_parts hS hb fun p1 H1 np s1 hp1 => ?_
    refine w_gtup (SqT.of hp1) rfl (w_gcons (w_gname (w_gcons (w_gname (w_gnil ?_)))))
    dsimp only
    have hS1 := hS.same s1
    walk_at "go"
    refine c_linked hS1 (o := some a) (p := some f) ha mf (by omega) (fun x y ex ey => by cases ex; cases ey; exact ⟨j2, by omega, by omega⟩) (by show S.length + clink a f + 3 ≤ cap; omega) fun H2 S2 n2 g2 m2 => ?_
    have g2 : Grow A.C_Shelf c H1 S H2 S2 (clink a f) (a.sg + f.sg) := g2
    have l2 := g2.len
    have lv1 : 1 ≤ clev (linked a f) l := by unfold clev; split; omega; split <;> omega
    have lv3 := clev_le (linked a f) l
    walk_at "go"
    refine c_turn g2.sh m2 (ml.ext g2.ex) ⟨r.ok, ol, by rw [r.la]; exact c2, by rw [r.sg]; omega⟩ trivial (by omega) (by omega) (by omega) fun H3 S3 n3 g3 m3 => ?_
    exact q H3 S3 n3 (((Grow.refl hS).same s1).trans (g2.trans g3) |>.mono (by omega) (by have := r.sg; omega)) m3
  walk_at "sk"
  obtain ⟨el, ec⟩ := linked_mid (a := a) (b := b) (by omega) (by omega)
  rw [el, ec] at q
  walk_at "go"
  refine ⟨c.a, c.dx, _, rfl, hS.ob, fl_no (by decide +kernel), ?_⟩
  walk_at "go"
  exact c_forkG hS ha hb (fkOk j (by omega) (by omega)) (by omega) q
abbrev n_without_last : List Str := ["shelf", "text", "one", "other"]
theorem sc_without_last : FnScope n_without_last p_without_last (defScope s_without_last) := ⟨rfl, rfl, rfl, by decide +kernel, rfl, by decide +kernel, by decide +kernel⟩
theorem ok_without_last (T : Txt K mg A) : ∀ N, FnOk P w K mg base (L2.CX P w) (N + 9) A.f_without_last A.d_without_last p_without_last (spWl A.C_Shelf wl cwl N) := by
  intro N
  have GL := ok_linked (P := P) (w := w) (base := base) T 3
  induction N with
  | zero => exact nevr_ok fun vs H Q E ⟨_, _, _, _, _, _, _, z, _⟩ => by omega
  | succ N ih =>
  refine T.fn_without_last.okX sc_without_last (fun vs H Q E h => ?_) (fun cdv B outer s H vs Q E hr h => ?_)
  · obtain ⟨c, S, n, t, rfl, _⟩ := h; rfl
  obtain ⟨c, S, n, t, rfl, hS, ht, hN, cp, q⟩ := h
  refine ⟨_, (pss_cons (ps_if (pt_val (pe_call (ok_is_leaf T) (hr.mono (by omega)) (by rfl) T.mg_is_leaf T.fn_is_leaf.kp T.bi_is_leaf .nil (passes_call (takes_of rfl rfl rfl rfl) (fun _ _ _ _ h => h)) (pa_cons (pv 0) (pa_cons (pv 1) pa_nil)))) (pss_one (ps_ret pe_int)) pss_nil)
      (pss_cons (ps_asg (pe_call (ok_parts_of T) (hr.mono (by omega)) (by rfl) T.mg_parts_of T.fn_parts_of.kp T.bi_parts_of .nil (passes_call (takes_of rfl rfl rfl rfl) (fun _ _ _ _ h => h)) (pa_cons (pv 0) (pa_cons (pv 1) pa_nil))) (pg_tup rfl (pgs_cons (pg_name (i := 2) sc_without_last.nd rfl (Or.inl rfl)) (pgs_cons (pg_name (i := 3) sc_without_last.nd rfl (Or.inl rfl)) pgs_nil))))
      (pss_one (ps_ret (pe_call GL (hr.mono (by omega)) (by rfl) T.mg_linked T.fn_linked.kp T.bi_linked .nil (passes_call (takes_of rfl rfl rfl rfl) (fun _ _ _ _ h => h)) (pa_cons (pv 0) (pa_cons (pv 2) (pa_cons (pe_call ih (hr.mono (by omega)) (by rfl) T.mg_without_last T.fn_without_last.kp T.bi_without_last .nil (passes_call (takes_of rfl rfl rfl rfl) (fun _ _ _ _ h => h)) (pa_cons (pv 0) (pa_cons (pv 3) pa_nil))) pa_nil)))))))), ?_⟩
  walk_at "st"
  refine c_isLeaf hS ht ?_
  walk_at "go"
  refine ite_d (fun h1 => ?_) (fun h1 => ?_)
  · obtain ⟨l, rfl⟩ := ht_zero h1
    walk_at "go"
    exact q H S 0 ((Grow.refl hS).mono (Nat.le_refl _) (Nat.zero_le _)) rfl
  walk_at "sk"
  obtain ⟨a, b, rfl⟩ := ht_pos h1
  obtain ⟨ma, mb⟩ := hS.gd.parts2 ht
  have ot := hS.gd.ok _ ht.mem
  obtain ⟨oa, ob, l1, l2, c2, s2⟩ := id ot
  have et : (Tr.fk a b).ht = 1 + max a.ht b.ht := rfl
  have ec : cwl (.fk a b) = cwl b + clinkO (some a) (wl b) := rfl
  walk_at "st"
  refine c_parts hS ht fun p1 H1 np s1 hp1 => ?_
  refine w_gtup (SqT.of hp1) rfl (w_gcons (w_gname (w_gcons (w_gname (w_gnil ?_)))))
  dsimp only
  have hS1 := hS.same s1
  walk_at "go"
  refine ⟨c, S, _, b, rfl, hS1, mb, by omega, by omega, fun H2 S2 n2 g2 m2 => ?_⟩
  have le2 := g2.len
  walk_at "go"
  refine c_linked g2.sh (o := some a) (p := wl b) (ma.ext g2.ex) m2 (by decide) (fun x y ex ey => ?_) (by omega) fun H3 S3 n3 g3 m3 => ?_
  · cases ex
    obtain ⟨k, _⟩ := wl_ok ob ey
    have sg := k.sg
    have lo := k.lo
    have hi := k.hi
    exact ⟨⟨oa, k.ok, by rw [k.fi]; exact c2, by omega⟩, by omega, by omega⟩
  · exact q H3 S3 n3 (((Grow.refl hS).same s1).trans (g2.trans g3) |>.mono (by omega) (by have := wl_sg ob; show _ ≤ a.sg + b.sg; have e : oS (some a) = a.sg := rfl; omega)) m3
abbrev n_without_first : List Str := ["shelf", "text", "one", "other"]
theorem sc_without_first : FnScope n_without_first p_without_first (defScope s_without_first) := ⟨rfl, rfl, rfl, by decide +kernel, rfl, by decide +kernel, by decide +kernel⟩
theorem ok_without_first (T : Txt K mg A) : ∀ N, FnOk P w K mg base (L2.CX P w) (N + 9) A.f_without_first A.d_without_first p_without_first (spWl A.C_Shelf wf cwf N) := by
  intro N
  have GL := ok_linked (P := P) (w := w) (base := base) T 3
  induction N with
  | zero => exact nevr_ok fun vs H Q E ⟨_, _, _, _, _, _, _, z, _⟩ => by omega
  | succ N ih =>
  refine T.fn_without_first.okX sc_without_first (fun vs H Q E h => ?_) (fun cdv B outer s H vs Q E hr h => ?_)
  · obtain ⟨c, S, n, t, rfl, _⟩ := h; rfl
  obtain ⟨c, S, n, t, rfl, hS, ht, hN, cp, q⟩ := h
  refine ⟨_, (pss_cons (ps_if (pt_val (pe_call (ok_is_leaf T) (hr.mono (by omega)) (by rfl) T.mg_is_leaf T.fn_is_leaf.kp T.bi_is_leaf .nil (passes_call (takes_of rfl rfl rfl rfl) (fun _ _ _ _ h => h)) (pa_cons (pv 0) (pa_cons (pv 1) pa_nil)))) (pss_one (ps_ret pe_int)) pss_nil)
      (pss_cons (ps_asg (pe_call (ok_parts_of T) (hr.mono (by omega)) (by rfl) T.mg_parts_of T.fn_parts_of.kp T.bi_parts_of .nil (passes_call (takes_of rfl rfl rfl rfl) (fun _ _ _ _ h => h)) (pa_cons (pv 0) (pa_cons (pv 1) pa_nil))) (pg_tup rfl (pgs_cons (pg_name (i := 2) sc_without_first.nd rfl (Or.inl rfl)) (pgs_cons (pg_name (i := 3) sc_without_first.nd rfl (Or.inl rfl)) pgs_nil))))
      (pss_one (ps_ret (pe_call GL (hr.mono (by omega)) (by rfl) T.mg_linked T.fn_linked.kp T.bi_linked .nil (passes_call (takes_of rfl rfl rfl rfl) (fun _ _ _ _ h => h)) (pa_cons (pv 0) (pa_cons (pe_call ih (hr.mono (by omega)) (by rfl) T.mg_without_first T.fn_without_first.kp T.bi_without_first .nil (passes_call (takes_of rfl rfl rfl rfl) (fun _ _ _ _ h => h)) (pa_cons (pv 0) (pa_cons (pv 2) pa_nil))) (pa_cons (pv 3) pa_nil)))))))), ?_⟩
  walk_at "st"
  refine c_isLeaf hS ht ?_
  walk_at "go"
  refine ite_d (fun h1 => ?_) (fun h1 => ?_)
  · obtain ⟨l, rfl⟩ := ht_zero h1
    walk_at "go"
    exact q H S 0 ((Grow.refl hS).mono (Nat.le_refl _) (Nat.zero_le _)) rfl
  walk_at "sk"
  obtain ⟨a, b, rfl⟩ := ht_pos h1
  obtain ⟨ma, mb⟩ := hS.gd.parts2 ht
  have ot := hS.gd.ok _ ht.mem
  obtain ⟨oa, ob, l1, l2, c2, s2⟩ := id ot
  have et : (Tr.fk a b).ht = 1 + max a.ht b.ht := rfl
  have ec : cwf (.fk a b) = cwf a + clinkO (wf a) (some b) := rfl
  walk_at "st"
  refine c_parts hS ht fun p1 H1 np s1 hp1 => ?_
  refine w_gtup (SqT.of hp1) rfl (w_gcons (w_gname (w_gcons (w_gname (w_gnil ?_)))))
  dsimp only
  have hS1 := hS.same s1
  walk_at "go"
  refine ⟨c, S, _, a, rfl, hS1, ma, by omega, by omega, fun H2 S2 n2 g2 m2 => ?_⟩
  have le2 := g2.len
  walk_at "go"
  refine c_linked g2.sh (o := wf a) (p := some b) m2 (mb.ext g2.ex) (by decide) (fun x y ex ey => ?_) (by omega) fun H3 S3 n3 g3 m3 => ?_
  · cases ey
    obtain ⟨k, _⟩ := wf_ok oa ex
    have sg := k.sg
    have lo := k.lo
    have hi := k.hi
    exact ⟨⟨k.ok, ob, by rw [k.la]; exact c2, by omega⟩, by omega, by omega⟩
  · exact q H3 S3 n3 (((Grow.refl hS).same s1).trans (g2.trans g3) |>.mono (by omega) (by have := wf_sg oa; show _ ≤ a.sg + b.sg; have e : oS (some b) = b.sg := rfl; omega)) m3
abbrev n_poured : List Str := ["shelf", "one", "other", "last", "first", "amid"]
theorem sc_poured : FnScope n_poured p_poured (defScope s_poured) := ⟨rfl, rfl, rfl, by decide +kernel, rfl, by decide +kernel, by decide +kernel⟩
theorem ok_poured (T : Txt K mg A) : FnOk P w K mg base (L2.CX P w) 100 A.f_poured A.d_poured p_poured (spPour A.C_Shelf) := by
  have GL := ok_linked (P := P) (w := w) (base := base) T 90
  have GA := ok_without_last (P := P) (w := w) (base := base) T 86
  have GB := ok_without_first (P := P) (w := w) (base := base) T 86
  refine T.fn_poured.okX sc_poured (fun vs H Q E h => ?_) (fun cdv B outer s H vs Q E hr h => ?_)
  · obtain ⟨c, S, n, m, a, b, rfl, _⟩ := h; rfl
  obtain ⟨c, S, n, m, a, b, rfl, hS, ha, hb, h8, sg, cp, q⟩ := h
  refine ⟨_, (pss_cons (ps_set (i := 3) sc_poured.nd rfl (Or.inl rfl) (pe_call (ok_leaf_text T) (hr.mono (by omega)) (by rfl) T.mg_leaf_text T.fn_leaf_text.kp T.bi_leaf_text .nil (passes_call (takes_of rfl rfl rfl rfl) (fun _ _ _ _ h => h)) (pa_cons (pv 0) (pa_cons (pe_meth (pv 0) T.cl_Shelf T.me_Shelf_last_leaf (ok_Shelf_last_leaf T) (hr.mono (by omega)) T.bi_Shelf_last_leaf .nil (passes_call (takes_of rfl rfl rfl rfl) (fun _ _ _ _ h => h)) (pa_cons (pv 1) pa_nil)) pa_nil))))
      (pss_cons (ps_set (i := 4) sc_poured.nd rfl (Or.inl rfl) (pe_call (ok_leaf_text T) (hr.mono (by omega)) (by rfl) T.mg_leaf_text T.fn_leaf_text.kp T.bi_leaf_text .nil (passes_call (takes_of rfl rfl rfl rfl) (fun _ _ _ _ h => h)) (pa_cons (pv 0) (pa_cons (pe_meth (pv 0) T.cl_Shelf T.me_Shelf_first_leaf (ok_Shelf_first_leaf T) (hr.mono (by omega)) T.bi_Shelf_first_leaf .nil (passes_call (takes_of rfl rfl rfl rfl) (fun _ _ _ _ h => h)) (pa_cons (pv 2) pa_nil)) pa_nil))))
      (pss_cons (ps_set (i := 5) sc_poured.nd rfl (Or.inl rfl) (pe_meth (pv 0) T.cl_Shelf T.me_Shelf_leaf (ok_Shelf_leaf T) (hr.mono (by omega)) T.bi_Shelf_leaf .nil (passes_call (takes_of rfl rfl rfl rfl) (fun _ _ _ _ h => h)) (pa_cons (pe_op op_add_str (pv 3) (pv 4)) pa_nil)))
      (pss_one (ps_ret (pe_call GL (hr.mono (by omega)) (by rfl) T.mg_linked T.fn_linked.kp T.bi_linked .nil (passes_call (takes_of rfl rfl rfl rfl) (fun _ _ _ _ h => h)) (pa_cons (pv 0) (pa_cons (pe_call GL (hr.mono (by omega)) (by rfl) T.mg_linked T.fn_linked.kp T.bi_linked .nil (passes_call (takes_of rfl rfl rfl rfl) (fun _ _ _ _ h => h)) (pa_cons (pv 0) (pa_cons (pe_call GA (hr.mono (by omega)) (by rfl) T.mg_without_last T.fn_without_last.kp T.bi_without_last .nil (passes_call (takes_of rfl rfl rfl rfl) (fun _ _ _ _ h => h)) (pa_cons (pv 0) (pa_cons (pv 1) pa_nil))) (pa_cons (pv 5) pa_nil)))) (pa_cons (pe_call GB (hr.mono (by omega)) (by rfl) T.mg_without_first T.fn_without_first.kp T.bi_without_first .nil (passes_call (takes_of rfl rfl rfl rfl) (fun _ _ _ _ h => h)) (pa_cons (pv 0) (pa_cons (pv 2) pa_nil))) pa_nil))))))))), ?_⟩
  have oa := hS.gd.ok _ ha.mem
  have ob := hS.gd.ok _ hb.mem
  have ec : cpour a b = cwl a + 1 + clinkO (wl a) (some (amid a b)) + cwf b + clinkO (linkedO (wl a) (some (amid a b))) (wf b) := rfl
  obtain ⟨la, ela⟩ := la_leaf a
  obtain ⟨fi, efi⟩ := fi_leaf b
  have mla : Nm S (num S a.la) (.lf la) := by rw [← ela]; exact nm_num (hS.gd.la ha.mem)
  have mfi : Nm S (num S b.fi) (.lf fi) := by rw [← efi]; exact nm_num (hS.gd.fi hb.mem)
  have om := amid_ok oa ob h8
  have em : amid a b = .lf (la ++ fi) := by unfold amid; rw [ela, efi]; rfl
  have lfi : fi.length ≤ 8 ∧ la.length ≤ 8 := by
    have : (la ++ fi).length ≤ 8 := by rw [em] at om; exact om.2.1
    rw [List.length_append] at this; omega
  walk_at "st"
  refine ⟨c.a, c.dx, _, rfl, hS.ob, fl_no (by decide +kernel), ?_⟩
  walk_at "go"
  refine c_laN hS ha ?_
  walk_at "go"
  refine c_leafText hS mla ?_
  walk_at "nx"
  walk_at "st"
  refine ⟨c.a, c.dx, _, rfl, hS.ob, fl_no (by decide +kernel), ?_⟩
  walk_at "go"
  refine c_fiN hS hb ?_
  walk_at "go"
  refine c_leafText hS mfi ?_
  walk_at "nx"
  walk_at "st"
  refine ⟨c.a, c.dx, _, rfl, hS.ob, fl_no (by decide +kernel), ?_⟩
  walk_at "go"
  refine ⟨_, _, rfl, rfl, by rw [sT_len, sT_len, sizeLine_eq]; omega, ?_⟩
  rw [sT_app]
  walk_at "go"
  refine c_leafG hS (by rw [← em]; exact om) (by omega) fun H1 S1 n1 g1 m1 => ?_
  rw [← em] at m1
  have l1 := g1.len
  walk_at "nx"
  walk_at "go"
  refine ⟨c, S1, _, a, rfl, g1.sh, ha.ext g1.ex, by have := oa.low; omega, by omega, fun H2 S2 n2 g2 m2 => ?_⟩
  have l2 := g2.len
  obtain ⟨t, e1, o1, x1, la1, h1, h2, s1, j1⟩ := pour1 oa ob h8 sg
  walk_at "go"
  refine c_linked g2.sh (o := wl a) (p := some (amid a b)) m2 (m1.ext g2.ex) (by decide) (fun x y ex ey => ?_) (by omega) fun H3 S3 n3 g3 m3 => ?_
  · cases ey
    obtain ⟨j, hh⟩ := j1 x ex
    have := j.oa.low
    have := j.ob.low
    exact ⟨j, by omega, by omega⟩
  have l3 := g3.len
  have g13 := g1.trans (g2.trans g3)
  walk_at "go"
  refine ⟨c, S3, _, b, rfl, g3.sh, hb.ext g13.ex, by have := ob.low; omega, by omega, fun H4 S4 n4 g4 m4 => ?_⟩
  have l4 := g4.len
  walk_at "go"
  refine c_linked g4.sh (o := linkedO (wl a) (some (amid a b))) (p := wf b) (m3.ext g4.ex) m4 (by decide) (fun x y ex ey => ?_) (by omega) fun H5 S5 n5 g5 m5 => ?_
  · obtain ⟨_, _, _, _, j⟩ := poured_ok oa ob h8 sg
    have j := j x y ex ey
    have := j.oa.low
    have := j.ob.low
    exact ⟨j, by omega, by omega⟩
  · refine q H5 S5 n5 ((g13.trans (g4.trans g5)).mono (by omega) ?_) m5
    have z1 : (Tr.lf (la ++ fi)).sg = (amid a b).sg := by rw [em]
    have z2 := amid_sg a b
    have z3 := la_sg_le a
    have z4 := fi_sg_le b
    have z5 : oS (some (amid a b)) = (amid a b).sg := rfl
    have z6 := wl_sg2 oa
    have z7 := wf_sg2 ob
    have z8 : oS (linkedO (wl a) (some (amid a b))) = a.sg + b.fi.sg := by rw [e1]; exact s1
    omega
abbrev n_joined : List Str := ["shelf", "one", "other"]
theorem sc_joined : FnScope n_joined p_joined (defScope s_joined) := ⟨rfl, rfl, rfl, by decide +kernel, rfl, by decide +kernel, by decide +kernel⟩
theorem ok_joined (T : Txt K mg A) : FnOk P w K mg base (L2.CX P w) 101 A.f_joined A.d_joined p_joined (spJoined A.C_Shelf A.C_NoPiece A.C_TooLong) := by
  have GL := ok_linked (P := P) (w := w) (base := base) T 90
  refine T.fn_joined.okX sc_joined (fun vs H Q E h => ?_) (fun cdv B outer s H vs Q E hr h => ?_)
  · obtain ⟨c, S, n, m, rfl, _⟩ := h; rfl
  obtain ⟨c, S, n, m, rfl, hS, h⟩ := h
  refine ⟨_, (pss_cons (ps_if (pt_cmpR op_gt (pe_op op_add (pe_meth (pv 0) T.cl_Shelf T.me_Shelf_signs (ok_Shelf_signs T) (hr.mono (by omega)) T.bi_Shelf_signs .nil (passes_call (takes_of rfl rfl rfl rfl) (fun _ _ _ _ h => h)) (pa_cons (pv 1) pa_nil)) (pe_meth (pv 0) T.cl_Shelf T.me_Shelf_signs (ok_Shelf_signs T) (hr.mono (by omega)) T.bi_Shelf_signs .nil (passes_call (takes_of rfl rfl rfl rfl) (fun _ _ _ _ h => h)) (pa_cons (pv 2) pa_nil))) (pe_kint T.k_MOST_SIGNS (by rfl)) (nomark _)) (pss_one (ps_raise0 rfl T.ex_TooLong (takes_of rfl rfl rfl rfl) rfl)) pss_nil)
      (pss_cons (ps_if (PW.pt (pw_or (pt_cmpR op_eq (pv 1) pe_int (nomark _)) (pw_or1 (pt_cmpR op_eq (pv 2) pe_int (nomark _))))) (pss_one (ps_ret (pe_op op_add (pv 1) (pv 2)))) pss_nil)
      (pss_cons (ps_if (pt_val (pe_meth (pv 0) T.cl_Shelf T.me_Shelf_is_loose (ok_Shelf_is_loose T) (hr.mono (by omega)) T.bi_Shelf_is_loose .nil (passes_call (takes_of rfl rfl rfl rfl) (fun _ _ _ _ h => h)) (pa_cons (pv 1) (pa_cons (pv 2) pa_nil)))) (pss_one (ps_ret (pe_call (ok_poured T) (hr.mono (by omega)) (by rfl) T.mg_poured T.fn_poured.kp T.bi_poured .nil (passes_call (takes_of rfl rfl rfl rfl) (fun _ _ _ _ h => h)) (pa_cons (pv 0) (pa_cons (pv 1) (pa_cons (pv 2) pa_nil)))))) pss_nil)
      (pss_one (ps_ret (pe_call GL (hr.mono (by omega)) (by rfl) T.mg_linked T.fn_linked.kp T.bi_linked .nil (passes_call (takes_of rfl rfl rfl rfl) (fun _ _ _ _ h => h)) (pa_cons (pv 0) (pa_cons (pv 1) (pa_cons (pv 2) pa_nil))))))))), ?_⟩
  walk_at "st"
  refine ⟨c.a, c.dx, _, rfl, hS.ob, fl_no (by decide +kernel), ?_⟩
  walk_at "go"
  by_cases e1 : inR S n
  rotate_left
  · refine ⟨c, S, n, rfl, hS, .inr ⟨e1, ?_⟩⟩
    rcases h with ⟨_, h⟩ | ⟨o, p, ho, _⟩
    · exact h
    · exact absurd ho.inR e1
  obtain ⟨o, ho⟩ := Tx.of e1
  refine c_sgO hS ho ?_
  walk_at "go"
  refine ⟨c.a, c.dx, _, rfl, hS.ob, fl_no (by decide +kernel), ?_⟩
  walk_at "go"
  by_cases e2 : inR S m
  rotate_left
  · refine ⟨c, S, m, rfl, hS, .inr ⟨e2, ?_⟩⟩
    rcases h with ⟨_, h⟩ | ⟨_, p, _, hp, _⟩
    · exact h
    · exact absurd hp.inR e2
  obtain ⟨p, hp⟩ := Tx.of e2
  refine c_sgO hS hp ?_
  rcases h with ⟨z, _⟩ | ⟨o', p', ho', hp', h⟩
  · rcases z with z | z
    · exact absurd e1 z
    · exact absurd e2 z
  cases ho'.uni ho
  cases hp'.uni hp
  walk_at "go"
  refine ite_d (fun h1 => ?_) (fun h1 => ?_)
  · rcases h with ⟨_, h⟩ | ⟨z, _⟩
    · exact h
    · unfold mostSg at z; omega
  rcases h with ⟨z, _⟩ | ⟨hm, cp, q⟩
  · unfold mostSg at z; omega
  walk_at "sk"
  have zo := tx_zero ho
  have zp := tx_zero hp
  have none_way : (o = none ∨ p = none) → Q (.int (n + m)) H := fun z => by
    rcases z with rfl | rfl
    · rw [zo.mpr rfl, Int.zero_add]
      exact q H S m ((Grow.refl hS).mono (Nat.zero_le _) (Nat.zero_le _)) hp
    · rw [zp.mpr rfl, Int.add_zero]
      refine q H S n ((Grow.refl hS).mono (Nat.zero_le _) (Nat.zero_le _)) ?_
      cases o <;> exact ho
  walk_at "st"
  refine ite_d (fun h2 => ?_) (fun h2 => ?_)
  · refine iteT ?_
    walk_at "go"
    exact none_way (.inl (zo.mp h2))
  walk_at "go"
  refine ite_d (fun h3 => ?_) (fun h3 => ?_)
  · walk_at "go"
    exact none_way (.inr (zp.mp h3))
  walk_at "sk"
  cases o with
  | none => exact absurd (zo.mpr rfl) h2
  | some a =>
  cases p with
  | none => exact absurd (zp.mpr rfl) h3
  | some b =>
  have ha : Nm S n a := ho
  have hb : Nm S m b := hp
  have oa := hS.gd.ok _ ha.mem
  have ob := hS.gd.ok _ hb.mem
  have hm : a.sg + b.sg ≤ mostSg := hm
  walk_at "st"
  refine ⟨c.a, c.dx, _, rfl, hS.ob, fl_no (by decide +kernel), ?_⟩
  walk_at "go"
  refine c_loose hS ha hb ?_
  walk_at "go"
  refine ite_d (fun h4 => ?_) (fun h4 => ?_)
  · have ej : joinedO (some a) (some b) = poured a b := by show (if _ then _ else _) = _; rw [if_pos h4]
    have ec : cjoin (some a) (some b) = cpour a b := by show (if _ then _ else _) = _; rw [if_pos h4]
    rw [ej, ec] at q
    rw [ec] at cp
    walk_at "go"
    exact ⟨c, S, n, m, a, b, rfl, hS, ha, hb, h4, hm, cp, q⟩
  walk_at "sk"
  have ej : joinedO (some a) (some b) = some (linked a b) := by show (if _ then _ else _) = _; rw [if_neg h4]
  have ec : cjoin (some a) (some b) = clink a b := by show (if _ then _ else _) = _; rw [if_neg h4]
  rw [ej, ec] at q
  rw [ec] at cp
  walk_at "go"
  refine c_linked hS ho hp (by decide) (fun x y ex ey => ?_) cp q
  cases ex
  cases ey
  have := oa.low
  have := ob.low
  exact ⟨⟨oa, ob, by omega, hm⟩, by omega, by omega⟩
end

/-! ### built -/
/-- numbers of these trees, in their order -/
def Nms (S : List Tr) : List Int → List Tr → Prop
  | [], [] => True
  | n :: ns, t :: ts => Nm S n t ∧ Nms S ns ts
  | _, _ => False
theorem Nms.len {S : List Tr} : ∀ {ns : List Int} {ts : List Tr}, Nms S ns ts → ns.length = ts.length
  | [], [], _ => rfl
  | n :: ns, t :: ts, h => by rw [List.length_cons, List.length_cons, Nms.len h.2]
  | [], _ :: _, h => h.elim
  | _ :: _, [], h => h.elim
theorem Nms.ext {S S' : List Tr} (e : Ext S S') : ∀ {ns : List Int} {ts : List Tr}, Nms S ns ts → Nms S' ns ts
  | [], [], _ => trivial
  | n :: ns, t :: ts, h => ⟨h.1.ext e, Nms.ext e h.2⟩
  | [], _ :: _, h => h.elim
  | _ :: _, [], h => h.elim
theorem Nms.take {S : List Tr} : ∀ {k : Nat} {ns : List Int} {ts : List Tr}, Nms S ns ts → Nms S (ns.take k) (ts.take k)
  | 0, _, _, _ => by rw [List.take_zero, List.take_zero]; trivial
  | k + 1, [], [], _ => trivial
  | k + 1, n :: ns, t :: ts, h => ⟨h.1, Nms.take (k := k) h.2⟩
  | _ + 1, [], _ :: _, h => h.elim
  | _ + 1, _ :: _, [], h => h.elim
theorem Nms.drop {S : List Tr} : ∀ {k : Nat} {ns : List Int} {ts : List Tr}, Nms S ns ts → Nms S (ns.drop k) (ts.drop k)
  | 0, _, _, h => h
  | k + 1, [], [], _ => trivial
  | k + 1, n :: ns, t :: ts, h => Nms.drop (k := k) h.2
  | _ + 1, [], _ :: _, h => h.elim
  | _ + 1, _ :: _, [], h => h.elim
theorem Nms.snoc {S : List Tr} {n : Int} {t : Tr} (hn : Nm S n t) : ∀ {ns : List Int} {ts : List Tr}, Nms S ns ts → Nms S (ns ++ [n]) (ts ++ [t])
  | [], [], _ => ⟨hn, trivial⟩
  | _ :: _, _ :: _, h => ⟨h.1, Nms.snoc hn h.2⟩
  | [], _ :: _, h => h.elim
  | _ :: _, [], h => h.elim
theorem sIx_nn {n d : Nat} {i : Int} (h0 : 0 ≤ i) (h : i ≤ n) : HT.sIx n d (some i) = i.toNat := by
  show (if i < 0 then (i + n).toNat else min i.toNat n) = i.toNat
  rw [if_neg (by omega)]; omega
theorem cutV_pre {xs : List V} {i : Int} (h0 : 0 ≤ i) (h : i ≤ xs.length) : cutV xs none (some i) = xs.take i.toNat := by
  unfold cutV
  rw [sIx_nn h0 h]
  rfl
theorem cutV_suf {xs : List V} {i : Int} (h0 : 0 ≤ i) (h : i ≤ xs.length) : cutV xs (some i) none = xs.drop i.toNat := by
  unfold cutV
  rw [sIx_nn h0 h]
  show (xs.drop i.toNat).take (xs.length - i.toNat) = _
  rw [List.take_of_length_le (by rw [List.length_drop]; exact Nat.le_refl _)]
def spBuiltOf (C : Addr) (N : Nat) : Sp := fun vs H Q _ => ∃ c S r ns ls M, vs = [.ref (Cells.a c), .ref r] ∧ ShAt C c H S ∧ r ∉ c.all ∧ H r = some (.lst ((ns : List Int).map V.int)) ∧ Nms S ns ls ∧ Row ls ∧ M + 1 = N ∧ ls.length ≤ 2 ^ M ∧ (ls.flatMap Tr.txt).length ≤ mostSg ∧ S.length + ls.length ≤ cap ∧ ns.length ≤ 100000 ∧
  ∀ H' S' n', Grow C c H S H' S' (ls.length - 1) (ls.flatMap Tr.txt).length → Nm S' n' (bo M ls) → Q (.int n') H'
def spBuilt (K : PySem.W.Frag) (C CX CT : Addr) : Sp := fun vs H Q E => ∃ c S v, vs = [.ref (Cells.a c), v] ∧ ShAt C c H S ∧ ((∃ l : List Nat, v = .str (sT l) ∧ l.length ≤ cap ∧ ((¬ Plain l ∧ ∀ H', Same H H' → E (.ref CX) none H') ∨ (Plain l ∧ 10000 < l.length ∧ ∀ H', Same H H' → E (.ref CT) none H') ∨
   (Plain l ∧ l.length ≤ 10000 ∧ S.length + cb l ≤ cap ∧ ∀ H' S' n', Grow C c H S H' S' (cb l) l.length → Tx S' n' (bld l) → Q (.int n') H'))) ∨
  (∃ t, TyX K H v t ∧ PySem.W.kitOne K t (.type "str") = some false ∧ E (.ref CX) none H))
theorem c_built {K : PySem.W.Frag} {C CX CT : Addr} {c : Cells} {S : List Tr} {l : List Nat} {H : Hp} {Q : VK} {E : XK} (s : ShAt C c H S) (p : Plain l) (h : l.length ≤ 10000) (cp : S.length + cb l ≤ cap)
    (k : ∀ H' S' n', Grow C c H S H' S' (cb l) l.length → Tx S' n' (bld l) → Q (.int n') H') : spBuilt K C CX CT [.ref c.a, .str (sT l)] H Q E := ⟨c, S, _, rfl, s, .inl ⟨l, rfl, by unfold cap; omega, .inr (.inr ⟨p, h, cp, k⟩)⟩⟩
section
variable {P : Program} {w : World} {K : PySem.W.Frag} {mg : Str → Option Value} {base : Heap} {A : Ad}
abbrev n_built_of : List Str := ["shelf", "leaves", "half"]
theorem sc_built_of : FnScope n_built_of p_built_of (defScope s_built_of) := ⟨rfl, rfl, rfl, by decide +kernel, rfl, by decide +kernel, by decide +kernel⟩
theorem ok_built_of (T : Txt K mg A) : ∀ N, FnOk P w K mg base (L2.CX P w) (N + 3) A.f_built_of A.d_built_of p_built_of (spBuiltOf A.C_Shelf N) := by
  intro N
  induction N with
  | zero => exact nevr_ok fun vs H Q E ⟨_, _, _, _, _, _, _, _, _, _, _, _, z, _⟩ => by omega
  | succ N ih =>
  refine T.fn_built_of.okX sc_built_of (fun vs H Q E h => ?_) (fun cdv B outer s H vs Q E hr h => ?_)
  · obtain ⟨c, S, r, ns, ls, M, rfl, _⟩ := h; rfl
  obtain ⟨c, S, r, ns, ls, M, rfl, hS, hrc, hr1, nm, row, hM, h2, hs, cp, nl, q⟩ := h
  obtain rfl : M = N := by omega
  refine ⟨_, (pss_cons (ps_if (pt_cmpR op_eq (pe_callB call_len_seq (by rfl) T.z_len bt_len (pa_cons (pv 1) pa_nil)) pe_int (nomark _)) (pss_one (ps_ret (pe_ix ix_list (pv 1) pe_int (fun _ _ => rfl)))) pss_nil)
      (pss_cons (ps_set (i := 2) sc_built_of.nd rfl (Or.inl rfl) (pe_op op_fdivW (pe_callB call_len_seq (by rfl) T.z_len bt_len (pa_cons (pv 1) pa_nil)) pe_int))
      (pss_one (ps_ret (pe_meth (pv 0) T.cl_Shelf T.me_Shelf_fork (ok_Shelf_fork T) (hr.mono (by omega)) T.bi_Shelf_fork .nil (passes_call (takes_of rfl rfl rfl rfl) (fun _ _ _ _ h => h)) (pa_cons (pe_call ih (hr.mono (by omega)) (by rfl) T.mg_built_of T.fn_built_of.kp T.bi_built_of .nil (passes_call (takes_of rfl rfl rfl rfl) (fun _ _ _ _ h => h)) (pa_cons (pv 0) (pa_cons (pe_slice sl_list (pv 1) po_none (po_some (pv 2))) pa_nil))) (pa_cons (pe_call ih (hr.mono (by omega)) (by rfl) T.mg_built_of T.fn_built_of.kp T.bi_built_of .nil (passes_call (takes_of rfl rfl rfl rfl) (fun _ _ _ _ h => h)) (pa_cons (pv 0) (pa_cons (pe_slice sl_list (pv 1) (po_some (pv 2)) po_none) pa_nil))) pa_nil))))))), ?_⟩
  have ll := nm.len
  have lpos : 0 < ls.length := by
    cases ls with
    | nil => exact absurd rfl row.ne
    | cons a b => simp
  walk_at "st"
  refine ⟨_, _, rfl, .inl (SqL.of hr1), ?_⟩
  walk_at "go"
  refine ite_d (fun h1 => ?_) (fun h1 => ?_)
  · have h1 : ns.length = 1 := by rw [List.length_map] at h1; omega
    obtain ⟨n, rfl⟩ := List.length_eq_one_iff.mp h1
    obtain ⟨t, rfl⟩ := List.length_eq_one_iff.mp (ll.symm.trans h1)
    have i0 : atI (([n] : List Int).map V.int) 0 = some (.int n) := rfl
    walk_at "go"
    refine w_ixl (SqL.of hr1) i0 ?_
    refine q H S n ((Grow.refl hS).mono (Nat.zero_le _) (Nat.zero_le _)) ?_
    have : bo M [t] = t := by cases M <;> rfl
    rw [this]; exact nm.1
  have h1 : ns.length ≠ 1 := fun z => h1 (by rw [List.length_map]; omega)
  walk_at "sk"
  walk_at "st"
  refine ⟨_, _, rfl, .inl (SqL.of hr1), ?_⟩
  walk_at "go"
  refine w_rI (divW_small (by decide) (by decide)) ?_
  have eh : (((ns.map V.int).length : Nat) : Int) / 2 = ((ls.length / 2 : Nat) : Int) := by rw [List.length_map, ll]; omega
  rw [eh]
  walk_at "nx"
  cases M with
  | zero =>
    have : ls.length ≤ 1 := h2
    omega
  | succ M =>
  rw [Nat.pow_succ] at h2
  have eb : bo (M + 1) ls = .fk (bo M (ls.take (ls.length / 2))) (bo M (ls.drop (ls.length / 2))) := by
    show (if ls.length ≤ 1 then _ else _) = _
    rw [if_neg (by omega)]
  have l1 : (ls.take (ls.length / 2)).length = ls.length / 2 := by rw [List.length_take]; omega
  have l2 : (ls.drop (ls.length / 2)).length = ls.length - ls.length / 2 := by rw [List.length_drop]
  have fl := congrArg List.length (flat_split ls (ls.length / 2))
  rw [List.length_append] at fl
  have ok := (bo_ok (M + 1) ls row (by rw [Nat.pow_succ]; exact h2) hs).ok
  rw [eb] at q ok
  walk_at "go"
  refine ⟨c.a, c.dx, _, rfl, hS.ob, fl_no (by decide +kernel), ?_⟩
  walk_at "go"
  refine ⟨_, rfl, ?_⟩
  refine ⟨r, _, rfl, SqL.of hr1, fun p1 np1 => ?_⟩
  obtain ⟨H1, e1, s1, hp1⟩ := new_of (o := .lst (cutV (ns.map V.int) none (some ((ls.length / 2 : Nat) : Int)))) np1
  rw [e1]
  rw [cutV_pre (by omega) (by rw [List.length_map, ll]; omega)] at hp1
  have ei : (((ls.length / 2 : Nat) : Int)).toNat = ls.length / 2 := by omega
  rw [ei, ← List.map_take] at hp1
  have hS1 := hS.same s1
  refine ⟨c, S, p1, _, ls.take (ls.length / 2), M, rfl, hS1, hS.apart np1, hp1, nm.take, row.take (by omega), rfl, by rw [l1]; omega, by omega, by rw [l1]; omega, by rw [List.length_take]; omega, fun H2 S2 n2 g2 m2 => ?_⟩
  rw [l1] at g2
  have hr2 : H2 r = some (.lst (ns.map V.int)) := by
    exact g2.kp _ _ hrc (s1 _ _ hr1)
  have len2 := g2.len
  walk_at "go"
  refine ⟨_, rfl, ?_⟩
  walk_at "go"
  refine ⟨r, _, rfl, SqL.of hr2, fun p3 np3 => ?_⟩
  obtain ⟨H3, e3, s3, hp3⟩ := new_of (o := .lst (cutV (ns.map V.int) (some ((ls.length / 2 : Nat) : Int)) none)) np3
  rw [e3]
  rw [cutV_suf (by omega) (by rw [List.length_map, ll]; omega)] at hp3
  rw [ei, ← List.map_drop] at hp3
  have hS3 := g2.sh.same s3
  refine ⟨c, S2, p3, _, ls.drop (ls.length / 2), M, rfl, hS3, g2.sh.apart np3, hp3, (nm.drop).ext g2.ex, row.drop (by omega), rfl, by rw [l2]; omega, by omega, by rw [l2]; omega, by rw [List.length_drop]; omega, fun H4 S4 n4 g4 m4 => ?_⟩
  rw [l2] at g4
  have len4 := g4.len
  have g24 := ((Grow.refl hS).same s1).trans ((g2.same s3).trans g4)
  walk_at "go"
  refine c_forkG g4.sh (m2.ext g4.ex) m4 ok (by omega) fun H5 S5 n5 g5 m5 => ?_
  exact q H5 S5 n5 ((g24.trans g5).mono (by omega) (by have := sg_txt (bo (M + 1) ls); rw [(bo_ok (M + 1) ls row (by rw [Nat.pow_succ]; exact h2) hs).tx, eb] at this; omega)) m5
abbrev n_built : List Str := ["shelf", "plain", "leaves", "start"]
theorem sc_built : FnScope n_built p_built (defScope s_built) := ⟨rfl, rfl, rfl, by decide +kernel, rfl, by decide +kernel, by decide +kernel⟩
theorem ok_built (T : Txt K mg A) : FnOk P w K mg base (L2.CX P w) 20 A.f_built A.d_built p_built (spBuilt K A.C_Shelf A.C_NoText A.C_TooLong) := by
  have GB := ok_built_of (P := P) (w := w) (base := base) T 12
  refine T.fn_built.okX sc_built (fun vs H Q E h => ?_) (fun cdv B outer s H vs Q E hr h => ?_)
  · obtain ⟨c, S, v, rfl, _⟩ := h; rfl
  obtain ⟨c, S, v, rfl, hS, h⟩ := h
  refine ⟨_, (pss_cons (ps_if (pt_not (pt_val (pe_call (ok_is_plain T) (hr.mono (by omega)) (by rfl) T.mg_is_plain T.fn_is_plain.kp T.bi_is_plain .nil (passes_call (takes_of rfl rfl rfl rfl) (fun _ _ _ _ h => h)) (pa_cons (pv 1) pa_nil)))) (pss_one (ps_raise0 rfl T.ex_NoText (takes_of rfl rfl rfl rfl) rfl)) pss_nil)
      (pss_cons (ps_if (pt_cmpR op_gt (pe_callB call_len_str (by rfl) T.z_len bt_len (pa_cons (pv 1) pa_nil)) (pe_kint T.k_MOST_WRITTEN (by rfl)) (nomark _)) (pss_one (ps_raise0 rfl T.ex_TooLong (takes_of rfl rfl rfl rfl) rfl)) pss_nil)
      (pss_cons (ps_if (pt_cmpR op_eq (pv 1) pe_str (nomark _)) (pss_one (ps_ret pe_int)) pss_nil)
      (pss_cons (ps_set (i := 2) sc_built.nd rfl (Or.inl rfl) (pe_lst pa_nil))
      (pss_cons (ps_for (passes_of rfl) rfl (pi_range3 (by rfl) T.z_range (pa_cons pe_int (pa_cons (pe_callB call_len_str (by rfl) T.z_len bt_len (pa_cons (pv 1) pa_nil)) (pa_cons (pe_kint T.k_MOST_IN_LEAF (by rfl)) pa_nil)))) (pg_name (i := 3) sc_built.nd rfl (Or.inl rfl))
      (pss_one (ps_expr (pe_bm PySem.F.plainAttrs_list PySem.F.slot_list_append PySem.F.type_list_append mt_append (pv 2) (pa_cons (pe_meth (pv 0) T.cl_Shelf T.me_Shelf_leaf (ok_Shelf_leaf T) (hr.mono (by omega)) T.bi_Shelf_leaf .nil (passes_call (takes_of rfl rfl rfl rfl) (fun _ _ _ _ h => h)) (pa_cons (pe_slice sl_str (pv 1) (po_some (pv 3)) (po_some (pe_op op_add (pv 3) (pe_kint T.k_MOST_IN_LEAF (by rfl))))) pa_nil)) pa_nil)))))
      (pss_one (ps_ret (pe_call GB (hr.mono (by omega)) (by rfl) T.mg_built_of T.fn_built_of.kp T.bi_built_of .nil (passes_call (takes_of rfl rfl rfl rfl) (fun _ _ _ _ h => h)) (pa_cons (pv 0) (pa_cons (pv 2) pa_nil)))))))))), ?_⟩
  walk_at "st"
  rcases h with ⟨l, rfl, hl, h⟩ | ⟨t, ty, e, h⟩
  rotate_left
  · refine ⟨_, rfl, .inr ⟨t, ty, e, w_bl (iteT h)⟩⟩
  refine c_plain hl fun H1 s1 => w_bl (ite_n (fun hn => ?_) (fun hp => ?_))
  · rcases h with ⟨_, k⟩ | ⟨p, _⟩ | ⟨p, _⟩
    · exact k H1 s1
    · exact absurd p hn
    · exact absurd p hn
  rcases h with ⟨z, _⟩ | h
  · exact absurd hp z
  have hline : l.length ≤ sizeLine := by have := cap_line; omega
  walk_at "sk"
  walk_at "st"
  refine ⟨_, rfl, by rw [sT_len]; exact hline, ?_⟩
  rw [sT_len]
  walk_at "go"
  refine ite_d (fun h1 => ?_) (fun h1 => ?_)
  · rcases h with ⟨_, _, k⟩ | ⟨_, z, _⟩
    · exact k H1 s1
    · omega
  rcases h with ⟨_, z, _⟩ | ⟨_, h2, cp, q⟩
  · omega
  have hS1 := hS.same s1
  walk_at "sk"
  walk_at "st"
  refine w_eqS ?_
  rw [sT_nil]
  walk_at "go"
  refine ite_d (fun h3 => ?_) (fun h3 => ?_)
  · have : l = [] := sT_inj h3
    subst this
    walk_at "go"
    exact q H1 S 0 (((Grow.refl hS).same s1).mono (Nat.zero_le _) (Nat.zero_le _)) rfl
  have ln : l ≠ [] := fun z => h3 (by rw [z])
  have lpos : 0 < l.length := by
    cases l with
    | nil => exact absurd rfl ln
    | cons a b => simp
  walk_at "sk"
  walk_at "st"
  refine w_mkl (line_of (n := 0) rfl (by decide)) fun D H2 nD s2 hD2 => ?_
  walk_at "nx"
  have hS2 := hS1.same s2
  have Dc : D ∉ c.all := hS1.apart nD
  walk_at "st"
  refine ⟨_, rfl, by rw [sT_len]; exact hline, ?_⟩
  rw [sT_len]
  walk_at "go"
  obtain ⟨n, rg, rn, rk⟩ := rgC (i := 0) (j := l.length) (c := 8) (by decide) (by decide) (by decide) (by decide) (by omega) (by omega)
  have en : n = (l.length + 7) / 8 := by
    have h := rg.2.2.2
    unfold Builtin.Range.rangeSize at h
    rw [if_pos (by decide), if_pos (by omega)] at h
    omega
  refine ⟨_, _, _, n, rfl, rg, ?_⟩
  have ecb : cb l = 2 * n := by unfold cb; rw [en]
  rw [ecb] at cp q
  refine for_it walk_rangeC (fun i σ H' => ∃ (S' : List Tr) (ns : List Int) (x : Option V), σ = [some (.ref c.a), some (.str (sT l)), some (.ref D), x] ∧ Grow A.C_Shelf c H1 S H' S' i l.length ∧ Nms S' ns (ch l i) ∧ H' D = some (.lst (ns.map V.int))) ⟨S, [], none, rfl, ((Grow.refl hS1).same s2).mono (Nat.le_refl _) (Nat.zero_le _), trivial, hD2⟩ (fun _ _ _ _ _ => trivial) ?_ ?_
  · rintro i z σ H3 H4 hi ⟨S3, ns, x, rfl, g3, m3, hD3⟩ ⟨rfl, rfl⟩
    have hk := rk i hi
    have len3 := g3.len
    refine w_gname ?_
    walk_at "go"
    refine ⟨.inl ⟨rfl, _, SqL.of hD3⟩, ?_⟩
    walk_at "go"
    refine ⟨c.a, c.dx, _, rfl, g3.sh.ob, fl_no (by decide +kernel), ?_⟩
    walk_at "go"
    refine ⟨_, rfl, ?_⟩
    walk_at "go"
    refine ⟨_, rfl, sT l, rfl, by rw [sT_len]; exact hline, ?_⟩
    rw [show (0 : Int) + (i : Int) * 8 = ((8 * i : Nat) : Int) by omega, show ((8 * i : Nat) : Int) + 8 = ((8 * i + 8 : Nat) : Int) by omega, cutS_some, show 8 * i + 8 - 8 * i = 8 by omega]
    walk_at "go"
    refine c_leafG g3.sh (piece_ok hp (by omega)) (by omega) fun H5 S5 n5 g5 m5 => ?_
    have hD5 := g5.kp _ _ Dc hD3
    refine ⟨D, _, _, rfl, rfl, hD5, ?_, ?_⟩
    · have := m3.len
      rw [ch_len] at this
      rw [List.length_map, sizeLine_eq]; omega
    refine ⟨S5, ns ++ [n5], _, rfl, ?_, by rw [ch_succ]; exact Nms.snoc m5 (m3.ext g5.ex), by rw [upd_same, List.map_append]; rfl⟩
    have g35 := (g3.trans g5).mono (Nat.le_refl _) (N := l.length) (by show max l.length ((l.drop (8 * i)).take 8).length ≤ l.length; rw [List.length_take, List.length_drop]; omega)
    refine ⟨g35.sh.keepL (l := [D]) (KeepL.upd (by simp)) (fun b hb => by rw [List.mem_singleton] at hb; rw [hb]; exact Dc) (tup_upd hD5), g35.ex, g35.len, fun b o nb e => ?_, g35.nw⟩
    rw [upd_ne (ne_of_none e nD)]
    exact g35.kp b o nb e
  rintro σ H3 ⟨S3, ns, x, rfl, g3, m3, hD3⟩
  have len3 := g3.len
  dsimp only
  walk_at "go"
  rw [en] at m3
  have row := chs_row hp ln
  have lch : (chs l).length = n := by unfold chs; rw [ch_len, en]
  refine ⟨c, S3, D, ns, chs l, 11, rfl, g3.sh, Dc, hD3, m3, row, rfl, by rw [lch]; show n ≤ 2048; omega, by rw [chs_txt]; unfold mostSg; omega, by rw [lch]; omega, by rw [m3.len, ch_len]; omega, fun H4 S4 n4 g4 m4 => ?_⟩
  rw [lch] at g4
  have eb : bld l = some (bo 11 (chs l)) := by unfold bld; rw [if_neg ln]
  rw [eb] at q
  exact q H4 S4 n4 ((((Grow.refl hS).same s1).trans (g3.trans g4)).mono (by omega) (by rw [chs_txt]; omega)) m4
end

/-! ### words counted -/
def spLook : Sp := fun vs H Q _ => ∃ w : List Nat, vs = [.str (sT w)] ∧ Plain w ∧ w ≠ [] ∧ w.length ≤ 8 ∧ ∀ H', Same H H' → Q .non H'
def spPlc : Sp := fun vs H Q _ => ∃ l w : List Nat, vs = [.str (sT l), .str (sT w)] ∧ l.length ≤ 10000 ∧ w.length ≤ 8 ∧ ∀ H' p, Same H H' → H p = none → H' p = some (.lst ((occL w l).map fun p => V.int (p : Nat))) → Q (.ref p) H'
def spFinder (CF : Addr) : Sp := fun vs H Q _ => ∃ (p dx : Addr) (c : Cells) (w : List Nat), vs = [.ref p, .ref c.a, .str (sT w)] ∧ H p = some (.ins CF dx []) ∧ H dx = some (.own p) ∧ dx ≠ p ∧
  ∀ (f : Fc) H', f.a = p → (∀ S : List Tr, f.kn ∉ c.all → f.en ∉ c.all → FiAt CF f c S w H') → H f.kn = none → H f.en = none → (∀ b o, H b = some o → b ≠ p → H' b = some o) → Q .non H'
def spEndsOf (CF C : Addr) (N : Nat) : Sp := fun vs H Q _ => ∃ (f : Fc) (c : Cells) (S : List Tr) (w : List Nat) (n : Int) (t : Tr), vs = [.ref f.a, .int n] ∧ FiAt CF f c S w H ∧ ShAt C c H S ∧ Nm S n t ∧ t.ht < N ∧ w ≠ [] ∧ w.length ≤ 8 ∧
  ∀ H' r, FiGo CF f c S w H H' → H' r = some (.tup [.str (sT (hdW w t.txt)), .str (sT (tlW w t.txt))]) → Q (.ref r) H'
def spOften (CF C : Addr) (N : Nat) : Sp := fun vs H Q _ => ∃ (f : Fc) (c : Cells) (S : List Tr) (w : List Nat) (n : Int) (o : Option Tr), vs = [.ref f.a, .int n] ∧ FiAt CF f c S w H ∧ ShAt C c H S ∧ Tx S n o ∧ oH o < N ∧ w ≠ [] ∧ w.length ≤ 8 ∧
  ∀ H', FiGo CF f c S w H H' → Q (.int (occ w (oX o) : Nat)) H'
def spSeam (CF C : Addr) (N : Nat) : Sp := fun vs H Q _ => ∃ (f : Fc) (c : Cells) (S : List Tr) (w : List Nat) (n m : Int) (t u : Tr), vs = [.ref f.a, .int n, .int m] ∧ FiAt CF f c S w H ∧ ShAt C c H S ∧ Nm S n t ∧ Nm S m u ∧ t.ht < N ∧ u.ht < N ∧ w ≠ [] ∧ w.length ≤ 8 ∧
  ∀ H' r q, FiGo CF f c S w H H' → H' q = some (.lst ((occL w (tlW w t.txt ++ hdW w u.txt)).map fun p => V.int (p : Nat))) → H' r = some (.tup [.int ((t.txt.length - (tlW w t.txt).length : Nat) : Int), .ref q]) → Q (.ref r) H'
def spCount (C : Addr) : Sp := fun vs H Q _ => ∃ (c : Cells) (S : List Tr) (n : Int) (o : Option Tr) (w : List Nat), vs = [.ref c.a, .int n, .str (sT w)] ∧ ShAt C c H S ∧ Tx S n o ∧ Plain w ∧ w ≠ [] ∧ w.length ≤ 8 ∧
  ∀ H', Same H H' → Q (.int (occ w (oX o) : Nat)) H'
theorem c_finder {CF C : Addr} {c : Cells} {S : List Tr} {w : List Nat} {H1 : Hp} {R : Addr → Hp → Prop} {E : XK} (s : ShAt C c H1 S) (k : ∀ f H', FiAt CF f c S w H' → Same H1 H' → H1 f.kn = none → H1 f.en = none → R f.a H') :
    ∀ x dx, H1 x = none → H1 dx = none → dx ≠ x → spFinder CF (.ref x :: ([.ref c.a, .str (sT w)] ++ [])) (upd (upd H1 dx (.own x)) x (.ins CF dx [])) (fun v H2 => v = .non ∧ R x H2) E := by
  intro x dx hx hdx ne
  have sm : Same H1 (upd (upd H1 dx (.own x)) x (.ins CF dx [])) := fun b o e => by rw [upd_ne (ne_of_none e hx), upd_ne (ne_of_none e hdx)]; exact e
  have s' := s.same sm
  have bk : ∀ p, upd (upd H1 dx (.own x)) x (.ins CF dx []) p = none → H1 p = none := fun p e => by
    cases q : H1 p with
    | none => rfl
    | some o => rw [sm p o q] at e; cases e
  refine ⟨x, dx, c, w, rfl, upd_same, by rw [upd_ne ne]; exact upd_same, ne, fun f H' ea hF nk ne' kp => ⟨rfl, ?_⟩⟩
  rw [← ea]
  exact k f H' (hF S (s'.apart nk) (s'.apart ne')) (fun b o e => kp b o (sm b o e) (ne_of_none e hx)) (bk _ nk) (bk _ ne')
section
variable {P : Program} {w : World} {K : PySem.W.Frag} {mg : Str → Option Value} {base : Heap} {A : Ad}
abbrev n_look_at_word : List Str := ["word"]
theorem sc_look_at_word : FnScope n_look_at_word p_look_at_word (defScope s_look_at_word) := ⟨rfl, rfl, rfl, by decide +kernel, rfl, by decide +kernel, by decide +kernel⟩
theorem ok_look_at_word (T : Txt K mg A) : FnOk P w K mg base (L2.CX P w) 2 A.f_look_at_word A.d_look_at_word p_look_at_word spLook := by
  refine T.fn_look_at_word.okX sc_look_at_word (fun vs H Q E h => ?_) (fun cdv B outer s H vs Q E hr h => ?_)
  · obtain ⟨x, rfl, _⟩ := h; rfl
  obtain ⟨x, rfl, px, xne, xl, q⟩ := h
  refine ⟨_, (pss_one (ps_if (PW.pt (pw_or (pt_not (pt_val (pe_call (ok_is_plain T) (hr.mono (by omega)) (by rfl) T.mg_is_plain T.fn_is_plain.kp T.bi_is_plain .nil (passes_call (takes_of rfl rfl rfl rfl) (fun _ _ _ _ h => h)) (pa_cons (pv 0) pa_nil)))) (pw_or1 (pt_not (pt_chain op_le op_le pe_int (pe_callB call_len_str (by rfl) T.z_len bt_len (pa_cons (pv 0) pa_nil)) (pe_kint T.k_MOST_IN_WORD (by rfl))))))) (pss_one (ps_raise0 rfl T.ex_NoText (takes_of rfl rfl rfl rfl) rfl)) pss_nil)), ?_⟩
  have hcap : (cap : Nat) = 16000000 := rfl
  have hcl := cap_line
  have x0 : 0 < x.length := List.length_pos_iff.mpr xne
  walk_at "W"
  refine c_plain (by omega) fun H1 s1 => ?_
  rw [decide_eq_true px]
  refine ⟨_, rfl, iteF ?_⟩
  walk_at "W"
  refine ⟨_, rfl, by rw [sT_len]; omega, ?_⟩
  rw [sT_len]
  walk_at "W"
  refine ite_d (fun h1 => ?_) (fun h1 => absurd (by omega) h1)
  walk_at "W"
  refine ite_n (fun h2 => absurd (by omega) h2) (fun h2 => ?_)
  exact q H1 s1
abbrev n_places_in : List Str := ["plain", "word", "place"]
theorem sc_places_in : FnScope n_places_in p_places_in (defScope s_places_in) := ⟨rfl, rfl, rfl, by decide +kernel, rfl, by decide +kernel, by decide +kernel⟩
theorem ok_places_in (T : Txt K mg A) : FnOk P w K mg base (L2.CX P w) 1 A.f_places_in A.d_places_in p_places_in spPlc := by
  refine T.fn_places_in.okX sc_places_in (fun vs H Q E h => ?_) (fun cdv B outer s H vs Q E hr h => ?_)
  · obtain ⟨l, x, rfl, _⟩ := h; rfl
  obtain ⟨l, x, rfl, ll, xl, q⟩ := h
  refine ⟨_, (pss_one (ps_ret (pe_lc (own := [("place", 2)]) (g := gName 2) rfl sc_places_in.nd (pi_range1 (by rfl) T.z_range (pa_cons (pe_callB call_len_str (by rfl) T.z_len bt_len (pa_cons (pv 0) pa_nil)) pa_nil)) (blkOk_by (own := [("place", 2)]) (N := n_places_in) (sc := defScope s_places_in) (by decide +kernel)) (fun _ _ _ _ _ => (pg_name (i := 2) sc_places_in.nd rfl (Or.inl rfl))) (fun _ _ _ _ _ => (pts_one (pt_cmpR op_eq (pe_slice sl_str (pv 0) (po_some (pv 2)) (po_some (pe_op op_add (pv 2) (pe_callB call_len_str (by rfl) T.z_len bt_len (pa_cons (pv 1) pa_nil))))) (pv 1) (nomark _)))) (fun _ _ _ _ _ => (pv 2))))), ?_⟩
  have hcl := cap_line
  have hcap : (cap : Nat) = 16000000 := rfl
  walk_at "w"
  refine ⟨_, rfl, by rw [sT_len]; omega, l.length, by rw [sT_len], by omega, by omega, fun D nD => ?_⟩
  refine lc_it walk_range (fun i H' => Same H H' ∧ H' D = some (.lst (((List.range i).filter fun p => decide ((l.drop p).take x.length = x)).map fun p => V.int (p : Nat)))) ⟨fun b o e => by rw [upd_ne (ne_of_none e nD)]; exact e, upd_same⟩ (fun _ _ _ _ => trivial) ?_ ?_
  · rintro i y H1 H2 hi ⟨s1, hD1⟩ ⟨rfl, rfl⟩
    refine w_gname ⟨rfl, ?_⟩
    dsimp only
    have hi : i < l.length := hi
    rw [show ((0 : Int) + (i : Nat)) = (i : Nat) by omega]
    walk_at "w"
    refine ⟨_, rfl, ?_⟩
    walk_at "w"
    refine ⟨_, rfl, by rw [sT_len]; omega, ?_⟩
    rw [sT_len]
    walk_at "w"
    refine ⟨_, rfl, _, rfl, by rw [sT_len]; omega, ?_⟩
    rw [show ((i : Int) + (x.length : Nat)) = ((i + x.length : Nat) : Int) by omega, cutS_some, show i + x.length - i = x.length by omega]
    walk_at "w"
    have eS : (sT ((l.drop i).take x.length) = sT x) ↔ (l.drop i).take x.length = x := ⟨fun z => sT_inj z, fun z => by rw [z]⟩
    have er : ∀ b : Bool, decide ((l.drop i).take x.length = x) = b → ((List.range (i + 1)).filter fun p => decide ((l.drop p).take x.length = x)) = ((List.range i).filter fun p => decide ((l.drop p).take x.length = x)) ++ (if b = true then [i] else []) := fun b e => by
      rw [List.range_succ, List.filter_append, List.filter_cons, List.filter_nil, e]
    refine ite_d (fun h1 => ?_) (fun h1 => ?_)
    · walk_at "w"
      refine ⟨_, hD1, ?_, fun b o e => ?_, ?_⟩
      · rw [List.length_map]
        have := List.length_filter_le (fun p => decide ((l.drop p).take x.length = x)) (List.range i)
        rw [List.length_range] at this
        omega
      · rw [upd_ne (ne_of_none e nD)]; exact s1 b o e
      · rw [upd_same, er true (decide_eq_true (eS.mp h1)), List.map_append]; rfl
    · refine ⟨s1, ?_⟩
      rw [er false (decide_eq_false fun z => h1 (eS.mpr z)), hD1]
      simp
  rintro H2 ⟨s2, hD2⟩
  exact q H2 D s2 nD hD2
abbrev n_Finder___init__ : List Str := ["self", "shelf", "word"]
theorem sc_Finder___init__ : FnScope n_Finder___init__ p_Finder___init__ (defScope s_Finder___init__) := ⟨rfl, rfl, rfl, by decide +kernel, rfl, by decide +kernel, by decide +kernel⟩
theorem ok_Finder___init__ (T : Txt K mg A) : FnOk P w K mg base (L2.CX P w) 1 A.f_Finder___init__ A.d_Finder___init__ p_Finder___init__ (spFinder A.C_Finder) := by
  refine T.fn_Finder___init__.okX sc_Finder___init__ (fun vs H Q E h => ?_) (fun cdv B outer s H vs Q E hr h => ?_)
  · obtain ⟨p, dx, c, x, rfl, _⟩ := h; rfl
  obtain ⟨p, dx, c, x, rfl, hp, hd, hne, k⟩ := h
  refine ⟨_, (pss_cons (ps_fld (pv 0) (pv 1) rfl)
      (pss_cons (ps_fld (pv 0) (pv 2) rfl)
      (pss_cons (ps_fld (pv 0) (pe_disp (pps_cons pe_int pe_int pps_nil) (by rfl) (by rfl) (fun z => by cases z) (by decide)) rfl)
      (pss_one (ps_fld (pv 0) pe_dnewK rfl))))), ?_⟩
  refine w_seq ?_
  walk_at "w"
  refine ⟨_, rfl, _, rfl, p, _, dx, _, rfl, hp, T.cl_Finder, T.na_Finder_wood, (by show 0 < 1000; decide), ?_⟩
  rw [show putF "wood" (V.ref c.a) ([] : List (Str × V)) = [(("wood" : Str), V.ref c.a)] from putF_new (ks := ([] : List Str)) rfl (by decide +kernel)]
  generalize e0 : upd H p (.ins A.C_Finder dx [(("wood" : Str), V.ref c.a)]) = H0
  have g0 : H0 p = some (.ins A.C_Finder dx [(("wood" : Str), V.ref c.a)]) := by rw [← e0]; exact upd_same
  have d0 : H0 dx = some (.own p) := by rw [← e0, upd_ne hne]; exact hd
  have fr0 : ∀ b, b ≠ p → H0 b = H b := fun b nb => by rw [← e0]; exact upd_ne nb
  dsimp only
  refine w_seq ?_
  walk_at "w"
  refine ⟨_, rfl, _, rfl, p, _, dx, _, rfl, g0, T.cl_Finder, T.na_Finder_word, (by show 1 < 1000; decide), ?_⟩
  rw [show putF "word" (V.str (sT x)) ([(("wood" : Str), V.ref c.a)] : List (Str × V)) = [(("wood" : Str), V.ref c.a), (("word" : Str), V.str (sT x))] from putF_new (ks := (["wood"] : List Str)) rfl (by decide +kernel)]
  generalize e1 : upd H0 p (.ins A.C_Finder dx [(("wood" : Str), V.ref c.a), (("word" : Str), V.str (sT x))]) = H1
  have g1 : H1 p = some (.ins A.C_Finder dx [(("wood" : Str), V.ref c.a), (("word" : Str), V.str (sT x))]) := by rw [← e1]; exact upd_same
  have d1 : H1 dx = some (.own p) := by rw [← e1, upd_ne hne]; exact d0
  have fr1 : ∀ b, b ≠ p → H1 b = H b := fun b nb => by rw [← e1, upd_ne nb]; exact fr0 b nb
  dsimp only
  refine w_seq ?_
  refine fun zk nk => ⟨upd_same, [(Sum.inl 0, .int 0)], rfl, by decide, ?_⟩
  rw [upd_upd]
  have pk : zk ≠ p := (ne_of_none g1 nk).symm
  refine ⟨_, rfl, p, _, dx, _, rfl, (by rw [upd_ne pk.symm]; exact g1), T.cl_Finder, T.na_Finder_known, (by show 2 < 1000; decide), ?_⟩
  rw [show putF "known" (V.ref zk) ([(("wood" : Str), V.ref c.a), (("word" : Str), V.str (sT x))] : List (Str × V)) = [(("wood" : Str), V.ref c.a), (("word" : Str), V.str (sT x)), (("known" : Str), V.ref zk)] from putF_new (ks := (["wood", "word"] : List Str)) rfl (by decide +kernel)]
  have dk : dx ≠ zk := ne_of_none d1 nk
  generalize e2 : upd (upd H1 zk (.dK (mergeK [] [((Sum.inl 0 : Key), V.int 0)]))) p (.ins A.C_Finder dx [(("wood" : Str), V.ref c.a), (("word" : Str), V.str (sT x)), (("known" : Str), V.ref zk)]) = H2
  have g2 : H2 p = some (.ins A.C_Finder dx [(("wood" : Str), V.ref c.a), (("word" : Str), V.str (sT x)), (("known" : Str), V.ref zk)]) := by rw [← e2]; exact upd_same
  have d2 : H2 dx = some (.own p) := by rw [← e2, upd_ne hne, upd_ne dk]; exact d1
  have k2 : H2 zk = some (.dK [((Sum.inl 0 : Key), V.int 0)]) := by rw [← e2, upd_ne pk]; exact upd_same
  have fr2 : ∀ b o, H b = some o → b ≠ p → H2 b = some o := fun b o e nb => by
    have h1 := fr1 b nb
    have : b ≠ zk := fun z => by rw [← z, h1, e] at nk; cases nk
    rw [← e2, upd_ne nb, upd_ne this, h1]; exact e
  have ok : H zk = none := by rw [← fr1 zk pk]; exact nk
  dsimp only
  refine fun ze ne' => ?_
  have pe : ze ≠ p := (ne_of_none g2 ne').symm
  have ke : zk ≠ ze := ne_of_none k2 ne'
  refine ⟨_, rfl, p, _, dx, _, rfl, (by rw [upd_ne pe.symm]; exact g2), T.cl_Finder, T.na_Finder_ends_known, (by show 3 < 1000; decide), ?_⟩
  rw [show putF "ends_known" (V.ref ze) ([(("wood" : Str), V.ref c.a), (("word" : Str), V.str (sT x)), (("known" : Str), V.ref zk)] : List (Str × V)) = [(("wood" : Str), V.ref c.a), (("word" : Str), V.str (sT x)), (("known" : Str), V.ref zk), (("ends_known" : Str), V.ref ze)] from putF_new (ks := (["wood", "word", "known"] : List Str)) rfl (by decide +kernel)]
  have de : dx ≠ ze := ne_of_none d2 ne'
  have oe : H ze = none := by cases e : H ze with | none => rfl | some o => exact absurd ((fr2 _ o e pe).symm.trans ne') (by simp)
  generalize e3 : upd (upd H2 ze (.dK [])) p (.ins A.C_Finder dx [(("wood" : Str), V.ref c.a), (("word" : Str), V.str (sT x)), (("known" : Str), V.ref zk), (("ends_known" : Str), V.ref ze)]) = H3
  have g3 : H3 p = some (.ins A.C_Finder dx [(("wood" : Str), V.ref c.a), (("word" : Str), V.str (sT x)), (("known" : Str), V.ref zk), (("ends_known" : Str), V.ref ze)]) := by rw [← e3]; exact upd_same
  have d3 : H3 dx = some (.own p) := by rw [← e3, upd_ne hne, upd_ne de]; exact d2
  have k3 : H3 zk = some (.dK [((Sum.inl 0 : Key), V.int 0)]) := by rw [← e3, upd_ne pk, upd_ne ke]; exact k2
  have n3 : H3 ze = some (.dK []) := by rw [← e3, upd_ne pe]; exact upd_same
  refine k ⟨p, dx, zk, ze⟩ H3 rfl (fun S ko eo => ⟨g3, d3, ⟨_, k3, ⟨by simp, fun q hq => ?_⟩, rfl, fun m v e o t => ?_⟩, ⟨_, n3, KeyOk.nil S, fun m v e => nomatch e⟩, ke, ko, eo⟩) ok oe (fun b o e nb => ?_)
  · rw [List.map_cons, List.map_nil, List.mem_singleton] at hq
    exact ⟨0, hq, Int.le_refl _, by omega⟩
  · by_cases z : (Sum.inl 0 : Key) = Sum.inl m
    · rw [valV_pos z] at e
      cases z; cases e
      cases (show Tx S 0 none from rfl).uni t
      rfl
    · rw [valV_neg z] at e; cases e
  · have h2 := fr2 b o e nb
    have : b ≠ ze := ne_of_none h2 ne'
    rw [← e3, upd_ne nb, upd_ne this]; exact h2
abbrev n_Finder_ends_of : List Str := ["self", "text", "reach", "piece", "head", "tail"]
theorem sc_Finder_ends_of : FnScope n_Finder_ends_of p_Finder_ends_of (defScope s_Finder_ends_of) := ⟨rfl, rfl, rfl, by decide +kernel, rfl, by decide +kernel, by decide +kernel⟩
theorem ok_Finder_ends_of (T : Txt K mg A) : ∀ N, FnOk P w K mg base (L2.CX P w) (N + 3) A.f_Finder_ends_of A.d_Finder_ends_of p_Finder_ends_of (spEndsOf A.C_Finder A.C_Shelf N) := by
  intro N
  induction N with
  | zero => exact nevr_ok fun vs H Q E ⟨_, _, _, _, _, _, _, _, _, _, z, _⟩ => by omega
  | succ N ih =>
  refine T.fn_Finder_ends_of.okX sc_Finder_ends_of (fun vs H Q E h => ?_) (fun cdv B outer s H vs Q E hr h => ?_)
  · obtain ⟨f, c, S, x, n, t, rfl, _⟩ := h; rfl
  obtain ⟨f, c, S, x, n, t, rfl, hF, hS, ht, hN, xne, xl, q⟩ := h
  have hu := hu_of hr
  refine ⟨_, (pss_cons (ps_if (pt_cmp (pc_dnotin hu (pv 1) (pe_fld (pv 0) rfl))) (pss_cons (ps_set (i := 2) sc_Finder_ends_of.nd rfl (Or.inl rfl) (pe_op op_sub (pe_callB call_len_str (by rfl) T.z_len bt_len (pa_cons (pe_fld (pv 0) rfl) pa_nil)) pe_int))
      (pss_cons (ps_set (i := 3) sc_Finder_ends_of.nd rfl (Or.inl rfl) (pe_meth (pe_fld (pv 0) rfl) T.cl_Shelf T.me_Shelf_piece (ok_Shelf_piece T) (hr.mono (by omega)) T.bi_Shelf_piece .nil (passes_call (takes_of rfl rfl rfl rfl) (fun _ _ _ _ h => h)) (pa_cons (pv 1) pa_nil)))
      (pss_cons (ps_if (pt_cmpR op_eq (pe_ix ix_tup (pv 3) pe_int (fun _ _ => rfl)) pe_str (nomark _)) (pss_cons (ps_set (i := 4) sc_Finder_ends_of.nd rfl (Or.inl rfl) (pe_ix ix_tup (pv 3) pe_int (fun _ _ => rfl)))
      (pss_one (ps_set (i := 5) sc_Finder_ends_of.nd rfl (Or.inl rfl) (pe_ix ix_tup (pv 3) pe_int (fun _ _ => rfl))))) (pss_cons (ps_set (i := 4) sc_Finder_ends_of.nd rfl (Or.inl rfl) (pe_op op_add_str (pe_ix ix_tup (pe_meth (pv 0) T.cl_Finder T.me_Finder_ends_of ih (hr.mono (by omega)) T.bi_Finder_ends_of .nil (passes_call (takes_of rfl rfl rfl rfl) (fun _ _ _ _ h => h)) (pa_cons (pe_ix ix_tup (pv 3) pe_int (fun _ _ => rfl)) pa_nil)) pe_int (fun _ _ => rfl)) (pe_ix ix_tup (pe_meth (pv 0) T.cl_Finder T.me_Finder_ends_of ih (hr.mono (by omega)) T.bi_Finder_ends_of .nil (passes_call (takes_of rfl rfl rfl rfl) (fun _ _ _ _ h => h)) (pa_cons (pe_ix ix_tup (pv 3) pe_int (fun _ _ => rfl)) pa_nil)) pe_int (fun _ _ => rfl))))
      (pss_one (ps_set (i := 5) sc_Finder_ends_of.nd rfl (Or.inl rfl) (pe_op op_add_str (pe_ix ix_tup (pe_meth (pv 0) T.cl_Finder T.me_Finder_ends_of ih (hr.mono (by omega)) T.bi_Finder_ends_of .nil (passes_call (takes_of rfl rfl rfl rfl) (fun _ _ _ _ h => h)) (pa_cons (pe_ix ix_tup (pv 3) pe_int (fun _ _ => rfl)) pa_nil)) pe_int (fun _ _ => rfl)) (pe_ix ix_tup (pe_meth (pv 0) T.cl_Finder T.me_Finder_ends_of ih (hr.mono (by omega)) T.bi_Finder_ends_of .nil (passes_call (takes_of rfl rfl rfl rfl) (fun _ _ _ _ h => h)) (pa_cons (pe_ix ix_tup (pv 3) pe_int (fun _ _ => rfl)) pa_nil)) pe_int (fun _ _ => rfl)))))))
      (pss_one (ps_dput hu (pe_fld (pv 0) rfl) (pv 1) (pe_tup (pa_cons (pe_slice sl_str (pv 4) po_none (po_some (pv 2))) (pa_cons (pe_slice sl_str (pv 5) (po_some (pe_callB (call_max2 rfl) (by rfl) T.z_max bt_max (pa_cons pe_int (pa_cons (pe_op op_sub (pe_callB call_len_str (by rfl) T.z_len bt_len (pa_cons (pv 5) pa_nil)) (pv 2)) pa_nil)))) po_none) pa_nil))) rfl))))) pss_nil)
      (pss_one (ps_ret (pe_dget hu (pe_fld (pv 0) rfl) (pv 1) (fun _ _ => rfl))))), ?_⟩
  have hcl := cap_line
  have hcap : (cap : Nat) = 16000000 := rfl
  obtain ⟨kv, ek, ok, known⟩ := hF.en
  have back : ∀ H', FiGo A.C_Finder f c S x H H' → (∃ kv' v, H' f.en = some (.dK kv') ∧ valV kv' (Sum.inl n) = some v) →
      ∃ kv' r, H' f.en = some (.dK kv') ∧ valV kv' (Sum.inl n) = some (.ref r) ∧ H' r = some (.tup [.str (sT (hdW x t.txt)), .str (sT (tlW x t.txt))]) := fun H' g ⟨kv', v, e1, e2⟩ => by
    obtain ⟨k2, g1, g2, g3⟩ := g.fi.en
    rw [e1] at g1; cases g1
    obtain ⟨r, e3, e4⟩ := g3 n v e2 (some t) ht
    rw [e3] at e2
    exact ⟨kv', r, e1, e2, e4⟩
  walk_at "s"
  refine ⟨_, rfl, ?_⟩
  walk_at "w"
  generalize hD : Ends.mk _ _ _ _ = D
  have fin : ∀ H' x2 x3 x4 x5, FiGo A.C_Finder f c S x H H' → (∃ kv' v, H' f.en = some (.dK kv') ∧ valV kv' (Sum.inl n) = some v) → D.nx [some (.ref f.a), some (.int n), x2, x3, x4, x5] H' := fun H' x2 x3 x4 x5 g h => by
    obtain ⟨kv', r, e1, e2, e3⟩ := back H' g h
    rw [← hD]; dsimp only
    walk_at "w"
    refine ⟨_, rfl, ?_⟩
    walk_at "w"
    refine ⟨f.a, _, _, _, _, rfl, g.fi.ob, T.cl_Finder, T.na_Finder_ends_known, ff_ends _ _ _, ?_⟩
    walk_at "w"
    refine ⟨f.en, _, rfl, by have := DGet.k (k := Sum.inl n) e1; rw [e2] at this; exact this, ?_⟩
    exact q H' r g e3
  refine ⟨f.a, _, _, _, _, rfl, hF.ob, T.cl_Finder, T.na_Finder_ends_known, ff_ends _ _ _, f.en, _, rfl, DGet.k (k := Sum.inl n) ek, _, rfl, ?_⟩
  cases ev : valV kv (Sum.inl n) with
  | some v =>
    refine iteF ?_
    refine w_next ?_
    exact fin H none none none none (FiGo.refl hF) ⟨kv, v, ek, ev⟩
  | none =>
  refine iteT ?_
  walk_at "s"
  refine ⟨f.a, _, _, _, _, rfl, hF.ob, T.cl_Finder, T.na_Finder_word, ff_word _ _ _, ?_⟩
  walk_at "w"
  refine ⟨_, rfl, by rw [sT_len]; omega, ?_⟩
  rw [sT_len]
  walk_at "w"
  walk_at "nx"
  walk_at "s"
  refine ⟨f.a, _, _, _, _, rfl, hF.ob, T.cl_Finder, T.na_Finder_wood, ff_wood _ _ _, ?_⟩
  walk_at "w"
  refine c_piece hS ht fun r hr' => ?_
  walk_at "nx"
  have x0 : 0 < x.length := List.length_pos_iff.mpr xne
  obtain ⟨k, kx⟩ : ∃ k : Nat, k = x.length - 1 := ⟨_, rfl⟩
  rw [show ((x.length : Int) - 1) = (k : Nat) by omega]
  walk_at "s"
  generalize hD2 : Ends.mk _ _ _ _ = D2
  have put : ∀ H' (hh tt : List Nat), FiGo A.C_Finder f c S x H H' → hh.length ≤ 1000 → tt.length ≤ 1000 → hh.take k = hdW x t.txt → tt.drop (tt.length - k) = tlW x t.txt →
      D2.nx [some (.ref f.a), some (.int n), some (.int k), some (.ref r), some (.str (sT hh)), some (.str (sT tt))] H' := fun H' hh tt g lh lt eh et => by
    rw [← hD2]; dsimp only
    show tTup _ _ _ _
    walk_at "w"
    refine ⟨_, rfl, _, rfl, by rw [sT_len]; omega, ?_⟩
    rw [cutS_pre, eh]
    walk_at "w"
    refine ⟨_, rfl, by rw [sT_len]; omega, ?_⟩
    rw [sT_len]
    walk_at "w"
    refine ⟨_, _, rfl, ?_⟩
    rw [show (if (tt.length : Int) - (k : Nat) > 0 then (tt.length : Int) - (k : Nat) else 0) = ((tt.length - k : Nat) : Int) by split <;> omega]
    walk_at "w"
    refine ⟨_, rfl, _, rfl, by rw [sT_len]; omega, ?_⟩
    rw [cutS_suf, et]
    walk_at "w"
    refine ⟨line_of (n := 2) rfl (by decide), fun p np => ?_⟩
    obtain ⟨H2, e2, s2, hp2⟩ := new_of (o := .tup [.str (sT (hdW x t.txt)), .str (sT (tlW x t.txt))]) np
    rw [e2]
    have g2 := g.same s2
    walk_at "w"
    refine ⟨f.a, _, _, _, _, rfl, g2.fi.ob, T.cl_Finder, T.na_Finder_ends_known, ff_ends _ _ _, ?_⟩
    walk_at "w"
    obtain ⟨kv', e1, o1, _⟩ := g2.fi.en
    have l1 := o1.len
    have l2 := hS.cp
    refine ⟨f.en, _, rfl, DPut.k (k := Sum.inl n) e1 (by rw [sizeLine_eq]; omega), ?_⟩
    have ht' : Tx S n (some t) := ht
    have g3 := g2.fi.knowE e1 ht' hp2
    exact fin _ _ _ _ _ ⟨g3, g2.kp.trans (KeepL.upd (by simp))⟩ ⟨_, _, upd_same, by rw [valV_put, if_pos rfl]⟩
  cases t with
  | lf l =>
    refine w_ixt (SqT.of hr') (v := .str "leaf") rfl ?_
    walk_at "w"
    refine ite_d (fun _ => ?_) (fun z => absurd rfl z)
    walk_at "s"
    refine w_ixt (SqT.of hr') (v := .str (sT l)) rfl ?_
    walk_at "nx"
    walk_at "w"
    refine w_ixt (SqT.of hr') (v := .str (sT l)) rfl ?_
    walk_at "nx"
    have ol := hS.gd.ok _ ht.mem
    refine put H l l (FiGo.refl hF) (by have := ol.2.1; omega) (by have := ol.2.1; omega) ?_ ?_
    · unfold hdW; rw [← kx]; rfl
    · unfold tlW; rw [← kx]; rfl
  | fk a b =>
    refine w_ixt (SqT.of hr') (v := .str "fork") rfl ?_
    walk_at "w"
    refine ite_d (fun z => absurd z.symm leaf_ne_fork) (fun _ => ?_)
    obtain ⟨ma, mb⟩ := hS.gd.parts2 ht
    have eht : (Tr.fk a b).ht = 1 + max a.ht b.ht := rfl
    have child : ∀ {m : Int} {u : Tr}, Nm S m u → u.ht < N → ∀ H1, FiGo A.C_Finder f c S x H H1 → ∀ (i : Int) (l : List Nat), (i = 0 ∧ l = hdW x u.txt ∨ i = 1 ∧ l = tlW x u.txt) → ∀ Q2 : VK, (∀ H2, FiGo A.C_Finder f c S x H H2 → Q2 (.str (sT l)) H2) →
        spEndsOf A.C_Finder A.C_Shelf N [.ref f.a, .int m] H1 (fun v H3 => rIxT K v (.int i) H3 Q2) E := fun {m u} hm hu' H1 g i l hil Q2 k2 => by
      refine ⟨f, c, S, x, m, u, rfl, g.fi, g.sh hF hS, hm, hu', xne, xl, fun H2 r2 g2 h2 => ?_⟩
      rcases hil with ⟨rfl, rfl⟩ | ⟨rfl, rfl⟩
      · exact w_ixt (SqT.of h2) (v := .str (sT (hdW x u.txt))) rfl (k2 H2 (g.trans g2))
      · exact w_ixt (SqT.of h2) (v := .str (sT (tlW x u.txt))) rfl (k2 H2 (g.trans g2))
    have rr : ∀ {H1}, FiGo A.C_Finder f c S x H H1 → H1 r = some (.tup (pvals S (.fk a b))) := fun g => g.tup hF _ _ hr'
    have i1 : atI (pvals S (.fk a b)) 1 = some (.int (num S a)) := rfl
    have i2 : atI (pvals S (.fk a b)) 2 = some (.int (num S b)) := rfl
    have la := hdW_len x a.txt
    have lb := hdW_len x b.txt
    have ta := tlW_len x a.txt
    have tb := tlW_len x b.txt
    walk_at "s"
    refine w_fm hF (by decide +kernel) ?_
    walk_at "w"
    refine w_ixt (SqT.of hr') i1 ?_
    walk_at "w"
    refine child ma (by omega) H (FiGo.refl hF) 0 _ (.inl ⟨rfl, rfl⟩) _ fun H1 g1 => ?_
    walk_at "w"
    refine w_fm g1.fi (by decide +kernel) ?_
    walk_at "w"
    refine w_ixt (SqT.of (rr g1)) i2 ?_
    walk_at "w"
    refine child mb (by omega) H1 g1 0 _ (.inl ⟨rfl, rfl⟩) _ fun H2 g2 => ?_
    refine ⟨_, _, rfl, rfl, by rw [sT_len, sT_len, sizeLine_eq]; omega, ?_⟩
    rw [sT_app]
    walk_at "nx"
    walk_at "w"
    refine w_fm g2.fi (by decide +kernel) ?_
    walk_at "w"
    refine w_ixt (SqT.of (rr g2)) i1 ?_
    walk_at "w"
    refine child ma (by omega) H2 g2 1 _ (.inr ⟨rfl, rfl⟩) _ fun H3 g3 => ?_
    walk_at "w"
    refine w_fm g3.fi (by decide +kernel) ?_
    walk_at "w"
    refine w_ixt (SqT.of (rr g3)) i2 ?_
    walk_at "w"
    refine child mb (by omega) H3 g3 1 _ (.inr ⟨rfl, rfl⟩) _ fun H4 g4 => ?_
    refine ⟨_, _, rfl, rfl, by rw [sT_len, sT_len, sizeLine_eq]; omega, ?_⟩
    rw [sT_app]
    walk_at "nx"
    have et : (Tr.fk a b).txt = a.txt ++ b.txt := rfl
    refine put H4 _ _ g4 (by rw [List.length_append]; omega) (by rw [List.length_append]; omega) ?_ ?_
    · rw [et, hdW_app, kx]
    · rw [et, tlW_app, kx]
abbrev n_Finder_seam : List Str := ["self", "one", "other", "tail", "begin"]
theorem sc_Finder_seam : FnScope n_Finder_seam p_Finder_seam (defScope s_Finder_seam) := ⟨rfl, rfl, rfl, by decide +kernel, rfl, by decide +kernel, by decide +kernel⟩
theorem ok_Finder_seam (T : Txt K mg A) (N : Nat) : FnOk P w K mg base (L2.CX P w) (N + 4) A.f_Finder_seam A.d_Finder_seam p_Finder_seam (spSeam A.C_Finder A.C_Shelf N) := by
  have EE := ok_Finder_ends_of (P := P) (w := w) (base := base) T N
  refine T.fn_Finder_seam.okX sc_Finder_seam (fun vs H Q E h => ?_) (fun cdv B outer s H vs Q E hr h => ?_)
  · obtain ⟨f, c, S, x, n, m, t, u, rfl, _⟩ := h; rfl
  obtain ⟨f, c, S, x, n, m, t, u, rfl, hF, hS, ht, hu', tN, uN, xne, xl, q⟩ := h
  refine ⟨_, (pss_cons (ps_set (i := 3) sc_Finder_seam.nd rfl (Or.inl rfl) (pe_ix ix_tup (pe_meth (pv 0) T.cl_Finder T.me_Finder_ends_of EE (hr.mono (by omega)) T.bi_Finder_ends_of .nil (passes_call (takes_of rfl rfl rfl rfl) (fun _ _ _ _ h => h)) (pa_cons (pv 1) pa_nil)) pe_int (fun _ _ => rfl)))
      (pss_cons (ps_set (i := 4) sc_Finder_seam.nd rfl (Or.inl rfl) (pe_op op_sub (pe_meth (pe_fld (pv 0) rfl) T.cl_Shelf T.me_Shelf_signs (ok_Shelf_signs T) (hr.mono (by omega)) T.bi_Shelf_signs .nil (passes_call (takes_of rfl rfl rfl rfl) (fun _ _ _ _ h => h)) (pa_cons (pv 1) pa_nil)) (pe_callB call_len_str (by rfl) T.z_len bt_len (pa_cons (pv 3) pa_nil))))
      (pss_one (ps_ret (pe_tup (pa_cons (pv 4) (pa_cons (pe_call (ok_places_in T) (hr.mono (by omega)) (by rfl) T.mg_places_in T.fn_places_in.kp T.bi_places_in .nil (passes_call (takes_of rfl rfl rfl rfl) (fun _ _ _ _ h => h)) (pa_cons (pe_op op_add_str (pv 3) (pe_ix ix_tup (pe_meth (pv 0) T.cl_Finder T.me_Finder_ends_of EE (hr.mono (by omega)) T.bi_Finder_ends_of .nil (passes_call (takes_of rfl rfl rfl rfl) (fun _ _ _ _ h => h)) (pa_cons (pv 2) pa_nil)) pe_int (fun _ _ => rfl))) (pa_cons (pe_fld (pv 0) rfl) pa_nil))) pa_nil))))))), ?_⟩
  have hcl := cap_line
  have hcap : (cap : Nat) = 16000000 := rfl
  have la := tlW_len x t.txt
  have lb := hdW_len x u.txt
  have lt : t.txt.length = t.sg := sg_txt t
  walk_at "s"
  refine w_fm hF (by decide +kernel) ?_
  walk_at "w"
  refine ⟨f, c, S, x, n, t, rfl, hF, hS, ht, tN, xne, xl, fun H1 r1 g1 h1 => ?_⟩
  walk_at "w"
  refine w_ixt (SqT.of h1) (v := .str (sT (tlW x t.txt))) rfl ?_
  walk_at "nx"
  have hS1 := g1.sh hF hS
  walk_at "s"
  refine ⟨f.a, _, _, _, _, rfl, g1.fi.ob, T.cl_Finder, T.na_Finder_wood, ff_wood _ _ _, ?_⟩
  walk_at "w"
  refine c_sgN hS1 ht ?_
  walk_at "w"
  refine ⟨_, rfl, by rw [sT_len, sizeLine_eq]; omega, ?_⟩
  rw [sT_len]
  walk_at "w"
  walk_at "nx"
  rw [show ((t.sg : Int) - (tlW x t.txt).length) = ((t.txt.length - (tlW x t.txt).length : Nat) : Int) by omega]
  walk_at "w"
  refine w_fm g1.fi (by decide +kernel) ?_
  walk_at "w"
  refine ⟨f, c, S, x, m, u, rfl, g1.fi, hS1, hu', uN, xne, xl, fun H2 r2 g2 h2 => ?_⟩
  have g2' := g1.trans g2
  walk_at "w"
  refine w_ixt (SqT.of h2) (v := .str (sT (hdW x u.txt))) rfl ?_
  refine ⟨_, _, rfl, rfl, by rw [sT_len, sT_len, sizeLine_eq]; omega, ?_⟩
  rw [sT_app]
  walk_at "w"
  refine ⟨f.a, _, _, _, _, rfl, g2.fi.ob, T.cl_Finder, T.na_Finder_word, ff_word _ _ _, ?_⟩
  walk_at "w"
  refine ⟨_, x, rfl, by rw [List.length_append]; omega, xl, fun H3 q3 s3 n3 h3 => ?_⟩
  walk_at "w"
  refine ⟨line_of (n := 2) rfl (by decide), fun p np => ?_⟩
  obtain ⟨H4, e4, s4, h4⟩ := new_of (o := .tup [.int ((t.txt.length - (tlW x t.txt).length : Nat) : Int), .ref q3]) np
  rw [e4]
  exact q H4 p q3 ((g2'.same s3).same s4) (s4 _ _ h3) h4
abbrev n_Finder_often : List Str := ["self", "text", "piece", "across"]
theorem sc_Finder_often : FnScope n_Finder_often p_Finder_often (defScope s_Finder_often) := ⟨rfl, rfl, rfl, by decide +kernel, rfl, by decide +kernel, by decide +kernel⟩
theorem ok_Finder_often (T : Txt K mg A) : ∀ N, FnOk P w K mg base (L2.CX P w) (N + 5) A.f_Finder_often A.d_Finder_often p_Finder_often (spOften A.C_Finder A.C_Shelf N) := by
  intro N
  induction N with
  | zero => exact nevr_ok fun vs H Q E ⟨_, _, _, _, _, _, _, _, _, _, z, _⟩ => by omega
  | succ N ih =>
  have SS := ok_Finder_seam (P := P) (w := w) (base := base) T N
  refine T.fn_Finder_often.okX sc_Finder_often (fun vs H Q E h => ?_) (fun cdv B outer s H vs Q E hr h => ?_)
  · obtain ⟨f, c, S, x, n, o, rfl, _⟩ := h; rfl
  obtain ⟨f, c, S, x, n, o, rfl, hF, hS, ho, hN, xne, xl, q⟩ := h
  have hu := hu_of hr
  refine ⟨_, (pss_cons (ps_if (pt_cmp (pc_dnotin hu (pv 1) (pe_fld (pv 0) rfl))) (pss_cons (ps_set (i := 2) sc_Finder_often.nd rfl (Or.inl rfl) (pe_meth (pe_fld (pv 0) rfl) T.cl_Shelf T.me_Shelf_piece (ok_Shelf_piece T) (hr.mono (by omega)) T.bi_Shelf_piece .nil (passes_call (takes_of rfl rfl rfl rfl) (fun _ _ _ _ h => h)) (pa_cons (pv 1) pa_nil)))
      (pss_one (ps_if (pt_cmpR op_eq (pe_ix ix_tup (pv 2) pe_int (fun _ _ => rfl)) pe_str (nomark _)) (pss_one (ps_dput hu (pe_fld (pv 0) rfl) (pv 1) (pe_callB call_len_seq (by rfl) T.z_len bt_len (pa_cons (pe_call (ok_places_in T) (hr.mono (by omega)) (by rfl) T.mg_places_in T.fn_places_in.kp T.bi_places_in .nil (passes_call (takes_of rfl rfl rfl rfl) (fun _ _ _ _ h => h)) (pa_cons (pe_ix ix_tup (pv 2) pe_int (fun _ _ => rfl)) (pa_cons (pe_fld (pv 0) rfl) pa_nil))) pa_nil)) rfl)) (pss_cons (ps_set (i := 3) sc_Finder_often.nd rfl (Or.inl rfl) (pe_callB call_len_seq (by rfl) T.z_len bt_len (pa_cons (pe_ix ix_tup (pe_meth (pv 0) T.cl_Finder T.me_Finder_seam SS (hr.mono (by omega)) T.bi_Finder_seam .nil (passes_call (takes_of rfl rfl rfl rfl) (fun _ _ _ _ h => h)) (pa_cons (pe_ix ix_tup (pv 2) pe_int (fun _ _ => rfl)) (pa_cons (pe_ix ix_tup (pv 2) pe_int (fun _ _ => rfl)) pa_nil))) pe_int (fun _ _ => rfl)) pa_nil)))
      (pss_one (ps_dput hu (pe_fld (pv 0) rfl) (pv 1) (pe_op op_add (pe_op op_add (pe_meth (pv 0) T.cl_Finder T.me_Finder_often ih (hr.mono (by omega)) T.bi_Finder_often .nil (passes_call (takes_of rfl rfl rfl rfl) (fun _ _ _ _ h => h)) (pa_cons (pe_ix ix_tup (pv 2) pe_int (fun _ _ => rfl)) pa_nil)) (pv 3)) (pe_meth (pv 0) T.cl_Finder T.me_Finder_often ih (hr.mono (by omega)) T.bi_Finder_often .nil (passes_call (takes_of rfl rfl rfl rfl) (fun _ _ _ _ h => h)) (pa_cons (pe_ix ix_tup (pv 2) pe_int (fun _ _ => rfl)) pa_nil))) rfl)))))) pss_nil)
      (pss_one (ps_ret (pe_dget hu (pe_fld (pv 0) rfl) (pv 1) (fun _ _ => rfl))))), ?_⟩
  have hcl := cap_line
  have hcap : (cap : Nat) = 16000000 := rfl
  obtain ⟨kv, ek, ok, z0, known⟩ := hF.kn
  walk_at "s"
  refine ⟨_, rfl, ?_⟩
  walk_at "w"
  generalize hD : Ends.mk _ _ _ _ = D
  have fin : ∀ H' x2 x3, FiGo A.C_Finder f c S x H H' → (∃ kv' v, H' f.kn = some (.dK kv') ∧ valV kv' (Sum.inl n) = some v) → D.nx [some (.ref f.a), some (.int n), x2, x3] H' := fun H' x2 x3 g ⟨kv', v, e1, e2⟩ => by
    obtain ⟨k2, g1, _, _, g3⟩ := g.fi.kn
    rw [e1] at g1; cases g1
    have := g3 n v e2 o ho
    subst this
    rw [← hD]; dsimp only
    walk_at "w"
    refine ⟨_, rfl, ?_⟩
    walk_at "w"
    refine ⟨f.a, _, _, _, _, rfl, g.fi.ob, T.cl_Finder, T.na_Finder_known, ff_known _ _ _, ?_⟩
    walk_at "w"
    refine ⟨f.kn, _, rfl, by have := DGet.k (k := Sum.inl n) e1; rw [e2] at this; exact this, ?_⟩
    exact q H' g
  refine ⟨f.a, _, _, _, _, rfl, hF.ob, T.cl_Finder, T.na_Finder_known, ff_known _ _ _, f.kn, _, rfl, DGet.k (k := Sum.inl n) ek, _, rfl, ?_⟩
  cases ev : valV kv (Sum.inl n) with
  | some v =>
    refine iteF ?_
    refine w_next ?_
    exact fin H none none (FiGo.refl hF) ⟨kv, v, ek, ev⟩
  | none =>
  refine iteT ?_
  cases o with
  | none =>
    have : n = 0 := ho
    subst this
    rw [z0] at ev; cases ev
  | some t =>
  have ht : Nm S n t := ho
  have eo : oX (some t) = t.txt := rfl
  have eH : oH (some t) = t.ht := rfl
  rw [eo] at q
  walk_at "s"
  refine ⟨f.a, _, _, _, _, rfl, hF.ob, T.cl_Finder, T.na_Finder_wood, ff_wood _ _ _, ?_⟩
  walk_at "w"
  refine c_piece hS ht fun r hr' => ?_
  walk_at "nx"
  have put : ∀ H' (x3 : Option V) (v : Nat), v = occ x t.txt → FiGo A.C_Finder f c S x H H' → ∀ Dd : Ends, Dd = D → ∃ a H4, V.ref f.kn = .ref a ∧ DPut H' a (.int n) (.int (v : Nat)) H4 ∧ Dd.nx [some (.ref f.a), some (.int n), some (.ref r), x3] H4 := fun H' x3 v ev' g Dd eDd => by
    subst eDd
    obtain ⟨kv', e1, o1, _⟩ := g.fi.kn
    have l1 := o1.len
    have l2 := hS.cp
    refine ⟨f.kn, _, rfl, DPut.k (k := Sum.inl n) e1 (by rw [sizeLine_eq]; omega), ?_⟩
    rw [ev']
    exact fin _ _ _ ⟨g.fi.know (o := some t) e1 ho, g.kp.trans (KeepL.upd (by simp))⟩ ⟨_, _, upd_same, by rw [valV_put, if_pos rfl]⟩
  walk_at "w"
  cases t with
  | lf l =>
    have ol := hS.gd.ok _ ht.mem
    refine w_ixt (SqT.of hr') (v := .str "leaf") rfl ?_
    walk_at "w"
    refine ite_d (fun _ => ?_) (fun z => absurd rfl z)
    have l8 := ol.2.1
    have tl : (Tr.lf l).txt = l := rfl
    show tCB _ _ _ _ _
    walk_at "w"
    refine w_ixt (SqT.of hr') (v := .str (sT l)) rfl ?_
    walk_at "w"
    refine ⟨f.a, _, _, _, _, rfl, hF.ob, T.cl_Finder, T.na_Finder_word, ff_word _ _ _, ?_⟩
    walk_at "w"
    refine ⟨l, x, rfl, by omega, xl, fun H3 q3 s3 n3 h3 => ?_⟩
    have g3 := (FiGo.refl hF).same s3
    walk_at "w"
    refine ⟨q3, _, rfl, .inl (SqL.of h3), ?_⟩
    rw [List.length_map]
    walk_at "w"
    refine ⟨f.a, _, _, _, _, rfl, g3.fi.ob, T.cl_Finder, T.na_Finder_known, ff_known _ _ _, ?_⟩
    walk_at "w"
    exact put H3 none _ rfl g3 D rfl
  | fk a b =>
    refine w_ixt (SqT.of hr') (v := .str "fork") rfl ?_
    walk_at "w"
    refine ite_d (fun z => absurd z.symm leaf_ne_fork) (fun _ => ?_)
    obtain ⟨ma, mb⟩ := hS.gd.parts2 ht
    have eht : (Tr.fk a b).ht = 1 + max a.ht b.ht := rfl
    have rr : ∀ {H1}, FiGo A.C_Finder f c S x H H1 → H1 r = some (.tup (pvals S (.fk a b))) := fun g => g.tup hF _ _ hr'
    have i1 : atI (pvals S (.fk a b)) 1 = some (.int (num S a)) := rfl
    have i2 : atI (pvals S (.fk a b)) 2 = some (.int (num S b)) := rfl
    walk_at "s"
    refine w_fm hF (by decide +kernel) ?_
    walk_at "w"
    refine w_ixt (SqT.of hr') i1 ?_
    walk_at "w"
    refine w_ixt (SqT.of hr') i2 ?_
    walk_at "w"
    refine ⟨f, c, S, x, _, _, a, b, rfl, hF, hS, ma, mb, by omega, by omega, xne, xl, fun H1 r1 q1 g1 h1 h1' => ?_⟩
    walk_at "w"
    refine w_ixt (SqT.of h1') (v := .ref q1) rfl ?_
    walk_at "w"
    refine ⟨q1, _, rfl, .inl (SqL.of h1), ?_⟩
    rw [List.length_map]
    walk_at "nx"
    show tOp _ _ _ _ _ _
    walk_at "w"
    refine w_fm g1.fi (by decide +kernel) ?_
    walk_at "w"
    refine w_ixt (SqT.of (rr g1)) i1 ?_
    walk_at "w"
    refine ⟨f, c, S, x, _, some a, rfl, g1.fi, g1.sh hF hS, ma, by show a.ht < N; omega, xne, xl, fun H2 g2 => ?_⟩
    have g2 := g1.trans g2
    walk_at "w"
    refine w_fm g2.fi (by decide +kernel) ?_
    walk_at "w"
    refine w_ixt (SqT.of (rr g2)) i2 ?_
    walk_at "w"
    refine ⟨f, c, S, x, _, some b, rfl, g2.fi, g2.sh hF hS, mb, by show b.ht < N; omega, xne, xl, fun H3 g3 => ?_⟩
    have g3 := g2.trans g3
    walk_at "w"
    refine ⟨f.a, _, _, _, _, rfl, g3.fi.ob, T.cl_Finder, T.na_Finder_known, ff_known _ _ _, ?_⟩
    walk_at "w"
    have eo2 : occ x (Tr.fk a b).txt = occ x a.txt + (occL x (tlW x a.txt ++ hdW x b.txt)).length + occ x b.txt := occ_app xne a.txt b.txt
    have := put H3 (some (.int ((occL x (tlW x a.txt ++ hdW x b.txt)).length : Nat))) _ eo2.symm g3 D rfl
    rw [show (((occ x a.txt + (occL x (tlW x a.txt ++ hdW x b.txt)).length + occ x b.txt : Nat) : Int)) = (occ x a.txt : Int) + ((occL x (tlW x a.txt ++ hdW x b.txt)).length : Nat) + (occ x b.txt : Nat) by omega] at this
    exact this
abbrev n_count_of : List Str := ["shelf", "text", "word"]
theorem sc_count_of : FnScope n_count_of p_count_of (defScope s_count_of) := ⟨rfl, rfl, rfl, by decide +kernel, rfl, by decide +kernel, by decide +kernel⟩
theorem ok_count_of (T : Txt K mg A) : FnOk P w K mg base (L2.CX P w) 92 A.f_count_of A.d_count_of p_count_of (spCount A.C_Shelf) := by
  have OO := ok_Finder_often (P := P) (w := w) (base := base) T 86
  refine T.fn_count_of.okX sc_count_of (fun vs H Q E h => ?_) (fun cdv B outer s H vs Q E hr h => ?_)
  · obtain ⟨c, S, n, o, x, rfl, _⟩ := h; rfl
  obtain ⟨c, S, n, o, x, rfl, hS, ho, px, xne, xl, q⟩ := h
  refine ⟨_, (pss_cons (ps_expr (pe_meth (pv 0) T.cl_Shelf T.me_Shelf_signs (ok_Shelf_signs T) (hr.mono (by omega)) T.bi_Shelf_signs .nil (passes_call (takes_of rfl rfl rfl rfl) (fun _ _ _ _ h => h)) (pa_cons (pv 1) pa_nil)))
      (pss_cons (ps_expr (pe_call (ok_look_at_word T) (hr.mono (by omega)) (by rfl) T.mg_look_at_word T.fn_look_at_word.kp T.bi_look_at_word .nil (passes_call (takes_of rfl rfl rfl rfl) (fun _ _ _ _ h => h)) (pa_cons (pv 2) pa_nil)))
      (pss_one (ps_ret (pe_meth (pe_make T.mk_Finder (ok_Finder___init__ T) (hr.mono (by omega)) rfl T.mg_Finder T.bi_Finder___init__ .nil (passes_call (takes_of rfl rfl rfl rfl) (fun _ _ _ _ h => h)) (pa_cons (pv 0) (pa_cons (pv 2) pa_nil))) T.cl_Finder T.me_Finder_often OO (hr.mono (by omega)) T.bi_Finder_often .nil (passes_call (takes_of rfl rfl rfl rfl) (fun _ _ _ _ h => h)) (pa_cons (pv 1) pa_nil)))))), ?_⟩
  walk_at "s"
  refine c_sgO hS ho ?_
  walk_at "s"
  refine ⟨x, rfl, px, xne, xl, fun H1 s1 => ?_⟩
  have hS1 := hS.same s1
  walk_at "w"
  refine c_finder hS1 fun f H2 hF s2 n1 n2 => ?_
  walk_at "w"
  refine w_fm hF (by decide +kernel) ?_
  walk_at "w"
  refine ⟨f, c, S, x, n, o, rfl, hF, hS1.same s2, ho, ?_, xne, xl, fun H3 g3 => ?_⟩
  · have low := (hS.gd.okO ho).low
    omega
  refine q H3 fun b o' e => g3.kp b o' ?_ (s2 _ _ (s1 _ _ e))
  have e1 := s1 _ _ e
  simp only [List.mem_cons, List.not_mem_nil, or_false, not_or]
  exact ⟨ne_of_none e1 n1, ne_of_none e1 n2⟩
end

/-! ### repeated -/
def spRepeated (C CN CP CT : Addr) : Sp := fun vs H Q E => ∃ (c : Cells) (S : List Tr) (n m : Int), vs = [.ref c.a, .int n, .int m] ∧ ShAt C c H S ∧ m.natAbs < 2 ^ 200 ∧
  ((¬ inR S n ∧ E (.ref CN) none H) ∨ ∃ o, Tx S n o ∧ ((m < 0 ∧ E (.ref CP) none H) ∨ (0 ≤ m ∧ (mostSg : Int) < oS o * m ∧ E (.ref CT) none H) ∨
   (∃ k : Nat, m = k ∧ k * oS o ≤ mostSg ∧ S.length + 140000 ≤ cap ∧ ∀ H' S' n', Grow C c H S H' S' 130000 (k * oS o) → Tx S' n' (repO o k) → OkO (repO o k) → oX (repO o k) = rp k (oX o) → Q (.int n') H')))
def muM (σ : L2.St) (_ : Hp) : Nat := match σ[2]? with | some (some (V.int m)) => m.toNat | _ => 0
section
variable {P : Program} {w : World} {K : PySem.W.Frag} {mg : Str → Option Value} {base : Heap} {A : Ad}
end

/-! ### cut -/
def spWantS (C CN CP : Addr) : Sp := fun vs H Q E => ∃ c S n a b, vs = [.ref (Cells.a c), .int n, .int a, .int b] ∧ ShAt C c H S ∧
  ((¬ inR S n ∧ E (.ref CN) none H) ∨ ∃ o, Tx S n o ∧ ((¬ (0 ≤ a ∧ a ≤ b ∧ b ≤ oS o) ∧ E (.ref CP) none H) ∨ (0 ≤ a ∧ a ≤ b ∧ b ≤ oS o ∧ Q .non H)))
def spLeafCut (C : Addr) : Sp := fun vs H Q _ => ∃ c S n l k, vs = [.ref (Cells.a c), .int n, .int (k : Nat)] ∧ ShAt C c H S ∧ Nm S n (.lf l) ∧ 0 < k ∧ k < l.length ∧ S.length + 2 ≤ cap ∧
  ∀ H' S' p n1 n2, Grow C c H S H' S' 2 l.length → H' p = some (.tup [.int n1, .int n2]) → Tx S' n1 (some (.lf (l.take k))) → Tx S' n2 (some (.lf (l.drop k))) → Q (.ref p) H'
def spHalves (C : Addr) (N : Nat) : Sp := fun vs H Q _ => ∃ c S n o k, vs = [.ref (Cells.a c), .int n, .int (k : Nat)] ∧ ShAt C c H S ∧ Tx S n o ∧ oH o < N ∧ k ≤ oS o ∧ S.length + chalO o k + 3 ≤ cap ∧
  ∀ H' S' p n1 n2, Grow C c H S H' S' (chalO o k) (oS o) → H' p = some (.tup [.int n1, .int n2]) → Tx S' n1 (halvO o k).1 → Tx S' n2 (halvO o k).2 → Q (.ref p) H'
def cut1 (o : Option Tr) : Nat := 30 * oH o + 20
def spCutAt (C CN CP : Addr) : Sp := fun vs H Q E => ∃ c S n a, vs = [.ref (Cells.a c), .int n, .int a] ∧ ShAt C c H S ∧
  ((¬ inR S n ∧ E (.ref CN) none H) ∨ ∃ o, Tx S n o ∧ ((¬ (0 ≤ a ∧ a ≤ oS o) ∧ E (.ref CP) none H) ∨ ∃ k : Nat, a = k ∧ k ≤ oS o ∧ S.length + 6000 ≤ cap ∧
    ∀ H' S' p n1 n2, Grow C c H S H' S' (chalO o k) (oS o) → H' p = some (.tup [.int n1, .int n2]) → Tx S' n1 (halvO o k).1 → Tx S' n2 (halvO o k).2 → Q (.ref p) H'))
def putO (o : Option Tr) (k : Nat) (p : Option Tr) : Option Tr := joinedO (joinedO (halvO o k).1 p) (halvO o k).2
def cputO (o : Option Tr) (k : Nat) (p : Option Tr) : Nat := chalO o k + cjoin (halvO o k).1 p + cjoin (joinedO (halvO o k).1 p) (halvO o k).2
def spPutIn (C CN CP CT : Addr) : Sp := fun vs H Q E => ∃ c S n a m, vs = [.ref (Cells.a c), .int n, .int a, .int m] ∧ ShAt C c H S ∧
  (((¬ inR S n ∨ ¬ inR S m) ∧ E (.ref CN) none H) ∨ ∃ o p, Tx S n o ∧ Tx S m p ∧ ((¬ (0 ≤ a ∧ a ≤ oS o) ∧ E (.ref CP) none H) ∨ ∃ k : Nat, a = k ∧ k ≤ oS o ∧ ((mostSg < oS o + oS p ∧ E (.ref CT) none H) ∨
    (oS o + oS p ≤ mostSg ∧ S.length + 6000 ≤ cap ∧ ∀ H' S' n', Grow C c H S H' S' (cputO o k p) (oS o + oS p) → Tx S' n' (putO o k p) → Q (.int n') H'))))
def outO (o : Option Tr) (a b : Nat) : Option Tr := joinedO (halvO o a).1 (halvO o b).2
def coutO (o : Option Tr) (a b : Nat) : Nat := chalO o a + chalO o b + cjoin (halvO o a).1 (halvO o b).2
def keepO (o : Option Tr) (a b : Nat) : Option Tr := (halvO (halvO o b).1 a).2
def ckeepO (o : Option Tr) (a b : Nat) : Nat := chalO o b + chalO (halvO o b).1 a
def spSpan (C CN CP : Addr) (f : Option Tr → Nat → Nat → Option Tr) (g : Option Tr → Nat → Nat → Nat) : Sp := fun vs H Q E => ∃ c S n a b, vs = [.ref (Cells.a c), .int n, .int a, .int b] ∧ ShAt C c H S ∧
  ((¬ inR S n ∧ E (.ref CN) none H) ∨ ∃ o, Tx S n o ∧ ((¬ (0 ≤ a ∧ a ≤ b ∧ b ≤ oS o) ∧ E (.ref CP) none H) ∨ ∃ i j : Nat, a = i ∧ b = j ∧ i ≤ j ∧ j ≤ oS o ∧ S.length + 7000 ≤ cap ∧
    ∀ H' S' n', Grow C c H S H' S' (g o i j) (oS o) → Tx S' n' (f o i j) → Q (.int n') H'))
theorem OkO.most {o : Option Tr} (h : OkO o) : oS o ≤ mostSg := by
  cases o with
  | none => exact Nat.zero_le _
  | some t => exact (h t rfl).most
theorem putO_ok {o p : Option Tr} {k : Nat} (ok : OkO o) (okp : OkO p) (kS : k ≤ oS o) (sm : oS o + oS p ≤ mostSg) : OkO (putO o k p) ∧ oX (putO o k p) = (oX o).take k ++ oX p ++ (oX o).drop k ∧ cputO o k p ≤ 5000 ∧ oS (putO o k p) = oS o + oS p := by
  obtain ⟨k1, k2, x1, x2, s1, s2, t1, t2⟩ := halvO_ok ok kS
  have ch := chalO_le ok kS
  have low := ok.low
  have lowp := okp.low
  obtain ⟨j1, j2, j3, j4⟩ := joinedO_ok k1 okp (by omega)
  have js := joinedO_sg k1 okp (by omega)
  have low1 := j1.low
  obtain ⟨j5, j6, j7, j8⟩ := joinedO_ok j1 k2 (by omega)
  have jt := joinedO_sg j1 k2 (by omega)
  refine ⟨j5, ?_, ?_, ?_⟩
  · show oX (joinedO (joinedO (halvO o k).1 p) (halvO o k).2) = _
    rw [j6, j2, x1, x2]
  · show chalO o k + cjoin (halvO o k).1 p + cjoin (joinedO (halvO o k).1 p) (halvO o k).2 ≤ _
    omega
  · show oS (joinedO (joinedO (halvO o k).1 p) (halvO o k).2) = _
    omega
theorem outO_ok {o : Option Tr} {i j : Nat} (ok : OkO o) (ij : i ≤ j) (jS : j ≤ oS o) : OkO (outO o i j) ∧ oX (outO o i j) = (oX o).take i ++ (oX o).drop j ∧ coutO o i j ≤ 6500 ∧ oS (outO o i j) = i + (oS o - j) := by
  obtain ⟨k1, _, x1, _, s1, _, t1, _⟩ := halvO_ok (n := i) ok (by omega)
  obtain ⟨_, k2, _, x2, _, s2, _, t2⟩ := halvO_ok (n := j) ok jS
  have chi := chalO_le (n := i) ok (by omega)
  have chj := chalO_le (n := j) ok jS
  have low := ok.low
  have most := ok.most
  obtain ⟨j5, j6, j7, j8⟩ := joinedO_ok k1 k2 (by omega)
  have jt := joinedO_sg k1 k2 (by omega)
  refine ⟨j5, ?_, ?_, ?_⟩
  · show oX (joinedO (halvO o i).1 (halvO o j).2) = _
    rw [j6, x1, x2]
  · show chalO o i + chalO o j + cjoin (halvO o i).1 (halvO o j).2 ≤ _
    omega
  · show oS (joinedO (halvO o i).1 (halvO o j).2) = _
    omega
theorem keepO_ok {o : Option Tr} {i j : Nat} (ok : OkO o) (ij : i ≤ j) (jS : j ≤ oS o) : OkO (keepO o i j) ∧ oX (keepO o i j) = ((oX o).take j).drop i ∧ ckeepO o i j ≤ 6500 ∧ oS (keepO o i j) = j - i := by
  obtain ⟨k1, _, x1, _, s1, _, t1, _⟩ := halvO_ok (n := j) ok jS
  have chj := chalO_le (n := j) ok jS
  have low := ok.low
  obtain ⟨_, k2, _, x2, _, s2, _, t2⟩ := halvO_ok (n := i) k1 (by omega)
  have chi := chalO_le (n := i) k1 (by omega)
  refine ⟨k2, ?_, ?_, ?_⟩
  · show oX (halvO (halvO o j).1 i).2 = _
    rw [x2, x1]
  · show chalO o j + chalO (halvO o j).1 i ≤ _
    omega
  · show oS (halvO (halvO o j).1 i).2 = _
    omega
section
variable {P : Program} {w : World} {K : PySem.W.Frag} {mg : Str → Option Value} {base : Heap} {A : Ad}
abbrev n_want_stretch : List Str := ["shelf", "text", "begin", "end", "signs"]
theorem sc_want_stretch : FnScope n_want_stretch p_want_stretch (defScope s_want_stretch) := ⟨rfl, rfl, rfl, by decide +kernel, rfl, by decide +kernel, by decide +kernel⟩
theorem ok_want_stretch (T : Txt K mg A) : FnOk P w K mg base (L2.CX P w) 3 A.f_want_stretch A.d_want_stretch p_want_stretch (spWantS A.C_Shelf A.C_NoPiece A.C_NoPlace) := by
  refine T.fn_want_stretch.okX sc_want_stretch (fun vs H Q E h => ?_) (fun cdv B outer s H vs Q E hr h => ?_)
  · obtain ⟨c, S, n, a, b, rfl, _⟩ := h; rfl
  obtain ⟨c, S, n, a, b, rfl, hS, h⟩ := h
  refine ⟨_, (pss_cons (ps_set (i := 4) sc_want_stretch.nd rfl (Or.inl rfl) (pe_meth (pv 0) T.cl_Shelf T.me_Shelf_signs (ok_Shelf_signs T) (hr.mono (by omega)) T.bi_Shelf_signs .nil (passes_call (takes_of rfl rfl rfl rfl) (fun _ _ _ _ h => h)) (pa_cons (pv 1) pa_nil)))
      (pss_one (ps_if (pt_not (pt_chain3 op_le op_le op_le pe_int (pv 2) (pv 3) (pv 4))) (pss_one (ps_raise0 rfl T.ex_NoPlace (takes_of rfl rfl rfl rfl) rfl)) pss_nil))), ?_⟩
  walk_at "s"
  rcases h with ⟨h0, h⟩ | ⟨o, ho, h⟩
  · exact ⟨c, S, n, rfl, hS, .inr ⟨h0, h⟩⟩
  refine c_sgO hS ho ?_
  walk_at "nx"
  walk_at "w"
  have fin : ∀ b' : Bool, (b' = true → 0 ≤ a ∧ a ≤ b ∧ b ≤ oS o) → (b' = false → ¬ (0 ≤ a ∧ a ≤ b ∧ b ≤ oS o)) → if (!b') = true then E (.ref A.C_NoPlace) none H else Q V.non H := fun b' h1 h2 => by
    cases b' with
    | true =>
      have z := h1 rfl
      rcases h with ⟨y, _⟩ | ⟨_, _, _, h⟩
      · exact absurd z y
      · exact h
    | false =>
      have z := h2 rfl
      rcases h with ⟨_, h⟩ | ⟨y1, y2, y3, _⟩
      · exact h
      · exact absurd ⟨y1, y2, y3⟩ z
  refine ite_d (fun z1 => ?_) (fun z1 => ?_)
  · walk_at "w"
    refine ite_d (fun z2 => ?_) (fun z2 => ?_)
    · walk_at "w"
      exact fin _ (fun z3 => ⟨z1, z2, of_decide_eq_true z3⟩) (fun z3 z => of_decide_eq_false z3 z.2.2)
    · walk_at "w"
      exact fin false (fun z => nomatch z) (fun _ z => z2 z.2.1)
  · walk_at "w"
    exact fin false (fun z => nomatch z) (fun _ z => z1 z.1)
abbrev n_leaf_cut : List Str := ["shelf", "leaf", "at", "plain", "parts", "part"]
theorem sc_leaf_cut : FnScope n_leaf_cut p_leaf_cut (defScope s_leaf_cut) := ⟨rfl, rfl, rfl, by decide +kernel, rfl, by decide +kernel, by decide +kernel⟩
theorem ok_leaf_cut (T : Txt K mg A) : FnOk P w K mg base (L2.CX P w) 5 A.f_leaf_cut A.d_leaf_cut p_leaf_cut (spLeafCut A.C_Shelf) := by
  refine T.fn_leaf_cut.okX sc_leaf_cut (fun vs H Q E h => ?_) (fun cdv B outer s H vs Q E hr h => ?_)
  · obtain ⟨c, S, n, l, k, rfl, _⟩ := h; rfl
  obtain ⟨c, S, n, l, k, rfl, hS, hl, k0, kl, cp, q⟩ := h
  refine ⟨_, (pss_cons (ps_set (i := 3) sc_leaf_cut.nd rfl (Or.inl rfl) (pe_call (ok_leaf_text T) (hr.mono (by omega)) (by rfl) T.mg_leaf_text T.fn_leaf_text.kp T.bi_leaf_text .nil (passes_call (takes_of rfl rfl rfl rfl) (fun _ _ _ _ h => h)) (pa_cons (pv 0) (pa_cons (pv 1) pa_nil))))
      (pss_cons (ps_set (i := 4) sc_leaf_cut.nd rfl (Or.inl rfl) (pe_lst pa_nil))
      (pss_cons (ps_for (passes_of rfl) rfl (pi_list (pe_lst (pa_cons (pe_slice sl_str (pv 3) po_none (po_some (pv 2))) (pa_cons (pe_slice sl_str (pv 3) (po_some (pv 2)) po_none) pa_nil)))) (pg_name (i := 5) sc_leaf_cut.nd rfl (Or.inl rfl))
      (pss_one (ps_if (pt_cmpR op_eq (pv 5) pe_str (nomark _)) (pss_one (ps_expr (pe_bm PySem.F.plainAttrs_list PySem.F.slot_list_append PySem.F.type_list_append mt_append (pv 4) (pa_cons pe_int pa_nil)))) (pss_one (ps_expr (pe_bm PySem.F.plainAttrs_list PySem.F.slot_list_append PySem.F.type_list_append mt_append (pv 4) (pa_cons (pe_meth (pv 0) T.cl_Shelf T.me_Shelf_leaf (ok_Shelf_leaf T) (hr.mono (by omega)) T.bi_Shelf_leaf .nil (passes_call (takes_of rfl rfl rfl rfl) (fun _ _ _ _ h => h)) (pa_cons (pv 5) pa_nil)) pa_nil)))))))
      (pss_one (ps_ret (pe_tup (pa_cons (pe_ix ix_list (pv 4) pe_int (fun _ _ => rfl)) (pa_cons (pe_ix ix_list (pv 4) pe_int (fun _ _ => rfl)) pa_nil)))))))), ?_⟩
  walk_at "s"
  refine c_leafText hS hl ?_
  have ol := hS.gd.ok _ hl.mem
  have hlen : (sT l).length ≤ sizeLine := by rw [sT_len, sizeLine_eq]; have := ol.2.1; omega
  walk_at "nx"
  walk_at "s"
  refine ⟨line_of (n := 0) rfl (by decide), fun D nD => ?_⟩
  obtain ⟨H1, e1, s1, hD⟩ := new_of (o := .lst []) nD
  rw [e1]
  walk_at "nx"
  have hS1 := hS.same s1
  have Dc : D ∉ c.all := hS.apart nD
  walk_at "s"
  refine ⟨_, rfl, sT l, rfl, hlen, ?_⟩
  walk_at "w"
  refine ⟨_, rfl, sT l, rfl, hlen, ?_⟩
  show tNil _ _ _
  walk_at "w"
  rw [cutS_pre, cutS_suf]
  refine ⟨line_of (n := 2) rfl (by decide), fun p np => ?_⟩
  obtain ⟨H2, e2, s2, hp⟩ := new_of (o := .lst [V.str (sT (l.take k)), V.str (sT (l.drop k))]) np
  rw [e2]
  have hS2 := hS1.same s2
  refine ⟨p, rfl, ⟨_, SqL.of hp⟩, ?_⟩
  have l1 : (l.take k).length = k := by rw [List.length_take]; omega
  have l2 : (l.drop k).length = l.length - k := List.length_drop
  have o1 : Ok (.lf (l.take k)) := ⟨by omega, by have := ol.2.1; omega, fun x hx => ol.2.2 x (List.mem_of_mem_take hx)⟩
  have o2 : Ok (.lf (l.drop k)) := ⟨by omega, by have := ol.2.1; omega, fun x hx => ol.2.2 x (List.mem_of_mem_drop hx)⟩
  have pc : p ∉ c.all := hS1.apart np
  have pD : p ≠ D := (ne_of_none hD np).symm
  refine for_it (walk_list (xs := [V.str (sT (l.take k)), V.str (sT (l.drop k))])) (fun i σ H' => ∃ (S' : List Tr) (ns : List Int) (x : Option V), σ = [some (.ref c.a), some (.int n), some (.int k), some (.str (sT l)), some (.ref D), x] ∧ Grow A.C_Shelf c H S H' S' i l.length ∧ Nms S' ns ([Tr.lf (l.take k), Tr.lf (l.drop k)].take i) ∧ H' D = some (.lst (ns.map V.int)) ∧ H' p = some (.lst [V.str (sT (l.take k)), V.str (sT (l.drop k))]))
    ⟨S, [], none, rfl, (((Grow.refl hS).same s1).same s2).mono (Nat.zero_le _) (Nat.zero_le _), trivial, s2 _ _ hD, hp⟩ (fun _ _ _ _ ⟨_, _, _, _, _, _, _, z⟩ => SqL.of z) ?_ ?_
  · rintro i x σ H3 H4 hi ⟨S3, ns, y, rfl, g3, m3, hD3, hp3⟩ ⟨rfl, hx⟩
    obtain ⟨u, rfl, u0, ou, ul, eu⟩ : ∃ u, x = .str (sT u) ∧ u ≠ [] ∧ Ok (.lf u) ∧ u.length ≤ l.length ∧ [Tr.lf (l.take k), Tr.lf (l.drop k)].take (i + 1) = [Tr.lf (l.take k), Tr.lf (l.drop k)].take i ++ [Tr.lf u] := by
      have hi : i < 2 := hi
      rcases i with _ | _ | i
      · cases hx; exact ⟨l.take k, rfl, fun z => by have : (l.take k).length = 0 := (by rw [z]; rfl); omega, o1, by omega, rfl⟩
      · cases hx; exact ⟨l.drop k, rfl, fun z => by have : (l.drop k).length = 0 := (by rw [z]; rfl); omega, o2, by omega, rfl⟩
      · omega
    have hi : i < 2 := hi
    have len3 := g3.len
    have hS3 := g3.sh
    refine w_gname ?_
    walk_at "w"
    refine ite_d (fun z => ?_) (fun _ => ?_)
    · exact absurd (sT_inj (z.trans sT_nil)) u0
    walk_at "w"
    refine ⟨.inl ⟨rfl, _, SqL.of hD3⟩, ?_⟩
    walk_at "w"
    refine c_leafG g3.sh ou (by omega) fun H5 S5 n5 g5 m5 => ?_
    have hD5 := g5.kp _ _ Dc hD3
    have hp5 := g5.kp _ _ pc hp3
    refine ⟨D, _, _, rfl, rfl, hD5, ?_, ?_⟩
    · have := m3.len
      rw [List.length_take] at this
      rw [List.length_map, sizeLine_eq]; have : ns.length ≤ 2 := by simp at this; omega
      omega
    refine ⟨S5, ns ++ [n5], _, rfl, ?_, by rw [eu]; exact Nms.snoc m5 (m3.ext g5.ex), by rw [upd_same, List.map_append]; rfl, by rw [upd_ne pD]; exact hp5⟩
    have g35 := (g3.trans g5).mono (Nat.le_refl _) (N := l.length) (by show max l.length u.length ≤ l.length; omega)
    refine ⟨g35.sh.keepL (l := [D]) (KeepL.upd (by simp)) (fun b hb => by rw [List.mem_singleton] at hb; rw [hb]; exact Dc) (tup_upd hD5), g35.ex, g35.len, fun b o nb e => ?_, g35.nw⟩
    rw [upd_ne (ne_of_none e nD)]
    exact g35.kp b o nb e
  rintro σ H3 ⟨S3, ns, x, rfl, g3, m3, hD3, hp3⟩
  obtain ⟨n1, n2, rfl⟩ : ∃ n1 n2, ns = [n1, n2] := by
    have lm := m3.len
    rcases ns with _ | ⟨n1, _ | ⟨n2, _ | ⟨n3, ns⟩⟩⟩
    · cases lm
    · cases lm
    · exact ⟨n1, n2, rfl⟩
    · cases lm
  dsimp only
  walk_at "w"
  refine w_ixl (SqL.of hD3) (v := .int n1) rfl ?_
  walk_at "w"
  refine w_ixl (SqL.of hD3) (v := .int n2) rfl ?_
  walk_at "w"
  refine ⟨line_of (n := 2) rfl (by decide), fun p2 np2 => ?_⟩
  obtain ⟨H5, e5, s5, hp5⟩ := new_of (o := .tup [V.int n1, V.int n2]) np2
  rw [e5]
  exact q H5 S3 p2 n1 n2 (g3.same s5) hp5 m3.1 m3.2.1
abbrev n_halves : List Str := ["shelf", "text", "at", "one", "other", "ahead", "left", "right"]
theorem sc_halves : FnScope n_halves p_halves (defScope s_halves) := ⟨rfl, rfl, rfl, by decide +kernel, rfl, by decide +kernel, by decide +kernel⟩
theorem ok_halves (T : Txt K mg A) : ∀ N, FnOk P w K mg base (L2.CX P w) (N + 102) A.f_halves A.d_halves p_halves (spHalves A.C_Shelf N) := by
  intro N
  induction N with
  | zero => exact nevr_ok fun vs H Q E ⟨_, _, _, _, _, _, _, _, z, _⟩ => by omega
  | succ N ih =>
  refine T.fn_halves.okX sc_halves (fun vs H Q E h => ?_) (fun cdv B outer s H vs Q E hr h => ?_)
  · obtain ⟨c, S, n, o, k, rfl, _⟩ := h; rfl
  obtain ⟨c, S, n, o, k, rfl, hS, ho, hN, kS, cp, q⟩ := h
  refine ⟨_, (pss_cons (ps_if (pt_cmpR op_eq (pv 2) pe_int (nomark _)) (pss_one (ps_ret (pe_tup (pa_cons pe_int (pa_cons (pv 1) pa_nil))))) pss_nil)
      (pss_cons (ps_if (pt_cmpR op_eq (pv 2) (pe_meth (pv 0) T.cl_Shelf T.me_Shelf_signs (ok_Shelf_signs T) (hr.mono (by omega)) T.bi_Shelf_signs .nil (passes_call (takes_of rfl rfl rfl rfl) (fun _ _ _ _ h => h)) (pa_cons (pv 1) pa_nil)) (nomark _)) (pss_one (ps_ret (pe_tup (pa_cons (pv 1) (pa_cons pe_int pa_nil))))) pss_nil)
      (pss_cons (ps_if (pt_val (pe_call (ok_is_leaf T) (hr.mono (by omega)) (by rfl) T.mg_is_leaf T.fn_is_leaf.kp T.bi_is_leaf .nil (passes_call (takes_of rfl rfl rfl rfl) (fun _ _ _ _ h => h)) (pa_cons (pv 0) (pa_cons (pv 1) pa_nil)))) (pss_one (ps_ret (pe_call (ok_leaf_cut T) (hr.mono (by omega)) (by rfl) T.mg_leaf_cut T.fn_leaf_cut.kp T.bi_leaf_cut .nil (passes_call (takes_of rfl rfl rfl rfl) (fun _ _ _ _ h => h)) (pa_cons (pv 0) (pa_cons (pv 1) (pa_cons (pv 2) pa_nil)))))) pss_nil)
      (pss_cons (ps_asg (pe_call (ok_parts_of T) (hr.mono (by omega)) (by rfl) T.mg_parts_of T.fn_parts_of.kp T.bi_parts_of .nil (passes_call (takes_of rfl rfl rfl rfl) (fun _ _ _ _ h => h)) (pa_cons (pv 0) (pa_cons (pv 1) pa_nil))) (pg_tup rfl (pgs_cons (pg_name (i := 3) sc_halves.nd rfl (Or.inl rfl)) (pgs_cons (pg_name (i := 4) sc_halves.nd rfl (Or.inl rfl)) pgs_nil))))
      (pss_cons (ps_set (i := 5) sc_halves.nd rfl (Or.inl rfl) (pe_meth (pv 0) T.cl_Shelf T.me_Shelf_signs (ok_Shelf_signs T) (hr.mono (by omega)) T.bi_Shelf_signs .nil (passes_call (takes_of rfl rfl rfl rfl) (fun _ _ _ _ h => h)) (pa_cons (pv 3) pa_nil)))
      (pss_cons (ps_if (pt_cmpR op_lt (pv 2) (pv 5) (nomark _)) (pss_cons (ps_asg (pe_call ih (hr.mono (by omega)) (by rfl) T.mg_halves T.fn_halves.kp T.bi_halves .nil (passes_call (takes_of rfl rfl rfl rfl) (fun _ _ _ _ h => h)) (pa_cons (pv 0) (pa_cons (pv 3) (pa_cons (pv 2) pa_nil)))) (pg_tup rfl (pgs_cons (pg_name (i := 6) sc_halves.nd rfl (Or.inl rfl)) (pgs_cons (pg_name (i := 7) sc_halves.nd rfl (Or.inl rfl)) pgs_nil))))
      (pss_one (ps_ret (pe_tup (pa_cons (pv 6) (pa_cons (pe_call (ok_joined T) (hr.mono (by omega)) (by rfl) T.mg_joined T.fn_joined.kp T.bi_joined .nil (passes_call (takes_of rfl rfl rfl rfl) (fun _ _ _ _ h => h)) (pa_cons (pv 0) (pa_cons (pv 7) (pa_cons (pv 4) pa_nil)))) pa_nil)))))) pss_nil)
      (pss_cons (ps_asg (pe_call ih (hr.mono (by omega)) (by rfl) T.mg_halves T.fn_halves.kp T.bi_halves .nil (passes_call (takes_of rfl rfl rfl rfl) (fun _ _ _ _ h => h)) (pa_cons (pv 0) (pa_cons (pv 4) (pa_cons (pe_op op_sub (pv 2) (pv 5)) pa_nil)))) (pg_tup rfl (pgs_cons (pg_name (i := 6) sc_halves.nd rfl (Or.inl rfl)) (pgs_cons (pg_name (i := 7) sc_halves.nd rfl (Or.inl rfl)) pgs_nil))))
      (pss_one (ps_ret (pe_tup (pa_cons (pe_call (ok_joined T) (hr.mono (by omega)) (by rfl) T.mg_joined T.fn_joined.kp T.bi_joined .nil (passes_call (takes_of rfl rfl rfl rfl) (fun _ _ _ _ h => h)) (pa_cons (pv 0) (pa_cons (pv 3) (pa_cons (pv 6) pa_nil)))) (pa_cons (pv 7) pa_nil)))))))))))), ?_⟩
  walk_at "s"
  have low := (hS.gd.okO ho).low
  refine ite_d (fun h0 => ?_) (fun h0 => ?_)
  · walk_at "w"
    have k0 : k = 0 := by omega
    subst k0
    have ev : halvO o 0 = (none, o) := by cases o with | none => rfl | some t => exact halv_0 t
    refine ⟨line_of (n := 2) rfl (by decide), fun p np => ?_⟩
    obtain ⟨H1, e1, s1, hp⟩ := new_of (o := .tup [V.int 0, V.int n]) np
    rw [e1]
    exact q H1 S p 0 n (((Grow.refl hS).same s1).mono (Nat.zero_le _) (Nat.zero_le _)) hp (by rw [ev]; rfl) (by rw [ev]; exact ho)
  walk_at "sk"
  walk_at "s"
  refine c_sgO hS ho ?_
  walk_at "w"
  have k0 : k ≠ 0 := by omega
  cases o with
  | none => have kS : k ≤ 0 := kS; omega
  | some t =>
  have ht : Nm S n t := ho
  have ot := hS.gd.ok _ ht.mem
  have es : oS (some t) = t.sg := rfl
  have ev0 : halvO (some t) k = halv t k := rfl
  have ec0 : chalO (some t) k = chl t k + chr' t k + 2 := rfl
  have eh0 : oH (some t) = t.ht := rfl
  rw [ev0] at q
  refine ite_d (fun h1 => ?_) (fun h1 => ?_)
  · walk_at "w"
    have k1 : k = t.sg := by omega
    have ev : halv t k = (some t, none) := by rw [k1]; exact halv_all (by omega)
    refine ⟨line_of (n := 2) rfl (by decide), fun p np => ?_⟩
    obtain ⟨H1, e1, s1, hp⟩ := new_of (o := .tup [V.int n, V.int 0]) np
    rw [e1]
    exact q H1 S p n 0 (((Grow.refl hS).same s1).mono (Nat.zero_le _) (Nat.zero_le _)) hp (by rw [ev]; exact ho) (by rw [ev]; rfl)
  walk_at "sk"
  walk_at "s"
  refine c_isLeaf hS ht ?_
  walk_at "w"
  have k1 : k ≠ t.sg := by omega
  refine ite_d (fun h2 => ?_) (fun h2 => ?_)
  · obtain ⟨l, rfl⟩ := ht_zero h2
    walk_at "w"
    have el : (Tr.lf l).sg = l.length := rfl
    have ev : halv (.lf l) k = (some (.lf (l.take k)), some (.lf (l.drop k))) := by
      show (if k = 0 then _ else if k = l.length then _ else _) = _
      rw [if_neg k0, if_neg (by omega)]
    rw [ev] at q
    exact ⟨c, S, n, l, k, rfl, hS, ht, by omega, by omega, by omega, fun H1 S1 p n1 n2 g1 hp t1 t2 => q H1 S1 p n1 n2 (g1.mono (by omega) (Nat.le_refl _)) hp t1 t2⟩
  walk_at "sk"
  obtain ⟨a, b, rfl⟩ := ht_pos h2
  obtain ⟨ma, mb⟩ := hS.gd.parts2 ht
  obtain ⟨oa, ob, l1, l2, c2, s2⟩ := id ot
  have et : (Tr.fk a b).ht = 1 + max a.ht b.ht := rfl
  have esg : (Tr.fk a b).sg = a.sg + b.sg := rfl
  have ea : oS (some a) = a.sg := rfl
  have eb : oS (some b) = b.sg := rfl
  walk_at "s"
  refine c_parts hS ht fun p1 H1 np s1 hp1 => ?_
  refine w_gtup (SqT.of hp1) rfl (w_gcons (w_gname (w_gcons (w_gname (w_gnil ?_)))))
  dsimp only
  have hS1 := hS.same s1
  walk_at "s"
  refine c_sgN hS1 ma ?_
  walk_at "nx"
  walk_at "s"
  refine ite_d (fun h3 => ?_) (fun h3 => ?_)
  · have h3 : k < a.sg := by omega
    obtain ⟨d1, d2⟩ := chal_l (b := b) k0 h3
    have ev := halv_l (b := b) k0 h3
    have ok := halv_ok oa (Nat.le_of_lt h3)
    have sz := ok.s2
    have ec1 : chalO (some a) k = chl a k + chr' a k + 2 := rfl
    walk_at "s"
    refine ⟨c, S, _, some a, k, rfl, hS1, ma, by show a.ht < N; omega, by omega, by omega, fun H2 S2 p2 n1 n2 g2 hp2 t1 t2 => ?_⟩
    refine w_gtup (SqT.of hp2) rfl (w_gcons (w_gname (w_gcons (w_gname (w_gnil ?_)))))
    dsimp only
    have len2 := g2.len
    walk_at "w"
    refine ⟨c, S2, n2, _, rfl, g2.sh, .inr ⟨(halv a k).2, some b, t2, mb.ext g2.ex, .inr ⟨by omega, by omega, fun H3 S3 n3 g3 t3 => ?_⟩⟩⟩
    walk_at "w"
    refine ⟨line_of (n := 2) rfl (by decide), fun p np => ?_⟩
    obtain ⟨H4, e4, s4, hp⟩ := new_of (o := .tup [V.int n1, V.int n3]) np
    rw [e4]
    rw [ev] at q
    exact q H4 S3 p n1 n3 (((((Grow.refl hS).same s1).trans (g2.trans g3)).same s4).mono (by omega) (by omega)) hp (t1.ext g3.ex) t3
  have h3 : ¬ k < a.sg := by omega
  obtain ⟨d1, d2⟩ := chal_r (a := a) (b := b) k0 k1 h3
  have ev := halv_r (a := a) (b := b) k0 k1 h3
  have ok := halv_ok (t := b) (n := k - a.sg) ob (by omega)
  have sz := ok.s1 (by omega)
  have ec1 : chalO (some b) (k - a.sg) = chl b (k - a.sg) + chr' b (k - a.sg) + 2 := rfl
  walk_at "sk"
  walk_at "s"
  have e : (k : Int) - (a.sg : Int) = ((k - a.sg : Nat) : Int) := by omega
  rw [e]
  refine ⟨c, S, _, some b, k - a.sg, rfl, hS1, mb, by show b.ht < N; omega, by omega, by omega, fun H2 S2 p2 n1 n2 g2 hp2 t1 t2 => ?_⟩
  refine w_gtup (SqT.of hp2) rfl (w_gcons (w_gname (w_gcons (w_gname (w_gnil ?_)))))
  dsimp only
  have len2 := g2.len
  walk_at "w"
  refine ⟨c, S2, _, n1, rfl, g2.sh, .inr ⟨some a, (halv b (k - a.sg)).1, ma.ext g2.ex, t1, .inr ⟨by omega, by omega, fun H3 S3 n3 g3 t3 => ?_⟩⟩⟩
  walk_at "w"
  refine ⟨line_of (n := 2) rfl (by decide), fun p np => ?_⟩
  obtain ⟨H4, e4, s4, hp⟩ := new_of (o := .tup [V.int n3, V.int n2]) np
  rw [e4]
  rw [ev] at q
  exact q H4 S3 p n3 n2 (((((Grow.refl hS).same s1).trans (g2.trans g3)).same s4).mono (by omega) (by omega)) hp t3 (t2.ext g3.ex)
abbrev n_put_in : List Str := ["shelf", "text", "at", "other", "signs", "left", "right"]
theorem sc_put_in : FnScope n_put_in p_put_in (defScope s_put_in) := ⟨rfl, rfl, rfl, by decide +kernel, rfl, by decide +kernel, by decide +kernel⟩
theorem ok_put_in (T : Txt K mg A) : FnOk P w K mg base (L2.CX P w) 190 A.f_put_in A.d_put_in p_put_in (spPutIn A.C_Shelf A.C_NoPiece A.C_NoPlace A.C_TooLong) := by
  have GH := ok_halves (P := P) (w := w) (base := base) T 86
  refine T.fn_put_in.okX sc_put_in (fun vs H Q E h => ?_) (fun cdv B outer s H vs Q E hr h => ?_)
  · obtain ⟨c, S, n, a, m, rfl, _⟩ := h; rfl
  obtain ⟨c, S, n, a, m, rfl, hS, h⟩ := h
  refine ⟨_, (pss_cons (ps_set (i := 4) sc_put_in.nd rfl (Or.inl rfl) (pe_op op_add (pe_meth (pv 0) T.cl_Shelf T.me_Shelf_signs (ok_Shelf_signs T) (hr.mono (by omega)) T.bi_Shelf_signs .nil (passes_call (takes_of rfl rfl rfl rfl) (fun _ _ _ _ h => h)) (pa_cons (pv 1) pa_nil)) (pe_meth (pv 0) T.cl_Shelf T.me_Shelf_signs (ok_Shelf_signs T) (hr.mono (by omega)) T.bi_Shelf_signs .nil (passes_call (takes_of rfl rfl rfl rfl) (fun _ _ _ _ h => h)) (pa_cons (pv 3) pa_nil))))
      (pss_cons (ps_expr (pe_call (ok_want_stretch T) (hr.mono (by omega)) (by rfl) T.mg_want_stretch T.fn_want_stretch.kp T.bi_want_stretch .nil (passes_call (takes_of rfl rfl rfl rfl) (fun _ _ _ _ h => h)) (pa_cons (pv 0) (pa_cons (pv 1) (pa_cons (pv 2) (pa_cons (pe_meth (pv 0) T.cl_Shelf T.me_Shelf_signs (ok_Shelf_signs T) (hr.mono (by omega)) T.bi_Shelf_signs .nil (passes_call (takes_of rfl rfl rfl rfl) (fun _ _ _ _ h => h)) (pa_cons (pv 1) pa_nil)) pa_nil))))))
      (pss_cons (ps_if (pt_cmpR op_gt (pv 4) (pe_kint T.k_MOST_SIGNS (by rfl)) (nomark _)) (pss_one (ps_raise0 rfl T.ex_TooLong (takes_of rfl rfl rfl rfl) rfl)) pss_nil)
      (pss_cons (ps_asg (pe_call GH (hr.mono (by omega)) (by rfl) T.mg_halves T.fn_halves.kp T.bi_halves .nil (passes_call (takes_of rfl rfl rfl rfl) (fun _ _ _ _ h => h)) (pa_cons (pv 0) (pa_cons (pv 1) (pa_cons (pv 2) pa_nil)))) (pg_tup rfl (pgs_cons (pg_name (i := 5) sc_put_in.nd rfl (Or.inl rfl)) (pgs_cons (pg_name (i := 6) sc_put_in.nd rfl (Or.inl rfl)) pgs_nil))))
      (pss_one (ps_ret (pe_call (ok_joined T) (hr.mono (by omega)) (by rfl) T.mg_joined T.fn_joined.kp T.bi_joined .nil (passes_call (takes_of rfl rfl rfl rfl) (fun _ _ _ _ h => h)) (pa_cons (pv 0) (pa_cons (pe_call (ok_joined T) (hr.mono (by omega)) (by rfl) T.mg_joined T.fn_joined.kp T.bi_joined .nil (passes_call (takes_of rfl rfl rfl rfl) (fun _ _ _ _ h => h)) (pa_cons (pv 0) (pa_cons (pv 5) (pa_cons (pv 3) pa_nil)))) (pa_cons (pv 6) pa_nil)))))))))), ?_⟩
  have eE : (¬ inR S n ∨ ¬ inR S m) → E (.ref A.C_NoPiece) none H := fun z => by
    rcases h with ⟨_, h⟩ | ⟨o, p, ho, hp, _⟩
    · exact h
    · rcases z with z | z
      · exact absurd ho.inR z
      · exact absurd hp.inR z
  walk_at "s"
  by_cases i1 : inR S n
  rotate_left
  · exact ⟨c, S, n, rfl, hS, .inr ⟨i1, eE (.inl i1)⟩⟩
  obtain ⟨o, ho⟩ := Tx.of i1
  refine c_sgO hS ho ?_
  walk_at "w"
  by_cases i2 : inR S m
  rotate_left
  · exact ⟨c, S, m, rfl, hS, .inr ⟨i2, eE (.inr i2)⟩⟩
  obtain ⟨p, hp⟩ := Tx.of i2
  refine c_sgO hS hp ?_
  walk_at "w"
  walk_at "nx"
  rcases h with ⟨h0, _⟩ | ⟨o', p', ho', hp', h⟩
  · rcases h0 with z | z
    · exact absurd i1 z
    · exact absurd i2 z
  cases ho'.uni ho
  cases hp'.uni hp
  walk_at "s"
  refine c_sgO hS ho ?_
  walk_at "w"
  rcases h with ⟨z, h⟩ | ⟨k, rfl, kS, h⟩
  · exact ⟨c, S, n, _, _, rfl, hS, .inr ⟨o, ho, .inl ⟨fun y => z ⟨y.1, y.2.1⟩, h⟩⟩⟩
  refine ⟨c, S, n, _, _, rfl, hS, .inr ⟨o, ho, .inr ⟨by omega, by omega, by omega, ?_⟩⟩⟩
  walk_at "w"
  walk_at "s"
  refine ite_d (fun z => ?_) (fun z => ?_)
  · rcases h with ⟨_, h⟩ | ⟨z2, _⟩
    · exact h
    · unfold mostSg at z2; omega
  rcases h with ⟨z2, _⟩ | ⟨z2, cp, q⟩
  · unfold mostSg at z2; omega
  walk_at "sk"
  walk_at "s"
  have ok := hS.gd.okO ho
  have okp := hS.gd.okO hp
  have low := ok.low
  have lowp := okp.low
  have ch := chalO_le ok kS
  obtain ⟨k1, k2, x1, x2, s1, s2, t1, t2⟩ := halvO_ok ok kS
  refine ⟨c, S, n, o, k, rfl, hS, ho, by omega, kS, by omega, fun H1 S1 p1 n1 n2 g1 hp1 m1 m2 => ?_⟩
  refine w_gtup (SqT.of hp1) rfl (w_gcons (w_gname (w_gcons (w_gname (w_gnil ?_)))))
  dsimp only
  have len1 := g1.len
  walk_at "w"
  obtain ⟨j1, j2, j3, j4⟩ := joinedO_ok k1 okp (by omega)
  have js := joinedO_sg k1 okp (by omega)
  refine ⟨c, S1, n1, m, rfl, g1.sh, .inr ⟨_, p, m1, hp.ext g1.ex, .inr ⟨by omega, by omega, fun H2 S2 n3 g2 m3 => ?_⟩⟩⟩
  have len2 := g2.len
  have low1 := j1.low
  have low2 := k2.low
  obtain ⟨j5, j6, j7, j8⟩ := joinedO_ok j1 k2 (by omega)
  walk_at "w"
  refine ⟨c, S2, n3, n2, rfl, g2.sh, .inr ⟨_, _, m3, m2.ext g2.ex, .inr ⟨by omega, by omega, fun H3 S3 n4 g3 m4 => ?_⟩⟩⟩
  refine q H3 S3 n4 (((g1.trans g2).trans g3).mono (Nat.le_refl _) (by omega)) m4
abbrev n_taken_out : List Str := ["shelf", "text", "begin", "end", "left"]
theorem sc_taken_out : FnScope n_taken_out p_taken_out (defScope s_taken_out) := ⟨rfl, rfl, rfl, by decide +kernel, rfl, by decide +kernel, by decide +kernel⟩
theorem ok_taken_out (T : Txt K mg A) : FnOk P w K mg base (L2.CX P w) 190 A.f_taken_out A.d_taken_out p_taken_out (spSpan A.C_Shelf A.C_NoPiece A.C_NoPlace outO coutO) := by
  have GH := ok_halves (P := P) (w := w) (base := base) T 86
  refine T.fn_taken_out.okX sc_taken_out (fun vs H Q E h => ?_) (fun cdv B outer s H vs Q E hr h => ?_)
  · obtain ⟨c, S, n, a, b, rfl, _⟩ := h; rfl
  obtain ⟨c, S, n, a, b, rfl, hS, h⟩ := h
  refine ⟨_, (pss_cons (ps_expr (pe_call (ok_want_stretch T) (hr.mono (by omega)) (by rfl) T.mg_want_stretch T.fn_want_stretch.kp T.bi_want_stretch .nil (passes_call (takes_of rfl rfl rfl rfl) (fun _ _ _ _ h => h)) (pa_cons (pv 0) (pa_cons (pv 1) (pa_cons (pv 2) (pa_cons (pv 3) pa_nil))))))
      (pss_cons (ps_set (i := 4) sc_taken_out.nd rfl (Or.inl rfl) (pe_ix ix_tup (pe_call GH (hr.mono (by omega)) (by rfl) T.mg_halves T.fn_halves.kp T.bi_halves .nil (passes_call (takes_of rfl rfl rfl rfl) (fun _ _ _ _ h => h)) (pa_cons (pv 0) (pa_cons (pv 1) (pa_cons (pv 2) pa_nil)))) pe_int (fun _ _ => rfl)))
      (pss_one (ps_ret (pe_call (ok_joined T) (hr.mono (by omega)) (by rfl) T.mg_joined T.fn_joined.kp T.bi_joined .nil (passes_call (takes_of rfl rfl rfl rfl) (fun _ _ _ _ h => h)) (pa_cons (pv 0) (pa_cons (pv 4) (pa_cons (pe_ix ix_tup (pe_call GH (hr.mono (by omega)) (by rfl) T.mg_halves T.fn_halves.kp T.bi_halves .nil (passes_call (takes_of rfl rfl rfl rfl) (fun _ _ _ _ h => h)) (pa_cons (pv 0) (pa_cons (pv 1) (pa_cons (pv 3) pa_nil)))) pe_int (fun _ _ => rfl)) pa_nil)))))))), ?_⟩
  walk_at "s"
  rcases h with ⟨h0, h⟩ | ⟨o, ho, h⟩
  · exact ⟨c, S, n, _, _, rfl, hS, .inl ⟨h0, h⟩⟩
  rcases h with ⟨z, h⟩ | ⟨i, j, rfl, rfl, ij, jS, cp, q⟩
  · exact ⟨c, S, n, _, _, rfl, hS, .inr ⟨o, ho, .inl ⟨z, h⟩⟩⟩
  refine ⟨c, S, n, _, _, rfl, hS, .inr ⟨o, ho, .inr ⟨by omega, by omega, by omega, ?_⟩⟩⟩
  have ok := hS.gd.okO ho
  have low := ok.low
  have chi := chalO_le (n := i) ok (by omega)
  have chj := chalO_le (n := j) ok jS
  obtain ⟨k1, _, x1, _, s1, _, t1, _⟩ := halvO_ok (n := i) ok (by omega)
  obtain ⟨_, k2, _, x2, _, s2, _, t2⟩ := halvO_ok (n := j) ok jS
  walk_at "w"
  walk_at "s"
  refine ⟨c, S, n, o, i, rfl, hS, ho, by omega, by omega, by omega, fun H1 S1 p1 n1 n2 g1 hp1 m1 m2 => ?_⟩
  have len1 := g1.len
  walk_at "w"
  refine w_ixt (SqT.of hp1) (v := .int n1) rfl ?_
  walk_at "nx"
  walk_at "w"
  refine ⟨c, S1, n, o, j, rfl, g1.sh, ho.ext g1.ex, by omega, jS, by omega, fun H2 S2 p2 n3 n4 g2 hp2 m3 m4 => ?_⟩
  have len2 := g2.len
  walk_at "w"
  refine w_ixt (SqT.of hp2) (v := .int n4) rfl ?_
  walk_at "w"
  have most := ok.most
  obtain ⟨j5, j6, j7, j8⟩ := joinedO_ok k1 k2 (by omega)
  refine ⟨c, S2, n1, n4, rfl, g2.sh, .inr ⟨_, _, m1.ext g2.ex, m4, .inr ⟨by omega, by omega, fun H3 S3 n5 g3 m5 => ?_⟩⟩⟩
  exact q H3 S3 n5 (((g1.trans g2).trans g3).mono (Nat.le_refl _) (by omega)) m5
abbrev n_kept_part : List Str := ["shelf", "text", "begin", "end", "left"]
theorem sc_kept_part : FnScope n_kept_part p_kept_part (defScope s_kept_part) := ⟨rfl, rfl, rfl, by decide +kernel, rfl, by decide +kernel, by decide +kernel⟩
theorem ok_kept_part (T : Txt K mg A) : FnOk P w K mg base (L2.CX P w) 190 A.f_kept_part A.d_kept_part p_kept_part (spSpan A.C_Shelf A.C_NoPiece A.C_NoPlace keepO ckeepO) := by
  have GH := ok_halves (P := P) (w := w) (base := base) T 86
  refine T.fn_kept_part.okX sc_kept_part (fun vs H Q E h => ?_) (fun cdv B outer s H vs Q E hr h => ?_)
  · obtain ⟨c, S, n, a, b, rfl, _⟩ := h; rfl
  obtain ⟨c, S, n, a, b, rfl, hS, h⟩ := h
  refine ⟨_, (pss_cons (ps_expr (pe_call (ok_want_stretch T) (hr.mono (by omega)) (by rfl) T.mg_want_stretch T.fn_want_stretch.kp T.bi_want_stretch .nil (passes_call (takes_of rfl rfl rfl rfl) (fun _ _ _ _ h => h)) (pa_cons (pv 0) (pa_cons (pv 1) (pa_cons (pv 2) (pa_cons (pv 3) pa_nil))))))
      (pss_cons (ps_set (i := 4) sc_kept_part.nd rfl (Or.inl rfl) (pe_ix ix_tup (pe_call GH (hr.mono (by omega)) (by rfl) T.mg_halves T.fn_halves.kp T.bi_halves .nil (passes_call (takes_of rfl rfl rfl rfl) (fun _ _ _ _ h => h)) (pa_cons (pv 0) (pa_cons (pv 1) (pa_cons (pv 3) pa_nil)))) pe_int (fun _ _ => rfl)))
      (pss_one (ps_ret (pe_ix ix_tup (pe_call GH (hr.mono (by omega)) (by rfl) T.mg_halves T.fn_halves.kp T.bi_halves .nil (passes_call (takes_of rfl rfl rfl rfl) (fun _ _ _ _ h => h)) (pa_cons (pv 0) (pa_cons (pv 4) (pa_cons (pv 2) pa_nil)))) pe_int (fun _ _ => rfl)))))), ?_⟩
  walk_at "s"
  rcases h with ⟨h0, h⟩ | ⟨o, ho, h⟩
  · exact ⟨c, S, n, _, _, rfl, hS, .inl ⟨h0, h⟩⟩
  rcases h with ⟨z, h⟩ | ⟨i, j, rfl, rfl, ij, jS, cp, q⟩
  · exact ⟨c, S, n, _, _, rfl, hS, .inr ⟨o, ho, .inl ⟨z, h⟩⟩⟩
  refine ⟨c, S, n, _, _, rfl, hS, .inr ⟨o, ho, .inr ⟨by omega, by omega, by omega, ?_⟩⟩⟩
  have ok := hS.gd.okO ho
  have low := ok.low
  have chj := chalO_le (n := j) ok jS
  obtain ⟨k1, _, x1, _, s1, _, t1, _⟩ := halvO_ok (n := j) ok jS
  have chi := chalO_le (n := i) k1 (by omega)
  walk_at "w"
  walk_at "s"
  refine ⟨c, S, n, o, j, rfl, hS, ho, by omega, by omega, by omega, fun H1 S1 p1 n1 n2 g1 hp1 m1 m2 => ?_⟩
  have len1 := g1.len
  walk_at "w"
  refine w_ixt (SqT.of hp1) (v := .int n1) rfl ?_
  walk_at "nx"
  walk_at "w"
  refine ⟨c, S1, n1, _, i, rfl, g1.sh, m1, by omega, by omega, by omega, fun H2 S2 p2 n3 n4 g2 hp2 m3 m4 => ?_⟩
  walk_at "w"
  refine w_ixt (SqT.of hp2) (v := .int n4) rfl ?_
  exact q H2 S2 n4 ((g1.trans g2).mono (Nat.le_refl _) (by omega)) m4
end

/-! ### the draws -/
def spMixed : Sp := fun vs H Q _ => ∃ x k : Int, vs = [.int x, .int k] ∧ 0 ≤ k ∧ k < 1000000 ∧ ∀ r : Int, 0 ≤ r → r < 2147483647 → Q (.int r) H
theorem c_mixed {x k : Int} {H : Hp} {Q : VK} {E : XK} (h1 : 0 ≤ k) (h2 : k < 1000000) (q : ∀ r : Int, 0 ≤ r → r < 2147483647 → Q (.int r) H) : spMixed [.int x, .int k] H Q E := ⟨x, k, rfl, h1, h2, q⟩
def spTake : Sp := fun vs H Q _ => ∃ (r : Addr) (n m : Int), vs = [.ref r, .int m] ∧ H r = some (.lst [.int n]) ∧ 0 ≤ n ∧ 0 < m ∧ m < 1267650600228229401496703205376 ∧ ∀ d n' : Int, 0 ≤ d → d < m → 0 ≤ n' → Q (.int d) (upd H r (.lst [.int n']))
theorem c_take {r : Addr} {n m : Int} {H : Hp} {Q : VK} {E : XK} (h : H r = some (.lst [.int n])) (h0 : 0 ≤ n) (h1 : 0 < m) (h2 : m < 1267650600228229401496703205376) (q : ∀ d n' : Int, 0 ≤ d → d < m → 0 ≤ n' → Q (.int d) (upd H r (.lst [.int n']))) : spTake [.ref r, .int m] H Q E := ⟨r, n, m, rfl, h, h0, h1, h2, q⟩
section
variable {P : Program} {w : World} {K : PySem.W.Frag} {mg : Str → Option Value} {base : Heap} {A : Ad}
abbrev n__law_mixed : List Str := ["cell", "k", "one"]
theorem sc__law_mixed : FnScope n__law_mixed p__law_mixed (defScope s__law_mixed) := ⟨rfl, rfl, rfl, by decide +kernel, rfl, by decide +kernel, by decide +kernel⟩
theorem ok__law_mixed (T : Txt K mg A) : FnOk P w K mg base (L2.CX P w) 1 A.f__law_mixed A.d__law_mixed p__law_mixed spMixed := by
  refine T.fn__law_mixed.okX sc__law_mixed (fun vs H Q E h => ?_) (fun cdv B outer s H vs Q E hr h => ?_)
  · obtain ⟨x, k, rfl, _⟩ := h; rfl
  obtain ⟨x, k, rfl, k0, k1, q⟩ := h
  refine ⟨_, (pss_cons (ps_set (i := 2) sc__law_mixed.nd rfl (Or.inl rfl) (pe_op op_mod (pe_op op_mulW (pe_op op_add (pe_op op_add (pe_op op_mod (pv 0) pe_int) (pe_op op_mulW pe_int (pv 1))) pe_int) pe_int) pe_int))
      (pss_one (ps_ret (pe_op op_mod (pe_op op_mulW (pe_op op_mod (pe_op op_mulW (pv 2) (pv 2)) pe_int) pe_int) pe_int)))), ?_⟩
  walk_at "st"
  refine w_rI (by decide) ?_
  walk_at "go"
  refine w_rI (mulW_small (by decide) (by decide) (by omega) (by omega)) ?_
  walk_at "go"
  refine w_rI (mulW_small (by omega) (by omega) (by decide) (by decide)) ?_
  walk_at "go"
  refine w_rI (by decide) ?_
  walk_at "nx"
  generalize e : ((x % 1000000007 + 7919 * k + _) * 48271) % 2147483647 = z
  have z0 : 0 ≤ z := by omega
  have z1 : z < 2147483647 := by omega
  walk_at "go"
  refine w_rI (mulW_small (by omega) (by omega) (by omega) (by omega)) ?_
  walk_at "go"
  refine w_rI (by decide) ?_
  walk_at "go"
  refine w_rI (mulW_small (by omega) (by omega) (by decide) (by decide)) ?_
  walk_at "go"
  refine w_rI (by decide) ?_
  exact q _ (by omega) (by omega)
abbrev n__law_take : List Str := ["stream", "many", "digit"]
theorem sc__law_take : FnScope n__law_take p__law_take (defScope s__law_take) := ⟨rfl, rfl, rfl, by decide +kernel, rfl, by decide +kernel, by decide +kernel⟩
theorem ok__law_take (T : Txt K mg A) : FnOk P w K mg base (L2.CX P w) 1 A.f__law_take A.d__law_take p__law_take spTake := by
  refine T.fn__law_take.okX sc__law_take (fun vs H Q E h => ?_) (fun cdv B outer s H vs Q E hr h => ?_)
  · obtain ⟨r, n, m, rfl, _⟩ := h; rfl
  obtain ⟨r, n, m, rfl, h, h0, h1, h2, q⟩ := h
  refine ⟨_, (pss_cons (ps_set (i := 2) sc__law_take.nd rfl (Or.inl rfl) (pe_op op_mod (pe_ix ix_list (pv 0) pe_int (fun _ _ => rfl)) (pv 1)))
      (pss_cons (ps_asg (pe_op op_fdivW (pe_ix ix_list (pv 0) pe_int (fun _ _ => rfl)) (pv 1)) (pg_sub (pv 0) pe_int set_list))
      (pss_one (ps_ret (pv 2))))), ?_⟩
  have a0 : atI [V.int n] 0 = some (.int n) := rfl
  walk_at "st"
  refine w_ixl (SqL.of h) a0 ?_
  walk_at "go"
  refine w_rI h1 ?_
  walk_at "nx"
  walk_at "st"
  refine w_ixl (SqL.of h) a0 ?_
  walk_at "go"
  refine w_rI (wide_div (b := 100) h1 (by omega) (by decide) (by decide)) ?_
  refine ⟨_, rfl, r, _, 0, 0, rfl, rfl, h, rfl, ?_⟩
  dsimp only
  exact w_ret (w_var rfl (q _ _ (Int.emod_nonneg _ (by omega)) (Int.emod_lt_of_pos _ h1) (Int.ediv_nonneg h0 (by omega))))
end

/-! ### the stream -/
def spStream (K : PySem.W.Frag) : Sp := fun vs H Q _ => ∃ (a : Addr) (ns : List Int) (k : Int), vs = [.ref a, .int k] ∧ SqL K H a (ns.map V.int) ∧ ns.length ≤ 63 ∧ 0 ≤ k ∧ k < 1000 ∧ ∀ (H' : Hp) (p : Addr) (n : Int), Same H H' → H p = none → H' p = some (.lst [.int n]) → 0 ≤ n → Q (.ref p) H'
section
variable {P : Program} {w : World} {K : PySem.W.Frag} {mg : Str → Option Value} {base : Heap} {A : Ad}
end

/-! ### plain texts drawn, and texts made of them -/
def spPlainT : Sp := fun vs H Q _ => ∃ (r : Addr) (n : Int) (m : Nat), vs = [.ref r, .int m] ∧ H r = some (.lst [.int n]) ∧ 0 ≤ n ∧ m ≤ 100000 ∧ ∀ (l : List Nat) (H' : Hp) (n' : Int), Plain l → l.length ≤ m → KeepL [r] H H' → H' r = some (.lst [.int n']) → 0 ≤ n' → Q (.str (sT l)) H'
theorem plain_app {l m : List Nat} (h : Plain l) (k : Plain m) : Plain (l ++ m) := fun c hc => (List.mem_append.mp hc).elim (h c) (k c)
theorem KeepL.same {l : List Addr} {H H1 H2 : Hp} (x : KeepL l H H1) (y : Same H1 H2) : KeepL l H H2 := keepL_same x y
theorem cjoin_le {o p : Option Tr} (oo : OkO o) (op : OkO p) (h : oS o + oS p ≤ mostSg) : cjoin o p ≤ 1000 := by
  have := (joinedO_ok oo op h).2.2.1
  have := oo.low
  have := op.low
  omega
theorem cb_le (l : List Nat) : cb l ≤ l.length + 2 := by unfold cb; omega
theorem Grown.own {C : Addr} {c : Cells} {r : Addr} {H H1 : Hp} {S S1 : List Tr} {n : Int} {m : Nat} {D : Addr} {xs ys : List V} (g : Grown C c r H H1 S S1 n m) (nD : H D = none) (hD : H1 D = some (.lst xs)) (Dr : D ≠ r) (Dc : D ∉ c.all) : Grown C c r H (upd H1 D (.lst ys)) S S1 n m :=
  ⟨g.sh.keepL (l := [D]) (KeepL.upd (by simp)) (fun b hb => by rw [List.mem_singleton] at hb; rw [hb]; exact Dc) (tup_upd hD), g.ex, g.len, fun b o nb e => by rw [upd_ne (ne_of_none e nD)]; exact g.kp b o nb e, by rw [upd_ne Dr.symm]; exact g.ro, g.pos⟩
theorem Grown.grow {C : Addr} {c : Cells} {r : Addr} {H H1 H2 : Hp} {S S1 S2 : List Tr} {n : Int} {m k M : Nat} (g : Grown C c r H H1 S S1 n m) (hr : r ∉ c.all) (h : Grow C c H1 S1 H2 S2 k M) : Grown C c r H H2 S S2 n (m + k) :=
  ⟨h.sh, g.ex.trans h.ex, by have := g.len; have := h.len; omega, g.kp.trans (h.kp.keepL.mono fun b hb => List.mem_cons_of_mem _ hb), h.kp _ _ hr g.ro, g.pos⟩
theorem Grown.drawn {C : Addr} {c : Cells} {r : Addr} {H H1 H2 : Hp} {S S1 : List Tr} {n n2 : Int} {m : Nat} (g : Grown C c r H H1 S S1 n m) (hrc : r ∉ c.all) (k : KeepL [r] H1 H2) (h2 : H2 r = some (.lst [.int n2])) (h0 : 0 ≤ n2) : Grown C c r H H2 S S1 n2 m :=
  (g.trans (k := 0) ⟨g.sh.keepL k (fun b hb => by rw [List.mem_singleton] at hb; rw [hb]; exact hrc) (fun b ys e => k _ _ (by rw [List.mem_singleton]; exact fun z => by rw [z, g.ro] at e; cases e) e), List.prefix_refl _, Nat.le_refl _, k.mono (by simp), h2, h0⟩)
theorem ShAt.dr {C : Addr} {c : Cells} {H H' : Hp} {S : List Tr} {r : Addr} {xs : List V} (s : ShAt C c H S) (h : H r = some (.lst xs)) (rc : r ∉ c.all) (k : KeepL [r] H H') : ShAt C c H' S :=
  s.keepL k (fun b hb => by rw [List.mem_singleton] at hb; rw [hb]; exact rc) (fun b xs e => k b _ (fun z => by rw [List.mem_singleton] at z; subst z; rw [h] at e; cases e) e)
theorem KeepL.one {H H' : Hp} {r p : Addr} {o : HO} (k : KeepL [r] H H') (h : H p = some o) (n : p ≠ r) : H' p = some o := k _ _ (by rw [List.mem_singleton]; exact n) h
theorem Grown.mono {C : Addr} {c : Cells} {r : Addr} {H H1 : Hp} {S S1 : List Tr} {n : Int} {m k : Nat} (g : Grown C c r H H1 S S1 n m) (h : m ≤ k) : Grown C c r H H1 S S1 n k :=
  ⟨g.sh, g.ex, by have := g.len; omega, g.kp, g.ro, g.pos⟩
theorem w_irev {K : PySem.W.Frag} {σ : L2.St} {H : Hp} {ta : TA} {R : It → Hp → Prop} (k : ta σ H fun vs H1 => ∃ (a : Addr) (xs : List V), vs = [.ref a] ∧ SqL K H1 a xs ∧ R (Itv K a xs.length) H1) : iRev K ta σ H R := k
/-- the length of the plain text that is left -/
def mu2 (σ : L2.St) (_ : Hp) : Nat := match σ[2]? with | some (some (V.str x)) => x.length | _ => 0
theorem flat_len : ∀ ps : List (List Nat), (∀ p ∈ ps, p ≠ []) → ps.length ≤ ps.flatten.length
  | [], _ => Nat.le_refl _
  | p :: ps, h => by
    have := flat_len ps fun q hq => h q (List.mem_cons_of_mem _ hq)
    have : 0 < p.length := List.length_pos_iff.mpr (h p List.mem_cons_self)
    rw [List.length_cons, List.flatten_cons, List.length_append]; omega
theorem flat_take {ps : List (List Nat)} {i : Nat} {p : List Nat} (h : ps[i]? = some p) : (ps.take (i + 1)).flatten = (ps.take i).flatten ++ p := by
  rw [take_snoc h, List.flatten_append]; simp
theorem flat_drop {ps : List (List Nat)} {i : Nat} {p : List Nat} (h : ps[i]? = some p) : (ps.drop i).flatten = p ++ (ps.drop (i + 1)).flatten := by
  obtain ⟨hi, e⟩ := List.getElem?_eq_some_iff.mp h
  rw [List.drop_eq_getElem_cons hi, List.flatten_cons, e]
theorem flat_le {ps : List (List Nat)} {i : Nat} {p : List Nat} (h : ps[i]? = some p) : p.length ≤ ps.flatten.length := by
  have : ps.flatten = (ps.take i).flatten ++ (ps.drop i).flatten := by rw [← List.flatten_append, List.take_append_drop]
  rw [this, flat_drop h]; simp; omega

section
variable {P : Program} {w : World} {K : PySem.W.Frag} {mg : Str → Option Value} {base : Heap} {A : Ad}
abbrev n__law_plain : List Str := ["stream", "most", "letters", "wide", "signs", "plain", "k"]
theorem sc__law_plain : FnScope n__law_plain p__law_plain (defScope s__law_plain) := ⟨rfl, rfl, rfl, by decide +kernel, rfl, by decide +kernel, by decide +kernel⟩
theorem ok__law_plain (T : Txt K mg A) : FnOk P w K mg base (L2.CX P w) 2 A.f__law_plain A.d__law_plain p__law_plain spPlainT := by
  refine T.fn__law_plain.okX sc__law_plain (fun vs H Q E h => ?_) (fun cdv B outer s H vs Q E hr h => ?_)
  · obtain ⟨r, n, m, rfl, _⟩ := h; rfl
  obtain ⟨r, n, m, rfl, h, h0, hm, q⟩ := h
  refine ⟨_, (pss_cons (ps_set (i := 2) sc__law_plain.nd rfl (Or.inl rfl) pe_str)
      (pss_cons (ps_set (i := 3) sc__law_plain.nd rfl (Or.inl rfl) (pe_op op_add_str (pe_op op_add_str (pv 2) (pe_upper (pv 2))) pe_str))
      (pss_cons (ps_set (i := 4) sc__law_plain.nd rfl (Or.inl rfl) (pe_ix ix_list (pe_lst (pa_cons pe_str (pa_cons pe_str (pa_cons pe_str (pa_cons pe_str (pa_cons (pv 3) pa_nil)))))) (pe_call (ok__law_take T) (hr.mono (by omega)) (by rfl) T.mg__law_take T.fn__law_take.kp T.bi__law_take .nil (passes_call (takes_of rfl rfl rfl rfl) (fun _ _ _ _ h => h)) (pa_cons (pv 0) (pa_cons pe_int pa_nil))) (fun _ _ => rfl)))
      (pss_cons (ps_set (i := 5) sc__law_plain.nd rfl (Or.inl rfl) pe_str)
      (pss_cons (ps_for (passes_of rfl) rfl (pi_range1 (by rfl) T.z_range (pa_cons (pe_call (ok__law_take T) (hr.mono (by omega)) (by rfl) T.mg__law_take T.fn__law_take.kp T.bi__law_take .nil (passes_call (takes_of rfl rfl rfl rfl) (fun _ _ _ _ h => h)) (pa_cons (pv 0) (pa_cons (pe_op op_add (pv 1) pe_int) pa_nil))) pa_nil)) (pg_name (i := 6) sc__law_plain.nd rfl (Or.inl rfl))
      (pss_one (ps_set (i := 5) sc__law_plain.nd rfl (Or.inl rfl) (pe_op op_add_str (pv 5) (pe_ix ix_str (pv 4) (pe_call (ok__law_take T) (hr.mono (by omega)) (by rfl) T.mg__law_take T.fn__law_take.kp T.bi__law_take .nil (passes_call (takes_of rfl rfl rfl rfl) (fun _ _ _ _ h => h)) (pa_cons (pv 0) (pa_cons (pe_callB call_len_str (by rfl) T.z_len bt_len (pa_cons (pv 4) pa_nil)) pa_nil))) (fun _ _ => rfl))))))
      (pss_one (ps_ret (pv 5)))))))), ?_⟩
  walk_at "st"
  walk_at "nx"
  walk_at "st"
  refine w_varx ⟨_, rfl, ?_⟩
  refine ⟨⟨_, rfl⟩, _, rfl, rfl, by decide +kernel, ?_⟩
  refine ⟨_, _, rfl, rfl, by decide +kernel, ?_⟩
  walk_at "go"
  refine ⟨_, _, rfl, rfl, by decide +kernel, ?_⟩
  walk_at "nx"
  walk_at "st"
  refine ⟨line_of (n := 5) rfl (by decide), fun p np => ?_⟩
  generalize eH : upd H p _ = H1
  have s1 : Same H H1 := by rw [← eH]; exact fun b o e => by rw [upd_ne (ne_of_none e np)]; exact e
  have hp := (congrFun eH p).symm.trans upd_same
  obtain ⟨L, hL, l5, all⟩ : ∃ L, H1 p = some (.lst L) ∧ L.length = 5 ∧ ∀ v ∈ L, ∃ x, v = V.str x ∧ GoodL x := ⟨_, hp, rfl, fun v hv => by
    simp only [List.mem_cons, List.not_mem_nil, or_false] at hv
    rcases hv with e | e | e | e | e
    all_goals exact ⟨_, e, by decide +kernel⟩⟩
  walk_at "go"
  refine c_take (s1 _ _ h) h0 (by decide) (by decide) fun d n1 d0 d1 n10 => ?_
  have hrp : r ≠ p := ne_of_none h np
  obtain ⟨v, hv, ha⟩ := at_in (xs := L) d0 (by omega)
  obtain ⟨x, rfl, gx⟩ := all v hv
  refine w_ixl (SqL.of (by rw [upd_ne hrp.symm]; exact hL)) ha ?_
  walk_at "nx"
  walk_at "st"
  walk_at "nx"
  walk_at "st"
  have k1 : KeepL [r] H (upd H1 r (.lst [.int n1])) := (Same.keepL [r] s1).trans (KeepL.upd (by simp))
  refine c_take upd_same n10 (by omega) (by omega) fun d2 n2 d20 d21 n20 => ?_
  have k2 := k1.trans (KeepL.upd (a := r) (o := .lst [.int n2]) (by simp))
  walk_at "go"
  refine ⟨_, rfl, by omega, by omega, ?_⟩
  have xl : 1 ≤ x.cps.toList.length := by
    cases e : x.cps.toList with
    | nil => exact absurd e gx.1
    | cons a b => simp
  have xl2 : x.length ≤ sizeLine := by
    have := gx.2.2
    have e : x.length = x.cps.toList.length := by simp [Str.length]
    rw [e, sizeLine_eq]; omega
  have xe : x.length = x.cps.toList.length := by simp [Str.length]
  have x3 := gx.2.2
  generalize hG : upd (upd H1 r (.lst [.int n1])) r (.lst [.int n2]) = G2 at k2 ⊢
  have hG2 : G2 r = some (.lst [.int n2]) := by rw [← hG]; exact upd_same
  refine for_it walk_range (fun i σ H' => ∃ (l : List Nat) (n' : Int) (a b : V) (k : Option V), σ = [some (.ref r), some (.int m), some a, some b, some (.str x), some (.str (sT l)), k] ∧ Plain l ∧ l.length = i ∧ KeepL [r] H H' ∧ H' r = some (.lst [.int n']) ∧ 0 ≤ n') ⟨[], n2, _, _, none, by rw [sT_nil]; rfl, (fun _ z => nomatch z), rfl, k2, hG2, n20⟩ (fun _ _ _ _ _ => trivial) ?_ ?_
  · rintro i y σ H3 H4 hi ⟨l, n', a, b, k, rfl, pl, ll, kp, hr3, n0'⟩ ⟨rfl, rfl⟩
    have hi : i < d2.toNat := hi
    refine w_gname ?_
    walk_at "go"
    refine ⟨_, rfl, xl2, ?_⟩
    walk_at "go"
    refine c_take hr3 n0' (by omega) (by omega) fun d4 n4 d40 d41 n40 => ?_
    obtain ⟨ch, hch, ha⟩ := at_in (xs := x.cps.toList) d40 (by omega)
    refine ⟨_, _, ch, rfl, rfl, xl2, ha, ?_⟩
    refine ⟨_, _, rfl, rfl, ?_, w_gname ?_⟩
    · have := cap_line; unfold cap at this
      rw [sT_len]; show l.length + 1 ≤ sizeLine; omega
    refine ⟨l ++ [ch], n4, a, b, some (.int (0 + (i : Int))), ?_, plain_app pl (fun c' hc' => by rw [List.mem_singleton] at hc'; rw [hc']; exact gx.2.1 ch hch), by simp [ll], kp.trans (KeepL.upd (by simp)), upd_same, n40⟩
    show List.set _ _ _ = _
    have : (sT l ++ (⟨#[ch]⟩ : Str)) = sT (l ++ [ch]) := sT_app l [ch]
    rw [this]; rfl
  rintro σ H3 ⟨l, n', a, b, k, rfl, pl, ll, kp, hr3, n0'⟩
  dsimp only
  walk_at "go"
  exact q l H3 n' pl (by omega) kp hr3 n0'
end

/-! ### texts made of plain ones -/
def spMade (C : Addr) : Sp := fun vs H Q _ => ∃ (c : Cells) (S : List Tr) (r : Addr) (n : Int) (l : List Nat), vs = [.ref c.a, .ref r, .str (sT l)] ∧ ShAt C c H S ∧ r ∉ c.all ∧ H r = some (.lst [.int n]) ∧ 0 ≤ n ∧ Plain l ∧ l.length ≤ 1000 ∧ S.length + 1100 * (l.length + 1) ≤ cap ∧
  ∀ (H' : Hp) (S' : List Tr) (n' y : Int) (o : Option Tr), Grown C c r H H' S S' n' (1100 * (l.length + 1)) → Tx S' y o → OkO o → oX o = l → (∀ t ∈ S', t ∈ S ∨ t.sg ≤ l.length) → Q (.int y) H'
section
variable {P : Program} {w : World} {K : PySem.W.Frag} {mg : Str → Option Value} {base : Heap} {A : Ad}
end

/-! ### what texts reach, swept shelves -/
theorem num_inl {S : List Tr} {t u : Tr} (h : t ∈ S) (h' : u ∈ S) (e : (Sum.inl (num S t) : Key) = Sum.inl (num S u)) : t = u := num_inj h h' (Sum.inl.inj e)
theorem valV_seen {S : List Tr} {t : Tr} {v : V} (ht : t ∈ S) : ∀ sn : List Tr, (∀ u ∈ sn, u ∈ S) → valV (sn.map fun u => ((Sum.inl (num S u) : Key), v)) (Sum.inl (num S t)) = if t ∈ sn then some v else none
  | [], _ => rfl
  | u :: sn, h => by
    have ih := valV_seen (v := v) ht sn fun x hx => h x (List.mem_cons_of_mem _ hx)
    unfold valV at ih ⊢
    rw [List.map_cons, List.find?_cons]
    by_cases e : (Sum.inl (num S u) : Key) = Sum.inl (num S t)
    · have : u = t := num_inl (h u List.mem_cons_self) ht e
      subst this
      simp
    · have ne : ¬ t = u := fun z => e (by rw [z])
      simp only [decide_eq_false e]
      rw [ih]
      simp [ne]
theorem nodup_len : ∀ {sn S : List Tr}, sn.Nodup → (∀ u ∈ sn, u ∈ S) → sn.length ≤ S.length
  | [], _, _, _ => Nat.zero_le _
  | u :: r, S, nd, sub => by
    have hu := sub u List.mem_cons_self
    have nd := List.nodup_cons.mp nd
    have := nodup_len (sn := r) (S := S.erase u) nd.2 fun x hx => (List.mem_erase_of_ne (fun z => nd.1 (by rw [← z]; exact hx))).mpr (sub x (List.mem_cons_of_mem _ hx))
    rw [List.length_erase_of_mem hu] at this
    have : 0 < S.length := List.length_pos_of_mem hu
    rw [List.length_cons]; omega
def spReach (C CN : Addr) : Sp := fun vs H Q E => ∃ (c : Cells) (S : List Tr) (r : Addr) (ns : List Int), vs = [.ref c.a, .ref r] ∧ ShAt C c H S ∧ H r = some (.lst (ns.map V.int)) ∧ ns.length + S.length ≤ cap ∧
  (((∃ n ∈ ns, ¬ inR S n) ∧ ∀ H', Same H H' → E (.ref CN) none H') ∨ ∃ os, TxAll S ns os ∧ ∀ H' p, Same H H' → H p = none → H' p = some (.lst ((reachN S os).map V.int)) → Q (.ref p) H')
def muW (N : Nat) (W D : Addr) (_ : L2.St) (H : Hp) : Nat := (match H W with | some (.lst xs) => xs.length | _ => 0) + 3 * (N - match H D with | some (.dK kvs) => kvs.length | _ => 0)
theorem muW_of {N : Nat} {W D : Addr} {σ : L2.St} {H : Hp} {xs : List V} {kvs : List (Key × V)} (h : H W = some (.lst xs)) (k : H D = some (.dK kvs)) : muW N W D σ H = xs.length + 3 * (N - kvs.length) := by
  unfold muW
  rw [h, k]
def nz (ns : List Int) : List Int := ns.filter fun n => decide (¬ n = 0)
theorem nz_tx {S : List Tr} (g : Good S) : ∀ {ns : List Int} {os : List (Option Tr)}, TxAll S ns os → nz ns = (trees os).map (num S)
  | [], [], _ => rfl
  | n :: ns, none :: os, h => by
    have e : n = 0 := h.1
    have ih := nz_tx g h.2
    unfold nz at ih ⊢
    rw [List.filter_cons, e]
    exact ih
  | n :: ns, some t :: os, h => by
    have nm : Nm S n t := h.1
    have ih := nz_tx g h.2
    have p := nm.pos
    unfold nz at ih ⊢
    rw [List.filter_cons, if_pos (by simp; omega), ih, nm.num g.nd]
    rfl
  | [], _ :: _, h => h.elim
  | _ :: _, [], h => h.elim
theorem trees_in {S : List Tr} : ∀ {ns : List Int} {os : List (Option Tr)}, TxAll S ns os → ∀ t ∈ trees os, t ∈ S
  | [], [], _, t, ht => by cases ht
  | n :: ns, none :: os, h, t, ht => trees_in h.2 t ht
  | n :: ns, some u :: os, h, t, ht => by
    rcases List.mem_cons.mp (show t ∈ u :: trees os from ht) with e | e
    · rw [e]; exact Nm.mem (show Nm S n u from h.1)
    · exact trees_in h.2 t e
  | [], _ :: _, h, _, _ => h.elim
  | _ :: _, [], h, _, _ => h.elim
section
variable {P : Program} {w : World} {K : PySem.W.Frag} {mg : Str → Option Value} {base : Heap} {A : Ad}
abbrev n_reach_of : List Str := ["shelf", "texts", "waiting", "text", "seen", "number", "piece"]
theorem sc_reach_of : FnScope n_reach_of p_reach_of (defScope s_reach_of) := ⟨rfl, rfl, rfl, by decide +kernel, rfl, by decide +kernel, by decide +kernel⟩
theorem ok_reach_of (T : Txt K mg A) : FnOk P w K mg base (L2.CX P w) 4 A.f_reach_of A.d_reach_of p_reach_of (spReach A.C_Shelf A.C_NoPiece) := by
  refine T.fn_reach_of.okX sc_reach_of (fun vs H Q E h => ?_) (fun cdv B outer s H vs Q E hr h => ?_)
  · obtain ⟨c, S, r, ns, rfl, _⟩ := h; rfl
  obtain ⟨c, S, r, ns, rfl, hS, hr1, cp, q⟩ := h
  have hu := hu_of hr
  refine ⟨_, (pss_cons (ps_set (i := 2) sc_reach_of.nd rfl (Or.inl rfl) (pe_lst pa_nil))
      (pss_cons (ps_for (passes_of rfl) rfl (pi_list (pv 1)) (pg_name (i := 3) sc_reach_of.nd rfl (Or.inl rfl))
      (pss_cons (ps_expr (pe_meth (pv 0) T.cl_Shelf T.me_Shelf_signs (ok_Shelf_signs T) (hr.mono (by omega)) T.bi_Shelf_signs .nil (passes_call (takes_of rfl rfl rfl rfl) (fun _ _ _ _ h => h)) (pa_cons (pv 3) pa_nil)))
      (pss_one (ps_if (pt_cmpR op_ne (pv 3) pe_int (nomark _)) (pss_one (ps_expr (pe_bm PySem.F.plainAttrs_list PySem.F.slot_list_append PySem.F.type_list_append mt_append (pv 2) (pa_cons (pv 3) pa_nil)))) pss_nil))))
      (pss_cons (ps_set (i := 4) sc_reach_of.nd rfl (Or.inl rfl) pe_dnewK)
      (pss_cons (ps_while (passes_of rfl) (pt_cmpR (op_neD hr.units) (pv 2) (pe_lst pa_nil) (nomark _))
      (pss_cons (ps_set (i := 5) sc_reach_of.nd rfl (Or.inl rfl) (pe_bm0 PySem.F.plainAttrs_list PySem.F.slot_list_pop PySem.F.type_list_pop mt_pop (pv 2)))
      (pss_one (ps_if (pt_cmp (pc_dnotin hu (pv 5) (pv 4))) (pss_cons (ps_dput hu (pv 4) (pv 5) pe_bl rfl)
      (pss_cons (ps_set (i := 6) sc_reach_of.nd rfl (Or.inl rfl) (pe_meth (pv 0) T.cl_Shelf T.me_Shelf_piece (ok_Shelf_piece T) (hr.mono (by omega)) T.bi_Shelf_piece .nil (passes_call (takes_of rfl rfl rfl rfl) (fun _ _ _ _ h => h)) (pa_cons (pv 5) pa_nil)))
      (pss_one (ps_if (pt_cmpR op_eq (pe_ix ix_tup (pv 6) pe_int (fun _ _ => rfl)) pe_str (nomark _)) (pss_one (ps_expr (pe_bm PySem.F.plainAttrs_list PySem.F.slot_list_extend PySem.F.type_list_extend mt_extend (pv 2) (pa_cons (pe_lst (pa_cons (pe_ix ix_tup (pv 6) pe_int (fun _ _ => rfl)) (pa_cons (pe_ix ix_tup (pv 6) pe_int (fun _ _ => rfl)) pa_nil))) pa_nil)))) pss_nil)))) pss_nil))))
      (pss_one (ps_ret (pe_callB (cr_sortedK rfl) (by rfl) T.z_sorted bt_sorted (pa_cons (pe_bm0 PySem.F.plainAttrs_dict PySem.F.slot_dict_keys PySem.F.type_dict_keys mt_dkeys (pv 4)) pa_nil)))))))), ?_⟩
  have hcl := cap_line
  walk_at "st"
  refine w_mkl (line_of (n := 0) rfl (by decide)) fun W H1 nW s1 hW => ?_
  walk_at "nx"
  walk_at "st"
  refine ⟨r, rfl, ⟨_, SqL.of (s1 _ _ hr1)⟩, ?_⟩
  have lmap : (ns.map V.int).length = ns.length := List.length_map _
  refine for_it walk_list (fun i σ H' => ∃ (x : Option V), σ = [some (.ref c.a), some (.ref r), some (.ref W), x, none, none, none] ∧ Same H H' ∧ H' W = some (.lst ((nz (ns.take i)).map V.int)) ∧ ∀ n ∈ ns.take i, inR S n) ⟨none, rfl, s1, hW, fun _ z => nomatch z⟩ (fun i σ H' _ ⟨_, _, z, _⟩ => SqL.of (z _ _ hr1)) ?_ ?_
  · rintro i x σ H2 H3 hi ⟨k3, rfl, s2, hW2, all⟩ ⟨rfl, hx⟩
    rw [lmap] at hi
    rw [List.getElem?_map] at hx
    have en := List.getElem?_eq_getElem hi
    rw [en] at hx
    cases hx
    have hS2 := hS.same s2
    refine w_gname ?_
    walk_at "st"
    refine ⟨c.a, c.dx, _, rfl, hS2.ob, fl_no (by decide +kernel), ?_⟩
    walk_at "go"
    by_cases hin : inR S ns[i]
    rotate_left
    · refine ⟨c, S, ns[i], rfl, hS2, .inr ⟨hin, ?_⟩⟩
      rcases q with ⟨_, e⟩ | ⟨os, tx, _⟩
      · exact e _ s2
      · obtain ⟨o, _, ho⟩ := tx.get en
        exact absurd ho.inR hin
    obtain ⟨o, ho⟩ := Tx.of hin
    refine c_get hS2 ho ?_
    walk_at "go"
    have all' : ∀ n ∈ ns.take (i + 1), inR S n := fun n hn => by
      rw [take_snoc en] at hn
      rcases List.mem_append.mp hn with z | z
      · exact all n z
      · rw [List.mem_singleton] at z; rw [z]; exact hin
    refine ite_d (fun h0 => ?_) (fun h0 => ?_)
    · walk_at "go"
      refine ⟨.inl ⟨rfl, _, SqL.of hW2⟩, ?_⟩
      walk_at "go"
      refine ⟨W, _, _, rfl, rfl, hW2, ?_, ?_⟩
      · rw [List.length_map]
        have : (nz (ns.take i)).length ≤ (ns.take i).length := List.length_filter_le _ _
        rw [List.length_take] at this; omega
      refine ⟨_, rfl, fun b o e => ?_, ?_, all'⟩
      · rw [upd_ne (ne_of_none e nW)]; exact s2 b o e
      · rw [upd_same, take_snoc en]
        unfold nz
        rw [List.filter_append, List.map_append, List.filter_cons, if_pos (by simpa using h0)]; rfl
    · refine ⟨_, rfl, s2, ?_, all'⟩
      rw [hW2, take_snoc en]
      unfold nz
      rw [List.filter_append, List.filter_cons, if_neg (by simpa using h0), List.filter_nil, List.append_nil]
  rintro σ H2 ⟨k3, rfl, s2, hW2, all⟩
  rw [lmap, List.take_length] at hW2 all
  rcases q with ⟨⟨n, hn, z⟩, _⟩ | ⟨os, tx, q⟩
  · exact absurd (all n hn) z
  dsimp only
  have hS2 := hS.same s2
  rw [nz_tx hS.gd tx] at hW2
  have tin := trees_in tx
  have tl : (trees os).length ≤ ns.length := by rw [tx.len]; exact List.length_filterMap_le _ _
  walk_at "st"
  refine fun D nD => ?_
  walk_at "nx"
  generalize eH : upd H2 D (.dK []) = H3
  have s3 : Same H2 H3 := by rw [← eH]; exact fun b o e => by rw [upd_ne (ne_of_none e nD)]; exact e
  have hD3 : H3 D = some (.dK []) := by rw [← eH]; exact upd_same
  have WD : W ≠ D := ne_of_none hW2 nD
  have nD0 : H D = none := s2.free nD
  walk_at "st"
  refine while_by (fun σ H' => ∃ (ws sn : List Tr) (x y : Option V), σ = [some (.ref c.a), some (.ref r), some (.ref W), k3, some (.ref D), x, y] ∧ Same H H' ∧ H' W = some (.lst ((ws.map (num S)).map V.int)) ∧
    H' D = some (.dK (sn.map fun u => ((Sum.inl (num S u) : Key), V.bl true))) ∧ sn.Nodup ∧ (∀ u, u ∈ sn ∨ u ∈ ws → u ∈ S ∧ ∃ t ∈ trees os, inT u t = true) ∧ (∀ t ∈ trees os, t ∈ sn ∨ t ∈ ws) ∧
    (∀ a b, Tr.fk a b ∈ sn → (a ∈ sn ∨ a ∈ ws) ∧ (b ∈ sn ∨ b ∈ ws)) ∧ ws.length ≤ ns.length + sn.length) (muW S.length W D)
    ⟨trees os, [], none, none, rfl, s2.trans s3, s3 _ _ hW2, hD3, List.nodup_nil, (fun u hu => ?_), (fun t ht => .inr ht), (fun _ _ z => nomatch z), by simpa using tl⟩ ?_ (fun _ _ _ _ h ⟨v, e, l, z⟩ => ⟨v, e, l, fun p np => let ⟨d, e', a1, a2, a3, a4, k, ek, q⟩ := z p np; ⟨d, e', a1, a2, a3, a4, k, ek, h _ _ q⟩⟩)
  · rcases hu with z | z
    · cases z
    · exact ⟨tin u z, u, z, inT_self u⟩
  rintro σ H4 ⟨ws, sn, x, y, rfl, s4, hW4, hD4, nd4, all4, has4, cl4, le4⟩
  have hS4 := hS.same s4
  walk_at "w"
  refine ⟨line_of (n := 0) rfl (by decide), fun p np => ?_⟩
  obtain ⟨H5, e5, s5, hp⟩ := new_of (o := .lst []) np
  rw [e5]
  refine w_neLs (ns := ws.map (num S)) (ms := []) (SqL.of (s5 _ _ hW4)) (SqL.of hp) ?_
  walk_at "w"
  have hW5 := s5 _ _ hW4
  have hD5 := s5 _ _ hD4
  have s45 := s4.trans s5
  have hS5 := hS.same s45
  have lS := nodup_len nd4 fun u hu => (all4 u (.inl hu)).1
  refine ite_n (fun hne => ?_) (fun hnil => ?_)
  · obtain ⟨wi, u, rfl⟩ : ∃ wi u, ws = wi ++ [u] := by
      rcases List.eq_nil_or_concat ws with z | ⟨a, b, z⟩
      · exact absurd (by rw [z]; rfl) hne
      · exact ⟨a, b, by simpa using z⟩
    obtain ⟨uS, ut⟩ := all4 u (.inr (by simp))
    have e1 : ((wi ++ [u]).map (num S)).map V.int = (wi.map (num S)).map V.int ++ [.int (num S u)] := by simp
    rw [e1] at hW5
    have nmu := nm_num uS
    walk_at "s"
    refine ⟨.inl ⟨rfl, _, SqL.of hW5⟩, W, _, .int (num S u), rfl, rfl, hW5, (by simp), ?_⟩
    rw [List.dropLast_concat]
    walk_at "nx"
    generalize eG : upd H5 W (.lst ((wi.map (num S)).map V.int)) = H6
    have hW6 : H6 W = some (.lst ((wi.map (num S)).map V.int)) := by rw [← eG]; exact upd_same
    have hD6 : H6 D = some (.dK (sn.map fun u => ((Sum.inl (num S u) : Key), V.bl true))) := by rw [← eG, upd_ne WD.symm]; exact hD5
    have s6 : Same H H6 := fun b o e => by rw [← eG, upd_ne (ne_of_none e nW)]; exact s45 b o e
    have hS6 := hS.same s6
    walk_at "w"
    refine ⟨_, rfl, _, rfl, D, _, rfl, DGet.k (k := Sum.inl (num S u)) hD6, ?_⟩
    rw [valV_seen uS sn fun v hv => (all4 v (.inl hv)).1]
    walk_at "w"
    have lw : wi.length + 1 ≤ ns.length + sn.length := by simpa using le4
    by_cases hsn : u ∈ sn
    · rw [if_pos hsn]
      refine iteF ?_
      walk_at "w"
      refine ⟨⟨wi, sn, _, _, rfl, s6, hW6, hD6, nd4, (fun v hv => ?_), (fun t ht => ?_), (fun a b hab => ?_), by omega⟩, ?_⟩
      · rcases hv with z | z
        · exact all4 v (.inl z)
        · exact all4 v (.inr (by simp [z]))
      · rcases has4 t ht with z | z
        · exact .inl z
        · rcases List.mem_append.mp z with z | z
          · exact .inr z
          · rw [List.mem_singleton] at z; rw [z]; exact .inl hsn
      · obtain ⟨k1, k2⟩ := cl4 a b hab
        have f : ∀ v, v ∈ sn ∨ v ∈ wi ++ [u] → v ∈ sn ∨ v ∈ wi := fun v hv => by
          rcases hv with z | z
          · exact .inl z
          · rcases List.mem_append.mp z with z | z
            · exact .inr z
            · rw [List.mem_singleton] at z; rw [z]; exact .inl hsn
        exact ⟨f a k1, f b k2⟩
      · rw [muW_of hW6 hD6, muW_of hW4 hD4]
        simp
    rw [if_neg hsn]
    have ndu : (sn ++ [u]).Nodup := by
      rw [List.nodup_append]
      exact ⟨nd4, by simp, fun a ha b hb => by rw [List.mem_singleton] at hb; rintro rfl; exact hsn (hb ▸ ha)⟩
    have lS2 := nodup_len ndu fun v hv => by
      rcases List.mem_append.mp hv with z | z
      · exact (all4 v (.inl z)).1
      · rw [List.mem_singleton] at z; rw [z]; exact uS
    rw [List.length_append, List.length_singleton] at lS2
    refine iteT ?_
    walk_at "s"
    refine ⟨_, rfl, _, rfl, D, _, rfl, DPut.k (k := Sum.inl (num S u)) hD6 (by rw [List.length_map]; omega), ?_⟩
    rw [putK_new _ (by rw [valV_seen uS sn fun v hv => (all4 v (.inl hv)).1, if_neg hsn])]
    have e2 : (sn.map fun u => ((Sum.inl (num S u) : Key), V.bl true)) ++ [(Sum.inl (num S u), .bl true)] = (sn ++ [u]).map fun u => ((Sum.inl (num S u) : Key), V.bl true) := by simp
    rw [e2]
    generalize eF : upd H6 D (.dK ((sn ++ [u]).map fun u => ((Sum.inl (num S u) : Key), V.bl true))) = H7
    have hD7 : H7 D = some (.dK ((sn ++ [u]).map fun u => ((Sum.inl (num S u) : Key), V.bl true))) := by rw [← eF]; exact upd_same
    have hW7 : H7 W = some (.lst ((wi.map (num S)).map V.int)) := by rw [← eF, upd_ne WD]; exact hW6
    have s7 : Same H H7 := fun b o e => by rw [← eF, upd_ne (ne_of_none e nD0)]; exact s6 b o e
    have hS7 := hS.same s7
    dsimp only
    walk_at "s"
    refine c_piece hS7 nmu fun pr hpr => ?_
    walk_at "nx"
    walk_at "w"
    have has' : ∀ t ∈ trees os, ∀ more, t ∈ sn ++ [u] ∨ t ∈ wi ++ more := fun t ht more => by
      rcases has4 t ht with z | z
      · exact .inl (List.mem_append_left _ z)
      · rcases List.mem_append.mp z with z | z
        · exact .inr (List.mem_append_left _ z)
        · exact .inl (List.mem_append_right _ z)
    have cl' : ∀ a b more, Tr.fk a b ∈ sn → (a ∈ sn ++ [u] ∨ a ∈ wi ++ more) ∧ (b ∈ sn ++ [u] ∨ b ∈ wi ++ more) := fun a b more hab => by
      obtain ⟨k1, k2⟩ := cl4 a b hab
      have f : ∀ v, v ∈ sn ∨ v ∈ wi ++ [u] → v ∈ sn ++ [u] ∨ v ∈ wi ++ more := fun v hv => by
        rcases hv with z | z
        · exact .inl (List.mem_append_left _ z)
        · rcases List.mem_append.mp z with z | z
          · exact .inr (List.mem_append_left _ z)
          · exact .inl (List.mem_append_right _ z)
      exact ⟨f a k1, f b k2⟩
    have all' : ∀ v, v ∈ sn ++ [u] ∨ v ∈ wi → v ∈ S ∧ ∃ t ∈ trees os, inT v t = true := fun v hv => by
      rcases hv with z | z
      · rcases List.mem_append.mp z with z | z
        · exact all4 v (.inl z)
        · rw [List.mem_singleton] at z; rw [z]; exact ⟨uS, ut⟩
      · exact all4 v (.inr (List.mem_append_left _ z))
    cases u with
    | lf l =>
      have i0 : atI (pvals S (.lf l)) 0 = some (.str "leaf") := rfl
      refine w_ixt (SqT.of hpr) i0 ?_
      walk_at "w"
      rw [decide_eq_false leaf_ne_fork]
      refine iteF ?_
      walk_at "w"
      refine ⟨⟨wi, sn ++ [.lf l], _, _, rfl, s7, hW7, hD7, ndu, all', (fun t ht => by simpa using has' t ht []), (fun a b hab => ?_), by simp; omega⟩, ?_⟩
      · rcases List.mem_append.mp hab with z | z
        · simpa using cl' a b [] z
        · rw [List.mem_singleton] at z; cases z
      · rw [muW_of hW7 hD7, muW_of hW4 hD4]
        simp; omega
    | fk a b =>
      have i0 : atI (pvals S (.fk a b)) 0 = some (.str "fork") := rfl
      have i1 : atI (pvals S (.fk a b)) 1 = some (.int (num S a)) := rfl
      have i2 : atI (pvals S (.fk a b)) 2 = some (.int (num S b)) := rfl
      obtain ⟨aS, bS⟩ := hS.gd.parts uS
      refine w_ixt (SqT.of hpr) i0 ?_
      walk_at "w"
      rw [decide_eq_true rfl]
      refine iteT ?_
      walk_at "w"
      refine ⟨.inl ⟨rfl, _, SqL.of hW7⟩, ?_⟩
      walk_at "w"
      refine w_ixt (SqT.of hpr) i1 ?_
      walk_at "w"
      refine w_ixt (SqT.of hpr) i2 ?_
      walk_at "w"
      refine ⟨line_of (n := 2) rfl (by decide), fun p2 np2 => ?_⟩
      obtain ⟨H8, e8, s8, hp2⟩ := new_of (o := .lst [.int (num S a), .int (num S b)]) np2
      rw [e8]
      walk_at "w"
      refine ⟨W, p2, _, _, rfl, rfl, s8 _ _ hW7, hp2, by simp; omega, ?_⟩
      have e3 : (wi.map (num S)).map V.int ++ [V.int (num S a), .int (num S b)] = ((wi ++ [a, b]).map (num S)).map V.int := by simp
      rw [e3]
      have hD9 : upd H8 W (.lst (((wi ++ [a, b]).map (num S)).map V.int)) D = some (.dK ((sn ++ [Tr.fk a b]).map fun u => ((Sum.inl (num S u) : Key), V.bl true))) := by rw [upd_ne WD.symm]; exact s8 _ _ hD7
      obtain ⟨t, ht, it⟩ := ut
      obtain ⟨ia, ib⟩ := inT_part it
      refine ⟨⟨wi ++ [a, b], sn ++ [.fk a b], _, _, rfl, fun x o e => ?_, upd_same, hD9, ndu, (fun v hv => ?_), (fun t ht => has' t ht [a, b]), (fun x y hxy => ?_), by simp; omega⟩, ?_⟩
      · rw [upd_ne (ne_of_none e nW)]; exact s8 _ _ (s7 x o e)
      · rcases hv with z | z
        · exact all' v (.inl z)
        · rcases List.mem_append.mp z with z | z
          · exact all' v (.inr z)
          · simp only [List.mem_cons, List.not_mem_nil, or_false] at z
            rcases z with rfl | rfl
            · exact ⟨aS, t, ht, ia⟩
            · exact ⟨bS, t, ht, ib⟩
      · rcases List.mem_append.mp hxy with z | z
        · exact cl' x y [a, b] z
        · rw [List.mem_singleton] at z
          cases z
          exact ⟨.inr (by simp), .inr (by simp)⟩
      · rw [muW_of upd_same hD9, muW_of hW4 hD4]
        simp; omega
  have wnil : ws = [] := by simpa using hnil
  subst wnil
  walk_at "w"
  refine ⟨.inr (.inr (.inl ⟨rfl, .inl ⟨_, hD5⟩⟩)), D, _, rfl, rfl, hD5, fun vp nvp => ?_⟩
  obtain ⟨H6, e6, s6, hp6⟩ := new_of (o := keysO vp D) nvp
  rw [e6]
  walk_at "w"
  refine ⟨vp, D, _, sn.map (num S), rfl, hp6, s6 _ _ hD5, by simp, fun out rr perm rising nr => ?_⟩
  obtain ⟨H7, e7, s7, hp7⟩ := new_of (o := .lst (out.map V.int)) nr
  rw [e7]
  have pr := reach_perm hS.gd nd4 (fun u hu => all4 u (.inl hu)) (fun t ht => (has4 t ht).elim id (fun z => nomatch z)) (fun a b hab => ⟨(cl4 a b hab).1.elim id (fun z => nomatch z), (cl4 a b hab).2.elim id (fun z => nomatch z)⟩)
  have eo : out = reachN S os := sorted_is (perm.trans (pr.map (num S))) rising (reach_rising hS.gd)
  refine q H7 rr ((s45.trans s6).trans s7) ((s45.trans s6).free nr) ?_
  rw [hp7, eo]
end

/-! ### swept shelves -/
def spSwept (C CN : Addr) : Sp := fun vs H Q E => ∃ (c : Cells) (S : List Tr) (r : Addr) (ns : List Int), vs = [.ref c.a, .ref r] ∧ ShAt C c H S ∧ H r = some (.lst (ns.map V.int)) ∧ ns.length + S.length ≤ cap ∧
  (((∃ n ∈ ns, ¬ inR S n) ∧ ∀ H', Same H H' → E (.ref CN) none H') ∨ ∃ os, TxAll S ns os ∧ ∀ H' p c' L, Same H H' → H p = none → (∀ b ∈ c'.all, H b = none) → H L = none → L ∉ c'.all → H' p = some (.tup [.ref (Cells.a c'), .ref L]) →
    ShAt C c' H' (reachT S (trees os)) → H' L = some (.lst ((os.map (numO (reachT S (trees os)))).map V.int)) → Q (.ref p) H')
section
variable {P : Program} {w : World} {K : PySem.W.Frag} {mg : Str → Option Value} {base : Heap} {A : Ad}
abbrev n_swept : List Str := ["shelf", "texts", "clean", "numbers", "number", "piece", "text"]
theorem sc_swept : FnScope n_swept p_swept (defScope s_swept) := ⟨rfl, rfl, rfl, by decide +kernel, rfl, by decide +kernel, by decide +kernel⟩
theorem ok_swept (T : Txt K mg A) : FnOk P w K mg base (L2.CX P w) 5 A.f_swept A.d_swept p_swept (spSwept A.C_Shelf A.C_NoPiece) := by
  refine T.fn_swept.okX sc_swept (fun vs H Q E h => ?_) (fun cdv B outer s H vs Q E hr h => ?_)
  · obtain ⟨c, S, r, ns, rfl, _⟩ := h; rfl
  obtain ⟨c, S, r, ns, rfl, hS, hr1, cp, q⟩ := h
  have hu := hu_of hr
  refine ⟨_, (pss_cons (ps_set (i := 2) sc_swept.nd rfl (Or.inl rfl) (pe_make0 T.mk_Shelf (ok_Shelf___init__ T) (hr.mono (by omega)) rfl T.mg_Shelf T.bi_Shelf___init__ .nil (passes_call (takes_of rfl rfl rfl rfl) (fun _ _ _ _ h => h))))
      (pss_cons (ps_set (i := 3) sc_swept.nd rfl (Or.inr rfl) (pe_disp (pps_cons pe_int pe_int pps_nil) (by rfl) (by rfl) (fun z => by cases z) (by decide)))
      (pss_cons (ps_for (passes_of rfl) rfl (pi_list (pe_call (ok_reach_of T) (hr.mono (by omega)) (by rfl) T.mg_reach_of T.fn_reach_of.kp T.bi_reach_of .nil (passes_call (takes_of rfl rfl rfl rfl) (fun _ _ _ _ h => h)) (pa_cons (pv 0) (pa_cons (pv 1) pa_nil)))) (pg_name (i := 4) sc_swept.nd rfl (Or.inl rfl))
      (pss_cons (ps_set (i := 5) sc_swept.nd rfl (Or.inl rfl) (pe_meth (pv 0) T.cl_Shelf T.me_Shelf_piece (ok_Shelf_piece T) (hr.mono (by omega)) T.bi_Shelf_piece .nil (passes_call (takes_of rfl rfl rfl rfl) (fun _ _ _ _ h => h)) (pa_cons (pv 4) pa_nil)))
      (pss_one (ps_if (pt_cmpR op_eq (pe_ix ix_tup (pv 5) pe_int (fun _ _ => rfl)) pe_str (nomark _)) (pss_one (ps_dput hu (pv 3) (pv 4) (pe_meth (pv 2) T.cl_Shelf T.me_Shelf_leaf (ok_Shelf_leaf T) (hr.mono (by omega)) T.bi_Shelf_leaf .nil (passes_call (takes_of rfl rfl rfl rfl) (fun _ _ _ _ h => h)) (pa_cons (pe_ix ix_tup (pv 5) pe_int (fun _ _ => rfl)) pa_nil)) rfl)) (pss_one (ps_dput hu (pv 3) (pv 4) (pe_meth (pv 2) T.cl_Shelf T.me_Shelf_fork (ok_Shelf_fork T) (hr.mono (by omega)) T.bi_Shelf_fork .nil (passes_call (takes_of rfl rfl rfl rfl) (fun _ _ _ _ h => h)) (pa_cons (pe_dget hu (pv 3) (pe_ix ix_tup (pv 5) pe_int (fun _ _ => rfl)) (fun _ _ => rfl)) (pa_cons (pe_dget hu (pv 3) (pe_ix ix_tup (pv 5) pe_int (fun _ _ => rfl)) (fun _ _ => rfl)) pa_nil))) rfl))))))
      (pss_one (ps_ret (pe_tup (pa_cons (pv 2) (pa_cons (pe_lc (own := [("text", 6)]) (g := gName 6) (tt := tYes) rfl sc_swept.nd (pi_list (pv 1)) (blkOk_by (own := [("text", 6)]) (N := n_swept) (sc := defScope s_swept) (by decide +kernel)) (fun _ _ _ _ _ => (pg_name (i := 6) sc_swept.nd rfl (Or.inl rfl))) (fun _ _ _ _ _ => pts_nil) (fun _ _ _ _ _ => (pe_dget hu (pv 3) (pv 6) (fun _ _ => rfl)))) pa_nil)))))))), ?_⟩
  have hcl := cap_line
  walk_at "s"
  refine c_new fun c' H1 hC1 s1 new => ?_
  walk_at "nx"
  have hS1 := hS.same s1
  have disj : ∀ b ∈ c'.all, b ∉ c.all := fun b hb hc => by
    have := new b hb
    simp only [Cells.all, List.mem_cons, List.not_mem_nil, or_false] at hc
    obtain ⟨rs, h1, _⟩ := hS.pc
    have f : ∀ {x : Addr} {o : HO}, H x = some o → b ≠ x := fun e => (ne_of_none e this).symm
    rcases hc with e | e | e | e | e | e | e | e | e | e
    · exact f hS.ob e
    · exact f hS.ow e
    · exact f h1 e
    · exact f hS.nb e
    · exact f hS.sg e
    · exact f hS.en e
    · exact f hS.lv e
    · exact f hS.ht e
    · exact f hS.fi e
    · exact f hS.la e
  walk_at "s"
  refine fun D nD => ⟨upd_same, [(Sum.inl 0, .int 0)], rfl, by decide, ?_⟩
  rw [upd_upd]
  obtain ⟨H2, e2, s2, hD2⟩ := new_of (o := .dK (mergeK [] [((Sum.inl 0 : Key), V.int 0)])) nD
  rw [e2]
  walk_at "nx"
  have hS2 := hS1.same s2
  have hC2 := hC1.same s2
  have s12 := s1.trans s2
  have Dc : D ∉ c'.all := hC1.apart nD
  have nD0 : H D = none := s1.free nD
  walk_at "s"
  refine ⟨c, S, r, ns, rfl, hS2, s12 _ _ hr1, cp, ?_⟩
  rcases q with ⟨bad, q⟩ | ⟨os, tx, q⟩
  · exact .inl ⟨bad, fun H' s3 => q H' (s12.trans s3)⟩
  refine .inr ⟨os, tx, fun H3 lp s3 nlp hlp => ?_⟩
  refine ⟨lp, rfl, ⟨_, SqL.of hlp⟩, ?_⟩
  obtain ⟨R, eR⟩ : ∃ R, R = reachT S (trees os) := ⟨_, rfl⟩
  have eN : reachN S os = R.map (num S) := by rw [eR]; rfl
  rw [eN] at hlp
  have sub : R.Sublist S := by rw [eR]; exact reach_sub S _
  have subm : ∀ u ∈ R, u ∈ S := fun u hu => sub.subset hu
  have nd : R.Nodup := hS.gd.nd.sublist sub
  have cl : ∀ a b, Tr.fk a b ∈ R → a ∈ R ∧ b ∈ R := fun a b h => by rw [eR] at h ⊢; exact reach_cl hS.gd h
  have lR : R.length ≤ S.length := sub.length_le
  have s13 := s12.trans s3
  have nlp0 : H lp = none := s12.free nlp
  have lmap : ((R.map (num S)).map V.int).length = R.length := by simp
  have lpD : lp ≠ D := (ne_of_none hD2 nlp).symm
  have lpc : lp ∉ c'.all := hC2.apart nlp
  have G1 := fun {k : Nat} => True
  refine for_it walk_list (fun i σ H' => ∃ (x y : Option V), σ = [some (.ref c.a), some (.ref r), some (.ref c'.a), some (.ref D), x, y, none] ∧ Same H H' ∧ ShAt A.C_Shelf c' H' (R.take i) ∧ H' D = some (.dK (book S R i)) ∧ H' lp = some (.lst ((R.map (num S)).map V.int)))
    ⟨none, none, rfl, s13, hC2.same s3, s3 _ _ hD2, hlp⟩ (fun i σ H' _ ⟨_, _, _, _, _, _, z⟩ => SqL.of z) ?_ ?_
  · rintro i x σ H5 H4 hi ⟨x4, x5, rfl, s4, hC4, hD4, hlp4⟩ ⟨rfl, hx⟩
    rw [List.getElem?_map, List.getElem?_map] at hx
    cases hu : R[i]? with
    | none => rw [hu] at hx; cases hx
    | some u =>
    rw [hu] at hx
    cases hx
    have uR := List.mem_of_getElem? hu
    have uS := subm u uR
    have oku := hS.gd.ok u uS
    have hS4 := hS.same s4
    have lt : (R.take i).length < cap := by
      have := (List.getElem?_eq_some_iff.mp hu).1
      rw [List.length_take]; omega
    have lb : (book S R i).length < sizeLine := by
      unfold book
      rw [List.length_cons, List.length_map, List.length_take]; omega
    have nu : num (put (R.take i) u) u = num R u := by rw [put_take nd hu]; exact (num_ext (take_ext R (i + 1)) (by rw [← put_take nd hu]; exact put_mem)).symm
    have done : ∀ H6, ShAt A.C_Shelf c' H6 (put (R.take i) u) → Keep c' H4 H6 → Same H (upd H6 D (.dK (book S R (i + 1)))) ∧ ShAt A.C_Shelf c' (upd H6 D (.dK (book S R (i + 1)))) (R.take (i + 1)) ∧ upd H6 D (.dK (book S R (i + 1))) D = some (.dK (book S R (i + 1))) ∧
        upd H6 D (.dK (book S R (i + 1))) lp = some (.lst ((R.map (num S)).map V.int)) := fun H6 hC6 k6 => by
      have hD6 := k6 _ _ Dc hD4
      refine ⟨fun b o e => ?_, ?_, upd_same, ?_⟩
      · rw [upd_ne (ne_of_none e nD0)]; exact Same.keepN s4 k6 new b o e
      · rw [← put_take nd hu]
        exact hC6.keepL (l := [D]) (KeepL.upd (by simp)) (fun b hb => by rw [List.mem_singleton] at hb; rw [hb]; exact Dc) fun b xs e => by rw [upd_ne (ne_of e hD6 (by intro z; cases z))]; exact e
      · rw [upd_ne lpD]; exact k6 _ _ lpc hlp4
    have putb : ∀ H6 : Hp, H6 D = some (.dK (book S R i)) → putK (book S R i) (Sum.inl (num S u)) (V.int (num R u)) = book S R (i + 1) := fun H6 _ => by
      rw [putK_new _ (book_new subm nd hu), book_succ hu]
    refine w_gname ?_
    walk_at "s"
    refine c_piece hS4 (nm_num uS) fun pr hpr => ?_
    walk_at "nx"
    walk_at "w"
    cases u with
    | lf l =>
      have i0 : atI (pvals S (.lf l)) 0 = some (.str "leaf") := rfl
      have i1 : atI (pvals S (.lf l)) 1 = some (.str (sT l)) := rfl
      refine w_ixt (SqT.of hpr) i0 ?_
      walk_at "w"
      rw [decide_eq_true rfl]
      refine iteT ?_
      show tMeth _ _ _ _ _ _ _ _ _ _
      walk_at "w"
      refine w_ixt (SqT.of hpr) i1 ?_
      walk_at "w"
      refine c_leaf hC4 oku lt fun H6 hC6 k6 => ?_
      have hD6 := k6 _ _ Dc hD4
      refine ⟨_, rfl, _, rfl, D, _, rfl, DPut.k (k := Sum.inl (num S (.lf l))) hD6 lb, ?_⟩
      rw [nu, putb H6 hD6]
      exact ⟨_, _, rfl, done H6 hC6 k6⟩
    | fk a b =>
      have i0 : atI (pvals S (.fk a b)) 0 = some (.str "fork") := rfl
      have i1 : atI (pvals S (.fk a b)) 1 = some (.int (num S a)) := rfl
      have i2 : atI (pvals S (.fk a b)) 2 = some (.int (num S b)) := rfl
      obtain ⟨aR, bR⟩ := cl a b uR
      obtain ⟨la, lb'⟩ := hS.gd.before uS
      have ta := part_before hS.gd sub hu aR la
      have tb := part_before hS.gd sub hu bR lb'
      have na : Nm (R.take i) (num R a) a := by rw [num_ext (take_ext R i) ta]; exact nm_num ta
      have nb : Nm (R.take i) (num R b) b := by rw [num_ext (take_ext R i) tb]; exact nm_num tb
      refine w_ixt (SqT.of hpr) i0 ?_
      walk_at "w"
      rw [decide_eq_false (fun z => leaf_ne_fork z.symm)]
      refine iteF ?_
      show tMeth _ _ _ _ _ _ _ _ _ _
      walk_at "w"
      refine ⟨_, rfl, ?_⟩
      walk_at "w"
      refine w_ixt (SqT.of hpr) i1 ⟨D, _, rfl, by have := DGet.k (k := Sum.inl (num S a)) hD4; rw [book_at subm ta] at this; exact this, ?_⟩
      walk_at "w"
      refine ⟨_, rfl, ?_⟩
      walk_at "w"
      refine w_ixt (SqT.of hpr) i2 ⟨D, _, rfl, by have := DGet.k (k := Sum.inl (num S b)) hD4; rw [book_at subm tb] at this; exact this, ?_⟩
      walk_at "w"
      refine c_fork hC4 na nb oku lt fun H6 hC6 k6 => ?_
      have hD6 := k6 _ _ Dc hD4
      refine ⟨_, rfl, _, rfl, D, _, rfl, DPut.k (k := Sum.inl (num S (.fk a b))) hD6 lb, ?_⟩
      rw [nu, putb H6 hD6]
      exact ⟨_, _, rfl, done H6 hC6 k6⟩
  rintro σ H4 ⟨x4, x5, rfl, s4, hC4, hD4, hlp4⟩
  rw [lmap, List.take_length] at hC4
  rw [lmap] at hD4
  dsimp only
  walk_at "w"
  refine ⟨r, rfl, ⟨_, SqL.of (s4 _ _ hr1)⟩, fun L nL => ?_⟩
  have ln : (ns.map V.int).length = ns.length := List.length_map _
  have lo := tx.len
  have mR : ∀ t ∈ trees os, t ∈ R := fun t ht => by
    rw [eR]; exact mem_reachT.mpr ⟨trees_in tx t ht, t, ht, inT_self t⟩
  refine lc_it walk_list (fun i H' => Same H4 H' ∧ H' L = some (.lst ((((os.take i).map (numO R))).map V.int))) ⟨fun b o e => by rw [upd_ne (ne_of_none e nL)]; exact e, upd_same⟩ (fun i H' _ z => z.1.seq (SqL.of (s4 _ _ hr1))) ?_ ?_
  · rintro i x H6 H5 hi ⟨s5, hL5⟩ ⟨rfl, hx⟩
    rw [ln] at hi
    rw [List.getElem?_map] at hx
    have en := List.getElem?_eq_getElem hi
    rw [en] at hx
    cases hx
    obtain ⟨o, ho, txo⟩ := tx.get en
    have oin : ∀ t, o = some t → t ∈ R := fun t e => mR t (by
      unfold trees
      rw [List.mem_filterMap]
      exact ⟨o, List.mem_of_getElem? ho, e⟩)
    have gv : valV (book S R R.length) (Sum.inl ns[i]) = some (.int (numO R o)) := by
      cases o with
      | none =>
        have e0 : ns[i] = 0 := txo
        rw [e0]; exact book_0
      | some t =>
        have e0 : ns[i] = num S t := Nm.num (show Nm S ns[i] t from txo) hS.gd.nd
        rw [e0]
        exact book_at subm (by rw [List.take_length]; exact oin t rfl)
    refine w_gname ⟨rfl, w_yes (iteT ?_)⟩
    refine ⟨_, rfl, _, rfl, D, _, rfl, by have := DGet.k (k := Sum.inl ns[i]) (s5 _ _ hD4); rw [gv] at this; exact this, ?_⟩
    refine ⟨_, hL5, ?_, fun b o' e => ?_, ?_⟩
    · simp; omega
    · rw [upd_ne (ne_of_none e nL)]; exact s5 b o' e
    · rw [upd_same, take_snoc ho, List.map_append, List.map_append]; rfl
  rintro H5 ⟨s5, hL5⟩
  walk_at "w"
  rw [ln, lo, List.take_length] at hL5
  refine ⟨by show 2 ≤ sizeLine; rw [sizeLine_eq]; decide, fun tp ntp => ?_⟩
  obtain ⟨H6, e6, s6, htp⟩ := new_of (o := .tup [.ref c'.a, .ref L]) ntp
  rw [e6]
  rw [eR] at hL5 hC4
  exact q H6 tp c' L ((s4.trans s5).trans s6) ((s4.trans s5).free ntp) new (s4.free nL) (hC4.apart nL) htp ((hC4.same s5).same s6) (s6 _ _ hL5)
end

/-! ### a text read by its pieces -/
def spRead (C : Addr) : Sp := fun vs H Q _ => ∃ (c : Cells) (S : List Tr) (n : Int) (o : Option Tr), vs = [.ref c.a, .int n] ∧ ShAt C c H S ∧ Tx S n o ∧ oS o ≤ 1000000 ∧ ∀ H', Same H H' → Q (.str (sT (oX o))) H'
theorem c_read {C : Addr} {c : Cells} {S : List Tr} {n : Int} {o : Option Tr} {H : Hp} {Q : VK} {E : XK} (s : ShAt C c H S) (h : Tx S n o) (l : oS o ≤ 1000000) (k : ∀ H', Same H H' → Q (.str (sT (oX o))) H') : spRead C [.ref c.a, .int n] H Q E := ⟨c, S, n, o, rfl, s, h, l, k⟩
section
variable {P : Program} {w : World} {K : PySem.W.Frag} {mg : Str → Option Value} {base : Heap} {A : Ad}
abbrev n__law_read : List Str := ["shelf", "text", "plain", "waiting", "number", "piece"]
theorem sc__law_read : FnScope n__law_read p__law_read (defScope s__law_read) := ⟨rfl, rfl, rfl, by decide +kernel, rfl, by decide +kernel, by decide +kernel⟩
theorem ok__law_read (T : Txt K mg A) : FnOk P w K mg base (L2.CX P w) 3 A.f__law_read A.d__law_read p__law_read (spRead A.C_Shelf) := by
  refine T.fn__law_read.okX sc__law_read (fun vs H Q E h => ?_) (fun cdv B outer s H vs Q E hr h => ?_)
  · obtain ⟨c, S, n, o, rfl, _⟩ := h; rfl
  obtain ⟨c, S, n, o, rfl, hS, ho, lo, q⟩ := h
  have hu := hu_of hr
  refine ⟨_, (pss_cons (ps_set (i := 2) sc__law_read.nd rfl (Or.inl rfl) pe_str)
      (pss_cons (ps_set (i := 3) sc__law_read.nd rfl (Or.inl rfl) (pe_lst (pa_cons (pv 1) pa_nil)))
      (pss_cons (ps_while (passes_of rfl) (pt_cmpR (op_neD hr.units) (pv 3) (pe_lst pa_nil) (nomark _))
      (pss_cons (ps_set (i := 4) sc__law_read.nd rfl (Or.inl rfl) (pe_bm0 PySem.F.plainAttrs_list PySem.F.slot_list_pop PySem.F.type_list_pop mt_pop (pv 3)))
      (pss_one (ps_if (pt_cmpR op_ne (pv 4) pe_int (nomark _)) (pss_cons (ps_set (i := 5) sc__law_read.nd rfl (Or.inl rfl) (pe_meth (pv 0) T.cl_Shelf T.me_Shelf_piece (ok_Shelf_piece T) (hr.mono (by omega)) T.bi_Shelf_piece .nil (passes_call (takes_of rfl rfl rfl rfl) (fun _ _ _ _ h => h)) (pa_cons (pv 4) pa_nil)))
      (pss_one (ps_if (pt_cmpR op_eq (pe_ix ix_tup (pv 5) pe_int (fun _ _ => rfl)) pe_str (nomark _)) (pss_one (ps_set (i := 2) sc__law_read.nd rfl (Or.inl rfl) (pe_op op_add_str (pv 2) (pe_ix ix_tup (pv 5) pe_int (fun _ _ => rfl))))) (pss_one (ps_expr (pe_bm PySem.F.plainAttrs_list PySem.F.slot_list_extend PySem.F.type_list_extend mt_extend (pv 3) (pa_cons (pe_lst (pa_cons (pe_ix ix_tup (pv 5) pe_int (fun _ _ => rfl)) (pa_cons (pe_ix ix_tup (pv 5) pe_int (fun _ _ => rfl)) pa_nil))) pa_nil))))))) pss_nil))))
      (pss_one (ps_ret (pv 2)))))), ?_⟩
  have hcl := cap_line
  have hcap : (cap : Nat) = 16000000 := rfl
  have oko := hS.gd.okO ho
  have sz0 : oZ o ≤ 2 * oS o := by
    cases o with
    | none => exact Nat.zero_le _
    | some t => have := (oko t rfl).sz; show t.sz ≤ 2 * t.sg; omega
  have lx : (oX o).length = oS o := oS_txt o
  walk_at "s"
  walk_at "nx"
  walk_at "s"
  refine w_mkl (line_of (n := 1) rfl (by decide)) fun W H1 nW s1 hW => ?_
  walk_at "nx"
  walk_at "s"
  refine while_by (fun σ H' => ∃ (ws : List Int) (os : List (Option Tr)) (p : List Nat) (x y : Option V), σ = [some (.ref c.a), some (.int n), some (.str (sT p)), some (.ref W), x, y] ∧ Same H H' ∧ H' W = some (.lst (ws.map V.int)) ∧ TxAll S ws os ∧ p ++ restX os = oX o ∧ szW S (ws.map V.int) ≤ 1 + 2 * oZ o)
    (muR S W) ⟨[n], [o], [], none, none, by rw [sT_nil]; rfl, s1, hW, ⟨ho, trivial⟩, by simp [restX], by simp [szW, szN_tx ho]⟩ ?_ (fun _ _ _ _ h ⟨v, e, l, z⟩ => ⟨v, e, l, fun p np => let ⟨d, e', a1, a2, a3, a4, k, ek, q⟩ := z p np; ⟨d, e', a1, a2, a3, a4, k, ek, h _ _ q⟩⟩)
  rintro σ H2 ⟨ws, os, p, x4, x5, rfl, s2, hW2, tx, ep, le⟩
  have lw := szW_len S (ws.map V.int)
  rw [List.length_map] at lw
  walk_at "w"
  refine ⟨line_of (n := 0) rfl (by decide), fun np nnp => ?_⟩
  obtain ⟨H3, e3, s3, hnp⟩ := new_of (o := .lst []) nnp
  rw [e3]
  have hW3 := s3 _ _ hW2
  refine w_neLs (ns := ws) (ms := []) (SqL.of hW3) (SqL.of hnp) ?_
  walk_at "w"
  refine ite_n (fun hne => ?_) (fun hnil => ?_)
  rotate_left
  · subst hnil
    have eo : os = [] := by
      cases os with
      | nil => rfl
      | cons a b => exact tx.elim
    subst eo
    walk_at "w"
    have := q H3 (s2.trans s3)
    rw [← ep] at this
    simpa [restX] using this
  obtain ⟨wi, m, rfl⟩ : ∃ wi m, ws = wi ++ [m] := by
    rcases List.eq_nil_or_concat ws with z | ⟨a, b, z⟩
    · exact absurd z hne
    · exact ⟨a, b, by simpa using z⟩
  obtain ⟨os', o', rfl, tx', ho'⟩ := tx.last
  rw [restX_snoc] at ep
  have e1 : (wi ++ [m]).map V.int = wi.map V.int ++ [.int m] := by simp
  rw [e1] at hW3 hW2 le
  rw [szW_app] at le
  have lsz : szW S [V.int m] = 1 + 2 * oZ o' := by simp [szW, szN_tx ho']
  rw [lsz] at le
  walk_at "s"
  refine ⟨.inl ⟨rfl, _, SqL.of hW3⟩, W, _, .int m, rfl, rfl, hW3, (by simp), ?_⟩
  rw [List.dropLast_concat]
  walk_at "nx"
  generalize eG : upd H3 W (.lst (wi.map V.int)) = H4
  have hW4 : H4 W = some (.lst (wi.map V.int)) := by rw [← eG]; exact upd_same
  have s4 : Same H H4 := fun b o e => by rw [← eG, upd_ne (ne_of_none e nW)]; exact s3 _ _ (s2 b o e)
  have hS4 := hS.same s4
  have mu2 : ∀ σ : L2.St, muR S W σ H2 = szW S (wi.map V.int) + (1 + 2 * oZ o') := fun σ => by rw [muR_of hW2, szW_app, lsz]
  walk_at "w"
  refine ite_d (fun hm => ?_) (fun hm => ?_)
  rotate_left
  · have m0 : m = 0 := Classical.byContradiction fun z => hm z
    have on : o' = none := by
      cases o' with
      | none => rfl
      | some t => have := Nm.pos (show Nm S m t from ho'); omega
    subst on
    walk_at "w"
    refine ⟨⟨wi, os', p, _, _, rfl, s4, hW4, tx', by simpa [oX] using ep, by omega⟩, ?_⟩
    rw [muR_of hW4, mu2]; omega
  cases o' with
  | none => exact absurd (show m = 0 from ho') hm
  | some t =>
  have nm : Nm S m t := ho'
  have okt := hS.gd.ok t nm.mem
  have lt : p.length + t.sg ≤ oS o := by
    have := congrArg List.length ep
    rw [List.length_append, List.length_append, lx] at this
    have e : (oX (some t)).length = t.sg := oS_txt (some t)
    omega
  walk_at "s"
  refine c_piece hS4 nm fun pr hpr => ?_
  walk_at "nx"
  walk_at "w"
  cases t with
  | lf l =>
    have i0 : atI (pvals S (.lf l)) 0 = some (.str "leaf") := rfl
    have i1 : atI (pvals S (.lf l)) 1 = some (.str (sT l)) := rfl
    refine w_ixt (SqT.of hpr) i0 ?_
    walk_at "w"
    rw [decide_eq_true rfl]
    refine iteT ?_
    walk_at "w"
    refine w_ixt (SqT.of hpr) i1 ?_
    have lt : p.length + l.length ≤ oS o := lt
    refine ⟨_, _, rfl, rfl, by rw [sT_len, sT_len]; omega, ?_⟩
    rw [sT_app]
    walk_at "nx"
    refine ⟨⟨wi, os', p ++ l, _, _, rfl, s4, hW4, tx', by rw [← ep, List.append_assoc]; rfl, by omega⟩, ?_⟩
    rw [muR_of hW4, mu2]; omega
  | fk a b =>
    have i0 : atI (pvals S (.fk a b)) 0 = some (.str "fork") := rfl
    have i1 : atI (pvals S (.fk a b)) 1 = some (.int (num S a)) := rfl
    have i2 : atI (pvals S (.fk a b)) 2 = some (.int (num S b)) := rfl
    obtain ⟨aS, bS⟩ := hS.gd.parts nm.mem
    refine w_ixt (SqT.of hpr) i0 ?_
    walk_at "w"
    rw [decide_eq_false (fun z => leaf_ne_fork z.symm)]
    refine iteF ?_
    walk_at "w"
    refine ⟨.inl ⟨rfl, _, SqL.of hW4⟩, ?_⟩
    walk_at "w"
    refine w_ixt (SqT.of hpr) i2 ?_
    walk_at "w"
    refine w_ixt (SqT.of hpr) i1 ?_
    walk_at "w"
    refine ⟨line_of (n := 2) rfl (by decide), fun p2 np2 => ?_⟩
    obtain ⟨H5, e5, s5, hp2⟩ := new_of (o := .lst [.int (num S b), .int (num S a)]) np2
    rw [e5]
    walk_at "w"
    have lwi : wi.length ≤ szW S (wi.map V.int) := by have := szW_len S (wi.map V.int); rwa [List.length_map] at this
    refine ⟨W, p2, _, _, rfl, rfl, s5 _ _ hW4, hp2, by simp; omega, ?_⟩
    rw [show wi.map V.int ++ [V.int (num S b), V.int (num S a)] = (wi ++ [num S b] ++ [num S a]).map V.int by simp]
    have na : Nm S (num S a) a := nm_num aS
    have nb : Nm S (num S b) b := nm_num bS
    have esz : szW S ((wi ++ [num S b] ++ [num S a]).map V.int) + 1 = szW S (wi.map V.int) + (1 + 2 * oZ (some (Tr.fk a b))) := by
      rw [List.map_append, List.map_append, szW_app, szW_app]
      have z1 : szN S (num S a) = a.sz := szN_tx (o := some a) na
      have z2 : szN S (num S b) = b.sz := szN_tx (o := some b) nb
      have z3 : oZ (some (Tr.fk a b)) = 1 + a.sz + b.sz := rfl
      simp only [List.map_cons, List.map_nil, szW, z1, z2, z3]; omega
    refine ⟨⟨wi ++ [num S b] ++ [num S a], os' ++ [some b] ++ [some a], p, _, _, rfl, fun x o e => ?_, upd_same, (tx'.snoc (show Tx S (num S b) (some b) from nb)).snoc (show Tx S (num S a) (some a) from na), ?_, by omega⟩, ?_⟩
    · rw [upd_ne (ne_of_none e nW)]; exact s5 _ _ (s4 x o e)
    · rw [restX_snoc, restX_snoc, ← ep]
      show p ++ (a.txt ++ (b.txt ++ restX os')) = p ++ ((a.txt ++ b.txt) ++ restX os')
      rw [List.append_assoc]
    · rw [muR_of upd_same, mu2]; omega
end

/-! ### the stream of one cell -/
def spCell : Sp := fun vs H Q _ => ∃ (x k : Int), vs = [.int x, .int k] ∧ 0 ≤ k ∧ k < 1000 ∧ ∀ (H' : Hp) (p : Addr) (n : Int), Same H H' → H p = none → H' p = some (.lst [.int n]) → 0 ≤ n → Q (.ref p) H'
section
variable {P : Program} {w : World} {K : PySem.W.Frag} {mg : Str → Option Value} {base : Heap} {A : Ad}
abbrev n__law_cell_stream : List Str := ["cell", "k", "found", "j"]
theorem sc__law_cell_stream : FnScope n__law_cell_stream p__law_cell_stream (defScope s__law_cell_stream) := ⟨rfl, rfl, rfl, by decide +kernel, rfl, by decide +kernel, by decide +kernel⟩
theorem ok__law_cell_stream (T : Txt K mg A) : FnOk P w K mg base (L2.CX P w) 2 A.f__law_cell_stream A.d__law_cell_stream p__law_cell_stream spCell := by
  refine T.fn__law_cell_stream.okX sc__law_cell_stream (fun vs H Q E h => ?_) (fun cdv B outer s H vs Q E hr h => ?_)
  · obtain ⟨x, k, rfl, _⟩ := h; rfl
  obtain ⟨x, k, rfl, k0, k1, q⟩ := h
  refine ⟨_, (pss_cons (ps_set (i := 0) sc__law_cell_stream.nd rfl (Or.inl rfl) (pe_op op_mod (pv 0) (pe_op op_mulW (pe_op op_pow pe_int pe_int) (pe_op op_pow pe_int pe_int))))
      (pss_cons (ps_if (pt_cmpR op_ge (pv 0) (pe_op op_pow pe_int pe_int) (nomark _)) (pss_one (ps_ret (pe_lst (pa_cons (pv 0) pa_nil)))) pss_nil)
      (pss_cons (ps_set (i := 2) sc__law_cell_stream.nd rfl (Or.inl rfl) pe_int)
      (pss_cons (ps_for (passes_of rfl) rfl (pi_range1 (by rfl) T.z_range (pa_cons pe_int pa_nil)) (pg_name (i := 3) sc__law_cell_stream.nd rfl (Or.inl rfl))
      (pss_one (ps_set (i := 2) sc__law_cell_stream.nd rfl (Or.inl rfl) (pe_op op_add (pe_op op_mulW (pv 2) pe_int) (pe_call (ok__law_mixed T) (hr.mono (by omega)) (by rfl) T.mg__law_mixed T.fn__law_mixed.kp T.bi__law_mixed .nil (passes_call (takes_of rfl rfl rfl rfl) (fun _ _ _ _ h => h)) (pa_cons (pe_op op_add (pv 0) (pe_op op_mulW pe_int (pv 1))) (pa_cons (pv 3) pa_nil)))))))
      (pss_one (ps_ret (pe_lst (pa_cons (pv 2) pa_nil)))))))), ?_⟩
  have line : ∀ n : Int, [V.int n].length ≤ sizeLine := fun n => by show 1 ≤ sizeLine; rw [sizeLine_eq]; decide
  have p60 : (10 : Int) ^ (Int.toNat 60) = 1000000000000000000000000000000000000000000000000000000000000 := by decide +kernel
  have e60 : (1000000000000000000000000000000000000000000000000000000000000 : Int) * 1000000000000000000000000000000000000000000000000000000000000 = 1000000000000000000000000000000000000000000000000000000000000000000000000000000000000000000000000000000000000000000000000 := by decide +kernel
  have m60 : CMulW 1000000000000000000000000000000000000000000000000000000000000 1000000000000000000000000000000000000000000000000000000000000 := wide_mul (a := 200) (b := 200) (by decide) (by decide) (by decide) (by decide) (by decide)
  have cp : CPow 10 60 := ⟨by decide, by decide, by decide⟩
  walk_at "s"
  refine w_rI cp ?_
  rw [p60]
  walk_at "w"
  refine w_rI cp ?_
  rw [p60]
  refine w_rI m60 ?_
  rw [e60]
  refine w_rI (by decide) ?_
  have y0 := Int.emod_nonneg x (by decide : (1000000000000000000000000000000000000000000000000000000000000000000000000000000000000000000000000000000000000000000000000 : Int) ≠ 0)
  generalize x % 1000000000000000000000000000000000000000000000000000000000000000000000000000000000000000000000000000000000000000000000000 = y at y0
  walk_at "nx"
  walk_at "s"
  refine w_rI ⟨by decide, by decide, by decide⟩ ?_
  walk_at "w"
  refine ite_d (fun _ => ?_) (fun _ => ?_)
  · walk_at "w"
    refine w_mkl (line _) fun p H2 np s2 hp2 => q H2 p y s2 np hp2 y0
  walk_at "sk"
  walk_at "s"
  walk_at "nx"
  walk_at "s"
  refine ⟨8, rfl, by decide, by decide, ?_⟩
  refine for_it walk_range (fun i σ H' => ∃ (f : Int) (j : Option V), σ = [some (.int y), some (.int k), some (.int f), j] ∧ H' = H ∧ 0 ≤ f ∧ f < 2 ^ (31 * i + 1)) ⟨0, _, rfl, rfl, by decide, by decide⟩ (fun _ _ _ _ _ => trivial) ?_ ?_
  · rintro i x σ H3 H4 hi ⟨f, j, rfl, rfl, f0, f1⟩ ⟨rfl, rfl⟩
    have hi : i < 8 := hi
    refine w_gname ?_
    walk_at "w"
    refine w_rI (mulW_big f0 f1 (by decide) (by decide : (2147483647 : Int) < 2 ^ 31) (by omega) (by decide) (by omega)) ?_
    walk_at "w"
    refine w_rI (mulW_small (by decide) (by decide) (by omega) (by omega)) ?_
    walk_at "w"
    refine c_mixed (by omega) (by omega) fun r r0 r1 => w_rI0 (w_gname ?_)
    obtain ⟨e1, e2⟩ := step_big (b := 31) f0 f1 r0 r1 (by decide)
    exact ⟨_, _, rfl, rfl, e1, by rw [show 31 * (i + 1) + 1 = 31 * i + 1 + 31 by omega]; exact e2⟩
  rintro σ H3 ⟨f, j, rfl, rfl, f0, f1⟩
  dsimp only
  walk_at "w"
  refine w_mkl (line _) fun p H4 np s4 hp4 => q H4 p _ s4 np hp4 f0
end

/-! ### deeds on texts -/
/-- a row of texts, each with what it reads as -/
structure Fnd (c : Cells) (H : Hp) (S : List Tr) (F : Addr) (xs : List (Addr × Int × Option Tr)) (M : Nat) : Prop where
  row : H F = some (.lst (xs.map fun x => V.ref x.1))
  out : F ∉ c.all
  el : ∀ x ∈ xs, H x.1 = some (.tup [.int x.2.1, .str (sT (oX x.2.2))]) ∧ x.1 ∉ c.all ∧ Tx S x.2.1 x.2.2 ∧ oS x.2.2 ≤ M
theorem Fnd.same {c : Cells} {H H' : Hp} {S : List Tr} {F : Addr} {xs : List (Addr × Int × Option Tr)} {M : Nat} (f : Fnd c H S F xs M) (s : Same H H') : Fnd c H' S F xs M :=
  ⟨s _ _ f.row, f.out, fun x hx => let ⟨a, b, d⟩ := f.el x hx; ⟨s _ _ a, b, d⟩⟩
theorem Fnd.grown {C : Addr} {c : Cells} {H H' : Hp} {S S' : List Tr} {F r : Addr} {xs : List (Addr × Int × Option Tr)} {M m : Nat} {n n' : Int} (f : Fnd c H S F xs M) (g : Grown C c r H H' S S' n' m) (hr : H r = some (.lst [.int n])) (ne : xs ≠ []) : Fnd c H' S' F xs M := by
  have Fr : F ≠ r := fun e => by
    have h := f.row
    rw [e, hr] at h
    cases xs with
    | nil => exact ne rfl
    | cons x xs => simp at h
  refine ⟨g.kp _ _ (by rw [List.mem_cons, not_or]; exact ⟨Fr, f.out⟩) f.row, f.out, fun x hx => ?_⟩
  obtain ⟨h1, h2, h3, h4⟩ := f.el x hx
  have xr : x.1 ≠ r := fun e => by rw [e, hr] at h1; cases h1
  exact ⟨g.kp _ _ (by rw [List.mem_cons, not_or]; exact ⟨xr, h2⟩) h1, h2, h3.ext g.ex, h4⟩
def spDeed (C : Addr) : Sp := fun vs H Q _ => ∃ (c : Cells) (S : List Tr) (F r : Addr) (xs : List (Addr × Int × Option Tr)) (n : Int), vs = [.ref c.a, .ref F, .ref r] ∧ ShAt C c H S ∧ Fnd c H S F xs 200 ∧ xs ≠ [] ∧ xs.length ≤ 1000 ∧ r ∉ c.all ∧ H r = some (.lst [.int n]) ∧ 0 ≤ n ∧ S.length + 150000 ≤ cap ∧
  ∀ H' S' D (m : Int) (o : Option Tr) n', Grown C c r H H' S S' n' 130000 → H' D = some (.tup [.int m, .str (sT (oX o))]) → H D = none → D ∉ c.all → Tx S' m o → oS o ≤ 600 → Q (.ref D) H'
section
variable {P : Program} {w : World} {K : PySem.W.Frag} {mg : Str → Option Value} {base : Heap} {A : Ad}
abbrev n__law_deed : List Str := ["shelf", "found", "stream", "kind", "one", "plain", "other", "more", "at", "end", "fresh"]
theorem sc__law_deed : FnScope n__law_deed p__law_deed (defScope s__law_deed) := ⟨rfl, rfl, rfl, by decide +kernel, rfl, by decide +kernel, by decide +kernel⟩
theorem ok__law_deed (T : Txt K mg A) : FnOk P w K mg base (L2.CX P w) 191 A.f__law_deed A.d__law_deed p__law_deed (spDeed A.C_Shelf) := by
  refine T.fn__law_deed.okX sc__law_deed (fun vs H Q E h => ?_) (fun cdv B outer s H vs Q E hr h => ?_)
  · obtain ⟨c, S, F, r, xs, n, rfl, _⟩ := h; rfl
  obtain ⟨c, S, F, r, xs, n, rfl, hS, hF, xne, xl, hrc, hn, n0, cp, q⟩ := h
  refine ⟨_, (pss_cons (ps_set (i := 3) sc__law_deed.nd rfl (Or.inl rfl) (pe_call (ok__law_take T) (hr.mono (by omega)) (by rfl) T.mg__law_take T.fn__law_take.kp T.bi__law_take .nil (passes_call (takes_of rfl rfl rfl rfl) (fun _ _ _ _ h => h)) (pa_cons (pv 2) (pa_cons pe_int pa_nil))))
      (pss_cons (ps_asg (pe_ix ix_list (pv 1) (pe_op op_sub (pe_un un_neg pe_int) (pe_call (ok__law_take T) (hr.mono (by omega)) (by rfl) T.mg__law_take T.fn__law_take.kp T.bi__law_take .nil (passes_call (takes_of rfl rfl rfl rfl) (fun _ _ _ _ h => h)) (pa_cons (pv 2) (pa_cons (pe_callB (call_min2 rfl) (by rfl) T.z_min bt_min (pa_cons pe_int (pa_cons (pe_callB call_len_seq (by rfl) T.z_len bt_len (pa_cons (pv 1) pa_nil)) pa_nil))) pa_nil)))) (fun _ _ => rfl)) (pg_tup rfl (pgs_cons (pg_name (i := 4) sc__law_deed.nd rfl (Or.inl rfl)) (pgs_cons (pg_name (i := 5) sc__law_deed.nd rfl (Or.inl rfl)) pgs_nil))))
      (pss_cons (ps_asg (pe_ix ix_list (pv 1) (pe_call (ok__law_take T) (hr.mono (by omega)) (by rfl) T.mg__law_take T.fn__law_take.kp T.bi__law_take .nil (passes_call (takes_of rfl rfl rfl rfl) (fun _ _ _ _ h => h)) (pa_cons (pv 2) (pa_cons (pe_callB call_len_seq (by rfl) T.z_len bt_len (pa_cons (pv 1) pa_nil)) pa_nil))) (fun _ _ => rfl)) (pg_tup rfl (pgs_cons (pg_name (i := 6) sc__law_deed.nd rfl (Or.inl rfl)) (pgs_cons (pg_name (i := 7) sc__law_deed.nd rfl (Or.inl rfl)) pgs_nil))))
      (pss_cons (ps_set (i := 8) sc__law_deed.nd rfl (Or.inl rfl) (pe_call (ok__law_take T) (hr.mono (by omega)) (by rfl) T.mg__law_take T.fn__law_take.kp T.bi__law_take .nil (passes_call (takes_of rfl rfl rfl rfl) (fun _ _ _ _ h => h)) (pa_cons (pv 2) (pa_cons (pe_op op_add (pe_callB call_len_str (by rfl) T.z_len bt_len (pa_cons (pv 5) pa_nil)) pe_int) pa_nil))))
      (pss_cons (ps_set (i := 9) sc__law_deed.nd rfl (Or.inl rfl) (pe_op op_add (pv 8) (pe_call (ok__law_take T) (hr.mono (by omega)) (by rfl) T.mg__law_take T.fn__law_take.kp T.bi__law_take .nil (passes_call (takes_of rfl rfl rfl rfl) (fun _ _ _ _ h => h)) (pa_cons (pv 2) (pa_cons (pe_op op_sub (pe_op op_add (pe_callB call_len_str (by rfl) T.z_len bt_len (pa_cons (pv 5) pa_nil)) pe_int) (pv 8)) pa_nil)))))
      (pss_cons (ps_if (pt_cmpR op_eq (pv 3) pe_int (nomark _)) (pss_cons (ps_set (i := 10) sc__law_deed.nd rfl (Or.inl rfl) (pe_call (ok__law_plain T) (hr.mono (by omega)) (by rfl) T.mg__law_plain T.fn__law_plain.kp T.bi__law_plain .nil (passes_call (takes_of rfl rfl rfl rfl) (fun _ _ _ _ h => h)) (pa_cons (pv 2) (pa_cons pe_int pa_nil))))
      (pss_one (ps_ret (pe_tup (pa_cons (pe_call (ok_built T) (hr.mono (by omega)) (by rfl) T.mg_built T.fn_built.kp T.bi_built .nil (passes_call (takes_of rfl rfl rfl rfl) (fun _ _ _ _ h => h)) (pa_cons (pv 0) (pa_cons (pv 10) pa_nil))) (pa_cons (pv 10) pa_nil)))))) pss_nil)
      (pss_cons (ps_if (pt_cmpR op_eq (pv 3) pe_int (nomark _)) (pss_one (ps_ret (pe_tup (pa_cons (pe_call (ok_joined T) (hr.mono (by omega)) (by rfl) T.mg_joined T.fn_joined.kp T.bi_joined .nil (passes_call (takes_of rfl rfl rfl rfl) (fun _ _ _ _ h => h)) (pa_cons (pv 0) (pa_cons (pv 4) (pa_cons (pv 6) pa_nil)))) (pa_cons (pe_op op_add_str (pv 5) (pv 7)) pa_nil))))) pss_nil)
      (pss_cons (ps_if (pt_cmpR op_eq (pv 3) pe_int (nomark _)) (pss_one (ps_ret (pe_tup (pa_cons (pe_call (ok_put_in T) (hr.mono (by omega)) (by rfl) T.mg_put_in T.fn_put_in.kp T.bi_put_in .nil (passes_call (takes_of rfl rfl rfl rfl) (fun _ _ _ _ h => h)) (pa_cons (pv 0) (pa_cons (pv 4) (pa_cons (pv 8) (pa_cons (pv 6) pa_nil))))) (pa_cons (pe_op op_add_str (pe_op op_add_str (pe_slice sl_str (pv 5) po_none (po_some (pv 8))) (pv 7)) (pe_slice sl_str (pv 5) (po_some (pv 8)) po_none)) pa_nil))))) pss_nil)
      (pss_cons (ps_if (pt_cmpR op_eq (pv 3) pe_int (nomark _)) (pss_one (ps_ret (pe_tup (pa_cons (pe_call (ok_taken_out T) (hr.mono (by omega)) (by rfl) T.mg_taken_out T.fn_taken_out.kp T.bi_taken_out .nil (passes_call (takes_of rfl rfl rfl rfl) (fun _ _ _ _ h => h)) (pa_cons (pv 0) (pa_cons (pv 4) (pa_cons (pv 8) (pa_cons (pv 9) pa_nil))))) (pa_cons (pe_op op_add_str (pe_slice sl_str (pv 5) po_none (po_some (pv 8))) (pe_slice sl_str (pv 5) (po_some (pv 9)) po_none)) pa_nil))))) pss_nil)
      (pss_one (ps_ret (pe_tup (pa_cons (pe_call (ok_kept_part T) (hr.mono (by omega)) (by rfl) T.mg_kept_part T.fn_kept_part.kp T.bi_kept_part .nil (passes_call (takes_of rfl rfl rfl rfl) (fun _ _ _ _ h => h)) (pa_cons (pv 0) (pa_cons (pv 4) (pa_cons (pv 8) (pa_cons (pv 9) pa_nil))))) (pa_cons (pe_slice sl_str (pv 5) (po_some (pv 8)) (po_some (pv 9))) pa_nil)))))))))))))), ?_⟩
  have hcap : (cap : Nat) = 16000000 := rfl
  have hcl := cap_line
  have xpos : 0 < xs.length := List.length_pos_iff.mpr xne
  have G0 := Grown.refl hS hn n0
  walk_at "s"
  refine c_take hn n0 (by decide) (by decide) fun kind n1 kd0 kd1 n10 => ?_
  have G1 := G0.digit hrc n10
  generalize upd H r _ = H1 at G1 ⊢
  have F1 := hF.grown G1 hn xne
  walk_at "nx"
  walk_at "s"
  refine ⟨F, _, rfl, .inl (SqL.of F1.row), ?_⟩
  try dsimp only
  walk_at "w"
  refine ⟨_, _, rfl, ?_⟩
  walk_at "w"
  rw [List.length_map]
  refine c_take G1.ro n10 (by split <;> omega) (by split <;> omega) fun d1 n2 d10 d11 n20 => ?_
  have G2 := G1.digit hrc n20
  generalize upd H1 r _ = H2 at G2 ⊢
  have F2 := hF.grown G2 hn xne
  have d12 : d1 < xs.length := by split at d11 <;> omega
  obtain ⟨x1, mx1, at1⟩ := back_at (f := fun x : Addr × Int × Option Tr => V.ref x.1) d10 d12
  obtain ⟨a1, c1, t1, b1⟩ := F2.el x1 mx1
  walk_at "w"
  refine w_ixl (SqL.of F2.row) at1 ?_
  refine w_gtup (SqT.of a1) rfl (w_gcons (w_gname (w_gcons (w_gname (w_gnil ?_)))))
  try dsimp only
  walk_at "s"
  refine ⟨F, _, rfl, .inl (SqL.of F2.row), ?_⟩
  try dsimp only
  walk_at "w"
  rw [List.length_map]
  refine c_take G2.ro n20 (by omega) (by omega) fun d2 n3 d20 d21 n30 => ?_
  have G3 := G2.digit hrc n30
  generalize upd H2 r _ = H3 at G3 ⊢
  have F3 := hF.grown G3 hn xne
  obtain ⟨x2, mx2, at2⟩ := fore_at (f := fun x : Addr × Int × Option Tr => V.ref x.1) d20 d21
  obtain ⟨a2, c2, t2, b2⟩ := F3.el x2 mx2
  refine w_ixl (SqL.of F3.row) at2 ?_
  refine w_gtup (SqT.of a2) rfl (w_gcons (w_gname (w_gcons (w_gname (w_gnil ?_)))))
  try dsimp only
  obtain ⟨p1, m1, o1⟩ := x1
  obtain ⟨p2, m2, o2⟩ := x2
  dsimp only at a1 c1 t1 b1 a2 c2 t2 b2 ⊢
  obtain ⟨_, _, t1, _⟩ := F3.el _ mx1
  dsimp only at t1
  have l1 : (oX o1).length = oS o1 := oS_txt o1
  have l2 : (oX o2).length = oS o2 := oS_txt o2
  have sl1 : (sT (oX o1)).length = oS o1 := by rw [sT_len, l1]
  have sl2 : (sT (oX o2)).length = oS o2 := by rw [sT_len, l2]
  walk_at "s"
  refine ⟨_, rfl, by omega, ?_⟩
  try dsimp only
  walk_at "w"
  rw [sl1]
  refine c_take G3.ro n30 (by omega) (by omega) fun at' n4 at0 at1 n40 => ?_
  have G4 := G3.digit hrc n40
  generalize upd H3 r _ = H4 at G4 ⊢
  walk_at "nx"
  walk_at "s"
  refine ⟨_, rfl, by omega, ?_⟩
  try dsimp only
  walk_at "w"
  rw [sl1]
  refine c_take G4.ro n40 (by omega) (by omega) fun dl n5 dl0 dl1 n50 => ?_
  have G5 := G4.digit hrc n50
  generalize upd H4 r _ = H5 at G5 ⊢
  have F5 := hF.grown G5 hn xne
  obtain ⟨_, _, t1, _⟩ := F5.el _ mx1
  obtain ⟨_, _, t2, _⟩ := F5.el _ mx2
  dsimp only at t1 t2
  walk_at "w"
  walk_at "nx"
  obtain ⟨i, rfl⟩ : ∃ i : Nat, at' = i := ⟨at'.toNat, by omega⟩
  obtain ⟨j, ej⟩ : ∃ j : Nat, (i : Int) + dl = j := ⟨((i : Int) + dl).toNat, by omega⟩
  rw [ej]
  have ij : i ≤ j := by omega
  have jS : j ≤ oS o1 := by omega
  walk_at "s"
  have free : ∀ {Hk : Hp} {Sk : List Tr} {nk : Int} {p : Addr}, Grown A.C_Shelf c r H Hk S Sk nk 130000 → Hk p = none → H p = none ∧ p ∉ c.all := fun g np => ⟨g.free np, g.sh.apart np⟩
  have mk1 : ∀ {Hk : Hp} {Sk : List Tr} {nk : Int} {m : Int} {o : Option Tr} {l : List Nat}, Grown A.C_Shelf c r H Hk S Sk nk 130000 → Tx Sk m o → oX o = l → oS o ≤ 600 → [V.int m, V.str (sT l)].length ≤ sizeLine ∧ ∀ p, Hk p = none → Q (.ref p) (upd Hk p (.tup [V.int m, V.str (sT l)])) := by
    intro Hk Sk nk m o l g t e b
    refine ⟨line_of (n := 2) rfl (by decide), fun p np => ?_⟩
    obtain ⟨np0, pc⟩ := free g np
    obtain ⟨Ha, ea, sa, ha⟩ := new_of (o := .tup [V.int m, V.str (sT l)]) np
    rw [ea]
    exact q Ha Sk p m o nk (g.same sa) (by rw [e]; exact ha) np0 pc t b
  have okk1 := G5.sh.gd.okO t1
  have okk2 := G5.sh.gd.okO t2
  have low1 := okk1.low
  have low2 := okk2.low
  have hS5 := G5.sh
  have len5 := G5.len
  have most : (mostSg : Nat) = 1000000000000000000 := rfl
  have sll : ∀ l : List Nat, l.length ≤ 10000 → (sT l).length ≤ sizeLine := fun l h => by rw [sT_len]; omega
  refine ite_d (fun h0 => ?_) (fun h0 => ?_)
  · walk_at "s"
    refine ⟨r, n5, 10, rfl, G5.ro, n50, by decide, fun l H6 n6 pl ll k6 hr6 n60 => ?_⟩
    have G6 : Grown A.C_Shelf c r H H6 S _ n6 (0 + 0) := G5.trans ⟨G5.sh.keepL (l := [r]) k6 (fun b hb => by rw [List.mem_singleton] at hb; rw [hb]; exact hrc) (fun b ys e => k6 _ _ (by rw [List.mem_singleton]; exact fun z => by rw [z, G5.ro] at e; cases e) e), List.prefix_refl _, Nat.le_refl _, k6.mono (by simp), hr6, n60⟩
    obtain ⟨ok, ex⟩ := bld_ok pl (by omega)
    have lb := oS_txt (bld l)
    have cbl := cb_le l
    walk_at "w"
    refine w_gname ?_
    try dsimp only
    walk_at "w"
    refine c_built G6.sh pl (by omega) (by omega) fun H7 S7 n7 g7 t7 => ?_
    walk_at "w"
    exact mk1 ((G6.grow hrc g7).mono (by omega)) t7 ex (by rw [← lb, ex]; omega)
  walk_at "sk"
  walk_at "s"
  refine ite_d (fun h1 => ?_) (fun h1 => ?_)
  · walk_at "w"
    obtain ⟨j1, j2, j3, j4⟩ := joinedO_ok okk1 okk2 (by omega)
    have js := joinedO_sg okk1 okk2 (by omega)
    refine c_joined hS5 t1 t2 (by omega) (by omega) fun H7 S7 n7 g7 t7 => ?_
    walk_at "w"
    refine ⟨_, _, rfl, rfl, by omega, ?_⟩
    rw [sT_app]
    walk_at "w"
    exact mk1 ((G5.grow hrc g7).mono (by omega)) t7 j2 (by omega)
  walk_at "sk"
  walk_at "s"
  refine ite_d (fun h2 => ?_) (fun h2 => ?_)
  · walk_at "w"
    obtain ⟨j1, j2, j3, j4⟩ := putO_ok (k := i) okk1 okk2 (by omega) (by omega)
    refine ⟨c, _, m1, _, m2, rfl, hS5, .inr ⟨o1, o2, t1, t2, .inr ⟨i, rfl, by omega, .inr ⟨by omega, by omega, fun H7 S7 n7 g7 t7 => ?_⟩⟩⟩⟩
    walk_at "w"
    refine ⟨_, rfl, _, rfl, by omega, ?_⟩
    rw [cutS_pre]
    walk_at "w"
    have l3 : ((oX o1).take i).length = i := by rw [List.length_take]; omega
    have l4 : ((oX o1).drop i).length = oS o1 - i := by rw [List.length_drop]; omega
    refine ⟨_, _, rfl, rfl, by rw [sT_len, sT_len]; omega, ?_⟩
    rw [sT_app]
    walk_at "w"
    refine ⟨_, rfl, _, rfl, by omega, ?_⟩
    rw [cutS_suf]
    walk_at "w"
    refine ⟨_, _, rfl, rfl, by rw [sT_len, sT_len, List.length_append]; omega, ?_⟩
    rw [sT_app]
    walk_at "w"
    exact mk1 ((G5.grow hrc g7).mono (by omega)) t7 j2 (by omega)
  walk_at "sk"
  walk_at "s"
  refine ite_d (fun h3 => ?_) (fun h3 => ?_)
  · walk_at "w"
    obtain ⟨j1, j2, j3, j4⟩ := outO_ok okk1 ij jS
    refine ⟨c, _, m1, _, _, rfl, hS5, .inr ⟨o1, t1, .inr ⟨i, j, rfl, rfl, ij, jS, by omega, fun H7 S7 n7 g7 t7 => ?_⟩⟩⟩
    walk_at "w"
    refine ⟨_, rfl, _, rfl, by omega, ?_⟩
    rw [cutS_pre]
    walk_at "w"
    have l3 : ((oX o1).take i).length = i := by rw [List.length_take]; omega
    have l4 : ((oX o1).drop j).length = oS o1 - j := by rw [List.length_drop]; omega
    refine ⟨_, rfl, _, rfl, by omega, ?_⟩
    rw [cutS_suf]
    walk_at "w"
    refine ⟨_, _, rfl, rfl, by rw [sT_len, sT_len]; omega, ?_⟩
    rw [sT_app]
    walk_at "w"
    exact mk1 ((G5.grow hrc g7).mono (by omega)) t7 j2 (by omega)
  walk_at "sk"
  walk_at "w"
  obtain ⟨j1, j2, j3, j4⟩ := keepO_ok okk1 ij jS
  refine ⟨c, _, m1, _, _, rfl, hS5, .inr ⟨o1, t1, .inr ⟨i, j, rfl, rfl, ij, jS, by omega, fun H7 S7 n7 g7 t7 => ?_⟩⟩⟩
  walk_at "w"
  refine ⟨_, rfl, ?_⟩
  walk_at "w"
  refine ⟨_, rfl, _, rfl, by omega, ?_⟩
  rw [cutS_some]
  walk_at "w"
  exact mk1 ((G5.grow hrc g7).mono (by omega)) t7 (by rw [j2, List.drop_take]) (by omega)
end

/-! ### rows of texts: what is kept, read, counted -/
def spKept : Sp := fun vs H Q _ => ∃ (F r : Addr) (as : List Addr) (n : Int), vs = [.ref F, .ref r] ∧ H F = some (.lst (as.map V.ref)) ∧ as ≠ [] ∧ as.length ≤ 1000 ∧ F ≠ r ∧ H r = some (.lst [.int n]) ∧ 0 ≤ n ∧
  ∀ (H' : Hp) (p : Addr) (bs : List Addr) (n' : Int), KeepL [r] H H' → H' r = some (.lst [.int n']) → 0 ≤ n' → H' p = some (.lst (bs.map V.ref)) → H p = none → (∀ b ∈ bs, b ∈ as) → bs ≠ [] → bs.length ≤ as.length + 1 → Q (.ref p) H'
def spAllRead (C : Addr) : Sp := fun vs H Q _ => ∃ (c : Cells) (S : List Tr) (F : Addr) (xs : List (Addr × Int × Option Tr)), vs = [.ref c.a, .ref F] ∧ ShAt C c H S ∧ Fnd c H S F xs 200 ∧ xs.length ≤ 1000 ∧ ∀ H', Same H H' → Q (.bl true) H'
def spAllCounted (C : Addr) : Sp := fun vs H Q _ => ∃ (c : Cells) (S : List Tr) (F : Addr) (xs : List (Addr × Int × Option Tr)) (w : List Nat), vs = [.ref c.a, .ref F, .str (sT w)] ∧ ShAt C c H S ∧ Fnd c H S F xs 200 ∧ xs.length ≤ 1000 ∧ Plain w ∧ w ≠ [] ∧ w.length ≤ 8 ∧ ∀ H', Same H H' → Q (.bl true) H'
section
variable {P : Program} {w : World} {K : PySem.W.Frag} {mg : Str → Option Value} {base : Heap} {A : Ad}
abbrev n__law_kept : List Str := ["found", "stream", "kept", "pair"]
theorem sc__law_kept : FnScope n__law_kept p__law_kept (defScope s__law_kept) := ⟨rfl, rfl, rfl, by decide +kernel, rfl, by decide +kernel, by decide +kernel⟩
theorem ok__law_kept (T : Txt K mg A) : FnOk P w K mg base (L2.CX P w) 2 A.f__law_kept A.d__law_kept p__law_kept spKept := by
  refine T.fn__law_kept.okX sc__law_kept (fun vs H Q E h => ?_) (fun cdv B outer s H vs Q E hr h => ?_)
  · obtain ⟨F, r, as, n, rfl, _⟩ := h; rfl
  obtain ⟨F, r, as, n, rfl, hF, ane, al, Fr, hn, n0, q⟩ := h
  refine ⟨_, (pss_cons (ps_setLc (i := 2) (own := [("pair", 3)]) (g := gName 3) rfl sc__law_kept.nd rfl rfl (sw_true rfl rfl rfl (by decide +kernel)) (pi_list (pv 0)) (blkOk_by (own := [("pair", 3)]) (N := n__law_kept) (sc := defScope s__law_kept) (by decide +kernel)) (fun _ _ _ _ _ => (pg_name (i := 3) sc__law_kept.nd rfl (Or.inl rfl))) (fun _ _ _ _ _ => (pts_one (pt_cmpR op_eq (pe_call (ok__law_take T) (hr.mono (by omega)) (by rfl) T.mg__law_take T.fn__law_take.kp T.bi__law_take .nil passL (pa_cons (pv 1) (pa_cons pe_int pa_nil))) pe_int (nomark _)))) (fun _ _ _ _ _ => (pv 3)))
      (pss_one (ps_ret (pe_op op_cat (pv 2) (pe_slice sl_list (pv 0) po_none (po_some pe_int)))))), ?_⟩
  have hcl := cap_line
  have hcap : (cap : Nat) = 16000000 := rfl
  walk_at "s"
  refine ⟨F, rfl, ⟨_, SqL.of hF⟩, fun D nD => ?_⟩
  have Dr : D ≠ r := (ne_of_none hn nD).symm
  have Frl : F ∉ [r] := by rw [List.mem_singleton]; exact Fr
  refine lc_it (walk_list (xs := as.map V.ref)) (fun i H' => ∃ (bs : List Addr) (n' : Int), KeepL [r] H H' ∧ H' r = some (.lst [.int n']) ∧ 0 ≤ n' ∧ H' D = some (.lst (bs.map V.ref)) ∧ (∀ b ∈ bs, b ∈ as) ∧ bs.length ≤ i)
    ⟨[], n, fun b o _ e => by rw [upd_ne (ne_of_none e nD)]; exact e, by rw [upd_ne Dr.symm]; exact hn, n0, upd_same, (fun b hb => nomatch hb), Nat.le_refl _⟩ (fun _ _ _ ⟨_, _, z, _⟩ => SqL.of (z _ _ Frl hF)) ?_ ?_
  · rintro i y H1 H2 hi ⟨bs, n', k1, hr1, n0', hD1, sub, bl⟩ ⟨rfl, hy⟩
    have hi2 : i < as.length := by rw [List.length_map] at hi; exact hi
    rw [List.getElem?_map] at hy
    obtain ⟨z, mz, rfl⟩ : ∃ z ∈ as, y = V.ref z := by
      cases e : as[i]? with
      | none => rw [e] at hy; cases hy
      | some z => rw [e] at hy; cases hy; exact ⟨z, List.mem_of_getElem? e, rfl⟩
    refine w_gname ⟨rfl, ?_⟩
    walk_at "w"
    refine c_take hr1 n0' (by decide) (by decide) fun d n2 d0 d1 n20 => ?_
    have k2 : KeepL [r] H (upd H2 r (.lst [.int n2])) := k1.trans (KeepL.upd (by simp))
    have hD2 : upd H2 r (.lst [.int n2]) D = some (.lst (bs.map V.ref)) := by rw [upd_ne Dr]; exact hD1
    walk_at "w"
    refine ite_d (fun _ => ?_) (fun _ => ?_)
    · walk_at "w"
      refine ⟨_, hD2, by rw [List.length_map, sizeLine_eq]; omega, bs ++ [z], n2, fun b o nb e => ?_, ?_, n20, ?_, ?_, ?_⟩
      · rw [upd_ne (ne_of_none e nD)]; exact k2 b o nb e
      · rw [upd_ne Dr.symm]; exact upd_same
      · rw [upd_same, List.map_append]; rfl
      · intro b hb
        rcases List.mem_append.mp hb with h | h
        · exact sub b h
        · rw [List.mem_singleton] at h; rw [h]; exact mz
      · rw [List.length_append]; simp; omega
    · exact ⟨bs, n2, k2, upd_same, n20, hD2, sub, by omega⟩
  rintro H1 ⟨bs, n', k1, hr1, n0', hD1, sub, bl⟩
  rw [List.length_map] at bl
  obtain ⟨a0, ar, rfl⟩ : ∃ a0 ar, as = a0 :: ar := by cases as with | nil => exact absurd rfl ane | cons a0 ar => exact ⟨a0, ar, rfl⟩
  walk_at "nx"
  walk_at "w"
  refine ⟨_, rfl, ?_⟩
  have hF1 := k1 _ _ Frl hF
  refine ⟨F, _, rfl, SqL.of hF1, fun p1 np1 => ?_⟩
  have ec : cutV ((a0 :: ar).map V.ref) none (some 1) = [V.ref a0] := by
    unfold cutV
    rw [HT.sIx_none, show (1 : Int) = ((1 : Nat) : Int) from rfl, HT.sIx_nat]
    simp
  rw [ec]
  obtain ⟨H2, e2, s2, h2⟩ := new_of (o := .lst [V.ref a0]) np1
  rw [e2]
  refine ⟨D, p1, _, _, rfl, rfl, s2 _ _ hD1, h2, by rw [List.length_map, sizeLine_eq]; simp at bl al ⊢; omega, fun p np => ?_⟩
  obtain ⟨H3, e3, s3, h3⟩ := new_of (o := .lst (bs.map V.ref ++ [V.ref a0])) np
  rw [e3]
  have k3 : KeepL [r] H H3 := keepL_same (keepL_same k1 s2) s3
  refine q H3 p (bs ++ [a0]) n' k3 (s3 _ _ (s2 _ _ hr1)) n0' (by rw [h3, List.map_append]; rfl) ?_ ?_ (by simp) (by rw [List.length_append]; simp at bl ⊢; omega)
  · refine keepL_free (keepL_same k1 s2) np ?_
    rw [List.mem_singleton]; exact (ne_of_none (s2 _ _ hr1) np).symm
  · intro b hb
    rcases List.mem_append.mp hb with h | h
    · exact sub b h
    · rw [List.mem_singleton] at h; rw [h]; exact List.mem_cons_self
abbrev n__law_all_read : List Str := ["shelf", "found", "text", "plain"]
theorem sc__law_all_read : FnScope n__law_all_read p__law_all_read (defScope s__law_all_read) := ⟨rfl, rfl, rfl, by decide +kernel, rfl, by decide +kernel, by decide +kernel⟩
theorem ok__law_all_read (T : Txt K mg A) : FnOk P w K mg base (L2.CX P w) 4 A.f__law_all_read A.d__law_all_read p__law_all_read (spAllRead A.C_Shelf) := by
  refine T.fn__law_all_read.okX sc__law_all_read (fun vs H Q E h => ?_) (fun cdv B outer s H vs Q E hr h => ?_)
  · obtain ⟨c, S, F, xs, rfl, _⟩ := h; rfl
  obtain ⟨c, S, F, xs, rfl, hS, hF, xl, q⟩ := h
  refine ⟨_, (pss_one (ps_ret (pe_callB (cr_all rfl) (by rfl) T.z_all bt_all (pa_cons (pe_lc (own := [("text", 2), ("plain", 3)]) (g := gTup K 2 (gCons (gName 2) (gCons (gName 3) gNil))) (tt := tYes) rfl sc__law_all_read.nd (pi_list (pv 1)) (blkOk_by (own := [("text", 2), ("plain", 3)]) (N := n__law_all_read) (sc := defScope s__law_all_read) (by decide +kernel)) (fun _ _ _ _ _ => (pg_tup rfl (pgs_cons (pg_name (i := 2) sc__law_all_read.nd rfl (Or.inl rfl)) (pgs_cons (pg_name (i := 3) sc__law_all_read.nd rfl (Or.inl rfl)) pgs_nil)))) (fun _ _ _ _ _ => pts_nil) (fun _ _ _ _ _ => (pe_cmpR op_eq (pe_call (ok__law_read T) (hr.mono (by omega)) (by rfl) T.mg__law_read T.fn__law_read.kp T.bi__law_read .nil passL (pa_cons (pv 0) (pa_cons (pv 2) pa_nil))) (pv 3) (nomark _)))) pa_nil)))), ?_⟩
  have hcl := cap_line
  have hcap : (cap : Nat) = 16000000 := rfl
  walk_at "w"
  refine ⟨F, rfl, ⟨_, SqL.of hF.row⟩, fun D nD => ?_⟩
  refine lc_it (walk_list (xs := xs.map fun x => V.ref x.1)) (fun i H' => Same H H' ∧ H' D = some (.lst ((List.replicate i true).map V.bl))) ⟨fun b o e => by rw [upd_ne (ne_of_none e nD)]; exact e, upd_same⟩ (fun _ _ _ z => SqL.of (z.1 _ _ hF.row)) ?_ ?_
  · rintro i y H1 H2 hi ⟨s1, hD1⟩ ⟨rfl, hy⟩
    have hi2 : i < xs.length := by rw [List.length_map] at hi; exact hi
    rw [List.getElem?_map] at hy
    obtain ⟨z, mz, rfl⟩ : ∃ z ∈ xs, y = V.ref z.1 := by
      cases e : xs[i]? with
      | none => rw [e] at hy; cases hy
      | some z => rw [e] at hy; cases hy; exact ⟨z, List.mem_of_getElem? e, rfl⟩
    obtain ⟨z1, z2, z3, z4⟩ := hF.el z mz
    refine w_gtup (SqT.of (s1 _ _ z1)) rfl (w_gcons (w_gname (w_gcons (w_gname (w_gnil ?_)))))
    refine ⟨rfl, w_yes (iteT ?_)⟩
    walk_at "w"
    refine ⟨c, S, z.2.1, z.2.2, rfl, hS.same s1, z3, by omega, fun H3 s3 => ?_⟩
    walk_at "w"
    rw [decide_eq_true rfl]
    refine ⟨_, s3 _ _ hD1, by rw [List.length_map, List.length_replicate, sizeLine_eq]; omega, fun b o e => ?_, ?_⟩
    · rw [upd_ne (ne_of_none e nD)]; exact s3 _ _ (s1 _ _ e)
    · rw [upd_same, List.replicate_succ', List.map_append]; rfl
  rintro H2 ⟨s2, hD2⟩
  walk_at "w"
  refine ⟨D, _, rfl, SqL.of hD2, ?_⟩
  have ea : ∀ j : Nat, (List.replicate j true).all id = true := fun j => by
    induction j with
    | zero => rfl
    | succ j ih => rw [List.replicate_succ, List.all_cons, ih]; rfl
  rw [ea]
  exact q H2 s2
abbrev n__law_all_counted : List Str := ["shelf", "found", "word", "text", "plain", "many", "at"]
theorem sc__law_all_counted : FnScope n__law_all_counted p__law_all_counted (defScope s__law_all_counted) := ⟨rfl, rfl, rfl, by decide +kernel, rfl, by decide +kernel, by decide +kernel⟩
theorem ok__law_all_counted (T : Txt K mg A) : FnOk P w K mg base (L2.CX P w) 93 A.f__law_all_counted A.d__law_all_counted p__law_all_counted (spAllCounted A.C_Shelf) := by
  refine T.fn__law_all_counted.okX sc__law_all_counted (fun vs H Q E h => ?_) (fun cdv B outer s H vs Q E hr h => ?_)
  · obtain ⟨c, S, F, xs, x, rfl, _⟩ := h; rfl
  obtain ⟨c, S, F, xs, x, rfl, hS, hF, xl, px, xne, xl8, q⟩ := h
  refine ⟨_, (pss_cons (ps_for (passes_of rfl) rfl (pi_list (pv 1)) (pg_tup rfl (pgs_cons (pg_name (i := 3) sc__law_all_counted.nd rfl (Or.inl rfl)) (pgs_cons (pg_name (i := 4) sc__law_all_counted.nd rfl (Or.inr rfl)) pgs_nil)))
      (pss_cons (ps_set (i := 5) sc__law_all_counted.nd rfl (Or.inl rfl) (pe_callB (cr_sum rfl) (by rfl) T.z_sum bt_sum (pa_cons (pe_lc (own := [("at", 6)]) (g := gName 6) (tt := tYes) rfl sc__law_all_counted.nd (pi_range1 (by rfl) T.z_range (pa_cons (pe_callB call_len_str (by rfl) T.z_len bt_len (pa_cons (pv 4) pa_nil)) pa_nil)) (blkOk_by (own := [("at", 6)]) (N := n__law_all_counted) (sc := defScope s__law_all_counted) (by decide +kernel)) (fun _ _ _ _ _ => (pg_name (i := 6) sc__law_all_counted.nd rfl (Or.inl rfl))) (fun _ _ _ _ _ => pts_nil) (fun _ _ _ _ _ => (pe_callTy call_int1 (by rfl) T.z_int bt_int (pa_cons (pe_cmpR op_eq (pe_slice sl_str (pv 4) (po_some (pv 6)) (po_some (pe_op op_add (pv 6) (pe_callB call_len_str (by rfl) T.z_len bt_len (pa_cons (pv 2) pa_nil))))) (pv 2) (nomark _)) pa_nil)))) pa_nil)))
      (pss_one (ps_if (pt_cmpR op_ne (pe_call (ok_count_of T) (hr.mono (by omega)) (by rfl) T.mg_count_of T.fn_count_of.kp T.bi_count_of .nil (passes_call (takes_of rfl rfl rfl rfl) (fun _ _ _ _ h => h)) (pa_cons (pv 0) (pa_cons (pv 3) (pa_cons (pv 2) pa_nil)))) (pv 5) (nomark _)) (pss_one (ps_ret pe_bl)) pss_nil))))
      (pss_one (ps_ret pe_bl))), ?_⟩
  have hcl := cap_line
  have hcap : (cap : Nat) = 16000000 := rfl
  walk_at "s"
  refine ⟨F, rfl, ⟨_, SqL.of hF.row⟩, ?_⟩
  refine for_it (walk_list (xs := xs.map fun x => V.ref x.1)) (fun i σ H' => ∃ (x3 x4 x5 : Option V), σ = [some (.ref c.a), some (.ref F), some (.str (sT x)), x3, x4, x5, none] ∧ Same H H') ⟨_, _, _, rfl, fun _ _ e => e⟩ (fun _ _ _ _ ⟨_, _, _, _, z⟩ => SqL.of (z _ _ hF.row)) ?_ ?_
  · rintro i y σ H9 H1 hi ⟨x3, x4, x5, rfl, s1⟩ ⟨rfl, hy⟩
    have hi2 : i < xs.length := by rw [List.length_map] at hi; exact hi
    rw [List.getElem?_map] at hy
    obtain ⟨z, mz, rfl⟩ : ∃ z ∈ xs, y = V.ref z.1 := by
      cases e : xs[i]? with
      | none => rw [e] at hy; cases hy
      | some z => rw [e] at hy; cases hy; exact ⟨z, List.mem_of_getElem? e, rfl⟩
    obtain ⟨z1, z2, z3, z4⟩ := hF.el z mz
    refine w_gtup (SqT.of (s1 _ _ z1)) rfl (w_gcons (w_gname (w_gcons (w_gname (w_gnil ?_)))))
    have lz : (oX z.2.2).length = oS z.2.2 := oS_txt z.2.2
    obtain ⟨l, el⟩ : ∃ l, l = oX z.2.2 := ⟨_, rfl⟩
    rw [← el] at lz
    have lsz : (sT l).length = l.length := sT_len l
    rw [← el]
    walk_at "s"
    refine ⟨_, rfl, by rw [sT_len, sizeLine_eq]; omega, l.length, by rw [sT_len], by omega, by omega, fun D nD => ?_⟩
    have H1D : H1 D = none := by
      cases e : H1 D with
      | none => rfl
      | some o => rw [e] at nD; cases nD
    refine lc_it walk_range (fun k H' => Same H1 H' ∧ ∃ ks : List Int, H' D = some (.lst (ks.map V.int)) ∧ ks.length = k ∧ ks.sum = ((List.range k).filter fun p => decide ((l.drop p).take x.length = x)).length) ⟨fun b o e => by rw [upd_ne (ne_of_none e nD)]; exact e, [], upd_same, rfl, rfl⟩ (fun _ _ _ _ => trivial) ?_ ?_
    · rintro k y H3 H4 hk ⟨s3, ks, hD3, lk, sk⟩ ⟨rfl, rfl⟩
      refine w_gname ⟨rfl, w_yes (iteT ?_)⟩
      have hk : k < l.length := hk
      dsimp only
      rw [show ((0 : Int) + (k : Nat)) = (k : Nat) by omega]
      walk_at "w"
      refine ⟨_, rfl, ?_⟩
      walk_at "w"
      refine ⟨_, rfl, by rw [sT_len, sizeLine_eq]; omega, ?_⟩
      rw [sT_len]
      walk_at "w"
      refine ⟨_, rfl, _, rfl, by rw [sT_len, sizeLine_eq]; omega, ?_⟩
      rw [show ((k : Int) + (x.length : Nat)) = ((k + x.length : Nat) : Int) by omega, cutS_some, show k + x.length - k = x.length by omega]
      walk_at "w"
      have eS : (sT ((l.drop k).take x.length) = sT x) ↔ (l.drop k).take x.length = x := ⟨fun z => sT_inj z, fun z => by rw [z]⟩
      rw [decide_eq_decide.mpr eS]
      refine .inr ⟨_, rfl, _, hD3, by rw [List.length_map, sizeLine_eq]; omega, fun b o e => ?_, ks ++ [if decide ((l.drop k).take x.length = x) = true then 1 else 0], ?_, ?_, ?_⟩
      · rw [upd_ne (ne_of_none e H1D)]; exact s3 b o e
      · rw [upd_same, List.map_append]; rfl
      · rw [List.length_append, lk]; rfl
      · rw [List.sum_append, sk, List.range_succ, List.filter_append, List.filter_cons, List.filter_nil, List.length_append]
        by_cases cc : (l.drop k).take x.length = x
        · rw [decide_eq_true cc]; simp
        · rw [decide_eq_false cc]; simp
    rintro H3 ⟨s3, ks, hD3, lk, sk⟩
    walk_at "w"
    refine ⟨D, ks, rfl, SqL.of hD3, ?_⟩
    have eo : ks.sum = (occ x l : Nat) := sk
    rw [eo]
    walk_at "nx"
    walk_at "w"
    refine ⟨c, S, z.2.1, z.2.2, x, rfl, (hS.same s1).same s3, z3, px, xne, xl8, fun H4 s4 => ?_⟩
    rw [← el]
    walk_at "w"
    refine ite_d (fun h => absurd rfl h) (fun _ => ?_)
    walk_at "sk"
    exact ⟨_, _, _, rfl, ((s1.trans s3).trans s4)⟩
  rintro σ H1 ⟨x3, x4, x5, rfl, s1⟩
  dsimp only
  walk_at "w"
  exact q H1 s1
end

/-! ### elder shelves -/
structure Eld where
  c : Cells
  S : List Tr
  F : Addr
  xs : List (Addr × Int × Option Tr)
  p : Addr
structure Eld.At (C : Addr) (H : Hp) (e : Eld) : Prop where
  sh : ShAt C e.c H e.S
  fn : Fnd e.c H e.S e.F e.xs 200
  ln : e.xs.length ≤ 1000
  tp : H e.p = some (.tup [.ref e.c.a, .ref e.F, .int (e.S.length : Nat)])
/-- what does not touch an elder shelf -/
def Eld.Off (e : Eld) (b : Addr) : Prop := b ∉ e.c.all ∧ b ≠ e.F
theorem Eld.At.keep {C : Addr} {H H' : Hp} {e : Eld} {M : List Addr} (x : e.At C H) (k : KeepL M H H') (d : ∀ b ∈ M, e.Off b) (t : ∀ b ys, H b = some (.tup ys) → H' b = some (.tup ys)) : e.At C H' :=
  ⟨x.sh.keepL k (fun b hb => (d b hb).1) t, ⟨k _ _ (fun z => (d _ z).2 rfl) x.fn.row, x.fn.out, fun y hy => let ⟨h1, h2⟩ := x.fn.el y hy; ⟨t _ _ h1, h2⟩⟩, x.ln, t _ _ x.tp⟩
theorem Eld.At.same {C : Addr} {H H' : Hp} {e : Eld} (x : e.At C H) (s : Same H H') : e.At C H' := x.keep (M := []) (Same.keepL [] s) (fun b hb => nomatch hb) fun b ys h => s _ _ h
theorem Eld.At.free {C : Addr} {H : Hp} {e : Eld} (x : e.At C H) {b : Addr} (h : H b = none) : e.Off b := ⟨x.sh.apart h, (ne_of_none x.fn.row h).symm⟩
/-- the newest shelf, its texts, and the elder ones -/
structure Sit (C : Addr) (H : Hp) (c : Cells) (S : List Tr) (F : Addr) (xs : List (Addr × Int × Option Tr)) (EL : Addr) (es : List Eld) : Prop where
  sh : ShAt C c H S
  fn : Fnd c H S F xs 200
  ne : xs ≠ []
  el : H EL = some (.lst (es.map fun e => .ref e.p))
  elc : EL ∉ c.all
  ef : EL ≠ F
  at' : ∀ e ∈ es, e.At C H
  sep : ∀ e ∈ es, e.Off F ∧ e.Off EL ∧ ∀ b ∈ c.all, e.Off b
structure Rs (c : Cells) (F EL : Addr) (es : List Eld) (r : Addr) : Prop where
  c : r ∉ c.all
  f : r ≠ F
  e : r ≠ EL
  o : ∀ e ∈ es, e.Off r
theorem Sit.same {C : Addr} {H H' : Hp} {c : Cells} {S : List Tr} {F EL : Addr} {xs : List (Addr × Int × Option Tr)} {es : List Eld} (x : Sit C H c S F xs EL es) (s : Same H H') : Sit C H' c S F xs EL es :=
  ⟨x.sh.same s, x.fn.same s, x.ne, s _ _ x.el, x.elc, x.ef, fun e he => (x.at' e he).same s, x.sep⟩
theorem Sit.fresh {C : Addr} {H : Hp} {c : Cells} {S : List Tr} {F EL : Addr} {xs : List (Addr × Int × Option Tr)} {es : List Eld} (x : Sit C H c S F xs EL es) {r : Addr} (h : H r = none) : Rs c F EL es r :=
  ⟨x.sh.apart h, (ne_of_none x.fn.row h).symm, (ne_of_none x.el h).symm, fun e he => (x.at' e he).free h⟩
theorem grown_tup {C : Addr} {c : Cells} {r : Addr} {H H' : Hp} {S S' : List Tr} {n' : Int} {m : Nat} {ys : List V} (s : ShAt C c H S) (g : Grown C c r H H' S S' n' m) (hr : H r = some (.lst ys)) : ∀ b zs, H b = some (.tup zs) → H' b = some (.tup zs) := fun b zs e => by
  refine g.kp _ _ ?_ e
  rw [List.mem_cons, not_or]
  exact ⟨ne_of e hr (by intro z; cases z), s.apart_tup e⟩
theorem Sit.grown {C : Addr} {H H' : Hp} {c : Cells} {S S' : List Tr} {F EL r : Addr} {xs : List (Addr × Int × Option Tr)} {es : List Eld} {n n' : Int} {m : Nat} (x : Sit C H c S F xs EL es) (g : Grown C c r H H' S S' n' m) (hr : H r = some (.lst [.int n])) (q : Rs c F EL es r) : Sit C H' c S' F xs EL es :=
  ⟨g.sh, x.fn.grown g hr x.ne, x.ne, g.kp _ _ (by rw [List.mem_cons, not_or]; exact ⟨q.e.symm, x.elc⟩) x.el, x.elc, x.ef, fun e he => (x.at' e he).keep g.kp (fun b hb => by
    rcases List.mem_cons.mp hb with z | z
    · rw [z]; exact q.o e he
    · exact (x.sep e he).2.2 b z) (grown_tup x.sh g hr), x.sep⟩
theorem Sit.draw {C : Addr} {H H' : Hp} {c : Cells} {S : List Tr} {F EL r : Addr} {xs : List (Addr × Int × Option Tr)} {es : List Eld} {n n' : Int} (x : Sit C H c S F xs EL es) (k : KeepL [r] H H') (hr : H r = some (.lst [.int n])) (hr' : H' r = some (.lst [.int n'])) (h0 : 0 ≤ n') (q : Rs c F EL es r) : Sit C H' c S F xs EL es :=
  x.grown (m := 0) ⟨x.sh.dr hr q.c k, List.prefix_refl _, Nat.le_refl _, k.mono (by simp), hr', h0⟩ hr q
theorem Sit.add {C : Addr} {H : Hp} {c : Cells} {S : List Tr} {F EL p : Addr} {xs : List (Addr × Int × Option Tr)} {es : List Eld} {m : Int} {o : Option Tr} (x : Sit C H c S F xs EL es) (h : H p = some (.tup [.int m, .str (sT (oX o))])) (t : Tx S m o) (l : oS o ≤ 200) :
    Sit C (upd H F (.lst (xs.map (fun x => V.ref x.1) ++ [V.ref p]))) c S F (xs ++ [(p, m, o)]) EL es := by
  have tu := tup_upd (o := .lst (xs.map (fun x => V.ref x.1) ++ [V.ref p])) x.fn.row
  refine ⟨x.sh.digit x.fn.row x.fn.out, ⟨by rw [upd_same, List.map_append]; rfl, x.fn.out, fun y hy => ?_⟩, by simp, by rw [upd_ne x.ef]; exact x.el, x.elc, x.ef, fun e he => (x.at' e he).keep (M := [F]) (KeepL.upd (by simp)) (fun b hb => by rw [List.mem_singleton] at hb; rw [hb]; exact (x.sep e he).1) tu, x.sep⟩
  rcases List.mem_append.mp hy with z | z
  · obtain ⟨a, b, d⟩ := x.fn.el y z
    exact ⟨tu _ _ a, b, d⟩
  · rw [List.mem_singleton] at z
    subst z
    exact ⟨tu _ _ h, x.sh.apart_tup h, t, l⟩
/-- the newest shelf becomes an elder one -/
theorem Sit.turn {C : Addr} {H H1 H3 : Hp} {c c' : Cells} {S S' : List Tr} {F F' EL q : Addr} {xs xs' : List (Addr × Int × Option Tr)} {es : List Eld} (x : Sit C H c S F xs EL es) (xl : xs.length ≤ 1000) (s1 : Same H H1) (hq : H1 q = some (.tup [.ref c.a, .ref F, .int (S.length : Nat)]))
    (hc : ∀ b ∈ c'.all, H b = none) (hS' : ShAt C c' H1 S') (s3 : Same (upd H1 EL (.lst (es.map (fun e => V.ref e.p) ++ [V.ref q]))) H3) (hF : Fnd c' H3 S' F' xs' 200) (ne : xs' ≠ []) (nF : (upd H1 EL (.lst (es.map (fun e => V.ref e.p) ++ [V.ref q]))) F' = none) :
    Sit C H3 c' S' F' xs' EL (es ++ [⟨c, S, F, xs, q⟩]) := by
  have x1 := x.same s1
  generalize hG : upd H1 EL (.lst (es.map (fun e => V.ref e.p) ++ [V.ref q])) = H2 at s3 nF
  have tu : ∀ b ys, H1 b = some (.tup ys) → H2 b = some (.tup ys) := by rw [← hG]; exact tup_upd x1.el
  have kp : KeepL [EL] H1 H2 := by rw [← hG]; exact KeepL.upd (by simp)
  have h2 : H2 EL = some (.lst (es.map (fun e => V.ref e.p) ++ [V.ref q])) := by rw [← hG]; exact upd_same
  have elc' : EL ∉ c'.all := fun z => by have := hc _ z; rw [x.el] at this; cases this
  have e0 : Eld.At C H1 ⟨c, S, F, xs, q⟩ := ⟨x1.sh, x1.fn, xl, hq⟩
  have at1 : ∀ e ∈ es ++ [⟨c, S, F, xs, q⟩], Eld.At C H1 e := fun e he => by
    rcases List.mem_append.mp he with z | z
    · exact x1.at' e z
    · rw [List.mem_singleton] at z; rw [z]; exact e0
  have off : ∀ e ∈ es ++ [⟨c, S, F, xs, q⟩], Eld.Off e EL ∧ ∀ b ∈ c'.all, e.Off b := fun e he => by
    rcases List.mem_append.mp he with z | z
    · exact ⟨(x.sep e z).2.1, fun b hb => (x.at' e z).free (hc b hb)⟩
    · rw [List.mem_singleton] at z; rw [z]
      exact ⟨⟨x.elc, x.ef⟩, fun b hb => ⟨x.sh.apart (hc b hb), (ne_of_none x.fn.row (hc b hb)).symm⟩⟩
  have at2 : ∀ e ∈ es ++ [⟨c, S, F, xs, q⟩], Eld.At C H2 e := fun e he => (at1 e he).keep kp (fun b hb => by rw [List.mem_singleton] at hb; rw [hb]; exact (off e he).1) tu
  refine ⟨(hS'.keepL kp (fun b hb => by rw [List.mem_singleton] at hb; rw [hb]; exact elc') tu).same s3, hF, ne, by rw [s3 _ _ h2, List.map_append]; rfl, elc', ne_of_none h2 nF, fun e he => (at2 e he).same s3, fun e he => ⟨(at2 e he).free nF, off e he⟩⟩
theorem Rs.turn {c c' : Cells} {S : List Tr} {F F' EL r q : Addr} {xs : List (Addr × Int × Option Tr)} {es : List Eld} {H : Hp} {o : HO} (x : Rs c F EL es r) (hc : ∀ b ∈ c'.all, H b = none) (h : H r = some o) (n : r ≠ F') : Rs c' F' EL (es ++ [⟨c, S, F, xs, q⟩]) r :=
  ⟨(fun z => by have := hc _ z; rw [h] at this; cases this), n, x.e, fun e he => by
    rcases List.mem_append.mp he with z | z
    · exact x.o e z
    · rw [List.mem_singleton] at z; rw [z]; exact ⟨x.c, x.f⟩⟩
theorem of_rows {xs : List (Addr × Int × Option Tr)} : ∀ {bs : List Addr}, (∀ b ∈ bs, b ∈ xs.map (·.1)) → ∃ ks : List (Addr × Int × Option Tr), bs = ks.map (·.1) ∧ ∀ k ∈ ks, k ∈ xs
  | [], _ => ⟨[], rfl, fun _ h => nomatch h⟩
  | b :: bs, h => by
    obtain ⟨ks, e, s⟩ := of_rows (bs := bs) fun x hx => h x (List.mem_cons_of_mem _ hx)
    obtain ⟨k, mk, ek⟩ := List.mem_map.mp (h b List.mem_cons_self)
    refine ⟨k :: ks, by rw [e, List.map_cons, ek], fun y hy => ?_⟩
    rcases List.mem_cons.mp hy with z | z
    · rw [z]; exact mk
    · exact s y z
theorem txall_of {S : List Tr} : ∀ {ks : List (Addr × Int × Option Tr)}, (∀ k ∈ ks, Tx S k.2.1 k.2.2) → TxAll S (ks.map fun k => k.2.1) (ks.map fun k => k.2.2)
  | [], _ => trivial
  | k :: ks, h => ⟨h k List.mem_cons_self, txall_of fun x hx => h x (List.mem_cons_of_mem _ hx)⟩
theorem txall_num {S : List Tr} : ∀ {os : List (Option Tr)}, (∀ o ∈ os, ∀ t, o = some t → t ∈ S) → TxAll S (os.map (numO S)) os
  | [], _ => trivial
  | o :: os, h => ⟨numO_tx (h o List.mem_cons_self), txall_num fun x hx => h x (List.mem_cons_of_mem _ hx)⟩
theorem reach_twice (S ts : List Tr) : reachT (reachT S ts) ts = reachT S ts := by
  unfold reachT
  rw [List.filter_filter]
  simp
theorem in_reach {S : List Tr} {os : List (Option Tr)} {o : Option Tr} (ho : o ∈ os) {n : Int} (h : Tx S n o) : ∀ t, o = some t → t ∈ reachT S (trees os) := fun t e => by
  subst e
  refine mem_reachT.mpr ⟨Nm.mem h, t, List.mem_filterMap.mpr ⟨_, ho, rfl⟩, ?_⟩
  exact inT_self t

/-! ### the law's own -/
def spLaw (K : PySem.W.Frag) : Sp := fun vs H Q _ => ∃ (a : Addr) (ns : List Int), vs = [.ref a] ∧ SqL K H a (ns.map V.int) ∧ ns.length ≤ 63 ∧ ∀ H', Q (.bl true) H'
section
variable {P : Program} {w : World} {K : PySem.W.Frag} {mg : Str → Option Value} {base : Heap} {A : Ad}
abbrev n_law : List Str := ["script", "shelf", "found", "elder", "k", "cell", "stream", "kept", "word", "clean", "numbers", "text", "plain", "shelf_then", "some", "many", "pieces", "number", "pair"]
theorem sc_law : FnScope n_law p_law (defScope s_law) := ⟨rfl, rfl, rfl, by decide +kernel, rfl, by decide +kernel, by decide +kernel⟩
theorem ok_law (T : Txt K mg A) : FnOk P w K mg base (L2.CX P w) 192 A.f_law A.d_law p_law (spLaw K) := by
  refine T.fn_law.okX sc_law (fun vs H Q E h => ?_) (fun cdv B outer s H vs Q E hr h => ?_)
  · obtain ⟨a, ns, rfl, _⟩ := h; rfl
  obtain ⟨a, ns, rfl, hs, hl, q⟩ := h
  have hu := hu_of hr
  refine ⟨_, (pss_cons (ps_set (i := 1) sc_law.nd rfl (Or.inl rfl) (pe_make0 T.mk_Shelf (ok_Shelf___init__ T) (hr.mono (by omega)) rfl T.mg_Shelf T.bi_Shelf___init__ .nil (passes_call (takes_of rfl rfl rfl rfl) (fun _ _ _ _ h => h))))
      (pss_cons (ps_set (i := 2) sc_law.nd rfl (Or.inl rfl) (pe_lst (pa_cons (pe_tup (pa_cons pe_int (pa_cons pe_str pa_nil))) pa_nil)))
      (pss_cons (ps_set (i := 3) sc_law.nd rfl (Or.inl rfl) (pe_lst pa_nil))
      (pss_cons (ps_for (passes_of rfl) rfl (pi_enum (by rfl) T.z_enumerate (pa_cons (pe_op op_catK (pv 0) (pe_lst (pa_cons pe_int (pa_cons pe_int (pa_cons pe_int pa_nil))))) pa_nil)) (pg_tup rfl (pgs_cons (pg_name (i := 4) sc_law.nd rfl (Or.inl rfl)) (pgs_cons (pg_name (i := 5) sc_law.nd rfl (Or.inl rfl)) pgs_nil)))
      (pss_cons (ps_set (i := 6) sc_law.nd rfl (Or.inl rfl) (pe_call (ok__law_cell_stream T) (hr.mono (by omega)) (by rfl) T.mg__law_cell_stream T.fn__law_cell_stream.kp T.bi__law_cell_stream .nil (passes_call (takes_of rfl rfl rfl rfl) (fun _ _ _ _ h => h)) (pa_cons (pv 5) (pa_cons (pv 4) pa_nil))))
      (pss_cons (ps_if (pt_cmpR op_eq (pe_call (ok__law_take T) (hr.mono (by omega)) (by rfl) T.mg__law_take T.fn__law_take.kp T.bi__law_take .nil (passes_call (takes_of rfl rfl rfl rfl) (fun _ _ _ _ h => h)) (pa_cons (pv 6) (pa_cons pe_int pa_nil))) pe_int (nomark _)) (pss_cons (ps_set (i := 7) sc_law.nd rfl (Or.inl rfl) (pe_call (ok__law_kept T) (hr.mono (by omega)) (by rfl) T.mg__law_kept T.fn__law_kept.kp T.bi__law_kept .nil (passes_call (takes_of rfl rfl rfl rfl) (fun _ _ _ _ h => h)) (pa_cons (pv 2) (pa_cons (pv 6) pa_nil))))
      (pss_cons (ps_set (i := 8) sc_law.nd rfl (Or.inl rfl) (pe_ix ix_list (pe_lst (pa_cons pe_str (pa_cons pe_str (pa_cons pe_str pa_nil)))) (pe_call (ok__law_take T) (hr.mono (by omega)) (by rfl) T.mg__law_take T.fn__law_take.kp T.bi__law_take .nil (passes_call (takes_of rfl rfl rfl rfl) (fun _ _ _ _ h => h)) (pa_cons (pv 6) (pa_cons pe_int pa_nil))) (fun _ _ => rfl)))
      (pss_cons (ps_if (pt_not (pt_val (pe_call (ok__law_all_counted T) (hr.mono (by omega)) (by rfl) T.mg__law_all_counted T.fn__law_all_counted.kp T.bi__law_all_counted .nil (passes_call (takes_of rfl rfl rfl rfl) (fun _ _ _ _ h => h)) (pa_cons (pv 1) (pa_cons (pv 2) (pa_cons (pv 8) pa_nil)))))) (pss_one (ps_ret pe_bl)) pss_nil)
      (pss_cons (ps_asg (pe_call (ok_swept T) (hr.mono (by omega)) (by rfl) T.mg_swept T.fn_swept.kp T.bi_swept .nil (passes_call (takes_of rfl rfl rfl rfl) (fun _ _ _ _ h => h)) (pa_cons (pv 1) (pa_cons (pe_lc (own := [("pair", 18)]) (g := gName 18) (tt := tYes) rfl sc_law.nd (pi_list (pv 7)) (blkOk_by (own := [("pair", 18)]) (N := n_law) (sc := defScope s_law) (by decide +kernel)) (fun _ _ _ _ _ => (pg_name (i := 18) sc_law.nd rfl (Or.inl rfl))) (fun _ _ _ _ _ => pts_nil) (fun _ _ _ _ _ => (pe_ix (ix_tup : IxR _ (rIxT K)) (pv 18) pe_int (fun _ _ => rfl)))) pa_nil))) (pg_tup rfl (pgs_cons (pg_name (i := 9) sc_law.nd rfl (Or.inl rfl)) (pgs_cons (pg_name (i := 10) sc_law.nd rfl (Or.inl rfl)) pgs_nil))))
      (pss_cons (ps_expr (pe_bm PySem.F.plainAttrs_list PySem.F.slot_list_append PySem.F.type_list_append mt_append (pv 3) (pa_cons (pe_tup (pa_cons (pv 1) (pa_cons (pv 2) (pa_cons (pe_meth0 (pv 1) T.cl_Shelf T.me_Shelf_many (ok_Shelf_many T) (hr.mono (by omega)) T.bi_Shelf_many .nil (passes_call (takes_of rfl rfl rfl rfl) (fun _ _ _ _ h => h))) pa_nil)))) pa_nil)))
      (pss_cons (ps_setLc (i := 2) (own := [("number", 17), ("pair", 18)]) (g := gTup K 2 (gCons (gName 17) (gCons (gName 18) gNil))) (tt := tYes) rfl sc_law.nd rfl rfl (sw_true rfl rfl rfl (by decide +kernel)) (pi_zip (by rfl) T.z_zip (pa_cons (pv 10) (pa_cons (pv 7) pa_nil))) (blkOk_by (own := [("number", 17), ("pair", 18)]) (N := n_law) (sc := defScope s_law) (by decide +kernel)) (fun _ _ _ _ _ => (pg_tup rfl (pgs_cons (pg_name (i := 17) sc_law.nd rfl (Or.inl rfl)) (pgs_cons (pg_name (i := 18) sc_law.nd rfl (Or.inl rfl)) pgs_nil)))) (fun _ _ _ _ _ => pts_nil) (fun _ _ _ _ _ => (pe_tup (pa_cons (pv 17) (pa_cons (pe_ix (ix_tup : IxR _ (rIxT K)) (pv 18) pe_int (fun _ _ => rfl)) pa_nil)))))
      (pss_cons (ps_set (i := 1) sc_law.nd rfl (Or.inl rfl) (pv 9))
      (pss_cons (ps_if (PW.pt (pw_or (pt_cmpR op_ne (pe_callB call_len_seq (by rfl) T.z_len bt_len (pa_cons (pe_call (ok_reach_of T) (hr.mono (by omega)) (by rfl) T.mg_reach_of T.fn_reach_of.kp T.bi_reach_of .nil (passes_call (takes_of rfl rfl rfl rfl) (fun _ _ _ _ h => h)) (pa_cons (pv 1) (pa_cons (pv 10) pa_nil))) pa_nil)) (pe_meth0 (pv 1) T.cl_Shelf T.me_Shelf_many (ok_Shelf_many T) (hr.mono (by omega)) T.bi_Shelf_many .nil (passes_call (takes_of rfl rfl rfl rfl) (fun _ _ _ _ h => h))) (nomark _)) (pw_or1 (pt_not (pt_val (pe_call (ok__law_all_read T) (hr.mono (by omega)) (by rfl) T.mg__law_all_read T.fn__law_all_read.kp T.bi__law_all_read .nil (passes_call (takes_of rfl rfl rfl rfl) (fun _ _ _ _ h => h)) (pa_cons (pv 1) (pa_cons (pv 2) pa_nil)))))))) (pss_one (ps_ret pe_bl)) pss_nil)
      (pss_one (ps_if (pt_not (pt_val (pe_call (ok__law_all_counted T) (hr.mono (by omega)) (by rfl) T.mg__law_all_counted T.fn__law_all_counted.kp T.bi__law_all_counted .nil (passes_call (takes_of rfl rfl rfl rfl) (fun _ _ _ _ h => h)) (pa_cons (pv 1) (pa_cons (pv 2) (pa_cons (pv 8) pa_nil)))))) (pss_one (ps_ret pe_bl)) pss_nil)))))))))) pss_nil)
      (pss_cons (ps_asg (pe_call (ok__law_deed T) (hr.mono (by omega)) (by rfl) T.mg__law_deed T.fn__law_deed.kp T.bi__law_deed .nil (passes_call (takes_of rfl rfl rfl rfl) (fun _ _ _ _ h => h)) (pa_cons (pv 1) (pa_cons (pv 2) (pa_cons (pv 6) pa_nil)))) (pg_tup rfl (pgs_cons (pg_name (i := 11) sc_law.nd rfl (Or.inl rfl)) (pgs_cons (pg_name (i := 12) sc_law.nd rfl (Or.inl rfl)) pgs_nil))))
      (pss_cons (ps_if (pt_cmpR op_ne (pe_call (ok__law_read T) (hr.mono (by omega)) (by rfl) T.mg__law_read T.fn__law_read.kp T.bi__law_read .nil (passes_call (takes_of rfl rfl rfl rfl) (fun _ _ _ _ h => h)) (pa_cons (pv 1) (pa_cons (pv 11) pa_nil))) (pv 12) (nomark _)) (pss_one (ps_ret pe_bl)) pss_nil)
      (pss_one (ps_if (pt_cmpR op_lt (pe_callB call_len_str (by rfl) T.z_len bt_len (pa_cons (pv 12) pa_nil)) pe_int (nomark _)) (pss_one (ps_expr (pe_bm PySem.F.plainAttrs_list PySem.F.slot_list_append PySem.F.type_list_append mt_append (pv 2) (pa_cons (pe_tup (pa_cons (pv 11) (pa_cons (pv 12) pa_nil))) pa_nil)))) pss_nil)))))))
      (pss_cons (ps_for (passes_of rfl) rfl (pi_list (pv 3)) (pg_tup rfl (pgs_cons (pg_name (i := 13) sc_law.nd rfl (Or.inl rfl)) (pgs_cons (pg_name (i := 14) sc_law.nd rfl (Or.inl rfl)) (pgs_cons (pg_name (i := 15) sc_law.nd rfl (Or.inl rfl)) pgs_nil))))
      (pss_one (ps_if (PW.pt (pw_or (pt_cmpR op_ne (pe_meth0 (pv 13) T.cl_Shelf T.me_Shelf_many (ok_Shelf_many T) (hr.mono (by omega)) T.bi_Shelf_many .nil (passes_call (takes_of rfl rfl rfl rfl) (fun _ _ _ _ h => h))) (pv 15) (nomark _)) (pw_or1 (pt_not (pt_val (pe_call (ok__law_all_read T) (hr.mono (by omega)) (by rfl) T.mg__law_all_read T.fn__law_all_read.kp T.bi__law_all_read .nil (passes_call (takes_of rfl rfl rfl rfl) (fun _ _ _ _ h => h)) (pa_cons (pv 13) (pa_cons (pv 14) pa_nil)))))))) (pss_one (ps_ret pe_bl)) pss_nil)))
      (pss_cons (ps_set (i := 16) sc_law.nd rfl (Or.inl rfl) pe_dnewT)
      (pss_cons (ps_for (passes_of rfl) rfl (pi_range2 (by rfl) T.z_range (pa_cons pe_int (pa_cons (pe_op op_add (pe_meth0 (pv 1) T.cl_Shelf T.me_Shelf_many (ok_Shelf_many T) (hr.mono (by omega)) T.bi_Shelf_many .nil (passes_call (takes_of rfl rfl rfl rfl) (fun _ _ _ _ h => h))) pe_int) pa_nil))) (pg_name (i := 17) sc_law.nd rfl (Or.inl rfl))
      (pss_one (ps_dput hu (pv 16) (pe_meth (pv 1) T.cl_Shelf T.me_Shelf_piece (ok_Shelf_piece T) (hr.mono (by omega)) T.bi_Shelf_piece .nil (passes_call (takes_of rfl rfl rfl rfl) (fun _ _ _ _ h => h)) (pa_cons (pv 17) pa_nil)) (pv 17) rfl)))
      (pss_one (ps_ret (pe_and (pe_cmpR op_eq (pe_callB call_len_dT (by rfl) T.z_len bt_len (pa_cons (pv 16) pa_nil)) (pe_meth0 (pv 1) T.cl_Shelf T.me_Shelf_many (ok_Shelf_many T) (hr.mono (by omega)) T.bi_Shelf_many .nil (passes_call (takes_of rfl rfl rfl rfl) (fun _ _ _ _ h => h))) (nomark _)) (pe_one (pe_call (ok__law_all_read T) (hr.mono (by omega)) (by rfl) T.mg__law_all_read T.fn__law_all_read.kp T.bi__law_all_read .nil (passes_call (takes_of rfl rfl rfl rfl) (fun _ _ _ _ h => h)) (pa_cons (pv 1) (pa_cons (pv 2) pa_nil)))))))))))))), ?_⟩
  have hcap : (cap : Nat) = 16000000 := rfl
  have hcl := cap_line
  walk_at "s"
  refine c_new fun c H1 hS1 s1 fr1 => ?_
  walk_at "nx"
  walk_at "s"
  refine ⟨line_of (n := 2) rfl (by decide), fun p0 np0 => ?_⟩
  rw [show (V.str (Str.ofString "")) = V.str (sT (oX none)) by rw [show oX none = [] from rfl, ← sT_nil]]
  obtain ⟨H2, e2, s2, h2⟩ := new_of (o := .tup [V.int 0, V.str (sT (oX none))]) np0
  rw [e2]
  have hS2 := hS1.same s2
  walk_at "w"
  refine ⟨line_of (n := 1) rfl (by decide), fun F nF => ?_⟩
  obtain ⟨H3, e3, s3, h3⟩ := new_of (o := .lst [V.ref p0]) nF
  rw [e3]
  have hS3 := hS2.same s3
  have F3 : Fnd c H3 [] F [(p0, 0, none)] 200 := ⟨h3, hS2.apart nF, fun x hx => by rw [List.mem_singleton] at hx; subst hx; exact ⟨s3 _ _ h2, hS1.apart np0, rfl, Nat.zero_le _⟩⟩
  walk_at "nx"
  walk_at "s"
  refine ⟨line_of (n := 0) rfl (by decide), fun EL nE => ?_⟩
  obtain ⟨H4, e4, s4, h4⟩ := new_of (o := .lst []) nE
  rw [e4]
  have X4 : Sit A.C_Shelf H4 c [] F [(p0, 0, none)] EL [] := ⟨hS3.same s4, F3.same s4, by simp, h4, hS3.apart nE, (ne_of_none h3 nE).symm, (fun e he => nomatch he), fun e he => nomatch he⟩
  walk_at "nx"
  walk_at "s"
  have s14 := ((s1.trans s2).trans s3).trans s4
  refine ⟨_, rfl, ?_⟩
  walk_at "w"
  refine ⟨line_of (n := 3) rfl (by decide), fun l2 nl2 => ?_⟩
  obtain ⟨H5, e5, s5, h5⟩ := new_of (o := .lst [V.int 3, V.int 4, V.int 5]) nl2
  rw [e5]
  walk_at "w"
  refine ⟨_, _, _, _, rfl, rfl, (s14.trans s5).seq hs, SqL.of h5, by rw [List.length_map, sizeLine_eq]; simp; omega, fun L nL => ?_⟩
  obtain ⟨cs, ecs, lcs⟩ : ∃ cs : List Int, ns.map V.int ++ [V.int 3, V.int 4, V.int 5] = cs.map V.int ∧ cs.length ≤ 66 := ⟨ns ++ [3, 4, 5], by simp, by simp; omega⟩
  rw [ecs]
  obtain ⟨H6, e6, s6, hL⟩ := new_of (o := .lst (cs.map V.int)) nL
  rw [e6]
  have X6 := (X4.same s5).same s6
  have R6 := (X4.same s5).fresh nL
  walk_at "w"
  refine ⟨L, _, rfl, SqL.of hL, ?_⟩
  generalize hD : Ends.mk _ _ _ _ = D
  refine for_it walk_enum (fun i σ H' => ∃ (c : Cells) (S : List Tr) (F : Addr) (xs : List (Addr × Int × Option Tr)) (es : List Eld) (x4 x5 x6 x7 x8 x9 x10 x11 x12 : Option V),
      σ = [some (.ref a), some (.ref c.a), some (.ref F), some (.ref EL), x4, x5, x6, x7, x8, x9, x10, x11, x12, none, none, none, none, none, none] ∧
      Sit A.C_Shelf H' c S F xs EL es ∧ Rs c F EL es L ∧ xs.length ≤ 1 + 2 * i ∧ S.length ≤ 130000 * i ∧ es.length ≤ i ∧ H' L = some (.lst (cs.map V.int)))
    ⟨c, [], F, _, [], none, none, none, none, none, none, none, none, none, rfl, X6, R6, by simp, by simp, by simp, hL⟩ (fun _ _ _ _ ⟨_, _, _, _, _, _, _, _, _, _, _, _, _, _, _, _, _, _, _, _, z⟩ => SqL.of z) ?_ ?_
  · clear X6 R6 X4 F3 hS3 hS2 hS1
    rintro i x σ H8 H9 hi ⟨c, S, F, xs, es, x4, x5, x6, x7, x8, x9, x10, x11, x12, rfl, X8, R8, xl, Sl, el, hL8⟩ ⟨T0, u, v, rfl, nT, rfl, hu', hv'⟩
    have hi : i < 66 := by rw [List.length_map] at hi; omega
    obtain ⟨x, rfl⟩ : ∃ x : Int, v = .int x := by
      dsimp only at hv'
      rw [List.getElem?_map] at hv'
      cases e : cs[i]? with
      | none => rw [e] at hv'; cases hv'
      | some y => rw [e] at hv'; cases hv'; exact ⟨y, rfl⟩
    dsimp only at hu'
    cases hu'
    obtain ⟨H9, e9, s9, hT⟩ := new_of (o := .tup [V.int (i : Nat), V.int x]) nT
    rw [e9]
    refine w_gtup (SqT.of hT) rfl (w_gcons (w_gname (w_gcons (w_gname (w_gnil ?_)))))
    have X9 := X8.same s9
    walk_at "s"
    refine ⟨x, i, rfl, by omega, by omega, fun H10 r n s10 nr hr n0 => ?_⟩
    have Rr := X9.fresh nr
    have X10 := X9.same s10
    have hL10 := s10 _ _ (s9 _ _ hL8)
    have Lr : L ≠ r := ne_of_none (s9 _ _ hL8) nr
    walk_at "nx"
    walk_at "s"
    refine c_take hr n0 (by decide) (by decide) fun d n1 d0 d1 n10 => ?_
    have X11 := X10.draw (KeepL.upd (by simp)) hr (H' := upd H10 r (.lst [.int n1])) upd_same n10 Rr
    have hL11 : upd H10 r (.lst [.int n1]) L = some (.lst (cs.map V.int)) := by rw [upd_ne Lr]; exact hL10
    have hr11 : upd H10 r (.lst [.int n1]) r = some (.lst [.int n1]) := upd_same
    generalize upd H10 r (.lst [.int n1]) = H11 at X11 hL11 hr11 ⊢
    walk_at "w"
    generalize hD2 : Ends.mk _ _ _ _ = D2
    have rest : ∀ (H12 : Hp) (c : Cells) (S : List Tr) (F : Addr) (xs : List (Addr × Int × Option Tr)) (es : List Eld) (n : Int) (x7 x8 x9 x10 : Option V), Sit A.C_Shelf H12 c S F xs EL es → Rs c F EL es r → Rs c F EL es L → H12 r = some (.lst [.int n]) → 0 ≤ n → xs.length ≤ 2 + 2 * i → S.length ≤ 130000 * i → es.length ≤ i + 1 →
        H12 L = some (.lst (cs.map V.int)) → D2.nx [some (.ref a), some (.ref c.a), some (.ref F), some (.ref EL), some (.int (i : Nat)), some (.int x), some (.ref r), x7, x8, x9, x10, x11, x12, none, none, none, none, none, none] H12 := by
      clear X11 hL11 hr11 X10 hL10 Rr X9 X8 R8 xl Sl el hL8
      intro H12 c S F xs es n x7 x8 x9 x10 X Rr R hr n0 xl Sl el hL
      rw [← hD2]; dsimp only
      walk_at "s"
      refine ⟨c, S, F, r, xs, n, rfl, X.sh, X.fn, X.ne, by omega, Rr.c, hr, n0, by omega, fun H13 S2 p m o n2 G hp np pc tm om => ?_⟩
      have X13 := X.grown G hr Rr
      have l13 := G.len
      have hL13 := G.kp _ _ (by rw [List.mem_cons, not_or]; exact ⟨Lr, R.c⟩) hL
      refine w_gtup (SqT.of hp) rfl (w_gcons (w_gname (w_gcons (w_gname (w_gnil ?_)))))
      have lo := oS_txt o
      have sl : (sT (oX o)).length = oS o := by rw [sT_len, lo]
      walk_at "s"
      refine c_read X13.sh tm (by omega) fun H14 s14 => ?_
      have X14 := X13.same s14
      walk_at "w"
      refine ite_d (fun z => (z rfl).elim) (fun _ => ?_)
      walk_at "sk"
      walk_at "w"
      refine ⟨_, rfl, by omega, ?_⟩
      walk_at "w"
      rw [sl]
      refine ite_d (fun hb => ?_) (fun hb => ?_)
      · walk_at "w"
        refine ⟨.inl ⟨rfl, _, SqL.of X14.fn.row⟩, ?_⟩
        walk_at "w"
        refine ⟨line_of (n := 2) rfl (by decide), fun p2 np2 => ?_⟩
        obtain ⟨H15, e15, s15, hp2⟩ := new_of (o := .tup [V.int m, V.str (sT (oX o))]) np2
        rw [e15]
        have X15 := X14.same s15
        walk_at "w"
        refine ⟨F, _, _, rfl, rfl, X15.fn.row, by rw [List.length_map, sizeLine_eq]; omega, ?_⟩
        exact ⟨c, S2, F, _, es, _, _, _, _, _, _, _, _, _, rfl, X15.add hp2 tm (by omega), R, by simp; omega, by omega, by omega, by rw [upd_ne R.f]; exact s15 _ _ (s14 _ _ hL13)⟩
      · walk_at "w"
        exact ⟨c, S2, F, xs, es, _, _, _, _, _, _, _, _, _, rfl, X14, R, by omega, by omega, by omega, s14 _ _ hL13⟩
    refine ite_d (fun _ => ?_) (fun _ => ?_)
    rotate_left
    · refine w_next ?_
      exact rest H11 c S F xs es n1 x7 x8 x9 x10 X11 Rr R8 hr11 n10 (by omega) Sl (by omega) hL11
    clear X10 hL10 X9 X8 hL8
    walk_at "s"
    have aF : H11 F = some (.lst ((xs.map (·.1)).map V.ref)) := by rw [X11.fn.row, List.map_map]; rfl
    refine ⟨F, r, xs.map (·.1), n1, rfl, aF, by have := X11.ne; simpa using this, by rw [List.length_map]; omega, Rr.f.symm, hr11, n10, fun H12 kp bs n2 k12 hr12 n20 hkp nkp sub bne bl => ?_⟩
    obtain ⟨ks, rfl, ksub⟩ := of_rows sub
    have kE : kp ≠ EL := (ne_of_none X11.el nkp).symm
    rw [List.length_map, List.length_map] at bl
    have X12 := X11.draw k12 hr11 hr12 n20 Rr
    have hL12 := k12 _ _ (by rw [List.mem_singleton]; exact Lr) hL11
    walk_at "nx"
    walk_at "s"
    refine ⟨line_of (n := 3) rfl (by decide), fun wl nwl => ?_⟩
    obtain ⟨ws, ews, lws, aws⟩ : ∃ ws : List (List Nat), [V.str (Str.ofString "a"), V.str (Str.ofString "ab"), V.str (Str.ofString "aa")] = ws.map (fun w => V.str (sT w)) ∧ ws.length = 3 ∧ ∀ w ∈ ws, Plain w ∧ w ≠ [] ∧ w.length ≤ 8 :=
      ⟨[[97], [97, 98], [97, 97]], by rw [show (Str.ofString "a") = sT [97] by decide +kernel, show (Str.ofString "ab") = sT [97, 98] by decide +kernel, show (Str.ofString "aa") = sT [97, 97] by decide +kernel]; rfl, rfl, by decide⟩
    rw [ews]
    obtain ⟨H13, e13, s13, hwl⟩ := new_of (o := .lst (ws.map (fun w => V.str (sT w)))) nwl
    rw [e13]
    have X13 := X12.same s13
    have hr13 := s13 _ _ hr12
    have wr : wl ≠ r := (ne_of_none hr12 nwl).symm
    walk_at "w"
    refine c_take hr13 n20 (by decide) (by decide) fun dw n3 dw0 dw1 n30 => ?_
    have X14 := X13.draw (KeepL.upd (by simp)) hr13 (H' := upd H13 r (.lst [.int n3])) upd_same n30 Rr
    have hL14 : upd H13 r (.lst [.int n3]) L = some (.lst (cs.map V.int)) := by rw [upd_ne Lr]; exact s13 _ _ hL12
    have hr14 : upd H13 r (.lst [.int n3]) r = some (.lst [.int n3]) := upd_same
    have hwl14 : upd H13 r (.lst [.int n3]) wl = some (.lst (ws.map (fun w => V.str (sT w)))) := by rw [upd_ne wr]; exact hwl
    have kr : kp ≠ r := (ne_of_none hr11 nkp).symm
    have hkp14 : upd H13 r (.lst [.int n3]) kp = some (.lst ((ks.map (·.1)).map V.ref)) := by rw [upd_ne kr]; exact s13 _ _ hkp
    generalize upd H13 r (.lst [.int n3]) = H14 at X14 hL14 hr14 hwl14 hkp14 ⊢
    clear X13 hr13 hwl X12 hL12 X11 hL11 hr11 aF
    obtain ⟨wd, mw, atw⟩ := fore_at (f := fun w : List Nat => V.str (sT w)) (xs := ws) dw0 (by rw [lws]; exact dw1)
    obtain ⟨wP, wne, w8⟩ := aws wd mw
    refine w_ixl (SqL.of hwl14) atw ?_
    walk_at "nx"
    walk_at "s"
    refine ⟨c, S, F, xs, wd, rfl, X14.sh, X14.fn, by omega, wP, wne, w8, fun H15 s15 => ?_⟩
    have X15 := X14.same s15
    have hkp15 := s15 _ _ hkp14
    refine ⟨_, rfl, iteF ?_⟩
    walk_at "sk"
    walk_at "s"
    refine ⟨kp, rfl, ⟨_, SqL.of hkp15⟩, fun D nD => ?_⟩
    have kel : ∀ k ∈ ks, H15 k.1 = some (.tup [.int k.2.1, .str (sT (oX k.2.2))]) ∧ Tx S k.2.1 k.2.2 ∧ oS k.2.2 ≤ 200 := fun k hk => let ⟨h1, _, h3, h4⟩ := X15.fn.el k (ksub k hk); ⟨h1, h3, h4⟩
    refine lc_it (walk_list (xs := (ks.map (·.1)).map V.ref)) (fun i H' => Same H15 H' ∧ H' D = some (.lst (((ks.take i).map fun k => k.2.1).map V.int))) ⟨fun b o e => by rw [upd_ne (ne_of_none e nD)]; exact e, upd_same⟩ (fun _ _ _ z => SqL.of (z.1 _ _ hkp15)) ?_ ?_
    · rintro j y H16 H17 hj ⟨s16, hD16⟩ ⟨rfl, hy⟩
      have hj2 : j < ks.length := by rw [List.length_map, List.length_map] at hj; exact hj
      rw [List.getElem?_map, List.getElem?_map, List.getElem?_eq_getElem hj2] at hy
      cases hy
      have ek := List.getElem?_eq_getElem hj2
      obtain ⟨k1, k2, k3⟩ := kel _ (List.getElem_mem hj2)
      generalize ks[j] = k at ek k1 k2 k3
      refine w_gname ⟨rfl, w_yes (iteT ?_)⟩
      walk_at "w"
      refine w_ixt (SqT.of (s16 _ _ k1)) (v := .int k.2.1) rfl ?_
      refine ⟨_, hD16, by rw [List.length_map, List.length_map, List.length_take, sizeLine_eq]; omega, fun b o e => ?_, ?_⟩
      · rw [upd_ne (ne_of_none e nD)]; exact s16 b o e
      · rw [upd_same, take_snoc ek, List.map_append, List.map_append]; rfl
    rintro H16 ⟨s16, hD16⟩
    rw [List.length_map, List.length_map, List.take_length] at hD16
    have X16 := X15.same s16
    walk_at "w"
    have sl8 := X16.sh.cp
    refine ⟨c, S, D, _, rfl, X16.sh, hD16, by rw [List.length_map]; omega, .inr ⟨_, txall_of fun k hk => (kel k hk).2.1, fun H17 tp c' LN s17 ntp fr nLN LNc htp hS' hLN => ?_⟩⟩
    generalize hos : ks.map (fun k => k.2.2) = os at hS' hLN
    generalize hS2 : reachT S (trees os) = S2 at hS' hLN
    refine w_gtup (SqT.of htp) rfl (w_gcons (w_gname (w_gcons (w_gname (w_gnil ?_)))))
    have X17 := X16.same s17
    have hS17 := X17.sh
    walk_at "s"
    refine ⟨.inl ⟨rfl, _, SqL.of X17.el⟩, ?_⟩
    walk_at "w"
    refine c_many X17.sh ?_
    walk_at "w"
    refine ⟨line_of (n := 3) rfl (by decide), fun q0 nq => ?_⟩
    obtain ⟨H18, e18, s18, hq⟩ := new_of (o := .tup [V.ref c.a, V.ref F, V.int S.length]) nq
    rw [e18]
    have X18 := X17.same s18
    walk_at "w"
    refine ⟨EL, _, _, rfl, rfl, X18.el, by rw [List.length_map, sizeLine_eq]; omega, ?_⟩
    have el19 : EL ∉ c'.all := fun z => by have := fr _ z; rw [X16.el] at this; cases this
    have hS18 := hS'.same s18
    have hS19 : ShAt A.C_Shelf c' (upd H18 EL (.lst (es.map (fun e => V.ref e.p) ++ [V.ref q0]))) S2 := hS18.digit X18.el el19
    have tu : ∀ b ys, H18 b = some (.tup ys) → upd H18 EL (.lst (es.map (fun e => V.ref e.p) ++ [V.ref q0])) b = some (.tup ys) := tup_upd X18.el
    have kp19 : KeepL [EL] H18 (upd H18 EL (.lst (es.map (fun e => V.ref e.p) ++ [V.ref q0]))) := KeepL.upd (by simp)
    have hLN18 := s18 _ _ hLN
    have LE : LN ≠ EL := (ne_of_none X16.el nLN).symm
    have hkp18 := s18 _ _ (s17 _ _ (s16 _ _ hkp15))
    generalize hG : upd H18 EL (.lst (es.map (fun e => V.ref e.p) ++ [V.ref q0])) = H19 at hS19 tu kp19
    have hLN19 := kp19 _ _ (by rw [List.mem_singleton]; exact LE) hLN18
    have hkp19 := kp19 _ _ (by rw [List.mem_singleton]; exact kE) hkp18
    have los : os.length = ks.length := by rw [← hos, List.length_map]
    walk_at "S"
    refine ⟨LN, kp, _, _, rfl, SqL.of hLN19, SqL.of hkp19, fun D2' nD2' => ?_⟩
    refine lc_it (walk_zip (n := ks.length) (xs := (os.map (numO S2)).map V.int) (ys := (ks.map (·.1)).map V.ref) (by rw [List.length_map, List.length_map, List.length_map, List.length_map, los, Nat.min_self])) (fun j H' => Same H19 H' ∧ ∃ zs : List (Addr × Int × Option Tr), H' D2' = some (.lst (zs.map fun z => V.ref z.1)) ∧ zs.length = j ∧
      ∀ z ∈ zs, H' z.1 = some (.tup [.int z.2.1, .str (sT (oX z.2.2))]) ∧ z.1 ∉ c'.all ∧ Tx S2 z.2.1 z.2.2 ∧ oS z.2.2 ≤ 200)
      ⟨fun b o e => by rw [upd_ne (ne_of_none e nD2')]; exact e, [], upd_same, rfl, fun z hz => nomatch hz⟩ (fun _ _ _ z => ⟨SqL.of (z.1 _ _ hLN19), SqL.of (z.1 _ _ hkp19)⟩) ?_ ?_
    · rintro j y H20 H21 hj ⟨s20, zs, hD20, lz, zel⟩ ⟨zp, u, v, rfl, nz, rfl, hu', hv'⟩
      obtain ⟨H21, e21, s21, hz⟩ := new_of (o := .tup [u, v]) nz
      rw [e21]
      have hj2 : j < os.length := by omega
      dsimp only at hu' hv'
      rw [List.getElem?_map, List.getElem?_map, List.getElem?_eq_getElem hj2] at hu'
      rw [List.getElem?_map, List.getElem?_map, List.getElem?_eq_getElem hj] at hv'
      cases hu'
      cases hv'
      have ek := List.getElem?_eq_getElem hj
      obtain ⟨k1, k2, k3⟩ := kel _ (List.getElem_mem hj)
      have eo : os[j] = (ks[j]).2.2 := by
        have : os[j]? = some (ks[j]).2.2 := by rw [← hos, List.getElem?_map, ek]; rfl
        rw [List.getElem?_eq_getElem hj2] at this
        exact Option.some.inj this
      rw [eo] at hz
      generalize ks[j] = k at ek k1 k2 k3 hz eo
      have oin : k.2.2 ∈ os := by rw [← eo]; exact List.getElem_mem hj2
      have kt : Tx S2 (numO S2 k.2.2) k.2.2 := numO_tx (by rw [← hS2]; exact in_reach oin k2)
      have k18 := s18 _ _ (s17 _ _ (s16 _ _ k1))
      have k21 := s21 _ _ (s20 _ _ (tu _ _ k18))
      refine w_gtup (SqT.of hz) rfl (w_gcons (w_gname (w_gcons (w_gname (w_gnil ?_)))))
      refine ⟨rfl, w_yes (iteT ?_)⟩
      walk_at "w"
      refine w_ixt (SqT.of k21) (v := .str (sT (oX k.2.2))) rfl ?_
      walk_at "w"
      refine ⟨line_of (n := 2) rfl (by decide), fun pz npz => ?_⟩
      obtain ⟨H22, e22, s22, hpz⟩ := new_of (o := .tup [V.int (numO S2 k.2.2), V.str (sT (oX k.2.2))]) npz
      rw [e22]
      have hD22 := s22 _ _ (s21 _ _ hD20)
      have tu2 : ∀ b ys, H22 b = some (.tup ys) → upd H22 D2' (.lst ((zs.map fun z => V.ref z.1) ++ [V.ref pz])) b = some (.tup ys) := tup_upd hD22
      refine ⟨_, hD22, by rw [List.length_map, sizeLine_eq]; omega, fun b o e => ?_, zs ++ [(pz, numO S2 k.2.2, k.2.2)], ?_, by rw [List.length_append, lz]; rfl, fun z hz => ?_⟩
      · rw [upd_ne (ne_of_none e nD2')]; exact s22 _ _ (s21 _ _ (s20 _ _ e))
      · rw [upd_same, List.map_append]; rfl
      · rcases List.mem_append.mp hz with m | m
        · obtain ⟨z1, z2, z3, z4⟩ := zel z m
          exact ⟨tu2 _ _ (s22 _ _ (s21 _ _ z1)), z2, z3, z4⟩
        · rw [List.mem_singleton] at m
          subst m
          exact ⟨tu2 _ _ hpz, ((hS19.same s20).same s21).apart npz, kt, k3⟩
    rintro H20 ⟨s20, zs, hD20, lz, zel⟩
    have zne : zs ≠ [] := fun z => by
      rw [z] at lz
      exact bne (by rw [List.map_eq_nil_iff]; exact List.length_eq_zero_iff.mp lz.symm)
    have F20 : Fnd c' H20 S2 D2' zs 200 := ⟨hD20, hS19.apart nD2', zel⟩
    have X20 : Sit A.C_Shelf H20 c' S2 D2' zs EL (es ++ [⟨c, S, F, xs, q0⟩]) := X16.turn (by omega) (s17.trans s18) hq fr hS18 (by rw [hG]; exact s20) F20 zne (by rw [hG]; exact nD2')
    have hr16 := s16 _ _ (s15 _ _ hr14)
    have hr19 := kp19 _ _ (by rw [List.mem_singleton]; exact Rr.e) (s18 _ _ (s17 _ _ hr16))
    have hr20 := s20 _ _ hr19
    have hL16 := s16 _ _ (s15 _ _ hL14)
    have hL19 := kp19 _ _ (by rw [List.mem_singleton]; exact R8.e) (s18 _ _ (s17 _ _ hL16))
    have hL20 := s20 _ _ hL19
    have Rr2 : Rs c' D2' EL (es ++ [⟨c, S, F, xs, q0⟩]) r := Rr.turn fr hr16 (ne_of_none hr19 nD2')
    have R2 : Rs c' D2' EL (es ++ [⟨c, S, F, xs, q0⟩]) L := R8.turn fr hL16 (ne_of_none hL19 nD2')
    have hLN20 := s20 _ _ hLN19
    have lS2 : S2.length ≤ S.length := by rw [← hS2]; exact (reach_sub S _).length_le
    walk_at "nx"
    walk_at "s"
    walk_at "nx"
    have hS20 := X20.sh
    walk_at "s"
    have sl2 := X20.sh.cp
    refine ⟨c', S2, LN, _, rfl, X20.sh, hLN20, by rw [List.length_map]; omega, .inr ⟨os, txall_num fun o ho => ?_, fun H21 rp s21 nrp hrp => ?_⟩⟩
    · rw [← hos] at ho
      obtain ⟨k, mk, rfl⟩ := List.mem_map.mp ho
      rw [← hS2]
      exact in_reach (by rw [← hos]; exact ho) (kel k mk).2.1
    have hS21 := hS20.same s21
    have X21 := X20.same s21
    walk_at "w"
    refine ⟨rp, _, rfl, .inl (SqL.of hrp), ?_⟩
    have elen : ((reachN S2 os).map V.int).length = S2.length := by
      rw [List.length_map]
      unfold reachN
      rw [List.length_map, ← hS2, reach_twice]
    rw [elen]
    walk_at "w"
    refine c_many hS21 ?_
    walk_at "w"
    refine ite_d (fun z => (z rfl).elim) (fun _ => ?_)
    walk_at "w"
    refine ⟨c', S2, D2', zs, rfl, X21.sh, X21.fn, by omega, fun H22 s22 => ?_⟩
    have X22 := X21.same s22
    refine ⟨_, rfl, iteF ?_⟩
    walk_at "sk"
    walk_at "w"
    refine ⟨c', S2, D2', zs, wd, rfl, X22.sh, X22.fn, by omega, wP, wne, w8, fun H23 s23 => ?_⟩
    have X23 := X22.same s23
    refine ⟨_, rfl, iteF ?_⟩
    refine w_next ?_
    exact rest H23 c' S2 D2' zs _ n3 _ _ _ _ X23 Rr2 R2 (s23 _ _ (s22 _ _ (s21 _ _ hr20))) n30 (by omega) (by omega) (by rw [List.length_append]; simp; omega) (s23 _ _ (s22 _ _ (s21 _ _ hL20)))
  rintro σ H8 ⟨c, S, F, xs, es, x4, x5, x6, x7, x8, x9, x10, x11, x12, rfl, X8, R8, xl, Sl, el, hL8⟩
  rw [List.length_map] at xl Sl
  rw [← hD]; dsimp only
  clear X6 R6 X4 F3 hS3 hS2 hS1
  walk_at "s"
  refine ⟨EL, rfl, ⟨_, SqL.of X8.el⟩, ?_⟩
  refine for_it (walk_list (xs := es.map fun e => V.ref e.p)) (fun j σ H' => ∃ (x13 x14 x15 : Option V), σ = [some (.ref a), some (.ref c.a), some (.ref F), some (.ref EL), x4, x5, x6, x7, x8, x9, x10, x11, x12, x13, x14, x15, none, none, none] ∧ Sit A.C_Shelf H' c S F xs EL es)
    ⟨_, _, _, rfl, X8⟩ (fun _ _ _ _ ⟨_, _, _, _, z⟩ => SqL.of z.el) ?_ ?_
  · rintro j y σ H10 H9 hj ⟨x13, x14, x15, rfl, X9⟩ ⟨rfl, hy⟩
    rw [List.getElem?_map] at hy
    obtain ⟨z, mz, rfl⟩ : ∃ z ∈ es, y = V.ref z.p := by
      cases e : es[j]? with
      | none => rw [e] at hy; cases hy
      | some z => rw [e] at hy; cases hy; exact ⟨z, List.mem_of_getElem? e, rfl⟩
    have Z := X9.at' z mz
    have hSz := Z.sh
    refine w_gtup (SqT.of Z.tp) rfl (w_gcons (w_gname (w_gcons (w_gname (w_gcons (w_gname (w_gnil ?_)))))))
    walk_at "w"
    refine c_many hSz ?_
    walk_at "w"
    refine ite_d (fun z => (z rfl).elim) (fun _ => ?_)
    walk_at "w"
    refine ⟨z.c, z.S, z.F, z.xs, rfl, hSz, Z.fn, Z.ln, fun H11 s11 => ?_⟩
    refine ⟨_, rfl, iteF ?_⟩
    refine w_next ?_
    exact ⟨_, _, _, rfl, X9.same s11⟩
  rintro σ H9 ⟨x13, x14, x15, rfl, X9⟩
  dsimp only
  walk_at "s"
  refine fun Dp nDp => ?_
  obtain ⟨H10, e10, s10, hD10⟩ := new_of (o := .dT []) nDp
  rw [e10]
  have X10 := X9.same s10
  have hS10 := X10.sh
  walk_at "nx"
  walk_at "s"
  refine c_many hS10 ?_
  walk_at "w"
  have Dpc : Dp ∉ c.all := X9.sh.apart nDp
  have FDp : F ≠ Dp := ne_of_none X9.fn.row nDp
  have scp := hS10.cp
  refine ⟨_, _, rfl, ⟨by decide, by decide, by omega, by omega⟩, ?_⟩
  have nS : ((S.length : Int) + 1 - 1).toNat = S.length := by omega
  have tup10 : ∀ {H' : Hp}, KeepL [Dp] H10 H' → ∀ b ys, H10 b = some (.tup ys) → H' b = some (.tup ys) := fun k b ys e => k _ _ (by rw [List.mem_singleton]; exact ne_of e hD10 (by intro z; cases z)) e
  have sh10 : ∀ {H' : Hp}, KeepL [Dp] H10 H' → ShAt A.C_Shelf c H' S := fun k => hS10.keepL k (fun b hb => by rw [List.mem_singleton] at hb; rw [hb]; exact Dpc) (tup10 k)
  refine for_it walk_range (fun i σ H' => ∃ (x17 : Option V), σ = [some (.ref a), some (.ref c.a), some (.ref F), some (.ref EL), x4, x5, x6, x7, x8, x9, x10, x11, x12, x13, x14, x15, some (.ref Dp), x17, none] ∧ KeepL [Dp] H10 H' ∧ H' Dp = some (.dT ((S.take i).map fun t => (key S t, .int (num S t)))))
    ⟨_, rfl, KeepL.refl _ _, hD10⟩ (fun _ _ _ _ _ => trivial) ?_ ?_
  · rintro i y σ H12 H11 hi ⟨x17, rfl, k11, hD11⟩ ⟨rfl, rfl⟩
    rw [nS] at hi
    have eu : S[i]? = some (S[i]'hi) := List.getElem?_eq_getElem hi
    generalize S[i]'hi = u at eu
    have uS := List.mem_of_getElem? eu
    have nu := num_at hS10.gd eu
    dsimp only
    rw [show (1 : Int) + (i : Int) = num S u by rw [nu]; omega]
    have hS11 := sh10 k11
    refine w_gname ?_
    show tVar _ _ _ _
    walk_at "w"
    refine c_piece hS11 (nm_num uS) fun pr hpr => ?_
    refine ⟨Dp, _, rfl, DPut.t (k := key S u) hD11 hpr (by rw [List.length_map, List.length_take, sizeLine_eq]; omega), ?_⟩
    have nin : u ∉ S.take i := fun h => by
      have nd := hS10.gd.nd
      obtain ⟨j, hj, ej⟩ := List.getElem_of_mem h
      rw [List.length_take] at hj
      rw [List.getElem_take] at ej
      have e2 : S[j]? = some u := by rw [List.getElem?_eq_getElem (by omega), ej]
      have := nd_same nd e2 eu
      omega
    have ep : putK ((S.take i).map fun t => (key S t, V.int (num S t))) (key S u) (V.int (num S u)) = (S.take (i + 1)).map fun t => (key S t, V.int (num S t)) := by
      unfold putK
      rw [if_neg, take_snoc eu, List.map_append]
      · rfl
      · intro z
        obtain ⟨kv, mk, ek⟩ := List.any_eq_true.mp z
        obtain ⟨t, mt, rfl⟩ := List.mem_map.mp mk
        have tS := List.mem_of_mem_take mt
        have : t = u := key_inj (fun a b e => by subst e; exact hS10.gd.parts tS) (fun a b e => by subst e; exact hS10.gd.parts uS) (of_decide_eq_true ek)
        rw [← this] at nin
        exact nin mt
    rw [ep]
    exact ⟨_, rfl, k11.trans (KeepL.upd (by simp)), upd_same⟩
  rintro σ H11 ⟨x17, rfl, k11, hD11⟩
  rw [nS, List.take_length] at hD11
  have hS11 := sh10 k11
  dsimp only
  walk_at "W"
  refine ⟨Dp, _, rfl, hD11, ?_⟩
  rw [List.length_map]
  walk_at "W"
  refine c_many hS11 ?_
  walk_at "W"
  rw [decide_eq_true rfl]
  refine iteT ?_
  walk_at "W"
  have F11 : Fnd c H11 S F xs 200 := ⟨k11 _ _ (by rw [List.mem_singleton]; exact FDp) X10.fn.row, X10.fn.out, fun x hx => let ⟨h1, h2⟩ := X10.fn.el x hx; ⟨tup10 k11 _ _ h1, h2⟩⟩
  refine ⟨c, S, F, xs, rfl, hS11, F11, by omega, fun H12 s12 => ?_⟩
  exact q H12
end

theorem all_mk {l : PySem.W.OpenLaw} {w : World} {K : PySem.W.Frag} {h : Heap} {mg : Str → Option Value} {fa : Addr} (X : K.In h) (G : h.Ns mainGlobals mg) (hfa : mg "law" = some (.ref fa))
    (kl_MOST_SIGNS : KInt mg "MOST_SIGNS" 1000000000000000000)
    {C_Shelf C_Finder C_Loose C_NoPiece C_NoPlace C_NoText C_TooLong C_Unlevel f_is_plain f_ends_in f_Shelf___init__ f_Shelf_want f_Shelf_want_piece f_Shelf_many f_Shelf_piece f_Shelf_signs f_Shelf_ends f_Shelf_leaves f_Shelf_height f_Shelf_first_leaf f_Shelf_last_leaf f_Shelf_laid f_Shelf_leaf f_Shelf_fork f_Shelf_is_loose f_reach_of f_swept f_is_leaf f_parts_of f_turned_right f_turned_left f_levelled f_linked f_without_last f_without_first f_leaf_text f_poured f_joined f_built_of f_built f_want_stretch f_leaf_cut f_halves f_put_in f_taken_out f_kept_part f_look_at_word f_places_in f_Finder___init__ f_Finder_ends_of f_Finder_seam f_Finder_often f_Finder_place f_count_of f__law_mixed f__law_take f__law_plain f__law_read f__law_cell_stream f__law_deed f__law_kept f__law_all_read f__law_all_counted f_law : Addr}
    {od_is_plain : Option Addr}
    {an_is_plain : Option Addr}
    {sl_is_plain : Array (Option Value)}
    {oc_is_plain : Value}
    {kV_is_plain : Value}
    {dc_is_plain : Value}
    {pm_is_plain : Value}
    {cd_is_plain : Value}
    {ct_is_plain : Value}
    {od_ends_in : Option Addr}
    {an_ends_in : Option Addr}
    {sl_ends_in : Array (Option Value)}
    {oc_ends_in : Value}
    {kV_ends_in : Value}
    {dc_ends_in : Value}
    {pm_ends_in : Value}
    {cd_ends_in : Value}
    {ct_ends_in : Value}
    {od_Shelf___init__ : Option Addr}
    {an_Shelf___init__ : Option Addr}
    {sl_Shelf___init__ : Array (Option Value)}
    {oc_Shelf___init__ : Value}
    {kV_Shelf___init__ : Value}
    {dc_Shelf___init__ : Value}
    {pm_Shelf___init__ : Value}
    {cd_Shelf___init__ : Value}
    {ct_Shelf___init__ : Value}
    {od_Shelf_want : Option Addr}
    {an_Shelf_want : Option Addr}
    {sl_Shelf_want : Array (Option Value)}
    {oc_Shelf_want : Value}
    {kV_Shelf_want : Value}
    {dc_Shelf_want : Value}
    {pm_Shelf_want : Value}
    {cd_Shelf_want : Value}
    {ct_Shelf_want : Value}
    {od_Shelf_want_piece : Option Addr}
    {an_Shelf_want_piece : Option Addr}
    {sl_Shelf_want_piece : Array (Option Value)}
    {oc_Shelf_want_piece : Value}
    {kV_Shelf_want_piece : Value}
    {dc_Shelf_want_piece : Value}
    {pm_Shelf_want_piece : Value}
    {cd_Shelf_want_piece : Value}
    {ct_Shelf_want_piece : Value}
    {od_Shelf_many : Option Addr}
    {an_Shelf_many : Option Addr}
    {sl_Shelf_many : Array (Option Value)}
    {oc_Shelf_many : Value}
    {kV_Shelf_many : Value}
    {dc_Shelf_many : Value}
    {pm_Shelf_many : Value}
    {cd_Shelf_many : Value}
    {ct_Shelf_many : Value}
    {od_Shelf_piece : Option Addr}
    {an_Shelf_piece : Option Addr}
    {sl_Shelf_piece : Array (Option Value)}
    {oc_Shelf_piece : Value}
    {kV_Shelf_piece : Value}
    {dc_Shelf_piece : Value}
    {pm_Shelf_piece : Value}
    {cd_Shelf_piece : Value}
    {ct_Shelf_piece : Value}
    {od_Shelf_signs : Option Addr}
    {an_Shelf_signs : Option Addr}
    {sl_Shelf_signs : Array (Option Value)}
    {oc_Shelf_signs : Value}
    {kV_Shelf_signs : Value}
    {dc_Shelf_signs : Value}
    {pm_Shelf_signs : Value}
    {cd_Shelf_signs : Value}
    {ct_Shelf_signs : Value}
    {od_Shelf_ends : Option Addr}
    {an_Shelf_ends : Option Addr}
    {sl_Shelf_ends : Array (Option Value)}
    {oc_Shelf_ends : Value}
    {kV_Shelf_ends : Value}
    {dc_Shelf_ends : Value}
    {pm_Shelf_ends : Value}
    {cd_Shelf_ends : Value}
    {ct_Shelf_ends : Value}
    {od_Shelf_leaves : Option Addr}
    {an_Shelf_leaves : Option Addr}
    {sl_Shelf_leaves : Array (Option Value)}
    {oc_Shelf_leaves : Value}
    {kV_Shelf_leaves : Value}
    {dc_Shelf_leaves : Value}
    {pm_Shelf_leaves : Value}
    {cd_Shelf_leaves : Value}
    {ct_Shelf_leaves : Value}
    {od_Shelf_height : Option Addr}
    {an_Shelf_height : Option Addr}
    {sl_Shelf_height : Array (Option Value)}
    {oc_Shelf_height : Value}
    {kV_Shelf_height : Value}
    {dc_Shelf_height : Value}
    {pm_Shelf_height : Value}
    {cd_Shelf_height : Value}
    {ct_Shelf_height : Value}
    {od_Shelf_first_leaf : Option Addr}
    {an_Shelf_first_leaf : Option Addr}
    {sl_Shelf_first_leaf : Array (Option Value)}
    {oc_Shelf_first_leaf : Value}
    {kV_Shelf_first_leaf : Value}
    {dc_Shelf_first_leaf : Value}
    {pm_Shelf_first_leaf : Value}
    {cd_Shelf_first_leaf : Value}
    {ct_Shelf_first_leaf : Value}
    {od_Shelf_last_leaf : Option Addr}
    {an_Shelf_last_leaf : Option Addr}
    {sl_Shelf_last_leaf : Array (Option Value)}
    {oc_Shelf_last_leaf : Value}
    {kV_Shelf_last_leaf : Value}
    {dc_Shelf_last_leaf : Value}
    {pm_Shelf_last_leaf : Value}
    {cd_Shelf_last_leaf : Value}
    {ct_Shelf_last_leaf : Value}
    {od_Shelf_laid : Option Addr}
    {an_Shelf_laid : Option Addr}
    {sl_Shelf_laid : Array (Option Value)}
    {oc_Shelf_laid : Value}
    {kV_Shelf_laid : Value}
    {dc_Shelf_laid : Value}
    {pm_Shelf_laid : Value}
    {cd_Shelf_laid : Value}
    {ct_Shelf_laid : Value}
    {od_Shelf_leaf : Option Addr}
    {an_Shelf_leaf : Option Addr}
    {sl_Shelf_leaf : Array (Option Value)}
    {oc_Shelf_leaf : Value}
    {kV_Shelf_leaf : Value}
    {dc_Shelf_leaf : Value}
    {pm_Shelf_leaf : Value}
    {cd_Shelf_leaf : Value}
    {ct_Shelf_leaf : Value}
    {od_Shelf_fork : Option Addr}
    {an_Shelf_fork : Option Addr}
    {sl_Shelf_fork : Array (Option Value)}
    {oc_Shelf_fork : Value}
    {kV_Shelf_fork : Value}
    {dc_Shelf_fork : Value}
    {pm_Shelf_fork : Value}
    {cd_Shelf_fork : Value}
    {ct_Shelf_fork : Value}
    {od_Shelf_is_loose : Option Addr}
    {an_Shelf_is_loose : Option Addr}
    {sl_Shelf_is_loose : Array (Option Value)}
    {oc_Shelf_is_loose : Value}
    {kV_Shelf_is_loose : Value}
    {dc_Shelf_is_loose : Value}
    {pm_Shelf_is_loose : Value}
    {cd_Shelf_is_loose : Value}
    {ct_Shelf_is_loose : Value}
    {od_reach_of : Option Addr}
    {an_reach_of : Option Addr}
    {sl_reach_of : Array (Option Value)}
    {oc_reach_of : Value}
    {kV_reach_of : Value}
    {dc_reach_of : Value}
    {pm_reach_of : Value}
    {cd_reach_of : Value}
    {ct_reach_of : Value}
    {od_swept : Option Addr}
    {an_swept : Option Addr}
    {sl_swept : Array (Option Value)}
    {oc_swept : Value}
    {kV_swept : Value}
    {dc_swept : Value}
    {pm_swept : Value}
    {cd_swept : Value}
    {ct_swept : Value}
    {od_is_leaf : Option Addr}
    {an_is_leaf : Option Addr}
    {sl_is_leaf : Array (Option Value)}
    {oc_is_leaf : Value}
    {kV_is_leaf : Value}
    {dc_is_leaf : Value}
    {pm_is_leaf : Value}
    {cd_is_leaf : Value}
    {ct_is_leaf : Value}
    {od_parts_of : Option Addr}
    {an_parts_of : Option Addr}
    {sl_parts_of : Array (Option Value)}
    {oc_parts_of : Value}
    {kV_parts_of : Value}
    {dc_parts_of : Value}
    {pm_parts_of : Value}
    {cd_parts_of : Value}
    {ct_parts_of : Value}
    {od_turned_right : Option Addr}
    {an_turned_right : Option Addr}
    {sl_turned_right : Array (Option Value)}
    {oc_turned_right : Value}
    {kV_turned_right : Value}
    {dc_turned_right : Value}
    {pm_turned_right : Value}
    {cd_turned_right : Value}
    {ct_turned_right : Value}
    {od_turned_left : Option Addr}
    {an_turned_left : Option Addr}
    {sl_turned_left : Array (Option Value)}
    {oc_turned_left : Value}
    {kV_turned_left : Value}
    {dc_turned_left : Value}
    {pm_turned_left : Value}
    {cd_turned_left : Value}
    {ct_turned_left : Value}
    {od_levelled : Option Addr}
    {an_levelled : Option Addr}
    {sl_levelled : Array (Option Value)}
    {oc_levelled : Value}
    {kV_levelled : Value}
    {dc_levelled : Value}
    {pm_levelled : Value}
    {cd_levelled : Value}
    {ct_levelled : Value}
    {od_linked : Option Addr}
    {an_linked : Option Addr}
    {sl_linked : Array (Option Value)}
    {oc_linked : Value}
    {kV_linked : Value}
    {dc_linked : Value}
    {pm_linked : Value}
    {cd_linked : Value}
    {ct_linked : Value}
    {od_without_last : Option Addr}
    {an_without_last : Option Addr}
    {sl_without_last : Array (Option Value)}
    {oc_without_last : Value}
    {kV_without_last : Value}
    {dc_without_last : Value}
    {pm_without_last : Value}
    {cd_without_last : Value}
    {ct_without_last : Value}
    {od_without_first : Option Addr}
    {an_without_first : Option Addr}
    {sl_without_first : Array (Option Value)}
    {oc_without_first : Value}
    {kV_without_first : Value}
    {dc_without_first : Value}
    {pm_without_first : Value}
    {cd_without_first : Value}
    {ct_without_first : Value}
    {od_leaf_text : Option Addr}
    {an_leaf_text : Option Addr}
    {sl_leaf_text : Array (Option Value)}
    {oc_leaf_text : Value}
    {kV_leaf_text : Value}
    {dc_leaf_text : Value}
    {pm_leaf_text : Value}
    {cd_leaf_text : Value}
    {ct_leaf_text : Value}
    {od_poured : Option Addr}
    {an_poured : Option Addr}
    {sl_poured : Array (Option Value)}
    {oc_poured : Value}
    {kV_poured : Value}
    {dc_poured : Value}
    {pm_poured : Value}
    {cd_poured : Value}
    {ct_poured : Value}
    {od_joined : Option Addr}
    {an_joined : Option Addr}
    {sl_joined : Array (Option Value)}
    {oc_joined : Value}
    {kV_joined : Value}
    {dc_joined : Value}
    {pm_joined : Value}
    {cd_joined : Value}
    {ct_joined : Value}
    {od_built_of : Option Addr}
    {an_built_of : Option Addr}
    {sl_built_of : Array (Option Value)}
    {oc_built_of : Value}
    {kV_built_of : Value}
    {dc_built_of : Value}
    {pm_built_of : Value}
    {cd_built_of : Value}
    {ct_built_of : Value}
    {od_built : Option Addr}
    {an_built : Option Addr}
    {sl_built : Array (Option Value)}
    {oc_built : Value}
    {kV_built : Value}
    {dc_built : Value}
    {pm_built : Value}
    {cd_built : Value}
    {ct_built : Value}
    {od_want_stretch : Option Addr}
    {an_want_stretch : Option Addr}
    {sl_want_stretch : Array (Option Value)}
    {oc_want_stretch : Value}
    {kV_want_stretch : Value}
    {dc_want_stretch : Value}
    {pm_want_stretch : Value}
    {cd_want_stretch : Value}
    {ct_want_stretch : Value}
    {od_leaf_cut : Option Addr}
    {an_leaf_cut : Option Addr}
    {sl_leaf_cut : Array (Option Value)}
    {oc_leaf_cut : Value}
    {kV_leaf_cut : Value}
    {dc_leaf_cut : Value}
    {pm_leaf_cut : Value}
    {cd_leaf_cut : Value}
    {ct_leaf_cut : Value}
    {od_halves : Option Addr}
    {an_halves : Option Addr}
    {sl_halves : Array (Option Value)}
    {oc_halves : Value}
    {kV_halves : Value}
    {dc_halves : Value}
    {pm_halves : Value}
    {cd_halves : Value}
    {ct_halves : Value}
    {od_put_in : Option Addr}
    {an_put_in : Option Addr}
    {sl_put_in : Array (Option Value)}
    {oc_put_in : Value}
    {kV_put_in : Value}
    {dc_put_in : Value}
    {pm_put_in : Value}
    {cd_put_in : Value}
    {ct_put_in : Value}
    {od_taken_out : Option Addr}
    {an_taken_out : Option Addr}
    {sl_taken_out : Array (Option Value)}
    {oc_taken_out : Value}
    {kV_taken_out : Value}
    {dc_taken_out : Value}
    {pm_taken_out : Value}
    {cd_taken_out : Value}
    {ct_taken_out : Value}
    {od_kept_part : Option Addr}
    {an_kept_part : Option Addr}
    {sl_kept_part : Array (Option Value)}
    {oc_kept_part : Value}
    {kV_kept_part : Value}
    {dc_kept_part : Value}
    {pm_kept_part : Value}
    {cd_kept_part : Value}
    {ct_kept_part : Value}
    {od_look_at_word : Option Addr}
    {an_look_at_word : Option Addr}
    {sl_look_at_word : Array (Option Value)}
    {oc_look_at_word : Value}
    {kV_look_at_word : Value}
    {dc_look_at_word : Value}
    {pm_look_at_word : Value}
    {cd_look_at_word : Value}
    {ct_look_at_word : Value}
    {od_places_in : Option Addr}
    {an_places_in : Option Addr}
    {sl_places_in : Array (Option Value)}
    {oc_places_in : Value}
    {kV_places_in : Value}
    {dc_places_in : Value}
    {pm_places_in : Value}
    {cd_places_in : Value}
    {ct_places_in : Value}
    {od_Finder___init__ : Option Addr}
    {an_Finder___init__ : Option Addr}
    {sl_Finder___init__ : Array (Option Value)}
    {oc_Finder___init__ : Value}
    {kV_Finder___init__ : Value}
    {dc_Finder___init__ : Value}
    {pm_Finder___init__ : Value}
    {cd_Finder___init__ : Value}
    {ct_Finder___init__ : Value}
    {od_Finder_ends_of : Option Addr}
    {an_Finder_ends_of : Option Addr}
    {sl_Finder_ends_of : Array (Option Value)}
    {oc_Finder_ends_of : Value}
    {kV_Finder_ends_of : Value}
    {dc_Finder_ends_of : Value}
    {pm_Finder_ends_of : Value}
    {cd_Finder_ends_of : Value}
    {ct_Finder_ends_of : Value}
    {od_Finder_seam : Option Addr}
    {an_Finder_seam : Option Addr}
    {sl_Finder_seam : Array (Option Value)}
    {oc_Finder_seam : Value}
    {kV_Finder_seam : Value}
    {dc_Finder_seam : Value}
    {pm_Finder_seam : Value}
    {cd_Finder_seam : Value}
    {ct_Finder_seam : Value}
    {od_Finder_often : Option Addr}
    {an_Finder_often : Option Addr}
    {sl_Finder_often : Array (Option Value)}
    {oc_Finder_often : Value}
    {kV_Finder_often : Value}
    {dc_Finder_often : Value}
    {pm_Finder_often : Value}
    {cd_Finder_often : Value}
    {ct_Finder_often : Value}
    {od_Finder_place : Option Addr}
    {an_Finder_place : Option Addr}
    {sl_Finder_place : Array (Option Value)}
    {oc_Finder_place : Value}
    {kV_Finder_place : Value}
    {dc_Finder_place : Value}
    {pm_Finder_place : Value}
    {cd_Finder_place : Value}
    {ct_Finder_place : Value}
    {od_count_of : Option Addr}
    {an_count_of : Option Addr}
    {sl_count_of : Array (Option Value)}
    {oc_count_of : Value}
    {kV_count_of : Value}
    {dc_count_of : Value}
    {pm_count_of : Value}
    {cd_count_of : Value}
    {ct_count_of : Value}
    {od__law_mixed : Option Addr}
    {an__law_mixed : Option Addr}
    {sl__law_mixed : Array (Option Value)}
    {oc__law_mixed : Value}
    {kV__law_mixed : Value}
    {dc__law_mixed : Value}
    {pm__law_mixed : Value}
    {cd__law_mixed : Value}
    {ct__law_mixed : Value}
    {od__law_take : Option Addr}
    {an__law_take : Option Addr}
    {sl__law_take : Array (Option Value)}
    {oc__law_take : Value}
    {kV__law_take : Value}
    {dc__law_take : Value}
    {pm__law_take : Value}
    {cd__law_take : Value}
    {ct__law_take : Value}
    {od__law_plain : Option Addr}
    {an__law_plain : Option Addr}
    {sl__law_plain : Array (Option Value)}
    {oc__law_plain : Value}
    {kV__law_plain : Value}
    {dc__law_plain : Value}
    {pm__law_plain : Value}
    {cd__law_plain : Value}
    {ct__law_plain : Value}
    {od__law_read : Option Addr}
    {an__law_read : Option Addr}
    {sl__law_read : Array (Option Value)}
    {oc__law_read : Value}
    {kV__law_read : Value}
    {dc__law_read : Value}
    {pm__law_read : Value}
    {cd__law_read : Value}
    {ct__law_read : Value}
    {od__law_cell_stream : Option Addr}
    {an__law_cell_stream : Option Addr}
    {sl__law_cell_stream : Array (Option Value)}
    {oc__law_cell_stream : Value}
    {kV__law_cell_stream : Value}
    {dc__law_cell_stream : Value}
    {pm__law_cell_stream : Value}
    {cd__law_cell_stream : Value}
    {ct__law_cell_stream : Value}
    {od__law_deed : Option Addr}
    {an__law_deed : Option Addr}
    {sl__law_deed : Array (Option Value)}
    {oc__law_deed : Value}
    {kV__law_deed : Value}
    {dc__law_deed : Value}
    {pm__law_deed : Value}
    {cd__law_deed : Value}
    {ct__law_deed : Value}
    {od__law_kept : Option Addr}
    {an__law_kept : Option Addr}
    {sl__law_kept : Array (Option Value)}
    {oc__law_kept : Value}
    {kV__law_kept : Value}
    {dc__law_kept : Value}
    {pm__law_kept : Value}
    {cd__law_kept : Value}
    {ct__law_kept : Value}
    {od__law_all_read : Option Addr}
    {an__law_all_read : Option Addr}
    {sl__law_all_read : Array (Option Value)}
    {oc__law_all_read : Value}
    {kV__law_all_read : Value}
    {dc__law_all_read : Value}
    {pm__law_all_read : Value}
    {cd__law_all_read : Value}
    {ct__law_all_read : Value}
    {od__law_all_counted : Option Addr}
    {an__law_all_counted : Option Addr}
    {sl__law_all_counted : Array (Option Value)}
    {oc__law_all_counted : Value}
    {kV__law_all_counted : Value}
    {dc__law_all_counted : Value}
    {pm__law_all_counted : Value}
    {cd__law_all_counted : Value}
    {ct__law_all_counted : Value}
    {od_law : Option Addr}
    {an_law : Option Addr}
    {sl_law : Array (Option Value)}
    {oc_law : Value}
    {kV_law : Value}
    {dc_law : Value}
    {pm_law : Value}
    {cd_law : Value}
    {ct_law : Value}
    {tk_MOST_IN_LEAF : Tok}
    {tk_MOST_WRITTEN : Tok}
    {tk_MOST_IN_WORD : Tok}
    (aC_Shelf : PySem.W.nsIn K mainGlobals "Shelf" = some (some (.ref C_Shelf)))
    (pg_Shelf : PySem.W.plainGet K C_Shelf Str.empty = true)
    (hd_Shelf : PySem.W.hasDictIn K C_Shelf = true)
    (po_Shelf : PySem.W.plainOver K C_Shelf = true)
    (sa_Shelf : PySem.W.findIn K (.ref C_Shelf) "__setattr__" = some (some (.builtin "object.__setattr__")))
    (na_Shelf_pieces : PySem.W.findIn K (.ref C_Shelf) "pieces" = some none)
    (na_Shelf_numbers : PySem.W.findIn K (.ref C_Shelf) "numbers" = some none)
    (na_Shelf_told_signs : PySem.W.findIn K (.ref C_Shelf) "told_signs" = some none)
    (na_Shelf_told_ends : PySem.W.findIn K (.ref C_Shelf) "told_ends" = some none)
    (na_Shelf_told_leaves : PySem.W.findIn K (.ref C_Shelf) "told_leaves" = some none)
    (na_Shelf_told_heights : PySem.W.findIn K (.ref C_Shelf) "told_heights" = some none)
    (na_Shelf_firsts : PySem.W.findIn K (.ref C_Shelf) "firsts" = some none)
    (na_Shelf_lasts : PySem.W.findIn K (.ref C_Shelf) "lasts" = some none)
    (mk_Shelf : PySem.W.makesIn K C_Shelf = true)
    (kc_Shelf : PySem.W.keepIn K (.ref C_Shelf) = true)
    (aC_Finder : PySem.W.nsIn K mainGlobals "Finder" = some (some (.ref C_Finder)))
    (pg_Finder : PySem.W.plainGet K C_Finder Str.empty = true)
    (hd_Finder : PySem.W.hasDictIn K C_Finder = true)
    (po_Finder : PySem.W.plainOver K C_Finder = true)
    (sa_Finder : PySem.W.findIn K (.ref C_Finder) "__setattr__" = some (some (.builtin "object.__setattr__")))
    (na_Finder_wood : PySem.W.findIn K (.ref C_Finder) "wood" = some none)
    (na_Finder_word : PySem.W.findIn K (.ref C_Finder) "word" = some none)
    (na_Finder_known : PySem.W.findIn K (.ref C_Finder) "known" = some none)
    (na_Finder_ends_known : PySem.W.findIn K (.ref C_Finder) "ends_known" = some none)
    (mk_Finder : PySem.W.makesIn K C_Finder = true)
    (kc_Finder : PySem.W.keepIn K (.ref C_Finder) = true)
    (eg_Loose : PySem.W.nsIn K mainGlobals "Loose" = some (some (.ref C_Loose)))
    (ex_Loose : PySem.W.excIn K C_Loose [.type "ValueError", .type "Exception", .type "BaseException", .type "object"] "ValueError.__new__" = true)
    (ek_Loose : PySem.W.keepIn K (.ref C_Loose) = true)
    (eb_Loose : PySem.W.subIn K (.ref C_Loose) (.type "BaseException") = some true)
    (et_Loose : PySem.W.typeIn K (.ref C_Loose) = some (.type "type"))
    (eg_NoPiece : PySem.W.nsIn K mainGlobals "NoPiece" = some (some (.ref C_NoPiece)))
    (ex_NoPiece : PySem.W.excIn K C_NoPiece [.type "ValueError", .type "Exception", .type "BaseException", .type "object"] "ValueError.__new__" = true)
    (ek_NoPiece : PySem.W.keepIn K (.ref C_NoPiece) = true)
    (eb_NoPiece : PySem.W.subIn K (.ref C_NoPiece) (.type "BaseException") = some true)
    (et_NoPiece : PySem.W.typeIn K (.ref C_NoPiece) = some (.type "type"))
    (eg_NoPlace : PySem.W.nsIn K mainGlobals "NoPlace" = some (some (.ref C_NoPlace)))
    (ex_NoPlace : PySem.W.excIn K C_NoPlace [.type "ValueError", .type "Exception", .type "BaseException", .type "object"] "ValueError.__new__" = true)
    (ek_NoPlace : PySem.W.keepIn K (.ref C_NoPlace) = true)
    (eb_NoPlace : PySem.W.subIn K (.ref C_NoPlace) (.type "BaseException") = some true)
    (et_NoPlace : PySem.W.typeIn K (.ref C_NoPlace) = some (.type "type"))
    (eg_NoText : PySem.W.nsIn K mainGlobals "NoText" = some (some (.ref C_NoText)))
    (ex_NoText : PySem.W.excIn K C_NoText [.type "ValueError", .type "Exception", .type "BaseException", .type "object"] "ValueError.__new__" = true)
    (ek_NoText : PySem.W.keepIn K (.ref C_NoText) = true)
    (eb_NoText : PySem.W.subIn K (.ref C_NoText) (.type "BaseException") = some true)
    (et_NoText : PySem.W.typeIn K (.ref C_NoText) = some (.type "type"))
    (eg_TooLong : PySem.W.nsIn K mainGlobals "TooLong" = some (some (.ref C_TooLong)))
    (ex_TooLong : PySem.W.excIn K C_TooLong [.type "ValueError", .type "Exception", .type "BaseException", .type "object"] "ValueError.__new__" = true)
    (ek_TooLong : PySem.W.keepIn K (.ref C_TooLong) = true)
    (eb_TooLong : PySem.W.subIn K (.ref C_TooLong) (.type "BaseException") = some true)
    (et_TooLong : PySem.W.typeIn K (.ref C_TooLong) = some (.type "type"))
    (eg_Unlevel : PySem.W.nsIn K mainGlobals "Unlevel" = some (some (.ref C_Unlevel)))
    (ex_Unlevel : PySem.W.excIn K C_Unlevel [.type "ValueError", .type "Exception", .type "BaseException", .type "object"] "ValueError.__new__" = true)
    (ek_Unlevel : PySem.W.keepIn K (.ref C_Unlevel) = true)
    (eb_Unlevel : PySem.W.subIn K (.ref C_Unlevel) (.type "BaseException") = some true)
    (et_Unlevel : PySem.W.typeIn K (.ref C_Unlevel) = some (.type "type"))
    (a_is_plain : PySem.W.nsIn K mainGlobals "is_plain" = some (some (.ref f_is_plain)))
    (l_is_plain : K.lookup f_is_plain = some ⟨oc_is_plain, od_is_plain, .func (PySem.W.fnOf "is_plain" "is_plain" (defArgs s_is_plain) (defBody s_is_plain) (defScope s_is_plain) .none kV_is_plain dc_is_plain pm_is_plain an_is_plain cd_is_plain ct_is_plain), sl_is_plain⟩)
    (c_is_plain : PySem.W.codeIn K cd_is_plain "is_plain" = true)
    (k_is_plain : PySem.W.keepIn K (.ref f_is_plain) = true)
    (a_ends_in : PySem.W.nsIn K mainGlobals "ends_in" = some (some (.ref f_ends_in)))
    (l_ends_in : K.lookup f_ends_in = some ⟨oc_ends_in, od_ends_in, .func (PySem.W.fnOf "ends_in" "ends_in" (defArgs s_ends_in) (defBody s_ends_in) (defScope s_ends_in) .none kV_ends_in dc_ends_in pm_ends_in an_ends_in cd_ends_in ct_ends_in), sl_ends_in⟩)
    (c_ends_in : PySem.W.codeIn K cd_ends_in "ends_in" = true)
    (k_ends_in : PySem.W.keepIn K (.ref f_ends_in) = true)
    (a_Shelf___init__ : PySem.W.findIn K (.ref C_Shelf) "__init__" = some (some (.ref f_Shelf___init__)))
    (i_Shelf___init__ : PySem.W.isFn K (.ref f_Shelf___init__) = true)
    (l_Shelf___init__ : K.lookup f_Shelf___init__ = some ⟨oc_Shelf___init__, od_Shelf___init__, .func (PySem.W.fnOf "__init__" "Shelf.__init__" (defArgs s_Shelf___init__) (defBody s_Shelf___init__) (defScope s_Shelf___init__) .none kV_Shelf___init__ dc_Shelf___init__ pm_Shelf___init__ an_Shelf___init__ cd_Shelf___init__ ct_Shelf___init__), sl_Shelf___init__⟩)
    (c_Shelf___init__ : PySem.W.codeIn K cd_Shelf___init__ "Shelf.__init__" = true)
    (k_Shelf___init__ : PySem.W.keepIn K (.ref f_Shelf___init__) = true)
    (a_Shelf_want : PySem.W.findIn K (.ref C_Shelf) "want" = some (some (.ref f_Shelf_want)))
    (i_Shelf_want : PySem.W.isFn K (.ref f_Shelf_want) = true)
    (l_Shelf_want : K.lookup f_Shelf_want = some ⟨oc_Shelf_want, od_Shelf_want, .func (PySem.W.fnOf "want" "Shelf.want" (defArgs s_Shelf_want) (defBody s_Shelf_want) (defScope s_Shelf_want) .none kV_Shelf_want dc_Shelf_want pm_Shelf_want an_Shelf_want cd_Shelf_want ct_Shelf_want), sl_Shelf_want⟩)
    (c_Shelf_want : PySem.W.codeIn K cd_Shelf_want "Shelf.want" = true)
    (k_Shelf_want : PySem.W.keepIn K (.ref f_Shelf_want) = true)
    (a_Shelf_want_piece : PySem.W.findIn K (.ref C_Shelf) "want_piece" = some (some (.ref f_Shelf_want_piece)))
    (i_Shelf_want_piece : PySem.W.isFn K (.ref f_Shelf_want_piece) = true)
    (l_Shelf_want_piece : K.lookup f_Shelf_want_piece = some ⟨oc_Shelf_want_piece, od_Shelf_want_piece, .func (PySem.W.fnOf "want_piece" "Shelf.want_piece" (defArgs s_Shelf_want_piece) (defBody s_Shelf_want_piece) (defScope s_Shelf_want_piece) .none kV_Shelf_want_piece dc_Shelf_want_piece pm_Shelf_want_piece an_Shelf_want_piece cd_Shelf_want_piece ct_Shelf_want_piece), sl_Shelf_want_piece⟩)
    (c_Shelf_want_piece : PySem.W.codeIn K cd_Shelf_want_piece "Shelf.want_piece" = true)
    (k_Shelf_want_piece : PySem.W.keepIn K (.ref f_Shelf_want_piece) = true)
    (a_Shelf_many : PySem.W.findIn K (.ref C_Shelf) "many" = some (some (.ref f_Shelf_many)))
    (i_Shelf_many : PySem.W.isFn K (.ref f_Shelf_many) = true)
    (l_Shelf_many : K.lookup f_Shelf_many = some ⟨oc_Shelf_many, od_Shelf_many, .func (PySem.W.fnOf "many" "Shelf.many" (defArgs s_Shelf_many) (defBody s_Shelf_many) (defScope s_Shelf_many) .none kV_Shelf_many dc_Shelf_many pm_Shelf_many an_Shelf_many cd_Shelf_many ct_Shelf_many), sl_Shelf_many⟩)
    (c_Shelf_many : PySem.W.codeIn K cd_Shelf_many "Shelf.many" = true)
    (k_Shelf_many : PySem.W.keepIn K (.ref f_Shelf_many) = true)
    (a_Shelf_piece : PySem.W.findIn K (.ref C_Shelf) "piece" = some (some (.ref f_Shelf_piece)))
    (i_Shelf_piece : PySem.W.isFn K (.ref f_Shelf_piece) = true)
    (l_Shelf_piece : K.lookup f_Shelf_piece = some ⟨oc_Shelf_piece, od_Shelf_piece, .func (PySem.W.fnOf "piece" "Shelf.piece" (defArgs s_Shelf_piece) (defBody s_Shelf_piece) (defScope s_Shelf_piece) .none kV_Shelf_piece dc_Shelf_piece pm_Shelf_piece an_Shelf_piece cd_Shelf_piece ct_Shelf_piece), sl_Shelf_piece⟩)
    (c_Shelf_piece : PySem.W.codeIn K cd_Shelf_piece "Shelf.piece" = true)
    (k_Shelf_piece : PySem.W.keepIn K (.ref f_Shelf_piece) = true)
    (a_Shelf_signs : PySem.W.findIn K (.ref C_Shelf) "signs" = some (some (.ref f_Shelf_signs)))
    (i_Shelf_signs : PySem.W.isFn K (.ref f_Shelf_signs) = true)
    (l_Shelf_signs : K.lookup f_Shelf_signs = some ⟨oc_Shelf_signs, od_Shelf_signs, .func (PySem.W.fnOf "signs" "Shelf.signs" (defArgs s_Shelf_signs) (defBody s_Shelf_signs) (defScope s_Shelf_signs) .none kV_Shelf_signs dc_Shelf_signs pm_Shelf_signs an_Shelf_signs cd_Shelf_signs ct_Shelf_signs), sl_Shelf_signs⟩)
    (c_Shelf_signs : PySem.W.codeIn K cd_Shelf_signs "Shelf.signs" = true)
    (k_Shelf_signs : PySem.W.keepIn K (.ref f_Shelf_signs) = true)
    (a_Shelf_ends : PySem.W.findIn K (.ref C_Shelf) "ends" = some (some (.ref f_Shelf_ends)))
    (i_Shelf_ends : PySem.W.isFn K (.ref f_Shelf_ends) = true)
    (l_Shelf_ends : K.lookup f_Shelf_ends = some ⟨oc_Shelf_ends, od_Shelf_ends, .func (PySem.W.fnOf "ends" "Shelf.ends" (defArgs s_Shelf_ends) (defBody s_Shelf_ends) (defScope s_Shelf_ends) .none kV_Shelf_ends dc_Shelf_ends pm_Shelf_ends an_Shelf_ends cd_Shelf_ends ct_Shelf_ends), sl_Shelf_ends⟩)
    (c_Shelf_ends : PySem.W.codeIn K cd_Shelf_ends "Shelf.ends" = true)
    (k_Shelf_ends : PySem.W.keepIn K (.ref f_Shelf_ends) = true)
    (a_Shelf_leaves : PySem.W.findIn K (.ref C_Shelf) "leaves" = some (some (.ref f_Shelf_leaves)))
    (i_Shelf_leaves : PySem.W.isFn K (.ref f_Shelf_leaves) = true)
    (l_Shelf_leaves : K.lookup f_Shelf_leaves = some ⟨oc_Shelf_leaves, od_Shelf_leaves, .func (PySem.W.fnOf "leaves" "Shelf.leaves" (defArgs s_Shelf_leaves) (defBody s_Shelf_leaves) (defScope s_Shelf_leaves) .none kV_Shelf_leaves dc_Shelf_leaves pm_Shelf_leaves an_Shelf_leaves cd_Shelf_leaves ct_Shelf_leaves), sl_Shelf_leaves⟩)
    (c_Shelf_leaves : PySem.W.codeIn K cd_Shelf_leaves "Shelf.leaves" = true)
    (k_Shelf_leaves : PySem.W.keepIn K (.ref f_Shelf_leaves) = true)
    (a_Shelf_height : PySem.W.findIn K (.ref C_Shelf) "height" = some (some (.ref f_Shelf_height)))
    (i_Shelf_height : PySem.W.isFn K (.ref f_Shelf_height) = true)
    (l_Shelf_height : K.lookup f_Shelf_height = some ⟨oc_Shelf_height, od_Shelf_height, .func (PySem.W.fnOf "height" "Shelf.height" (defArgs s_Shelf_height) (defBody s_Shelf_height) (defScope s_Shelf_height) .none kV_Shelf_height dc_Shelf_height pm_Shelf_height an_Shelf_height cd_Shelf_height ct_Shelf_height), sl_Shelf_height⟩)
    (c_Shelf_height : PySem.W.codeIn K cd_Shelf_height "Shelf.height" = true)
    (k_Shelf_height : PySem.W.keepIn K (.ref f_Shelf_height) = true)
    (a_Shelf_first_leaf : PySem.W.findIn K (.ref C_Shelf) "first_leaf" = some (some (.ref f_Shelf_first_leaf)))
    (i_Shelf_first_leaf : PySem.W.isFn K (.ref f_Shelf_first_leaf) = true)
    (l_Shelf_first_leaf : K.lookup f_Shelf_first_leaf = some ⟨oc_Shelf_first_leaf, od_Shelf_first_leaf, .func (PySem.W.fnOf "first_leaf" "Shelf.first_leaf" (defArgs s_Shelf_first_leaf) (defBody s_Shelf_first_leaf) (defScope s_Shelf_first_leaf) .none kV_Shelf_first_leaf dc_Shelf_first_leaf pm_Shelf_first_leaf an_Shelf_first_leaf cd_Shelf_first_leaf ct_Shelf_first_leaf), sl_Shelf_first_leaf⟩)
    (c_Shelf_first_leaf : PySem.W.codeIn K cd_Shelf_first_leaf "Shelf.first_leaf" = true)
    (k_Shelf_first_leaf : PySem.W.keepIn K (.ref f_Shelf_first_leaf) = true)
    (a_Shelf_last_leaf : PySem.W.findIn K (.ref C_Shelf) "last_leaf" = some (some (.ref f_Shelf_last_leaf)))
    (i_Shelf_last_leaf : PySem.W.isFn K (.ref f_Shelf_last_leaf) = true)
    (l_Shelf_last_leaf : K.lookup f_Shelf_last_leaf = some ⟨oc_Shelf_last_leaf, od_Shelf_last_leaf, .func (PySem.W.fnOf "last_leaf" "Shelf.last_leaf" (defArgs s_Shelf_last_leaf) (defBody s_Shelf_last_leaf) (defScope s_Shelf_last_leaf) .none kV_Shelf_last_leaf dc_Shelf_last_leaf pm_Shelf_last_leaf an_Shelf_last_leaf cd_Shelf_last_leaf ct_Shelf_last_leaf), sl_Shelf_last_leaf⟩)
    (c_Shelf_last_leaf : PySem.W.codeIn K cd_Shelf_last_leaf "Shelf.last_leaf" = true)
    (k_Shelf_last_leaf : PySem.W.keepIn K (.ref f_Shelf_last_leaf) = true)
    (a_Shelf_laid : PySem.W.findIn K (.ref C_Shelf) "laid" = some (some (.ref f_Shelf_laid)))
    (i_Shelf_laid : PySem.W.isFn K (.ref f_Shelf_laid) = true)
    (l_Shelf_laid : K.lookup f_Shelf_laid = some ⟨oc_Shelf_laid, od_Shelf_laid, .func (PySem.W.fnOf "laid" "Shelf.laid" (defArgs s_Shelf_laid) (defBody s_Shelf_laid) (defScope s_Shelf_laid) .none kV_Shelf_laid dc_Shelf_laid pm_Shelf_laid an_Shelf_laid cd_Shelf_laid ct_Shelf_laid), sl_Shelf_laid⟩)
    (c_Shelf_laid : PySem.W.codeIn K cd_Shelf_laid "Shelf.laid" = true)
    (k_Shelf_laid : PySem.W.keepIn K (.ref f_Shelf_laid) = true)
    (a_Shelf_leaf : PySem.W.findIn K (.ref C_Shelf) "leaf" = some (some (.ref f_Shelf_leaf)))
    (i_Shelf_leaf : PySem.W.isFn K (.ref f_Shelf_leaf) = true)
    (l_Shelf_leaf : K.lookup f_Shelf_leaf = some ⟨oc_Shelf_leaf, od_Shelf_leaf, .func (PySem.W.fnOf "leaf" "Shelf.leaf" (defArgs s_Shelf_leaf) (defBody s_Shelf_leaf) (defScope s_Shelf_leaf) .none kV_Shelf_leaf dc_Shelf_leaf pm_Shelf_leaf an_Shelf_leaf cd_Shelf_leaf ct_Shelf_leaf), sl_Shelf_leaf⟩)
    (c_Shelf_leaf : PySem.W.codeIn K cd_Shelf_leaf "Shelf.leaf" = true)
    (k_Shelf_leaf : PySem.W.keepIn K (.ref f_Shelf_leaf) = true)
    (a_Shelf_fork : PySem.W.findIn K (.ref C_Shelf) "fork" = some (some (.ref f_Shelf_fork)))
    (i_Shelf_fork : PySem.W.isFn K (.ref f_Shelf_fork) = true)
    (l_Shelf_fork : K.lookup f_Shelf_fork = some ⟨oc_Shelf_fork, od_Shelf_fork, .func (PySem.W.fnOf "fork" "Shelf.fork" (defArgs s_Shelf_fork) (defBody s_Shelf_fork) (defScope s_Shelf_fork) .none kV_Shelf_fork dc_Shelf_fork pm_Shelf_fork an_Shelf_fork cd_Shelf_fork ct_Shelf_fork), sl_Shelf_fork⟩)
    (c_Shelf_fork : PySem.W.codeIn K cd_Shelf_fork "Shelf.fork" = true)
    (k_Shelf_fork : PySem.W.keepIn K (.ref f_Shelf_fork) = true)
    (a_Shelf_is_loose : PySem.W.findIn K (.ref C_Shelf) "is_loose" = some (some (.ref f_Shelf_is_loose)))
    (i_Shelf_is_loose : PySem.W.isFn K (.ref f_Shelf_is_loose) = true)
    (l_Shelf_is_loose : K.lookup f_Shelf_is_loose = some ⟨oc_Shelf_is_loose, od_Shelf_is_loose, .func (PySem.W.fnOf "is_loose" "Shelf.is_loose" (defArgs s_Shelf_is_loose) (defBody s_Shelf_is_loose) (defScope s_Shelf_is_loose) .none kV_Shelf_is_loose dc_Shelf_is_loose pm_Shelf_is_loose an_Shelf_is_loose cd_Shelf_is_loose ct_Shelf_is_loose), sl_Shelf_is_loose⟩)
    (c_Shelf_is_loose : PySem.W.codeIn K cd_Shelf_is_loose "Shelf.is_loose" = true)
    (k_Shelf_is_loose : PySem.W.keepIn K (.ref f_Shelf_is_loose) = true)
    (a_reach_of : PySem.W.nsIn K mainGlobals "reach_of" = some (some (.ref f_reach_of)))
    (l_reach_of : K.lookup f_reach_of = some ⟨oc_reach_of, od_reach_of, .func (PySem.W.fnOf "reach_of" "reach_of" (defArgs s_reach_of) (defBody s_reach_of) (defScope s_reach_of) .none kV_reach_of dc_reach_of pm_reach_of an_reach_of cd_reach_of ct_reach_of), sl_reach_of⟩)
    (c_reach_of : PySem.W.codeIn K cd_reach_of "reach_of" = true)
    (k_reach_of : PySem.W.keepIn K (.ref f_reach_of) = true)
    (a_swept : PySem.W.nsIn K mainGlobals "swept" = some (some (.ref f_swept)))
    (l_swept : K.lookup f_swept = some ⟨oc_swept, od_swept, .func (PySem.W.fnOf "swept" "swept" (defArgs s_swept) (defBody s_swept) (defScope s_swept) .none kV_swept dc_swept pm_swept an_swept cd_swept ct_swept), sl_swept⟩)
    (c_swept : PySem.W.codeIn K cd_swept "swept" = true)
    (k_swept : PySem.W.keepIn K (.ref f_swept) = true)
    (a_is_leaf : PySem.W.nsIn K mainGlobals "is_leaf" = some (some (.ref f_is_leaf)))
    (l_is_leaf : K.lookup f_is_leaf = some ⟨oc_is_leaf, od_is_leaf, .func (PySem.W.fnOf "is_leaf" "is_leaf" (defArgs s_is_leaf) (defBody s_is_leaf) (defScope s_is_leaf) .none kV_is_leaf dc_is_leaf pm_is_leaf an_is_leaf cd_is_leaf ct_is_leaf), sl_is_leaf⟩)
    (c_is_leaf : PySem.W.codeIn K cd_is_leaf "is_leaf" = true)
    (k_is_leaf : PySem.W.keepIn K (.ref f_is_leaf) = true)
    (a_parts_of : PySem.W.nsIn K mainGlobals "parts_of" = some (some (.ref f_parts_of)))
    (l_parts_of : K.lookup f_parts_of = some ⟨oc_parts_of, od_parts_of, .func (PySem.W.fnOf "parts_of" "parts_of" (defArgs s_parts_of) (defBody s_parts_of) (defScope s_parts_of) .none kV_parts_of dc_parts_of pm_parts_of an_parts_of cd_parts_of ct_parts_of), sl_parts_of⟩)
    (c_parts_of : PySem.W.codeIn K cd_parts_of "parts_of" = true)
    (k_parts_of : PySem.W.keepIn K (.ref f_parts_of) = true)
    (a_turned_right : PySem.W.nsIn K mainGlobals "turned_right" = some (some (.ref f_turned_right)))
    (l_turned_right : K.lookup f_turned_right = some ⟨oc_turned_right, od_turned_right, .func (PySem.W.fnOf "turned_right" "turned_right" (defArgs s_turned_right) (defBody s_turned_right) (defScope s_turned_right) .none kV_turned_right dc_turned_right pm_turned_right an_turned_right cd_turned_right ct_turned_right), sl_turned_right⟩)
    (c_turned_right : PySem.W.codeIn K cd_turned_right "turned_right" = true)
    (k_turned_right : PySem.W.keepIn K (.ref f_turned_right) = true)
    (a_turned_left : PySem.W.nsIn K mainGlobals "turned_left" = some (some (.ref f_turned_left)))
    (l_turned_left : K.lookup f_turned_left = some ⟨oc_turned_left, od_turned_left, .func (PySem.W.fnOf "turned_left" "turned_left" (defArgs s_turned_left) (defBody s_turned_left) (defScope s_turned_left) .none kV_turned_left dc_turned_left pm_turned_left an_turned_left cd_turned_left ct_turned_left), sl_turned_left⟩)
    (c_turned_left : PySem.W.codeIn K cd_turned_left "turned_left" = true)
    (k_turned_left : PySem.W.keepIn K (.ref f_turned_left) = true)
    (a_levelled : PySem.W.nsIn K mainGlobals "levelled" = some (some (.ref f_levelled)))
    (l_levelled : K.lookup f_levelled = some ⟨oc_levelled, od_levelled, .func (PySem.W.fnOf "levelled" "levelled" (defArgs s_levelled) (defBody s_levelled) (defScope s_levelled) .none kV_levelled dc_levelled pm_levelled an_levelled cd_levelled ct_levelled), sl_levelled⟩)
    (c_levelled : PySem.W.codeIn K cd_levelled "levelled" = true)
    (k_levelled : PySem.W.keepIn K (.ref f_levelled) = true)
    (a_linked : PySem.W.nsIn K mainGlobals "linked" = some (some (.ref f_linked)))
    (l_linked : K.lookup f_linked = some ⟨oc_linked, od_linked, .func (PySem.W.fnOf "linked" "linked" (defArgs s_linked) (defBody s_linked) (defScope s_linked) .none kV_linked dc_linked pm_linked an_linked cd_linked ct_linked), sl_linked⟩)
    (c_linked : PySem.W.codeIn K cd_linked "linked" = true)
    (k_linked : PySem.W.keepIn K (.ref f_linked) = true)
    (a_without_last : PySem.W.nsIn K mainGlobals "without_last" = some (some (.ref f_without_last)))
    (l_without_last : K.lookup f_without_last = some ⟨oc_without_last, od_without_last, .func (PySem.W.fnOf "without_last" "without_last" (defArgs s_without_last) (defBody s_without_last) (defScope s_without_last) .none kV_without_last dc_without_last pm_without_last an_without_last cd_without_last ct_without_last), sl_without_last⟩)
    (c_without_last : PySem.W.codeIn K cd_without_last "without_last" = true)
    (k_without_last : PySem.W.keepIn K (.ref f_without_last) = true)
    (a_without_first : PySem.W.nsIn K mainGlobals "without_first" = some (some (.ref f_without_first)))
    (l_without_first : K.lookup f_without_first = some ⟨oc_without_first, od_without_first, .func (PySem.W.fnOf "without_first" "without_first" (defArgs s_without_first) (defBody s_without_first) (defScope s_without_first) .none kV_without_first dc_without_first pm_without_first an_without_first cd_without_first ct_without_first), sl_without_first⟩)
    (c_without_first : PySem.W.codeIn K cd_without_first "without_first" = true)
    (k_without_first : PySem.W.keepIn K (.ref f_without_first) = true)
    (a_leaf_text : PySem.W.nsIn K mainGlobals "leaf_text" = some (some (.ref f_leaf_text)))
    (l_leaf_text : K.lookup f_leaf_text = some ⟨oc_leaf_text, od_leaf_text, .func (PySem.W.fnOf "leaf_text" "leaf_text" (defArgs s_leaf_text) (defBody s_leaf_text) (defScope s_leaf_text) .none kV_leaf_text dc_leaf_text pm_leaf_text an_leaf_text cd_leaf_text ct_leaf_text), sl_leaf_text⟩)
    (c_leaf_text : PySem.W.codeIn K cd_leaf_text "leaf_text" = true)
    (k_leaf_text : PySem.W.keepIn K (.ref f_leaf_text) = true)
    (a_poured : PySem.W.nsIn K mainGlobals "poured" = some (some (.ref f_poured)))
    (l_poured : K.lookup f_poured = some ⟨oc_poured, od_poured, .func (PySem.W.fnOf "poured" "poured" (defArgs s_poured) (defBody s_poured) (defScope s_poured) .none kV_poured dc_poured pm_poured an_poured cd_poured ct_poured), sl_poured⟩)
    (c_poured : PySem.W.codeIn K cd_poured "poured" = true)
    (k_poured : PySem.W.keepIn K (.ref f_poured) = true)
    (a_joined : PySem.W.nsIn K mainGlobals "joined" = some (some (.ref f_joined)))
    (l_joined : K.lookup f_joined = some ⟨oc_joined, od_joined, .func (PySem.W.fnOf "joined" "joined" (defArgs s_joined) (defBody s_joined) (defScope s_joined) .none kV_joined dc_joined pm_joined an_joined cd_joined ct_joined), sl_joined⟩)
    (c_joined : PySem.W.codeIn K cd_joined "joined" = true)
    (k_joined : PySem.W.keepIn K (.ref f_joined) = true)
    (a_built_of : PySem.W.nsIn K mainGlobals "built_of" = some (some (.ref f_built_of)))
    (l_built_of : K.lookup f_built_of = some ⟨oc_built_of, od_built_of, .func (PySem.W.fnOf "built_of" "built_of" (defArgs s_built_of) (defBody s_built_of) (defScope s_built_of) .none kV_built_of dc_built_of pm_built_of an_built_of cd_built_of ct_built_of), sl_built_of⟩)
    (c_built_of : PySem.W.codeIn K cd_built_of "built_of" = true)
    (k_built_of : PySem.W.keepIn K (.ref f_built_of) = true)
    (a_built : PySem.W.nsIn K mainGlobals "built" = some (some (.ref f_built)))
    (l_built : K.lookup f_built = some ⟨oc_built, od_built, .func (PySem.W.fnOf "built" "built" (defArgs s_built) (defBody s_built) (defScope s_built) .none kV_built dc_built pm_built an_built cd_built ct_built), sl_built⟩)
    (c_built : PySem.W.codeIn K cd_built "built" = true)
    (k_built : PySem.W.keepIn K (.ref f_built) = true)
    (a_want_stretch : PySem.W.nsIn K mainGlobals "want_stretch" = some (some (.ref f_want_stretch)))
    (l_want_stretch : K.lookup f_want_stretch = some ⟨oc_want_stretch, od_want_stretch, .func (PySem.W.fnOf "want_stretch" "want_stretch" (defArgs s_want_stretch) (defBody s_want_stretch) (defScope s_want_stretch) .none kV_want_stretch dc_want_stretch pm_want_stretch an_want_stretch cd_want_stretch ct_want_stretch), sl_want_stretch⟩)
    (c_want_stretch : PySem.W.codeIn K cd_want_stretch "want_stretch" = true)
    (k_want_stretch : PySem.W.keepIn K (.ref f_want_stretch) = true)
    (a_leaf_cut : PySem.W.nsIn K mainGlobals "leaf_cut" = some (some (.ref f_leaf_cut)))
    (l_leaf_cut : K.lookup f_leaf_cut = some ⟨oc_leaf_cut, od_leaf_cut, .func (PySem.W.fnOf "leaf_cut" "leaf_cut" (defArgs s_leaf_cut) (defBody s_leaf_cut) (defScope s_leaf_cut) .none kV_leaf_cut dc_leaf_cut pm_leaf_cut an_leaf_cut cd_leaf_cut ct_leaf_cut), sl_leaf_cut⟩)
    (c_leaf_cut : PySem.W.codeIn K cd_leaf_cut "leaf_cut" = true)
    (k_leaf_cut : PySem.W.keepIn K (.ref f_leaf_cut) = true)
    (a_halves : PySem.W.nsIn K mainGlobals "halves" = some (some (.ref f_halves)))
    (l_halves : K.lookup f_halves = some ⟨oc_halves, od_halves, .func (PySem.W.fnOf "halves" "halves" (defArgs s_halves) (defBody s_halves) (defScope s_halves) .none kV_halves dc_halves pm_halves an_halves cd_halves ct_halves), sl_halves⟩)
    (c_halves : PySem.W.codeIn K cd_halves "halves" = true)
    (k_halves : PySem.W.keepIn K (.ref f_halves) = true)
    (a_put_in : PySem.W.nsIn K mainGlobals "put_in" = some (some (.ref f_put_in)))
    (l_put_in : K.lookup f_put_in = some ⟨oc_put_in, od_put_in, .func (PySem.W.fnOf "put_in" "put_in" (defArgs s_put_in) (defBody s_put_in) (defScope s_put_in) .none kV_put_in dc_put_in pm_put_in an_put_in cd_put_in ct_put_in), sl_put_in⟩)
    (c_put_in : PySem.W.codeIn K cd_put_in "put_in" = true)
    (k_put_in : PySem.W.keepIn K (.ref f_put_in) = true)
    (a_taken_out : PySem.W.nsIn K mainGlobals "taken_out" = some (some (.ref f_taken_out)))
    (l_taken_out : K.lookup f_taken_out = some ⟨oc_taken_out, od_taken_out, .func (PySem.W.fnOf "taken_out" "taken_out" (defArgs s_taken_out) (defBody s_taken_out) (defScope s_taken_out) .none kV_taken_out dc_taken_out pm_taken_out an_taken_out cd_taken_out ct_taken_out), sl_taken_out⟩)
    (c_taken_out : PySem.W.codeIn K cd_taken_out "taken_out" = true)
    (k_taken_out : PySem.W.keepIn K (.ref f_taken_out) = true)
    (a_kept_part : PySem.W.nsIn K mainGlobals "kept_part" = some (some (.ref f_kept_part)))
    (l_kept_part : K.lookup f_kept_part = some ⟨oc_kept_part, od_kept_part, .func (PySem.W.fnOf "kept_part" "kept_part" (defArgs s_kept_part) (defBody s_kept_part) (defScope s_kept_part) .none kV_kept_part dc_kept_part pm_kept_part an_kept_part cd_kept_part ct_kept_part), sl_kept_part⟩)
    (c_kept_part : PySem.W.codeIn K cd_kept_part "kept_part" = true)
    (k_kept_part : PySem.W.keepIn K (.ref f_kept_part) = true)
    (a_look_at_word : PySem.W.nsIn K mainGlobals "look_at_word" = some (some (.ref f_look_at_word)))
    (l_look_at_word : K.lookup f_look_at_word = some ⟨oc_look_at_word, od_look_at_word, .func (PySem.W.fnOf "look_at_word" "look_at_word" (defArgs s_look_at_word) (defBody s_look_at_word) (defScope s_look_at_word) .none kV_look_at_word dc_look_at_word pm_look_at_word an_look_at_word cd_look_at_word ct_look_at_word), sl_look_at_word⟩)
    (c_look_at_word : PySem.W.codeIn K cd_look_at_word "look_at_word" = true)
    (k_look_at_word : PySem.W.keepIn K (.ref f_look_at_word) = true)
    (a_places_in : PySem.W.nsIn K mainGlobals "places_in" = some (some (.ref f_places_in)))
    (l_places_in : K.lookup f_places_in = some ⟨oc_places_in, od_places_in, .func (PySem.W.fnOf "places_in" "places_in" (defArgs s_places_in) (defBody s_places_in) (defScope s_places_in) .none kV_places_in dc_places_in pm_places_in an_places_in cd_places_in ct_places_in), sl_places_in⟩)
    (c_places_in : PySem.W.codeIn K cd_places_in "places_in" = true)
    (k_places_in : PySem.W.keepIn K (.ref f_places_in) = true)
    (a_Finder___init__ : PySem.W.findIn K (.ref C_Finder) "__init__" = some (some (.ref f_Finder___init__)))
    (i_Finder___init__ : PySem.W.isFn K (.ref f_Finder___init__) = true)
    (l_Finder___init__ : K.lookup f_Finder___init__ = some ⟨oc_Finder___init__, od_Finder___init__, .func (PySem.W.fnOf "__init__" "Finder.__init__" (defArgs s_Finder___init__) (defBody s_Finder___init__) (defScope s_Finder___init__) .none kV_Finder___init__ dc_Finder___init__ pm_Finder___init__ an_Finder___init__ cd_Finder___init__ ct_Finder___init__), sl_Finder___init__⟩)
    (c_Finder___init__ : PySem.W.codeIn K cd_Finder___init__ "Finder.__init__" = true)
    (k_Finder___init__ : PySem.W.keepIn K (.ref f_Finder___init__) = true)
    (a_Finder_ends_of : PySem.W.findIn K (.ref C_Finder) "ends_of" = some (some (.ref f_Finder_ends_of)))
    (i_Finder_ends_of : PySem.W.isFn K (.ref f_Finder_ends_of) = true)
    (l_Finder_ends_of : K.lookup f_Finder_ends_of = some ⟨oc_Finder_ends_of, od_Finder_ends_of, .func (PySem.W.fnOf "ends_of" "Finder.ends_of" (defArgs s_Finder_ends_of) (defBody s_Finder_ends_of) (defScope s_Finder_ends_of) .none kV_Finder_ends_of dc_Finder_ends_of pm_Finder_ends_of an_Finder_ends_of cd_Finder_ends_of ct_Finder_ends_of), sl_Finder_ends_of⟩)
    (c_Finder_ends_of : PySem.W.codeIn K cd_Finder_ends_of "Finder.ends_of" = true)
    (k_Finder_ends_of : PySem.W.keepIn K (.ref f_Finder_ends_of) = true)
    (a_Finder_seam : PySem.W.findIn K (.ref C_Finder) "seam" = some (some (.ref f_Finder_seam)))
    (i_Finder_seam : PySem.W.isFn K (.ref f_Finder_seam) = true)
    (l_Finder_seam : K.lookup f_Finder_seam = some ⟨oc_Finder_seam, od_Finder_seam, .func (PySem.W.fnOf "seam" "Finder.seam" (defArgs s_Finder_seam) (defBody s_Finder_seam) (defScope s_Finder_seam) .none kV_Finder_seam dc_Finder_seam pm_Finder_seam an_Finder_seam cd_Finder_seam ct_Finder_seam), sl_Finder_seam⟩)
    (c_Finder_seam : PySem.W.codeIn K cd_Finder_seam "Finder.seam" = true)
    (k_Finder_seam : PySem.W.keepIn K (.ref f_Finder_seam) = true)
    (a_Finder_often : PySem.W.findIn K (.ref C_Finder) "often" = some (some (.ref f_Finder_often)))
    (i_Finder_often : PySem.W.isFn K (.ref f_Finder_often) = true)
    (l_Finder_often : K.lookup f_Finder_often = some ⟨oc_Finder_often, od_Finder_often, .func (PySem.W.fnOf "often" "Finder.often" (defArgs s_Finder_often) (defBody s_Finder_often) (defScope s_Finder_often) .none kV_Finder_often dc_Finder_often pm_Finder_often an_Finder_often cd_Finder_often ct_Finder_often), sl_Finder_often⟩)
    (c_Finder_often : PySem.W.codeIn K cd_Finder_often "Finder.often" = true)
    (k_Finder_often : PySem.W.keepIn K (.ref f_Finder_often) = true)
    (a_Finder_place : PySem.W.findIn K (.ref C_Finder) "place" = some (some (.ref f_Finder_place)))
    (i_Finder_place : PySem.W.isFn K (.ref f_Finder_place) = true)
    (l_Finder_place : K.lookup f_Finder_place = some ⟨oc_Finder_place, od_Finder_place, .func (PySem.W.fnOf "place" "Finder.place" (defArgs s_Finder_place) (defBody s_Finder_place) (defScope s_Finder_place) .none kV_Finder_place dc_Finder_place pm_Finder_place an_Finder_place cd_Finder_place ct_Finder_place), sl_Finder_place⟩)
    (c_Finder_place : PySem.W.codeIn K cd_Finder_place "Finder.place" = true)
    (k_Finder_place : PySem.W.keepIn K (.ref f_Finder_place) = true)
    (a_count_of : PySem.W.nsIn K mainGlobals "count_of" = some (some (.ref f_count_of)))
    (l_count_of : K.lookup f_count_of = some ⟨oc_count_of, od_count_of, .func (PySem.W.fnOf "count_of" "count_of" (defArgs s_count_of) (defBody s_count_of) (defScope s_count_of) .none kV_count_of dc_count_of pm_count_of an_count_of cd_count_of ct_count_of), sl_count_of⟩)
    (c_count_of : PySem.W.codeIn K cd_count_of "count_of" = true)
    (k_count_of : PySem.W.keepIn K (.ref f_count_of) = true)
    (a__law_mixed : PySem.W.nsIn K mainGlobals "_law_mixed" = some (some (.ref f__law_mixed)))
    (l__law_mixed : K.lookup f__law_mixed = some ⟨oc__law_mixed, od__law_mixed, .func (PySem.W.fnOf "_law_mixed" "_law_mixed" (defArgs s__law_mixed) (defBody s__law_mixed) (defScope s__law_mixed) .none kV__law_mixed dc__law_mixed pm__law_mixed an__law_mixed cd__law_mixed ct__law_mixed), sl__law_mixed⟩)
    (c__law_mixed : PySem.W.codeIn K cd__law_mixed "_law_mixed" = true)
    (k__law_mixed : PySem.W.keepIn K (.ref f__law_mixed) = true)
    (a__law_take : PySem.W.nsIn K mainGlobals "_law_take" = some (some (.ref f__law_take)))
    (l__law_take : K.lookup f__law_take = some ⟨oc__law_take, od__law_take, .func (PySem.W.fnOf "_law_take" "_law_take" (defArgs s__law_take) (defBody s__law_take) (defScope s__law_take) .none kV__law_take dc__law_take pm__law_take an__law_take cd__law_take ct__law_take), sl__law_take⟩)
    (c__law_take : PySem.W.codeIn K cd__law_take "_law_take" = true)
    (k__law_take : PySem.W.keepIn K (.ref f__law_take) = true)
    (a__law_plain : PySem.W.nsIn K mainGlobals "_law_plain" = some (some (.ref f__law_plain)))
    (l__law_plain : K.lookup f__law_plain = some ⟨oc__law_plain, od__law_plain, .func (PySem.W.fnOf "_law_plain" "_law_plain" (defArgs s__law_plain) (defBody s__law_plain) (defScope s__law_plain) .none kV__law_plain dc__law_plain pm__law_plain an__law_plain cd__law_plain ct__law_plain), sl__law_plain⟩)
    (c__law_plain : PySem.W.codeIn K cd__law_plain "_law_plain" = true)
    (k__law_plain : PySem.W.keepIn K (.ref f__law_plain) = true)
    (a__law_read : PySem.W.nsIn K mainGlobals "_law_read" = some (some (.ref f__law_read)))
    (l__law_read : K.lookup f__law_read = some ⟨oc__law_read, od__law_read, .func (PySem.W.fnOf "_law_read" "_law_read" (defArgs s__law_read) (defBody s__law_read) (defScope s__law_read) .none kV__law_read dc__law_read pm__law_read an__law_read cd__law_read ct__law_read), sl__law_read⟩)
    (c__law_read : PySem.W.codeIn K cd__law_read "_law_read" = true)
    (k__law_read : PySem.W.keepIn K (.ref f__law_read) = true)
    (a__law_cell_stream : PySem.W.nsIn K mainGlobals "_law_cell_stream" = some (some (.ref f__law_cell_stream)))
    (l__law_cell_stream : K.lookup f__law_cell_stream = some ⟨oc__law_cell_stream, od__law_cell_stream, .func (PySem.W.fnOf "_law_cell_stream" "_law_cell_stream" (defArgs s__law_cell_stream) (defBody s__law_cell_stream) (defScope s__law_cell_stream) .none kV__law_cell_stream dc__law_cell_stream pm__law_cell_stream an__law_cell_stream cd__law_cell_stream ct__law_cell_stream), sl__law_cell_stream⟩)
    (c__law_cell_stream : PySem.W.codeIn K cd__law_cell_stream "_law_cell_stream" = true)
    (k__law_cell_stream : PySem.W.keepIn K (.ref f__law_cell_stream) = true)
    (a__law_deed : PySem.W.nsIn K mainGlobals "_law_deed" = some (some (.ref f__law_deed)))
    (l__law_deed : K.lookup f__law_deed = some ⟨oc__law_deed, od__law_deed, .func (PySem.W.fnOf "_law_deed" "_law_deed" (defArgs s__law_deed) (defBody s__law_deed) (defScope s__law_deed) .none kV__law_deed dc__law_deed pm__law_deed an__law_deed cd__law_deed ct__law_deed), sl__law_deed⟩)
    (c__law_deed : PySem.W.codeIn K cd__law_deed "_law_deed" = true)
    (k__law_deed : PySem.W.keepIn K (.ref f__law_deed) = true)
    (a__law_kept : PySem.W.nsIn K mainGlobals "_law_kept" = some (some (.ref f__law_kept)))
    (l__law_kept : K.lookup f__law_kept = some ⟨oc__law_kept, od__law_kept, .func (PySem.W.fnOf "_law_kept" "_law_kept" (defArgs s__law_kept) (defBody s__law_kept) (defScope s__law_kept) .none kV__law_kept dc__law_kept pm__law_kept an__law_kept cd__law_kept ct__law_kept), sl__law_kept⟩)
    (c__law_kept : PySem.W.codeIn K cd__law_kept "_law_kept" = true)
    (k__law_kept : PySem.W.keepIn K (.ref f__law_kept) = true)
    (a__law_all_read : PySem.W.nsIn K mainGlobals "_law_all_read" = some (some (.ref f__law_all_read)))
    (l__law_all_read : K.lookup f__law_all_read = some ⟨oc__law_all_read, od__law_all_read, .func (PySem.W.fnOf "_law_all_read" "_law_all_read" (defArgs s__law_all_read) (defBody s__law_all_read) (defScope s__law_all_read) .none kV__law_all_read dc__law_all_read pm__law_all_read an__law_all_read cd__law_all_read ct__law_all_read), sl__law_all_read⟩)
    (c__law_all_read : PySem.W.codeIn K cd__law_all_read "_law_all_read" = true)
    (k__law_all_read : PySem.W.keepIn K (.ref f__law_all_read) = true)
    (a__law_all_counted : PySem.W.nsIn K mainGlobals "_law_all_counted" = some (some (.ref f__law_all_counted)))
    (l__law_all_counted : K.lookup f__law_all_counted = some ⟨oc__law_all_counted, od__law_all_counted, .func (PySem.W.fnOf "_law_all_counted" "_law_all_counted" (defArgs s__law_all_counted) (defBody s__law_all_counted) (defScope s__law_all_counted) .none kV__law_all_counted dc__law_all_counted pm__law_all_counted an__law_all_counted cd__law_all_counted ct__law_all_counted), sl__law_all_counted⟩)
    (c__law_all_counted : PySem.W.codeIn K cd__law_all_counted "_law_all_counted" = true)
    (k__law_all_counted : PySem.W.keepIn K (.ref f__law_all_counted) = true)
    (a_law : PySem.W.nsIn K mainGlobals "law" = some (some (.ref f_law)))
    (l_law : K.lookup f_law = some ⟨oc_law, od_law, .func (PySem.W.fnOf "law" "law" (defArgs s_law) (defBody s_law) (defScope s_law) .none kV_law dc_law pm_law an_law cd_law ct_law), sl_law⟩)
    (c_law : PySem.W.codeIn K cd_law "law" = true)
    (k_law : PySem.W.keepIn K (.ref f_law) = true)
    (kc_MOST_IN_LEAF : PySem.W.nsIn K mainGlobals "MOST_IN_LEAF" = some (some (.int 8 tk_MOST_IN_LEAF)))
    (kc_MOST_WRITTEN : PySem.W.nsIn K mainGlobals "MOST_WRITTEN" = some (some (.int 10000 tk_MOST_WRITTEN)))
    (kc_MOST_IN_WORD : PySem.W.nsIn K mainGlobals "MOST_IN_WORD" = some (some (.int 8 tk_MOST_IN_WORD)))
    (z_len : PySem.W.nsIn K mainGlobals "len" = some none)
    (z_max : PySem.W.nsIn K mainGlobals "max" = some none)
    (z_min : PySem.W.nsIn K mainGlobals "min" = some none)
    (z_range : PySem.W.nsIn K mainGlobals "range" = some none)
    (z_isinstance : PySem.W.nsIn K mainGlobals "isinstance" = some none)
    (z_all : PySem.W.nsIn K mainGlobals "all" = some none)
    (z_sum : PySem.W.nsIn K mainGlobals "sum" = some none)
    (z_sorted : PySem.W.nsIn K mainGlobals "sorted" = some none)
    (z_str : PySem.W.nsIn K mainGlobals "str" = some none)
    (z_int : PySem.W.nsIn K mainGlobals "int" = some none)
    (z_zip : PySem.W.nsIn K mainGlobals "zip" = some none)
    (z_enumerate : PySem.W.nsIn K mainGlobals "enumerate" = some none)
    : ∃ fd : FuncData, (∀ (s : Shared) (v : Value), BindsTo s fd ⟨[v], []⟩ [("script", v)]) ∧ ∀ base : Heap, K.In base → base.Ns mainGlobals mg → FnOk l.prog w K mg base (L2.CX l.prog w) 192 fa fd ["script"] (spLaw K) := by
  have e := hfa.symm.trans (PySem.W.mg_of X G a_law)
  cases e
  let A : Ad := { C_Shelf := C_Shelf, C_Finder := C_Finder, C_Loose := C_Loose, C_NoPiece := C_NoPiece, C_NoPlace := C_NoPlace, C_NoText := C_NoText, C_TooLong := C_TooLong, C_Unlevel := C_Unlevel, f_is_plain := f_is_plain, d_is_plain := PySem.W.fnOf "is_plain" "is_plain" (defArgs s_is_plain) (defBody s_is_plain) (defScope s_is_plain) .none kV_is_plain dc_is_plain pm_is_plain an_is_plain cd_is_plain ct_is_plain, f_ends_in := f_ends_in, d_ends_in := PySem.W.fnOf "ends_in" "ends_in" (defArgs s_ends_in) (defBody s_ends_in) (defScope s_ends_in) .none kV_ends_in dc_ends_in pm_ends_in an_ends_in cd_ends_in ct_ends_in, f_Shelf___init__ := f_Shelf___init__, d_Shelf___init__ := PySem.W.fnOf "__init__" "Shelf.__init__" (defArgs s_Shelf___init__) (defBody s_Shelf___init__) (defScope s_Shelf___init__) .none kV_Shelf___init__ dc_Shelf___init__ pm_Shelf___init__ an_Shelf___init__ cd_Shelf___init__ ct_Shelf___init__, f_Shelf_want := f_Shelf_want, d_Shelf_want := PySem.W.fnOf "want" "Shelf.want" (defArgs s_Shelf_want) (defBody s_Shelf_want) (defScope s_Shelf_want) .none kV_Shelf_want dc_Shelf_want pm_Shelf_want an_Shelf_want cd_Shelf_want ct_Shelf_want, f_Shelf_want_piece := f_Shelf_want_piece, d_Shelf_want_piece := PySem.W.fnOf "want_piece" "Shelf.want_piece" (defArgs s_Shelf_want_piece) (defBody s_Shelf_want_piece) (defScope s_Shelf_want_piece) .none kV_Shelf_want_piece dc_Shelf_want_piece pm_Shelf_want_piece an_Shelf_want_piece cd_Shelf_want_piece ct_Shelf_want_piece, f_Shelf_many := f_Shelf_many, d_Shelf_many := PySem.W.fnOf "many" "Shelf.many" (defArgs s_Shelf_many) (defBody s_Shelf_many) (defScope s_Shelf_many) .none kV_Shelf_many dc_Shelf_many pm_Shelf_many an_Shelf_many cd_Shelf_many ct_Shelf_many, f_Shelf_piece := f_Shelf_piece, d_Shelf_piece := PySem.W.fnOf "piece" "Shelf.piece" (defArgs s_Shelf_piece) (defBody s_Shelf_piece) (defScope s_Shelf_piece) .none kV_Shelf_piece dc_Shelf_piece pm_Shelf_piece an_Shelf_piece cd_Shelf_piece ct_Shelf_piece, f_Shelf_signs := f_Shelf_signs, d_Shelf_signs := PySem.W.fnOf "signs" "Shelf.signs" (defArgs s_Shelf_signs) (defBody s_Shelf_signs) (defScope s_Shelf_signs) .none kV_Shelf_signs dc_Shelf_signs pm_Shelf_signs an_Shelf_signs cd_Shelf_signs ct_Shelf_signs, f_Shelf_ends := f_Shelf_ends, d_Shelf_ends := PySem.W.fnOf "ends" "Shelf.ends" (defArgs s_Shelf_ends) (defBody s_Shelf_ends) (defScope s_Shelf_ends) .none kV_Shelf_ends dc_Shelf_ends pm_Shelf_ends an_Shelf_ends cd_Shelf_ends ct_Shelf_ends, f_Shelf_leaves := f_Shelf_leaves, d_Shelf_leaves := PySem.W.fnOf "leaves" "Shelf.leaves" (defArgs s_Shelf_leaves) (defBody s_Shelf_leaves) (defScope s_Shelf_leaves) .none kV_Shelf_leaves dc_Shelf_leaves pm_Shelf_leaves an_Shelf_leaves cd_Shelf_leaves ct_Shelf_leaves, f_Shelf_height := f_Shelf_height, d_Shelf_height := PySem.W.fnOf "height" "Shelf.height" (defArgs s_Shelf_height) (defBody s_Shelf_height) (defScope s_Shelf_height) .none kV_Shelf_height dc_Shelf_height pm_Shelf_height an_Shelf_height cd_Shelf_height ct_Shelf_height, f_Shelf_first_leaf := f_Shelf_first_leaf, d_Shelf_first_leaf := PySem.W.fnOf "first_leaf" "Shelf.first_leaf" (defArgs s_Shelf_first_leaf) (defBody s_Shelf_first_leaf) (defScope s_Shelf_first_leaf) .none kV_Shelf_first_leaf dc_Shelf_first_leaf pm_Shelf_first_leaf an_Shelf_first_leaf cd_Shelf_first_leaf ct_Shelf_first_leaf, f_Shelf_last_leaf := f_Shelf_last_leaf, d_Shelf_last_leaf := PySem.W.fnOf "last_leaf" "Shelf.last_leaf" (defArgs s_Shelf_last_leaf) (defBody s_Shelf_last_leaf) (defScope s_Shelf_last_leaf) .none kV_Shelf_last_leaf dc_Shelf_last_leaf pm_Shelf_last_leaf an_Shelf_last_leaf cd_Shelf_last_leaf ct_Shelf_last_leaf, f_Shelf_laid := f_Shelf_laid, d_Shelf_laid := PySem.W.fnOf "laid" "Shelf.laid" (defArgs s_Shelf_laid) (defBody s_Shelf_laid) (defScope s_Shelf_laid) .none kV_Shelf_laid dc_Shelf_laid pm_Shelf_laid an_Shelf_laid cd_Shelf_laid ct_Shelf_laid, f_Shelf_leaf := f_Shelf_leaf, d_Shelf_leaf := PySem.W.fnOf "leaf" "Shelf.leaf" (defArgs s_Shelf_leaf) (defBody s_Shelf_leaf) (defScope s_Shelf_leaf) .none kV_Shelf_leaf dc_Shelf_leaf pm_Shelf_leaf an_Shelf_leaf cd_Shelf_leaf ct_Shelf_leaf, f_Shelf_fork := f_Shelf_fork, d_Shelf_fork := PySem.W.fnOf "fork" "Shelf.fork" (defArgs s_Shelf_fork) (defBody s_Shelf_fork) (defScope s_Shelf_fork) .none kV_Shelf_fork dc_Shelf_fork pm_Shelf_fork an_Shelf_fork cd_Shelf_fork ct_Shelf_fork, f_Shelf_is_loose := f_Shelf_is_loose, d_Shelf_is_loose := PySem.W.fnOf "is_loose" "Shelf.is_loose" (defArgs s_Shelf_is_loose) (defBody s_Shelf_is_loose) (defScope s_Shelf_is_loose) .none kV_Shelf_is_loose dc_Shelf_is_loose pm_Shelf_is_loose an_Shelf_is_loose cd_Shelf_is_loose ct_Shelf_is_loose, f_reach_of := f_reach_of, d_reach_of := PySem.W.fnOf "reach_of" "reach_of" (defArgs s_reach_of) (defBody s_reach_of) (defScope s_reach_of) .none kV_reach_of dc_reach_of pm_reach_of an_reach_of cd_reach_of ct_reach_of, f_swept := f_swept, d_swept := PySem.W.fnOf "swept" "swept" (defArgs s_swept) (defBody s_swept) (defScope s_swept) .none kV_swept dc_swept pm_swept an_swept cd_swept ct_swept, f_is_leaf := f_is_leaf, d_is_leaf := PySem.W.fnOf "is_leaf" "is_leaf" (defArgs s_is_leaf) (defBody s_is_leaf) (defScope s_is_leaf) .none kV_is_leaf dc_is_leaf pm_is_leaf an_is_leaf cd_is_leaf ct_is_leaf, f_parts_of := f_parts_of, d_parts_of := PySem.W.fnOf "parts_of" "parts_of" (defArgs s_parts_of) (defBody s_parts_of) (defScope s_parts_of) .none kV_parts_of dc_parts_of pm_parts_of an_parts_of cd_parts_of ct_parts_of, f_turned_right := f_turned_right, d_turned_right := PySem.W.fnOf "turned_right" "turned_right" (defArgs s_turned_right) (defBody s_turned_right) (defScope s_turned_right) .none kV_turned_right dc_turned_right pm_turned_right an_turned_right cd_turned_right ct_turned_right, f_turned_left := f_turned_left, d_turned_left := PySem.W.fnOf "turned_left" "turned_left" (defArgs s_turned_left) (defBody s_turned_left) (defScope s_turned_left) .none kV_turned_left dc_turned_left pm_turned_left an_turned_left cd_turned_left ct_turned_left, f_levelled := f_levelled, d_levelled := PySem.W.fnOf "levelled" "levelled" (defArgs s_levelled) (defBody s_levelled) (defScope s_levelled) .none kV_levelled dc_levelled pm_levelled an_levelled cd_levelled ct_levelled, f_linked := f_linked, d_linked := PySem.W.fnOf "linked" "linked" (defArgs s_linked) (defBody s_linked) (defScope s_linked) .none kV_linked dc_linked pm_linked an_linked cd_linked ct_linked, f_without_last := f_without_last, d_without_last := PySem.W.fnOf "without_last" "without_last" (defArgs s_without_last) (defBody s_without_last) (defScope s_without_last) .none kV_without_last dc_without_last pm_without_last an_without_last cd_without_last ct_without_last, f_without_first := f_without_first, d_without_first := PySem.W.fnOf "without_first" "without_first" (defArgs s_without_first) (defBody s_without_first) (defScope s_without_first) .none kV_without_first dc_without_first pm_without_first an_without_first cd_without_first ct_without_first, f_leaf_text := f_leaf_text, d_leaf_text := PySem.W.fnOf "leaf_text" "leaf_text" (defArgs s_leaf_text) (defBody s_leaf_text) (defScope s_leaf_text) .none kV_leaf_text dc_leaf_text pm_leaf_text an_leaf_text cd_leaf_text ct_leaf_text, f_poured := f_poured, d_poured := PySem.W.fnOf "poured" "poured" (defArgs s_poured) (defBody s_poured) (defScope s_poured) .none kV_poured dc_poured pm_poured an_poured cd_poured ct_poured, f_joined := f_joined, d_joined := PySem.W.fnOf "joined" "joined" (defArgs s_joined) (defBody s_joined) (defScope s_joined) .none kV_joined dc_joined pm_joined an_joined cd_joined ct_joined, f_built_of := f_built_of, d_built_of := PySem.W.fnOf "built_of" "built_of" (defArgs s_built_of) (defBody s_built_of) (defScope s_built_of) .none kV_built_of dc_built_of pm_built_of an_built_of cd_built_of ct_built_of, f_built := f_built, d_built := PySem.W.fnOf "built" "built" (defArgs s_built) (defBody s_built) (defScope s_built) .none kV_built dc_built pm_built an_built cd_built ct_built, f_want_stretch := f_want_stretch, d_want_stretch := PySem.W.fnOf "want_stretch" "want_stretch" (defArgs s_want_stretch) (defBody s_want_stretch) (defScope s_want_stretch) .none kV_want_stretch dc_want_stretch pm_want_stretch an_want_stretch cd_want_stretch ct_want_stretch, f_leaf_cut := f_leaf_cut, d_leaf_cut := PySem.W.fnOf "leaf_cut" "leaf_cut" (defArgs s_leaf_cut) (defBody s_leaf_cut) (defScope s_leaf_cut) .none kV_leaf_cut dc_leaf_cut pm_leaf_cut an_leaf_cut cd_leaf_cut ct_leaf_cut, f_halves := f_halves, d_halves := PySem.W.fnOf "halves" "halves" (defArgs s_halves) (defBody s_halves) (defScope s_halves) .none kV_halves dc_halves pm_halves an_halves cd_halves ct_halves, f_put_in := f_put_in, d_put_in := PySem.W.fnOf "put_in" "put_in" (defArgs s_put_in) (defBody s_put_in) (defScope s_put_in) .none kV_put_in dc_put_in pm_put_in an_put_in cd_put_in ct_put_in, f_taken_out := f_taken_out, d_taken_out := PySem.W.fnOf "taken_out" "taken_out" (defArgs s_taken_out) (defBody s_taken_out) (defScope s_taken_out) .none kV_taken_out dc_taken_out pm_taken_out an_taken_out cd_taken_out ct_taken_out, f_kept_part := f_kept_part, d_kept_part := PySem.W.fnOf "kept_part" "kept_part" (defArgs s_kept_part) (defBody s_kept_part) (defScope s_kept_part) .none kV_kept_part dc_kept_part pm_kept_part an_kept_part cd_kept_part ct_kept_part, f_look_at_word := f_look_at_word, d_look_at_word := PySem.W.fnOf "look_at_word" "look_at_word" (defArgs s_look_at_word) (defBody s_look_at_word) (defScope s_look_at_word) .none kV_look_at_word dc_look_at_word pm_look_at_word an_look_at_word cd_look_at_word ct_look_at_word, f_places_in := f_places_in, d_places_in := PySem.W.fnOf "places_in" "places_in" (defArgs s_places_in) (defBody s_places_in) (defScope s_places_in) .none kV_places_in dc_places_in pm_places_in an_places_in cd_places_in ct_places_in, f_Finder___init__ := f_Finder___init__, d_Finder___init__ := PySem.W.fnOf "__init__" "Finder.__init__" (defArgs s_Finder___init__) (defBody s_Finder___init__) (defScope s_Finder___init__) .none kV_Finder___init__ dc_Finder___init__ pm_Finder___init__ an_Finder___init__ cd_Finder___init__ ct_Finder___init__, f_Finder_ends_of := f_Finder_ends_of, d_Finder_ends_of := PySem.W.fnOf "ends_of" "Finder.ends_of" (defArgs s_Finder_ends_of) (defBody s_Finder_ends_of) (defScope s_Finder_ends_of) .none kV_Finder_ends_of dc_Finder_ends_of pm_Finder_ends_of an_Finder_ends_of cd_Finder_ends_of ct_Finder_ends_of, f_Finder_seam := f_Finder_seam, d_Finder_seam := PySem.W.fnOf "seam" "Finder.seam" (defArgs s_Finder_seam) (defBody s_Finder_seam) (defScope s_Finder_seam) .none kV_Finder_seam dc_Finder_seam pm_Finder_seam an_Finder_seam cd_Finder_seam ct_Finder_seam, f_Finder_often := f_Finder_often, d_Finder_often := PySem.W.fnOf "often" "Finder.often" (defArgs s_Finder_often) (defBody s_Finder_often) (defScope s_Finder_often) .none kV_Finder_often dc_Finder_often pm_Finder_often an_Finder_often cd_Finder_often ct_Finder_often, f_Finder_place := f_Finder_place, d_Finder_place := PySem.W.fnOf "place" "Finder.place" (defArgs s_Finder_place) (defBody s_Finder_place) (defScope s_Finder_place) .none kV_Finder_place dc_Finder_place pm_Finder_place an_Finder_place cd_Finder_place ct_Finder_place, f_count_of := f_count_of, d_count_of := PySem.W.fnOf "count_of" "count_of" (defArgs s_count_of) (defBody s_count_of) (defScope s_count_of) .none kV_count_of dc_count_of pm_count_of an_count_of cd_count_of ct_count_of, f__law_mixed := f__law_mixed, d__law_mixed := PySem.W.fnOf "_law_mixed" "_law_mixed" (defArgs s__law_mixed) (defBody s__law_mixed) (defScope s__law_mixed) .none kV__law_mixed dc__law_mixed pm__law_mixed an__law_mixed cd__law_mixed ct__law_mixed, f__law_take := f__law_take, d__law_take := PySem.W.fnOf "_law_take" "_law_take" (defArgs s__law_take) (defBody s__law_take) (defScope s__law_take) .none kV__law_take dc__law_take pm__law_take an__law_take cd__law_take ct__law_take, f__law_plain := f__law_plain, d__law_plain := PySem.W.fnOf "_law_plain" "_law_plain" (defArgs s__law_plain) (defBody s__law_plain) (defScope s__law_plain) .none kV__law_plain dc__law_plain pm__law_plain an__law_plain cd__law_plain ct__law_plain, f__law_read := f__law_read, d__law_read := PySem.W.fnOf "_law_read" "_law_read" (defArgs s__law_read) (defBody s__law_read) (defScope s__law_read) .none kV__law_read dc__law_read pm__law_read an__law_read cd__law_read ct__law_read, f__law_cell_stream := f__law_cell_stream, d__law_cell_stream := PySem.W.fnOf "_law_cell_stream" "_law_cell_stream" (defArgs s__law_cell_stream) (defBody s__law_cell_stream) (defScope s__law_cell_stream) .none kV__law_cell_stream dc__law_cell_stream pm__law_cell_stream an__law_cell_stream cd__law_cell_stream ct__law_cell_stream, f__law_deed := f__law_deed, d__law_deed := PySem.W.fnOf "_law_deed" "_law_deed" (defArgs s__law_deed) (defBody s__law_deed) (defScope s__law_deed) .none kV__law_deed dc__law_deed pm__law_deed an__law_deed cd__law_deed ct__law_deed, f__law_kept := f__law_kept, d__law_kept := PySem.W.fnOf "_law_kept" "_law_kept" (defArgs s__law_kept) (defBody s__law_kept) (defScope s__law_kept) .none kV__law_kept dc__law_kept pm__law_kept an__law_kept cd__law_kept ct__law_kept, f__law_all_read := f__law_all_read, d__law_all_read := PySem.W.fnOf "_law_all_read" "_law_all_read" (defArgs s__law_all_read) (defBody s__law_all_read) (defScope s__law_all_read) .none kV__law_all_read dc__law_all_read pm__law_all_read an__law_all_read cd__law_all_read ct__law_all_read, f__law_all_counted := f__law_all_counted, d__law_all_counted := PySem.W.fnOf "_law_all_counted" "_law_all_counted" (defArgs s__law_all_counted) (defBody s__law_all_counted) (defScope s__law_all_counted) .none kV__law_all_counted dc__law_all_counted pm__law_all_counted an__law_all_counted cd__law_all_counted ct__law_all_counted, f_law := fa, d_law := PySem.W.fnOf "law" "law" (defArgs s_law) (defBody s_law) (defScope s_law) .none kV_law dc_law pm_law an_law cd_law ct_law }
  have T : Txt K mg A := ⟨(⟨pg_Shelf, hd_Shelf, po_Shelf, sa_Shelf⟩),
    (PySem.W.mg_of X G aC_Shelf),
    (na_Shelf_pieces),
    (na_Shelf_numbers),
    (na_Shelf_told_signs),
    (na_Shelf_told_ends),
    (na_Shelf_told_leaves),
    (na_Shelf_told_heights),
    (na_Shelf_firsts),
    (na_Shelf_lasts),
    (⟨mk_Shelf, a_Shelf___init__, i_Shelf___init__, kc_Shelf⟩),
    (⟨pg_Finder, hd_Finder, po_Finder, sa_Finder⟩),
    (PySem.W.mg_of X G aC_Finder),
    (na_Finder_wood),
    (na_Finder_word),
    (na_Finder_known),
    (na_Finder_ends_known),
    (⟨mk_Finder, a_Finder___init__, i_Finder___init__, kc_Finder⟩),
    (⟨PySem.W.mg_of X G eg_Loose, ex_Loose, ek_Loose, eb_Loose, et_Loose⟩),
    (⟨PySem.W.mg_of X G eg_NoPiece, ex_NoPiece, ek_NoPiece, eb_NoPiece, et_NoPiece⟩),
    (⟨PySem.W.mg_of X G eg_NoPlace, ex_NoPlace, ek_NoPlace, eb_NoPlace, et_NoPlace⟩),
    (⟨PySem.W.mg_of X G eg_NoText, ex_NoText, ek_NoText, eb_NoText, et_NoText⟩),
    (⟨PySem.W.mg_of X G eg_TooLong, ex_TooLong, ek_TooLong, eb_TooLong, et_TooLong⟩),
    (⟨PySem.W.mg_of X G eg_Unlevel, ex_Unlevel, ek_Unlevel, eb_Unlevel, et_Unlevel⟩),
    (fun_mk (st := s_is_plain) l_is_plain c_is_plain k_is_plain),
    ((fun_mk (st := s_is_plain) l_is_plain c_is_plain k_is_plain).binds (ps := p_is_plain) fun _ _ _ _ _ _ us hl => match us, hl with | [_], _ => rfl),
    (PySem.W.mg_of X G a_is_plain),
    (fun_mk (st := s_ends_in) l_ends_in c_ends_in k_ends_in),
    ((fun_mk (st := s_ends_in) l_ends_in c_ends_in k_ends_in).binds (ps := p_ends_in) fun _ _ _ _ _ _ us hl => match us, hl with | [_], _ => rfl),
    (PySem.W.mg_of X G a_ends_in),
    (fun_mk (st := s_Shelf___init__) l_Shelf___init__ c_Shelf___init__ k_Shelf___init__),
    ((fun_mk (st := s_Shelf___init__) l_Shelf___init__ c_Shelf___init__ k_Shelf___init__).binds (ps := p_Shelf___init__) fun _ _ _ _ _ _ us hl => match us, hl with | [_], _ => rfl),
    (fun_mk (st := s_Shelf_want) l_Shelf_want c_Shelf_want k_Shelf_want),
    ((fun_mk (st := s_Shelf_want) l_Shelf_want c_Shelf_want k_Shelf_want).binds (ps := p_Shelf_want) fun _ _ _ _ _ _ us hl => match us, hl with | [_, _], _ => rfl),
    (⟨a_Shelf_want, i_Shelf_want, k_Shelf_want⟩),
    (fun_mk (st := s_Shelf_want_piece) l_Shelf_want_piece c_Shelf_want_piece k_Shelf_want_piece),
    ((fun_mk (st := s_Shelf_want_piece) l_Shelf_want_piece c_Shelf_want_piece k_Shelf_want_piece).binds (ps := p_Shelf_want_piece) fun _ _ _ _ _ _ us hl => match us, hl with | [_, _], _ => rfl),
    (⟨a_Shelf_want_piece, i_Shelf_want_piece, k_Shelf_want_piece⟩),
    (fun_mk (st := s_Shelf_many) l_Shelf_many c_Shelf_many k_Shelf_many),
    ((fun_mk (st := s_Shelf_many) l_Shelf_many c_Shelf_many k_Shelf_many).binds (ps := p_Shelf_many) fun _ _ _ _ _ _ us hl => match us, hl with | [_], _ => rfl),
    (⟨a_Shelf_many, i_Shelf_many, k_Shelf_many⟩),
    (fun_mk (st := s_Shelf_piece) l_Shelf_piece c_Shelf_piece k_Shelf_piece),
    ((fun_mk (st := s_Shelf_piece) l_Shelf_piece c_Shelf_piece k_Shelf_piece).binds (ps := p_Shelf_piece) fun _ _ _ _ _ _ us hl => match us, hl with | [_, _], _ => rfl),
    (⟨a_Shelf_piece, i_Shelf_piece, k_Shelf_piece⟩),
    (fun_mk (st := s_Shelf_signs) l_Shelf_signs c_Shelf_signs k_Shelf_signs),
    ((fun_mk (st := s_Shelf_signs) l_Shelf_signs c_Shelf_signs k_Shelf_signs).binds (ps := p_Shelf_signs) fun _ _ _ _ _ _ us hl => match us, hl with | [_, _], _ => rfl),
    (⟨a_Shelf_signs, i_Shelf_signs, k_Shelf_signs⟩),
    (fun_mk (st := s_Shelf_ends) l_Shelf_ends c_Shelf_ends k_Shelf_ends),
    ((fun_mk (st := s_Shelf_ends) l_Shelf_ends c_Shelf_ends k_Shelf_ends).binds (ps := p_Shelf_ends) fun _ _ _ _ _ _ us hl => match us, hl with | [_, _], _ => rfl),
    (⟨a_Shelf_ends, i_Shelf_ends, k_Shelf_ends⟩),
    (fun_mk (st := s_Shelf_leaves) l_Shelf_leaves c_Shelf_leaves k_Shelf_leaves),
    ((fun_mk (st := s_Shelf_leaves) l_Shelf_leaves c_Shelf_leaves k_Shelf_leaves).binds (ps := p_Shelf_leaves) fun _ _ _ _ _ _ us hl => match us, hl with | [_, _], _ => rfl),
    (⟨a_Shelf_leaves, i_Shelf_leaves, k_Shelf_leaves⟩),
    (fun_mk (st := s_Shelf_height) l_Shelf_height c_Shelf_height k_Shelf_height),
    ((fun_mk (st := s_Shelf_height) l_Shelf_height c_Shelf_height k_Shelf_height).binds (ps := p_Shelf_height) fun _ _ _ _ _ _ us hl => match us, hl with | [_, _], _ => rfl),
    (⟨a_Shelf_height, i_Shelf_height, k_Shelf_height⟩),
    (fun_mk (st := s_Shelf_first_leaf) l_Shelf_first_leaf c_Shelf_first_leaf k_Shelf_first_leaf),
    ((fun_mk (st := s_Shelf_first_leaf) l_Shelf_first_leaf c_Shelf_first_leaf k_Shelf_first_leaf).binds (ps := p_Shelf_first_leaf) fun _ _ _ _ _ _ us hl => match us, hl with | [_, _], _ => rfl),
    (⟨a_Shelf_first_leaf, i_Shelf_first_leaf, k_Shelf_first_leaf⟩),
    (fun_mk (st := s_Shelf_last_leaf) l_Shelf_last_leaf c_Shelf_last_leaf k_Shelf_last_leaf),
    ((fun_mk (st := s_Shelf_last_leaf) l_Shelf_last_leaf c_Shelf_last_leaf k_Shelf_last_leaf).binds (ps := p_Shelf_last_leaf) fun _ _ _ _ _ _ us hl => match us, hl with | [_, _], _ => rfl),
    (⟨a_Shelf_last_leaf, i_Shelf_last_leaf, k_Shelf_last_leaf⟩),
    (fun_mk (st := s_Shelf_laid) l_Shelf_laid c_Shelf_laid k_Shelf_laid),
    ((fun_mk (st := s_Shelf_laid) l_Shelf_laid c_Shelf_laid k_Shelf_laid).binds (ps := p_Shelf_laid) fun _ _ _ _ _ _ us hl => match us, hl with | [_, _, _, _, _, _], _ => rfl),
    (⟨a_Shelf_laid, i_Shelf_laid, k_Shelf_laid⟩),
    (fun_mk (st := s_Shelf_leaf) l_Shelf_leaf c_Shelf_leaf k_Shelf_leaf),
    ((fun_mk (st := s_Shelf_leaf) l_Shelf_leaf c_Shelf_leaf k_Shelf_leaf).binds (ps := p_Shelf_leaf) fun _ _ _ _ _ _ us hl => match us, hl with | [_, _], _ => rfl),
    (⟨a_Shelf_leaf, i_Shelf_leaf, k_Shelf_leaf⟩),
    (fun_mk (st := s_Shelf_fork) l_Shelf_fork c_Shelf_fork k_Shelf_fork),
    ((fun_mk (st := s_Shelf_fork) l_Shelf_fork c_Shelf_fork k_Shelf_fork).binds (ps := p_Shelf_fork) fun _ _ _ _ _ _ us hl => match us, hl with | [_, _, _], _ => rfl),
    (⟨a_Shelf_fork, i_Shelf_fork, k_Shelf_fork⟩),
    (fun_mk (st := s_Shelf_is_loose) l_Shelf_is_loose c_Shelf_is_loose k_Shelf_is_loose),
    ((fun_mk (st := s_Shelf_is_loose) l_Shelf_is_loose c_Shelf_is_loose k_Shelf_is_loose).binds (ps := p_Shelf_is_loose) fun _ _ _ _ _ _ us hl => match us, hl with | [_, _, _], _ => rfl),
    (⟨a_Shelf_is_loose, i_Shelf_is_loose, k_Shelf_is_loose⟩),
    (fun_mk (st := s_reach_of) l_reach_of c_reach_of k_reach_of),
    ((fun_mk (st := s_reach_of) l_reach_of c_reach_of k_reach_of).binds (ps := p_reach_of) fun _ _ _ _ _ _ us hl => match us, hl with | [_, _], _ => rfl),
    (PySem.W.mg_of X G a_reach_of),
    (fun_mk (st := s_swept) l_swept c_swept k_swept),
    ((fun_mk (st := s_swept) l_swept c_swept k_swept).binds (ps := p_swept) fun _ _ _ _ _ _ us hl => match us, hl with | [_, _], _ => rfl),
    (PySem.W.mg_of X G a_swept),
    (fun_mk (st := s_is_leaf) l_is_leaf c_is_leaf k_is_leaf),
    ((fun_mk (st := s_is_leaf) l_is_leaf c_is_leaf k_is_leaf).binds (ps := p_is_leaf) fun _ _ _ _ _ _ us hl => match us, hl with | [_, _], _ => rfl),
    (PySem.W.mg_of X G a_is_leaf),
    (fun_mk (st := s_parts_of) l_parts_of c_parts_of k_parts_of),
    ((fun_mk (st := s_parts_of) l_parts_of c_parts_of k_parts_of).binds (ps := p_parts_of) fun _ _ _ _ _ _ us hl => match us, hl with | [_, _], _ => rfl),
    (PySem.W.mg_of X G a_parts_of),
    (fun_mk (st := s_turned_right) l_turned_right c_turned_right k_turned_right),
    ((fun_mk (st := s_turned_right) l_turned_right c_turned_right k_turned_right).binds (ps := p_turned_right) fun _ _ _ _ _ _ us hl => match us, hl with | [_, _, _], _ => rfl),
    (PySem.W.mg_of X G a_turned_right),
    (fun_mk (st := s_turned_left) l_turned_left c_turned_left k_turned_left),
    ((fun_mk (st := s_turned_left) l_turned_left c_turned_left k_turned_left).binds (ps := p_turned_left) fun _ _ _ _ _ _ us hl => match us, hl with | [_, _, _], _ => rfl),
    (PySem.W.mg_of X G a_turned_left),
    (fun_mk (st := s_levelled) l_levelled c_levelled k_levelled),
    ((fun_mk (st := s_levelled) l_levelled c_levelled k_levelled).binds (ps := p_levelled) fun _ _ _ _ _ _ us hl => match us, hl with | [_, _, _], _ => rfl),
    (PySem.W.mg_of X G a_levelled),
    (fun_mk (st := s_linked) l_linked c_linked k_linked),
    ((fun_mk (st := s_linked) l_linked c_linked k_linked).binds (ps := p_linked) fun _ _ _ _ _ _ us hl => match us, hl with | [_, _, _], _ => rfl),
    (PySem.W.mg_of X G a_linked),
    (fun_mk (st := s_without_last) l_without_last c_without_last k_without_last),
    ((fun_mk (st := s_without_last) l_without_last c_without_last k_without_last).binds (ps := p_without_last) fun _ _ _ _ _ _ us hl => match us, hl with | [_, _], _ => rfl),
    (PySem.W.mg_of X G a_without_last),
    (fun_mk (st := s_without_first) l_without_first c_without_first k_without_first),
    ((fun_mk (st := s_without_first) l_without_first c_without_first k_without_first).binds (ps := p_without_first) fun _ _ _ _ _ _ us hl => match us, hl with | [_, _], _ => rfl),
    (PySem.W.mg_of X G a_without_first),
    (fun_mk (st := s_leaf_text) l_leaf_text c_leaf_text k_leaf_text),
    ((fun_mk (st := s_leaf_text) l_leaf_text c_leaf_text k_leaf_text).binds (ps := p_leaf_text) fun _ _ _ _ _ _ us hl => match us, hl with | [_, _], _ => rfl),
    (PySem.W.mg_of X G a_leaf_text),
    (fun_mk (st := s_poured) l_poured c_poured k_poured),
    ((fun_mk (st := s_poured) l_poured c_poured k_poured).binds (ps := p_poured) fun _ _ _ _ _ _ us hl => match us, hl with | [_, _, _], _ => rfl),
    (PySem.W.mg_of X G a_poured),
    (fun_mk (st := s_joined) l_joined c_joined k_joined),
    ((fun_mk (st := s_joined) l_joined c_joined k_joined).binds (ps := p_joined) fun _ _ _ _ _ _ us hl => match us, hl with | [_, _, _], _ => rfl),
    (PySem.W.mg_of X G a_joined),
    (fun_mk (st := s_built_of) l_built_of c_built_of k_built_of),
    ((fun_mk (st := s_built_of) l_built_of c_built_of k_built_of).binds (ps := p_built_of) fun _ _ _ _ _ _ us hl => match us, hl with | [_, _], _ => rfl),
    (PySem.W.mg_of X G a_built_of),
    (fun_mk (st := s_built) l_built c_built k_built),
    ((fun_mk (st := s_built) l_built c_built k_built).binds (ps := p_built) fun _ _ _ _ _ _ us hl => match us, hl with | [_, _], _ => rfl),
    (PySem.W.mg_of X G a_built),
    (fun_mk (st := s_want_stretch) l_want_stretch c_want_stretch k_want_stretch),
    ((fun_mk (st := s_want_stretch) l_want_stretch c_want_stretch k_want_stretch).binds (ps := p_want_stretch) fun _ _ _ _ _ _ us hl => match us, hl with | [_, _, _, _], _ => rfl),
    (PySem.W.mg_of X G a_want_stretch),
    (fun_mk (st := s_leaf_cut) l_leaf_cut c_leaf_cut k_leaf_cut),
    ((fun_mk (st := s_leaf_cut) l_leaf_cut c_leaf_cut k_leaf_cut).binds (ps := p_leaf_cut) fun _ _ _ _ _ _ us hl => match us, hl with | [_, _, _], _ => rfl),
    (PySem.W.mg_of X G a_leaf_cut),
    (fun_mk (st := s_halves) l_halves c_halves k_halves),
    ((fun_mk (st := s_halves) l_halves c_halves k_halves).binds (ps := p_halves) fun _ _ _ _ _ _ us hl => match us, hl with | [_, _, _], _ => rfl),
    (PySem.W.mg_of X G a_halves),
    (fun_mk (st := s_put_in) l_put_in c_put_in k_put_in),
    ((fun_mk (st := s_put_in) l_put_in c_put_in k_put_in).binds (ps := p_put_in) fun _ _ _ _ _ _ us hl => match us, hl with | [_, _, _, _], _ => rfl),
    (PySem.W.mg_of X G a_put_in),
    (fun_mk (st := s_taken_out) l_taken_out c_taken_out k_taken_out),
    ((fun_mk (st := s_taken_out) l_taken_out c_taken_out k_taken_out).binds (ps := p_taken_out) fun _ _ _ _ _ _ us hl => match us, hl with | [_, _, _, _], _ => rfl),
    (PySem.W.mg_of X G a_taken_out),
    (fun_mk (st := s_kept_part) l_kept_part c_kept_part k_kept_part),
    ((fun_mk (st := s_kept_part) l_kept_part c_kept_part k_kept_part).binds (ps := p_kept_part) fun _ _ _ _ _ _ us hl => match us, hl with | [_, _, _, _], _ => rfl),
    (PySem.W.mg_of X G a_kept_part),
    (fun_mk (st := s_look_at_word) l_look_at_word c_look_at_word k_look_at_word),
    ((fun_mk (st := s_look_at_word) l_look_at_word c_look_at_word k_look_at_word).binds (ps := p_look_at_word) fun _ _ _ _ _ _ us hl => match us, hl with | [_], _ => rfl),
    (PySem.W.mg_of X G a_look_at_word),
    (fun_mk (st := s_places_in) l_places_in c_places_in k_places_in),
    ((fun_mk (st := s_places_in) l_places_in c_places_in k_places_in).binds (ps := p_places_in) fun _ _ _ _ _ _ us hl => match us, hl with | [_, _], _ => rfl),
    (PySem.W.mg_of X G a_places_in),
    (fun_mk (st := s_Finder___init__) l_Finder___init__ c_Finder___init__ k_Finder___init__),
    ((fun_mk (st := s_Finder___init__) l_Finder___init__ c_Finder___init__ k_Finder___init__).binds (ps := p_Finder___init__) fun _ _ _ _ _ _ us hl => match us, hl with | [_, _, _], _ => rfl),
    (fun_mk (st := s_Finder_ends_of) l_Finder_ends_of c_Finder_ends_of k_Finder_ends_of),
    ((fun_mk (st := s_Finder_ends_of) l_Finder_ends_of c_Finder_ends_of k_Finder_ends_of).binds (ps := p_Finder_ends_of) fun _ _ _ _ _ _ us hl => match us, hl with | [_, _], _ => rfl),
    (⟨a_Finder_ends_of, i_Finder_ends_of, k_Finder_ends_of⟩),
    (fun_mk (st := s_Finder_seam) l_Finder_seam c_Finder_seam k_Finder_seam),
    ((fun_mk (st := s_Finder_seam) l_Finder_seam c_Finder_seam k_Finder_seam).binds (ps := p_Finder_seam) fun _ _ _ _ _ _ us hl => match us, hl with | [_, _, _], _ => rfl),
    (⟨a_Finder_seam, i_Finder_seam, k_Finder_seam⟩),
    (fun_mk (st := s_Finder_often) l_Finder_often c_Finder_often k_Finder_often),
    ((fun_mk (st := s_Finder_often) l_Finder_often c_Finder_often k_Finder_often).binds (ps := p_Finder_often) fun _ _ _ _ _ _ us hl => match us, hl with | [_, _], _ => rfl),
    (⟨a_Finder_often, i_Finder_often, k_Finder_often⟩),
    (fun_mk (st := s_Finder_place) l_Finder_place c_Finder_place k_Finder_place),
    ((fun_mk (st := s_Finder_place) l_Finder_place c_Finder_place k_Finder_place).binds (ps := p_Finder_place) fun _ _ _ _ _ _ us hl => match us, hl with | [_, _, _], _ => rfl),
    (⟨a_Finder_place, i_Finder_place, k_Finder_place⟩),
    (fun_mk (st := s_count_of) l_count_of c_count_of k_count_of),
    ((fun_mk (st := s_count_of) l_count_of c_count_of k_count_of).binds (ps := p_count_of) fun _ _ _ _ _ _ us hl => match us, hl with | [_, _, _], _ => rfl),
    (PySem.W.mg_of X G a_count_of),
    (fun_mk (st := s__law_mixed) l__law_mixed c__law_mixed k__law_mixed),
    ((fun_mk (st := s__law_mixed) l__law_mixed c__law_mixed k__law_mixed).binds (ps := p__law_mixed) fun _ _ _ _ _ _ us hl => match us, hl with | [_, _], _ => rfl),
    (PySem.W.mg_of X G a__law_mixed),
    (fun_mk (st := s__law_take) l__law_take c__law_take k__law_take),
    ((fun_mk (st := s__law_take) l__law_take c__law_take k__law_take).binds (ps := p__law_take) fun _ _ _ _ _ _ us hl => match us, hl with | [_, _], _ => rfl),
    (PySem.W.mg_of X G a__law_take),
    (fun_mk (st := s__law_plain) l__law_plain c__law_plain k__law_plain),
    ((fun_mk (st := s__law_plain) l__law_plain c__law_plain k__law_plain).binds (ps := p__law_plain) fun _ _ _ _ _ _ us hl => match us, hl with | [_, _], _ => rfl),
    (PySem.W.mg_of X G a__law_plain),
    (fun_mk (st := s__law_read) l__law_read c__law_read k__law_read),
    ((fun_mk (st := s__law_read) l__law_read c__law_read k__law_read).binds (ps := p__law_read) fun _ _ _ _ _ _ us hl => match us, hl with | [_, _], _ => rfl),
    (PySem.W.mg_of X G a__law_read),
    (fun_mk (st := s__law_cell_stream) l__law_cell_stream c__law_cell_stream k__law_cell_stream),
    ((fun_mk (st := s__law_cell_stream) l__law_cell_stream c__law_cell_stream k__law_cell_stream).binds (ps := p__law_cell_stream) fun _ _ _ _ _ _ us hl => match us, hl with | [_, _], _ => rfl),
    (PySem.W.mg_of X G a__law_cell_stream),
    (fun_mk (st := s__law_deed) l__law_deed c__law_deed k__law_deed),
    ((fun_mk (st := s__law_deed) l__law_deed c__law_deed k__law_deed).binds (ps := p__law_deed) fun _ _ _ _ _ _ us hl => match us, hl with | [_, _, _], _ => rfl),
    (PySem.W.mg_of X G a__law_deed),
    (fun_mk (st := s__law_kept) l__law_kept c__law_kept k__law_kept),
    ((fun_mk (st := s__law_kept) l__law_kept c__law_kept k__law_kept).binds (ps := p__law_kept) fun _ _ _ _ _ _ us hl => match us, hl with | [_, _], _ => rfl),
    (PySem.W.mg_of X G a__law_kept),
    (fun_mk (st := s__law_all_read) l__law_all_read c__law_all_read k__law_all_read),
    ((fun_mk (st := s__law_all_read) l__law_all_read c__law_all_read k__law_all_read).binds (ps := p__law_all_read) fun _ _ _ _ _ _ us hl => match us, hl with | [_, _], _ => rfl),
    (PySem.W.mg_of X G a__law_all_read),
    (fun_mk (st := s__law_all_counted) l__law_all_counted c__law_all_counted k__law_all_counted),
    ((fun_mk (st := s__law_all_counted) l__law_all_counted c__law_all_counted k__law_all_counted).binds (ps := p__law_all_counted) fun _ _ _ _ _ _ us hl => match us, hl with | [_, _, _], _ => rfl),
    (PySem.W.mg_of X G a__law_all_counted),
    (fun_mk (st := s_law) l_law c_law k_law),
    ((fun_mk (st := s_law) l_law c_law k_law).binds (ps := p_law) fun _ _ _ _ _ _ us hl => match us, hl with | [_], _ => rfl),
    (PySem.W.mg_of X G a_law),
    (kint_of X G kc_MOST_IN_LEAF),
    (kl_MOST_SIGNS),
    (kint_of X G kc_MOST_WRITTEN),
    (kint_of X G kc_MOST_IN_WORD),
    (PySem.W.mg_none_of X G z_len),
    (PySem.W.mg_none_of X G z_max),
    (PySem.W.mg_none_of X G z_min),
    (PySem.W.mg_none_of X G z_range),
    (PySem.W.mg_none_of X G z_isinstance),
    (PySem.W.mg_none_of X G z_all),
    (PySem.W.mg_none_of X G z_sum),
    (PySem.W.mg_none_of X G z_sorted),
    (PySem.W.mg_none_of X G z_str),
    (PySem.W.mg_none_of X G z_int),
    (PySem.W.mg_none_of X G z_zip),
    (PySem.W.mg_none_of X G z_enumerate)⟩
  exact ⟨PySem.W.fnOf "law" "law" (defArgs s_law) (defBody s_law) (defScope s_law) .none kV_law dc_law pm_law an_law cd_law ct_law, fun s v => .of_eq rfl, fun base _ _ => ok_law T⟩
end Sk
open PySem PySem.W PyProof.Rows
set_option maxRecDepth 100000 in
set_option maxHeartbeats 0 in
theorem PySem.Challenge.cw_skeinwood_k78_whole_swept_and_gone_on_holds : PySem.Challenge.rw_skeinwood_k78_whole_swept_and_gone_on.Holds := by
  w_on; o_law; k_head; (case hw => w_witness2)
  k_fill
  refine Sk.walkX (l := PySem.Challenge.rw_skeinwood_k78_whole_swept_and_gone_on) (k := 192) (sp := fun K => Sk.spLaw K) rfl rfl ⟨rfl, by decide, by decide⟩ (fun w h Y => PySem.W.kIn_of Y) ?F (fun K H a ns h1 h2 => ⟨a, ns, rfl, h2, h1, fun _ => rfl⟩)
  case F =>
    intro w mg fa h KX G XP hmg
    refine' Sk.all_mk KX G hmg (Sk.kint_loose XP (by simp)) ?aC_Shelf ?pg_Shelf ?hd_Shelf ?po_Shelf ?sa_Shelf ?na_Shelf_pieces ?na_Shelf_numbers ?na_Shelf_told_signs ?na_Shelf_told_ends ?na_Shelf_told_leaves ?na_Shelf_told_heights ?na_Shelf_firsts ?na_Shelf_lasts ?mk_Shelf ?kc_Shelf ?aC_Finder ?pg_Finder ?hd_Finder ?po_Finder ?sa_Finder ?na_Finder_wood ?na_Finder_word ?na_Finder_known ?na_Finder_ends_known ?mk_Finder ?kc_Finder ?eg_Loose ?ex_Loose ?ek_Loose ?eb_Loose ?et_Loose ?eg_NoPiece ?ex_NoPiece ?ek_NoPiece ?eb_NoPiece ?et_NoPiece ?eg_NoPlace ?ex_NoPlace ?ek_NoPlace ?eb_NoPlace ?et_NoPlace ?eg_NoText ?ex_NoText ?ek_NoText ?eb_NoText ?et_NoText ?eg_TooLong ?ex_TooLong ?ek_TooLong ?eb_TooLong ?et_TooLong ?eg_Unlevel ?ex_Unlevel ?ek_Unlevel ?eb_Unlevel ?et_Unlevel ?a_is_plain ?l_is_plain ?c_is_plain ?k_is_plain ?a_ends_in ?l_ends_in ?c_ends_in ?k_ends_in ?a_Shelf___init__ ?i_Shelf___init__ ?l_Shelf___init__ ?c_Shelf___init__ ?k_Shelf___init__ ?a_Shelf_want ?i_Shelf_want ?l_Shelf_want ?c_Shelf_want ?k_Shelf_want ?a_Shelf_want_piece ?i_Shelf_want_piece ?l_Shelf_want_piece ?c_Shelf_want_piece ?k_Shelf_want_piece ?a_Shelf_many ?i_Shelf_many ?l_Shelf_many ?c_Shelf_many ?k_Shelf_many ?a_Shelf_piece ?i_Shelf_piece ?l_Shelf_piece ?c_Shelf_piece ?k_Shelf_piece ?a_Shelf_signs ?i_Shelf_signs ?l_Shelf_signs ?c_Shelf_signs ?k_Shelf_signs ?a_Shelf_ends ?i_Shelf_ends ?l_Shelf_ends ?c_Shelf_ends ?k_Shelf_ends ?a_Shelf_leaves ?i_Shelf_leaves ?l_Shelf_leaves ?c_Shelf_leaves ?k_Shelf_leaves ?a_Shelf_height ?i_Shelf_height ?l_Shelf_height ?c_Shelf_height ?k_Shelf_height ?a_Shelf_first_leaf ?i_Shelf_first_leaf ?l_Shelf_first_leaf ?c_Shelf_first_leaf ?k_Shelf_first_leaf ?a_Shelf_last_leaf ?i_Shelf_last_leaf ?l_Shelf_last_leaf ?c_Shelf_last_leaf ?k_Shelf_last_leaf ?a_Shelf_laid ?i_Shelf_laid ?l_Shelf_laid ?c_Shelf_laid ?k_Shelf_laid ?a_Shelf_leaf ?i_Shelf_leaf ?l_Shelf_leaf ?c_Shelf_leaf ?k_Shelf_leaf ?a_Shelf_fork ?i_Shelf_fork ?l_Shelf_fork ?c_Shelf_fork ?k_Shelf_fork ?a_Shelf_is_loose ?i_Shelf_is_loose ?l_Shelf_is_loose ?c_Shelf_is_loose ?k_Shelf_is_loose ?a_reach_of ?l_reach_of ?c_reach_of ?k_reach_of ?a_swept ?l_swept ?c_swept ?k_swept ?a_is_leaf ?l_is_leaf ?c_is_leaf ?k_is_leaf ?a_parts_of ?l_parts_of ?c_parts_of ?k_parts_of ?a_turned_right ?l_turned_right ?c_turned_right ?k_turned_right ?a_turned_left ?l_turned_left ?c_turned_left ?k_turned_left ?a_levelled ?l_levelled ?c_levelled ?k_levelled ?a_linked ?l_linked ?c_linked ?k_linked ?a_without_last ?l_without_last ?c_without_last ?k_without_last ?a_without_first ?l_without_first ?c_without_first ?k_without_first ?a_leaf_text ?l_leaf_text ?c_leaf_text ?k_leaf_text ?a_poured ?l_poured ?c_poured ?k_poured ?a_joined ?l_joined ?c_joined ?k_joined ?a_built_of ?l_built_of ?c_built_of ?k_built_of ?a_built ?l_built ?c_built ?k_built ?a_want_stretch ?l_want_stretch ?c_want_stretch ?k_want_stretch ?a_leaf_cut ?l_leaf_cut ?c_leaf_cut ?k_leaf_cut ?a_halves ?l_halves ?c_halves ?k_halves ?a_put_in ?l_put_in ?c_put_in ?k_put_in ?a_taken_out ?l_taken_out ?c_taken_out ?k_taken_out ?a_kept_part ?l_kept_part ?c_kept_part ?k_kept_part ?a_look_at_word ?l_look_at_word ?c_look_at_word ?k_look_at_word ?a_places_in ?l_places_in ?c_places_in ?k_places_in ?a_Finder___init__ ?i_Finder___init__ ?l_Finder___init__ ?c_Finder___init__ ?k_Finder___init__ ?a_Finder_ends_of ?i_Finder_ends_of ?l_Finder_ends_of ?c_Finder_ends_of ?k_Finder_ends_of ?a_Finder_seam ?i_Finder_seam ?l_Finder_seam ?c_Finder_seam ?k_Finder_seam ?a_Finder_often ?i_Finder_often ?l_Finder_often ?c_Finder_often ?k_Finder_often ?a_Finder_place ?i_Finder_place ?l_Finder_place ?c_Finder_place ?k_Finder_place ?a_count_of ?l_count_of ?c_count_of ?k_count_of ?a__law_mixed ?l__law_mixed ?c__law_mixed ?k__law_mixed ?a__law_take ?l__law_take ?c__law_take ?k__law_take ?a__law_plain ?l__law_plain ?c__law_plain ?k__law_plain ?a__law_read ?l__law_read ?c__law_read ?k__law_read ?a__law_cell_stream ?l__law_cell_stream ?c__law_cell_stream ?k__law_cell_stream ?a__law_deed ?l__law_deed ?c__law_deed ?k__law_deed ?a__law_kept ?l__law_kept ?c__law_kept ?k__law_kept ?a__law_all_read ?l__law_all_read ?c__law_all_read ?k__law_all_read ?a__law_all_counted ?l__law_all_counted ?c__law_all_counted ?k__law_all_counted ?a_law ?l_law ?c_law ?k_law ?kc_MOST_IN_LEAF ?kc_MOST_WRITTEN ?kc_MOST_IN_WORD ?z_len ?z_max ?z_min ?z_range ?z_isinstance ?z_all ?z_sum ?z_sorted ?z_str ?z_int ?z_zip ?z_enumerate
    (case aC_Shelf => k_is)
    (case pg_Shelf => k_is)
    (case hd_Shelf => k_is)
    (case po_Shelf => k_is)
    (case sa_Shelf => k_is)
    (case na_Shelf_pieces => k_is)
    (case na_Shelf_numbers => k_is)
    (case na_Shelf_told_signs => k_is)
    (case na_Shelf_told_ends => k_is)
    (case na_Shelf_told_leaves => k_is)
    (case na_Shelf_told_heights => k_is)
    (case na_Shelf_firsts => k_is)
    (case na_Shelf_lasts => k_is)
    (case mk_Shelf => k_is)
    (case kc_Shelf => k_is)
    (case aC_Finder => k_is)
    (case pg_Finder => k_is)
    (case hd_Finder => k_is)
    (case po_Finder => k_is)
    (case sa_Finder => k_is)
    (case na_Finder_wood => k_is)
    (case na_Finder_word => k_is)
    (case na_Finder_known => k_is)
    (case na_Finder_ends_known => k_is)
    (case mk_Finder => k_is)
    (case kc_Finder => k_is)
    (case eg_Loose => k_is)
    (case ex_Loose => k_exc)
    (case ek_Loose => k_is)
    (case eb_Loose => k_is)
    (case et_Loose => k_is)
    (case eg_NoPiece => k_is)
    (case ex_NoPiece => k_exc)
    (case ek_NoPiece => k_is)
    (case eb_NoPiece => k_is)
    (case et_NoPiece => k_is)
    (case eg_NoPlace => k_is)
    (case ex_NoPlace => k_exc)
    (case ek_NoPlace => k_is)
    (case eb_NoPlace => k_is)
    (case et_NoPlace => k_is)
    (case eg_NoText => k_is)
    (case ex_NoText => k_exc)
    (case ek_NoText => k_is)
    (case eb_NoText => k_is)
    (case et_NoText => k_is)
    (case eg_TooLong => k_is)
    (case ex_TooLong => k_exc)
    (case ek_TooLong => k_is)
    (case eb_TooLong => k_is)
    (case et_TooLong => k_is)
    (case eg_Unlevel => k_is)
    (case ex_Unlevel => k_exc)
    (case ek_Unlevel => k_is)
    (case eb_Unlevel => k_is)
    (case et_Unlevel => k_is)
    (case a_is_plain => k_is)
    (case l_is_plain => k_is)
    (case c_is_plain => k_is)
    (case k_is_plain => k_is)
    (case a_ends_in => k_is)
    (case l_ends_in => k_is)
    (case c_ends_in => k_is)
    (case k_ends_in => k_is)
    (case a_Shelf___init__ => k_is)
    (case i_Shelf___init__ => k_is)
    (case l_Shelf___init__ => k_is)
    (case c_Shelf___init__ => k_is)
    (case k_Shelf___init__ => k_is)
    (case a_Shelf_want => k_is)
    (case i_Shelf_want => k_is)
    (case l_Shelf_want => k_is)
    (case c_Shelf_want => k_is)
    (case k_Shelf_want => k_is)
    (case a_Shelf_want_piece => k_is)
    (case i_Shelf_want_piece => k_is)
    (case l_Shelf_want_piece => k_is)
    (case c_Shelf_want_piece => k_is)
    (case k_Shelf_want_piece => k_is)
    (case a_Shelf_many => k_is)
    (case i_Shelf_many => k_is)
    (case l_Shelf_many => k_is)
    (case c_Shelf_many => k_is)
    (case k_Shelf_many => k_is)
    (case a_Shelf_piece => k_is)
    (case i_Shelf_piece => k_is)
    (case l_Shelf_piece => k_is)
    (case c_Shelf_piece => k_is)
    (case k_Shelf_piece => k_is)
    (case a_Shelf_signs => k_is)
    (case i_Shelf_signs => k_is)
    (case l_Shelf_signs => k_is)
    (case c_Shelf_signs => k_is)
    (case k_Shelf_signs => k_is)
    (case a_Shelf_ends => k_is)
    (case i_Shelf_ends => k_is)
    (case l_Shelf_ends => k_is)
    (case c_Shelf_ends => k_is)
    (case k_Shelf_ends => k_is)
    (case a_Shelf_leaves => k_is)
    (case i_Shelf_leaves => k_is)
    (case l_Shelf_leaves => k_is)
    (case c_Shelf_leaves => k_is)
    (case k_Shelf_leaves => k_is)
    (case a_Shelf_height => k_is)
    (case i_Shelf_height => k_is)
    (case l_Shelf_height => k_is)
    (case c_Shelf_height => k_is)
    (case k_Shelf_height => k_is)
    (case a_Shelf_first_leaf => k_is)
    (case i_Shelf_first_leaf => k_is)
    (case l_Shelf_first_leaf => k_is)
    (case c_Shelf_first_leaf => k_is)
    (case k_Shelf_first_leaf => k_is)
    (case a_Shelf_last_leaf => k_is)
    (case i_Shelf_last_leaf => k_is)
    (case l_Shelf_last_leaf => k_is)
    (case c_Shelf_last_leaf => k_is)
    (case k_Shelf_last_leaf => k_is)
    (case a_Shelf_laid => k_is)
    (case i_Shelf_laid => k_is)
    (case l_Shelf_laid => k_is)
    (case c_Shelf_laid => k_is)
    (case k_Shelf_laid => k_is)
    (case a_Shelf_leaf => k_is)
    (case i_Shelf_leaf => k_is)
    (case l_Shelf_leaf => k_is)
    (case c_Shelf_leaf => k_is)
    (case k_Shelf_leaf => k_is)
    (case a_Shelf_fork => k_is)
    (case i_Shelf_fork => k_is)
    (case l_Shelf_fork => k_is)
    (case c_Shelf_fork => k_is)
    (case k_Shelf_fork => k_is)
    (case a_Shelf_is_loose => k_is)
    (case i_Shelf_is_loose => k_is)
    (case l_Shelf_is_loose => k_is)
    (case c_Shelf_is_loose => k_is)
    (case k_Shelf_is_loose => k_is)
    (case a_reach_of => k_is)
    (case l_reach_of => k_is)
    (case c_reach_of => k_is)
    (case k_reach_of => k_is)
    (case a_swept => k_is)
    (case l_swept => k_is)
    (case c_swept => k_is)
    (case k_swept => k_is)
    (case a_is_leaf => k_is)
    (case l_is_leaf => k_is)
    (case c_is_leaf => k_is)
    (case k_is_leaf => k_is)
    (case a_parts_of => k_is)
    (case l_parts_of => k_is)
    (case c_parts_of => k_is)
    (case k_parts_of => k_is)
    (case a_turned_right => k_is)
    (case l_turned_right => k_is)
    (case c_turned_right => k_is)
    (case k_turned_right => k_is)
    (case a_turned_left => k_is)
    (case l_turned_left => k_is)
    (case c_turned_left => k_is)
    (case k_turned_left => k_is)
    (case a_levelled => k_is)
    (case l_levelled => k_is)
    (case c_levelled => k_is)
    (case k_levelled => k_is)
    (case a_linked => k_is)
    (case l_linked => k_is)
    (case c_linked => k_is)
    (case k_linked => k_is)
    (case a_without_last => k_is)
    (case l_without_last => k_is)
    (case c_without_last => k_is)
    (case k_without_last => k_is)
    (case a_without_first => k_is)
    (case l_without_first => k_is)
    (case c_without_first => k_is)
    (case k_without_first => k_is)
    (case a_leaf_text => k_is)
    (case l_leaf_text => k_is)
    (case c_leaf_text => k_is)
    (case k_leaf_text => k_is)
    (case a_poured => k_is)
    (case l_poured => k_is)
    (case c_poured => k_is)
    (case k_poured => k_is)
    (case a_joined => k_is)
    (case l_joined => k_is)
    (case c_joined => k_is)
    (case k_joined => k_is)
    (case a_built_of => k_is)
    (case l_built_of => k_is)
    (case c_built_of => k_is)
    (case k_built_of => k_is)
    (case a_built => k_is)
    (case l_built => k_is)
    (case c_built => k_is)
    (case k_built => k_is)
    (case a_want_stretch => k_is)
    (case l_want_stretch => k_is)
    (case c_want_stretch => k_is)
    (case k_want_stretch => k_is)
    (case a_leaf_cut => k_is)
    (case l_leaf_cut => k_is)
    (case c_leaf_cut => k_is)
    (case k_leaf_cut => k_is)
    (case a_halves => k_is)
    (case l_halves => k_is)
    (case c_halves => k_is)
    (case k_halves => k_is)
    (case a_put_in => k_is)
    (case l_put_in => k_is)
    (case c_put_in => k_is)
    (case k_put_in => k_is)
    (case a_taken_out => k_is)
    (case l_taken_out => k_is)
    (case c_taken_out => k_is)
    (case k_taken_out => k_is)
    (case a_kept_part => k_is)
    (case l_kept_part => k_is)
    (case c_kept_part => k_is)
    (case k_kept_part => k_is)
    (case a_look_at_word => k_is)
    (case l_look_at_word => k_is)
    (case c_look_at_word => k_is)
    (case k_look_at_word => k_is)
    (case a_places_in => k_is)
    (case l_places_in => k_is)
    (case c_places_in => k_is)
    (case k_places_in => k_is)
    (case a_Finder___init__ => k_is)
    (case i_Finder___init__ => k_is)
    (case l_Finder___init__ => k_is)
    (case c_Finder___init__ => k_is)
    (case k_Finder___init__ => k_is)
    (case a_Finder_ends_of => k_is)
    (case i_Finder_ends_of => k_is)
    (case l_Finder_ends_of => k_is)
    (case c_Finder_ends_of => k_is)
    (case k_Finder_ends_of => k_is)
    (case a_Finder_seam => k_is)
    (case i_Finder_seam => k_is)
    (case l_Finder_seam => k_is)
    (case c_Finder_seam => k_is)
    (case k_Finder_seam => k_is)
    (case a_Finder_often => k_is)
    (case i_Finder_often => k_is)
    (case l_Finder_often => k_is)
    (case c_Finder_often => k_is)
    (case k_Finder_often => k_is)
    (case a_Finder_place => k_is)
    (case i_Finder_place => k_is)
    (case l_Finder_place => k_is)
    (case c_Finder_place => k_is)
    (case k_Finder_place => k_is)
    (case a_count_of => k_is)
    (case l_count_of => k_is)
    (case c_count_of => k_is)
    (case k_count_of => k_is)
    (case a__law_mixed => k_is)
    (case l__law_mixed => k_is)
    (case c__law_mixed => k_is)
    (case k__law_mixed => k_is)
    (case a__law_take => k_is)
    (case l__law_take => k_is)
    (case c__law_take => k_is)
    (case k__law_take => k_is)
    (case a__law_plain => k_is)
    (case l__law_plain => k_is)
    (case c__law_plain => k_is)
    (case k__law_plain => k_is)
    (case a__law_read => k_is)
    (case l__law_read => k_is)
    (case c__law_read => k_is)
    (case k__law_read => k_is)
    (case a__law_cell_stream => k_is)
    (case l__law_cell_stream => k_is)
    (case c__law_cell_stream => k_is)
    (case k__law_cell_stream => k_is)
    (case a__law_deed => k_is)
    (case l__law_deed => k_is)
    (case c__law_deed => k_is)
    (case k__law_deed => k_is)
    (case a__law_kept => k_is)
    (case l__law_kept => k_is)
    (case c__law_kept => k_is)
    (case k__law_kept => k_is)
    (case a__law_all_read => k_is)
    (case l__law_all_read => k_is)
    (case c__law_all_read => k_is)
    (case k__law_all_read => k_is)
    (case a__law_all_counted => k_is)
    (case l__law_all_counted => k_is)
    (case c__law_all_counted => k_is)
    (case k__law_all_counted => k_is)
    (case a_law => k_is)
    (case l_law => k_is)
    (case c_law => k_is)
    (case k_law => k_is)
    (case kc_MOST_IN_LEAF => k_is)
    (case kc_MOST_WRITTEN => k_is)
    (case kc_MOST_IN_WORD => k_is)
    (case z_len => k_is)
    (case z_max => k_is)
    (case z_min => k_is)
    (case z_range => k_is)
    (case z_isinstance => k_is)
    (case z_all => k_is)
    (case z_sum => k_is)
    (case z_sorted => k_is)
    (case z_str => k_is)
    (case z_int => k_is)
    (case z_zip => k_is)
    (case z_enumerate => k_is)
#print axioms PySem.Challenge.cw_skeinwood_k78_whole_swept_and_gone_on_holds
