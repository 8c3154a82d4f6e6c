import PyProof.Rows.All
import Wide.All
import OpenK.AllK
import Wide.FinOn
import HandS.ForMost
import HandS.Wide
import KE.KDictKeyed
import HandS.Deep
import HandS.TupAny
import HandS.SortRule
import HandS.SortInts
import KE.LtData
import HandS.DeepEq
import HandS.OwnEq
import HandS.Style
import HandS.IsInst
import HandS.Codes
import HandS.More
import HandS.Finally
import PyProof.DictUpdate
import HandS.Zip0
import KE.KDictZip
import KE.KItemsList
import HandS.ListItems
import HandS.Conv
import HandS.Rev
import HandS.Zip
import HandS.RevRange
import KE.DataMinMax
import HandS.SortKw
import HandS.Flow
import KE.KDictSum
import HandS.List
import HandS.Dict
import HandS.Defaults
import HandS.Ends
import HandS.Head0
import HandS.Head1
import HandS.Head2
import HandS.HeadEnd
import HandS.HeadHook1
import HandS.HeadHook2
import HandS.HeadHook3
import HandS.HeadHook4
import PySem.Challenge.RW_pairwright_k44_whole_strings_apart
set_option Elab.async false
set_option linter.all false
set_option maxRecDepth 100000
set_option maxHeartbeats 0
section
/-! Core: values, heaps, the IR, its weakest-precondition reading. Pure Lean, no kit. -/
namespace M
abbrev Sx := List Nat
noncomputable section
def LINE : Nat := 16777216

inductive D where
  | non | bl (b : Bool) | int (i : Int) | str (s : Sx) | tup (ds : List D) | ref (a : Nat) | rol (ds : List D)
noncomputable instance : DecidableEq D := fun _ _ => Classical.propDecidable _

inductive Ob where
  | lst (xs : List D)
  | dct (k : Nat) (kvs : List (D × D))
  | rdct (k : Nat) (kvs : List (D × D))
  | ins (c : Sx) (fs : List (Sx × D))
  /-- a dict whose keys are nested tuples -/
  | dcn (kvs : List (D × D))

def Ob.lk : Ob → Bool
  | .rdct _ _ => true
  | _ => false
abbrev AH := Nat → Option Ob
def up (h : AH) (a : Nat) (o : Ob) : AH := fun b => if b = a then some o else h b
abbrev St := List (Option D)
abbrev VQ := D → AH → Prop
abbrev XP := Sx → List D → AH → Prop

structure Ends where
  nx : St → AH → Prop
  rt : VQ
  bk : St → AH → Prop
  ct : St → AH → Prop
structure Cx where
  call : Sx → List D → AH → VQ → XP → Prop
  ex : XP

inductive Bop where | add | sub | mul | mod | fdiv | pow
inductive Cop where | eq | ne | lt | le | gt | ge | isin | notin | is_ | isnt | nes
inductive Blt where | len | min2 | max2 | int1 | abs | sum | all | any | list | tuple | sorted | str1 | repr | dict1 | min1 | max1 | klist | sortd
inductive Mth where | append | pop | popAt | extend | insert | reverse | clear | get1 | get2 | setdefault | update | join | split | index | remove | dclear | extendT
inductive Itk where | seq | rng | zip | enum | items | values | rev | keys | rrng
inductive Ty where | int | bool | tuple | str | list | dict
inductive Tgt where
  | nm (i : Nat)
  | tp (ts : List Nat)

mutual
inductive E where
  | var (i : Nat)
  | int (n : Int)
  | str (s : Sx)
  | bl (b : Bool)
  | non
  | gint (x : Sx) (n : Int)
  | gstr (x : Sx) (s : Sx)
  | tup (es : Es)
  | lst (es : Es)
  | dct (k : Nat) (es : Es)
  | dcn
  | bin (o : Bop) (a b : E)
  | neg (a : E)
  | cmp (o : Cop) (a b : E)
  | chn (o o' : Cop) (a b c : E)
  | bop (isAnd : Bool) (es : Es)
  | not (a : E)
  | ite (c a b : E)
  | ix (a i : E)
  | sl (a : E) (lo hi : Es)
  | call (f : Sx) (es : Es)
  /-- the last k parameters' defaults, all None, fill up -/
  | callD (f : Sx) (k : Nat) (es : Es)
  /-- sum(e.values()) -/
  | smv (e : E)
  | fld (e : E) (f : Sx)
  | newo (c : Sx) (es : Es)
  | mcall (c m : Sx) (o : E) (es : Es)
  | blt (b : Blt) (es : Es)
  | isi (a : E) (t : Ty)
  | mth (m : Mth) (o : E) (es : Es)
  | lc (elt : E) (t : Tgt) (own : List Nat) (k : Itk) (src : Es) (ifs : Es)
  | bad
  | lock (i : Nat) (e : E)
  | lzip (es : Es)
  | lrng (es : Es)
  | rev (a : E)
  | mnd (es : Es)
  | orv (a b : E)
  | tix (x : Sx) (tab : List (Sx × Sx)) (a : E)
  | slw (a : E) (lo hi : Es)
  | tlr (a : E)
inductive Es where
  | nil
  | cons (e : E) (es : Es)
end

mutual
inductive S where
  | asg (t : Tgt) (e : E)
  | six (o i e : E)
  | sfld (c : Sx) (o : E) (f : Sx) (e : E)
  | aug (i : Nat) (o : Bop) (e : E)
  | ex (e : E)
  | ret (e : E)
  | retN
  | ife (c : E) (a b : Ss)
  | whl (c : E) (b : Ss)
  | for_ (t : Tgt) (k : Itk) (src : Es) (b : Ss)
  | pass | brk | cont
  | bad
  | lock (i : Nat) (s : S)
  | lock2 (i : Nat) (s : S)
inductive Ss where
  | nil
  | cons (s : S) (ss : Ss)
end

/-! ### operations on values -/
def zipL : List D → List D → List D
  | x :: xs, y :: ys => .tup [x, y] :: zipL xs ys
  | _, _ => []
def mulOk (a b : Int) : Prop := (-(2 ^ 64) < a ∧ a < 2 ^ 64) ∨ (-(2 ^ 64) < b ∧ b < 2 ^ 64) ∨ ∃ k, 0 < k ∧ k ≤ 500000 ∧ a.natAbs < 2 ^ k ∧ b.natAbs < 2 ^ k
def divOk (b : Int) : Prop := 0 < b ∧ b < 2 ^ 64
def powOk (a b : Int) : Prop := 0 ≤ b ∧ b ≤ 1000000 ∧ a.natAbs < 2 ^ 64

def opAdd : D → D → AH → VQ → Prop
  | .int a, .int b, h, Q => Q (.int (a + b)) h
  | .str a, .str b, h, Q => a.length + b.length ≤ LINE ∧ Q (.str (a ++ b)) h
  | .tup a, .tup b, h, Q => a.length + b.length ≤ LINE ∧ Q (.tup (a ++ b)) h
  | .ref p, .ref q, h, Q => ∃ xs ys, h p = some (.lst xs) ∧ h q = some (.lst ys) ∧ xs.length + ys.length ≤ LINE ∧ ∀ r, h r = none → Q (.ref r) (up h r (.lst (xs ++ ys)))
  | _, _, _, _ => False
def opMul : D → D → AH → VQ → Prop
  | .int a, .int b, h, Q => mulOk a b ∧ Q (.int (a * b)) h
  | .ref p, .int k, h, Q => ∃ xs, h p = some (.lst xs) ∧ -(2 ^ 63) ≤ k ∧ k < 2 ^ 63 ∧ xs.length * k.toNat ≤ LINE ∧ ∀ r, h r = none → Q (.ref r) (up h r (.lst (List.replicate k.toNat xs).flatten))
  | _, _, _, _ => False
def opInt (f : Int → Int → (Int → Prop) → Prop) : D → D → AH → VQ → Prop
  | .int a, .int b, h, Q => f a b fun c => Q (.int c) h
  | _, _, _, _ => False
def opBin (o : Bop) (x y : D) (h : AH) (Q : VQ) : Prop := match o with
  | .add => opAdd x y h Q
  | .mul => opMul x y h Q
  | .sub => opInt (fun a b q => q (a - b)) x y h Q
  | .mod => opInt (fun a b q => 0 < b ∧ q (a % b)) x y h Q
  | .fdiv => opInt (fun a b q => divOk b ∧ q (a / b)) x y h Q
  | .pow => opInt (fun a b q => powOk a b ∧ q (a ^ b.toNat)) x y h Q

mutual
/-- data without objects and truths, nested at most n deep -/
def plain : Nat → D → Bool
  | _, .non => true
  | _, .int _ => true
  | _, .str _ => true
  | 0, .tup _ => false
  | n + 1, .tup ds => plains n ds
  | _, _ => false
def plains : Nat → List D → Bool
  | _, [] => true
  | n, d :: ds => plain n d && plains n ds
end
mutual
def pureD : D → Bool
  | .non => true
  | .int _ => true
  | .str _ => true
  | .tup ds => pureDs ds
  | _ => false
def pureDs : List D → Bool
  | [] => true
  | d :: ds => pureD d && pureDs ds
end
def flat : D → Bool
  | .non => true
  | .int _ => true
  | .str _ => true
  | _ => false

def eqOk (a b : D) (h : AH) (Q : Bool → Prop) : Prop := match a with
  | .bl a => (match b with
    | .bl b => Q (decide (a = b))
    | _ => False)
  | .ref p => (match b with
    | .ref q => ∃ xs ys, h p = some (.lst xs) ∧ h q = some (.lst ys) ∧ pureDs xs = true ∧ pureDs ys = true ∧ (plains 190 xs = true ∨ plains 190 ys = true) ∧ Q (decide (xs = ys))
    | _ => False)
  | a => pureD a = true ∧ pureD b = true ∧ (plain 190 a = true ∨ plain 190 b = true) ∧ Q (decide (a = b))

def kvGet (kvs : List (D × D)) (k : D) : Option D := (kvs.find? fun kv => decide (kv.1 = k)).map (·.2)
def kvPut (kvs : List (D × D)) (k v : D) : List (D × D) :=
  if (kvs.any fun kv => decide (kv.1 = k)) = true then kvs.map (fun kv => if kv.1 = k then (kv.1, v) else kv) else kvs ++ [(k, v)]
/-- keys by the kind of dict: 0 intsOf and texts, 1 tuples of such -/
def keyOk : Nat → D → Bool
  | 0, .int _ => true
  | 0, .str _ => true
  | _, _ => false

/-- keys that are tuples, nested eight deep at most -/
def nkOk : D → Bool
  | .tup ds => pureDs ds && plains 7 ds
  | _ => false

/-- == of what holds lists and dicts; true alone for lists and tuples -/
def All2 (R : D → D → Prop) : List D → List D → Prop
  | [], [] => True
  | x :: xs, y :: ys => R x y ∧ All2 R xs ys
  | _, _ => False
def HitsD (R : D → D → Bool → Prop) (kws : List (D × D)) : List (D × D) → Bool → Prop
  | [], r => r = true
  | kv :: t, r => (kvGet kws kv.1 = none ∧ r = false) ∨ ∃ u e r', kvGet kws kv.1 = some u ∧ R kv.2 u e ∧ HitsD R kws t r' ∧ r = (e && r')
def EqS (R : D → D → Bool → Prop) (h : AH) (a b : D) (r : Bool) : Prop :=
  (∃ xs ys, a = .tup xs ∧ b = .tup ys ∧ All2 (fun x y => R x y true) xs ys ∧ r = true) ∨
  (∃ p q xs ys, a = .ref p ∧ b = .ref q ∧ p ≠ q ∧ h p = some (.lst xs) ∧ h q = some (.lst ys) ∧ All2 (fun x y => R x y true) xs ys ∧ r = true) ∨
  ∃ p q kvs kws r', a = .ref p ∧ b = .ref q ∧ p ≠ q ∧ h p = some (.dct 0 kvs) ∧ h q = some (.dct 0 kws) ∧ (kvs.length = kws.length → HitsD R kws kvs r') ∧ r = (kvs.length == kws.length && r')
def EqD : Nat → AH → D → D → Bool → Prop
  | 0, _, _, _, _ => False
  | n + 1, h, a, b, r => (pureD a = true ∧ pureD b = true ∧ (plain (170 + n) a = true ∨ plain (170 + n) b = true) ∧ r = decide (a = b)) ∨ (∃ p, a = .ref p ∧ b = .ref p ∧ r = true) ∨ EqS (EqD n h) h a b r
/-- != of two dicts -/
def neD (a b : D) (h : AH) (Q : Bool → Prop) : Prop := ∃ p q kvs kws r, a = .ref p ∧ b = .ref q ∧ h p = some (.dct 0 kvs) ∧ h q = some (.dct 0 kws) ∧ (kvs.length = kws.length → HitsD (EqD 20 h) kws kvs r) ∧ Q (!(kvs.length == kws.length && r))
def eqOkX (a b : D) (h : AH) (Q : Bool → Prop) : Prop := eqOk a b h Q ∨ ∃ r, EqS (EqD 20 h) h a b r ∧ Q r
def memOk (x y : D) (h : AH) (Q : Bool → Prop) : Prop := match y with
  | .ref p => (match h p with
    | some (.dct k kvs) => keyOk k x = true ∧ Q (kvGet kvs x).isSome
    | some (.rdct k kvs) => keyOk k x = true ∧ Q (kvGet kvs x).isSome
    | some (.dcn kvs) => nkOk x = true ∧ Q (kvGet kvs x).isSome
    | some (.lst xs) => pureD x = true ∧ pureDs xs = true ∧ (plain 190 x = true ∨ plains 190 xs = true) ∧ Q (xs.any fun y => decide (y = x))
    | _ => False)
  | .tup xs => flat x = true ∧ xs.all flat = true ∧ Q (xs.any fun y => decide (y = x))
  | _ => False
/-! ### an order of data -/
mutual
/-- what < may be asked of -/
def cmpb : D → D → Bool
  | .int _, b => (match b with
    | .int _ => true
    | _ => false)
  | .str _, b => (match b with
    | .str _ => true
    | _ => false)
  | .tup xs, b => (match b with
    | .tup ys => cmpbs xs ys
    | _ => false)
  | _, _ => false
def cmpbs : List D → List D → Bool
  | [], _ => true
  | x :: xs, l => (match l with
    | [] => true
    | y :: ys => if x = y then cmpbs xs ys else cmpb x y)
end
def rkD : D → Nat
  | .non => 0
  | .bl _ => 1
  | .int _ => 2
  | .str _ => 3
  | .tup _ => 4
  | .rol _ => 5
  | .ref _ => 6
mutual
/-- the order that < and sorted follow -/
def ltD : D → D → Bool
  | .int a, d => (match d with
    | .int b => decide (a < b)
    | d => decide (2 < rkD d))
  | .str s, d => (match d with
    | .str t => decide (s < t)
    | d => decide (3 < rkD d))
  | .tup xs, d => (match d with
    | .tup ys => ltDs xs ys
    | d => decide (4 < rkD d))
  | .rol xs, d => (match d with
    | .rol ys => ltDs xs ys
    | d => decide (5 < rkD d))
  | .non, d => decide (0 < rkD d)
  | .bl a, d => (match d with
    | .bl b => !a && b
    | d => decide (1 < rkD d))
  | .ref a, d => (match d with
    | .ref b => decide (a < b)
    | d => decide (6 < rkD d))
def ltDs : List D → List D → Bool
  | [], l => (match l with
    | [] => false
    | _ :: _ => true)
  | x :: xs, l => (match l with
    | [] => false
    | y :: ys => if x = y then ltDs xs ys else ltD x y)
end
theorem ltDs_cons {x y : D} {xs ys : List D} : ltDs (x :: xs) (y :: ys) = if x = y then ltDs xs ys else ltD x y := by simp only [ltDs]
theorem ltD_rk {a b : D} (h : rkD a ≠ rkD b) : ltD a b = decide (rkD a < rkD b) := by
  cases a <;> cases b <;> first | exact absurd rfl h | simp [ltD, rkD]
theorem sx_irr : ∀ s : Sx, ¬ s < s := fun s => List.lt_irrefl s
mutual
theorem ltD_irr : ∀ a : D, ltD a a = false
  | .non => by simp [ltD, rkD]
  | .bl b => by cases b <;> rfl
  | .int _ => by simp [ltD]
  | .str s => by simp [ltD, sx_irr s]
  | .tup xs => by simp only [ltD]; exact ltDs_irr xs
  | .rol xs => by simp only [ltD]; exact ltDs_irr xs
  | .ref _ => by simp [ltD]
theorem ltDs_irr : ∀ xs : List D, ltDs xs xs = false
  | [] => by simp only [ltDs]
  | x :: xs => by rw [ltDs_cons, if_pos rfl]; exact ltDs_irr xs
end
theorem rk_no {a b : D} (r : rkD a ≠ rkD b) (h1 : ltD a b = false) (h2 : ltD b a = false) : False := by
  rw [ltD_rk r] at h1
  rw [ltD_rk (Ne.symm r)] at h2
  simp at h1 h2
  omega
mutual
theorem ltD_tot : ∀ a b : D, ltD a b = false → ltD b a = false → a = b
  | .tup xs, b, h1, h2 => by
    cases b with
    | tup ys =>
      simp only [ltD] at h1 h2
      rw [ltDs_tot xs ys h1 h2]
    | _ => exact (rk_no (by simp [rkD]) h1 h2).elim
  | .rol xs, b, h1, h2 => by
    cases b with
    | rol ys =>
      simp only [ltD] at h1 h2
      rw [ltDs_tot xs ys h1 h2]
    | _ => exact (rk_no (by simp [rkD]) h1 h2).elim
  | .int a, b, h1, h2 => by
    cases b with
    | int c =>
      simp [ltD] at h1 h2
      congr 1; omega
    | _ => exact (rk_no (by simp [rkD]) h1 h2).elim
  | .str a, b, h1, h2 => by
    cases b with
    | str c =>
      simp [ltD] at h1 h2
      congr 1
      exact List.le_antisymm h2 h1
    | _ => exact (rk_no (by simp [rkD]) h1 h2).elim
  | .non, b, h1, h2 => by
    cases b with
    | non => rfl
    | _ => exact (rk_no (by simp [rkD]) h1 h2).elim
  | .bl a, b, h1, h2 => by
    cases b with
    | bl c => cases a <;> cases c <;> first | rfl | (simp [ltD] at h1 h2)
    | _ => exact (rk_no (by simp [rkD]) h1 h2).elim
  | .ref a, b, h1, h2 => by
    cases b with
    | ref c =>
      simp [ltD] at h1 h2
      congr 1; omega
    | _ => exact (rk_no (by simp [rkD]) h1 h2).elim
theorem ltDs_tot : ∀ xs ys : List D, ltDs xs ys = false → ltDs ys xs = false → xs = ys
  | [], ys, h1, h2 => by cases ys <;> simp [ltDs] at h1 ⊢
  | x :: xs, ys, h1, h2 => by
    cases ys with
    | nil => simp [ltDs] at h2
    | cons y ys =>
      rw [ltDs_cons] at h1 h2
      by_cases e : x = y
      · subst e
        rw [if_pos rfl] at h1 h2
        rw [ltDs_tot xs ys h1 h2]
      · rw [if_neg e] at h1
        rw [if_neg (Ne.symm e)] at h2
        exact absurd (ltD_tot x y h1 h2) e
end
theorem rk_lt {a b c : D} (r : rkD a ≠ rkD b ∨ rkD b ≠ rkD c) (h1 : ltD a b = true) (h2 : ltD b c = true) (w : ∀ {x y : D}, ltD x y = true → rkD x ≤ rkD y) : ltD a c = true := by
  have h3 := w h1
  have h4 := w h2
  rw [ltD_rk (by omega)]
  exact decide_eq_true (by omega)
theorem lt_rk {x y : D} (h : ltD x y = true) : rkD x ≤ rkD y := by
  by_cases r : rkD x = rkD y
  · omega
  · rw [ltD_rk r] at h
    simp at h
    omega
mutual
theorem ltD_trans : ∀ a b c : D, ltD a b = true → ltD b c = true → ltD a c = true
  | .tup xs, b, c, h1, h2 => by
    cases b with
    | tup ys =>
      cases c with
      | tup zs =>
        simp only [ltD] at h1 h2 ⊢
        exact ltDs_trans xs ys zs h1 h2
      | _ => exact rk_lt (.inr (by simp [rkD])) h1 h2 lt_rk
    | _ => exact rk_lt (.inl (by simp [rkD])) h1 h2 lt_rk
  | .rol xs, b, c, h1, h2 => by
    cases b with
    | rol ys =>
      cases c with
      | rol zs =>
        simp only [ltD] at h1 h2 ⊢
        exact ltDs_trans xs ys zs h1 h2
      | _ => exact rk_lt (.inr (by simp [rkD])) h1 h2 lt_rk
    | _ => exact rk_lt (.inl (by simp [rkD])) h1 h2 lt_rk
  | .int a, b, c, h1, h2 => by
    cases b with
    | int b =>
      cases c with
      | int c =>
        simp [ltD] at h1 h2 ⊢
        omega
      | _ => exact rk_lt (.inr (by simp [rkD])) h1 h2 lt_rk
    | _ => exact rk_lt (.inl (by simp [rkD])) h1 h2 lt_rk
  | .str a, b, c, h1, h2 => by
    cases b with
    | str b =>
      cases c with
      | str c =>
        simp [ltD] at h1 h2 ⊢
        exact List.lt_trans h1 h2
      | _ => exact rk_lt (.inr (by simp [rkD])) h1 h2 lt_rk
    | _ => exact rk_lt (.inl (by simp [rkD])) h1 h2 lt_rk
  | .non, b, c, h1, h2 => by
    cases b with
    | non => simp [ltD, rkD] at h1
    | _ => exact rk_lt (.inl (by simp [rkD])) h1 h2 lt_rk
  | .bl a, b, c, h1, h2 => by
    cases b with
    | bl b =>
      cases c with
      | bl c => cases a <;> cases b <;> cases c <;> simp [ltD] at h1 h2 ⊢
      | _ => exact rk_lt (.inr (by simp [rkD])) h1 h2 lt_rk
    | _ => exact rk_lt (.inl (by simp [rkD])) h1 h2 lt_rk
  | .ref a, b, c, h1, h2 => by
    cases b with
    | ref b =>
      cases c with
      | ref c =>
        simp [ltD] at h1 h2 ⊢
        omega
      | _ => exact rk_lt (.inr (by simp [rkD])) h1 h2 lt_rk
    | _ => exact rk_lt (.inl (by simp [rkD])) h1 h2 lt_rk
theorem ltDs_trans : ∀ xs ys zs : List D, ltDs xs ys = true → ltDs ys zs = true → ltDs xs zs = true
  | [], ys, zs, h1, h2 => by
    cases ys with
    | nil => simp [ltDs] at h1
    | cons y ys =>
      cases zs with
      | nil => simp [ltDs] at h2
      | cons z zs => simp [ltDs]
  | x :: xs, ys, zs, h1, h2 => by
    cases ys with
    | nil => simp [ltDs] at h1
    | cons y ys =>
      cases zs with
      | nil => simp [ltDs] at h2
      | cons z zs =>
        rw [ltDs_cons] at h1 h2 ⊢
        by_cases e : x = y
        · subst e
          rw [if_pos rfl] at h1
          by_cases e2 : x = z
          · subst e2
            rw [if_pos rfl] at h2 ⊢
            exact ltDs_trans xs ys zs h1 h2
          · rw [if_neg e2] at h2 ⊢
            exact h2
        · rw [if_neg e] at h1
          by_cases e2 : y = z
          · subst e2
            rw [if_neg e]
            exact h1
          · rw [if_neg e2] at h2
            have h3 := ltD_trans x y z h1 h2
            by_cases e3 : x = z
            · subst e3
              rw [ltD_irr] at h3
              cases h3
            · rw [if_neg e3]
              exact h3
end
theorem ltD_asym {a b : D} (h : ltD a b = true) : ltD b a = false := by
  cases e : ltD b a with
  | false => rfl
  | true =>
    have := ltD_trans a b a h e
    rw [ltD_irr] at this
    cases this
theorem ltD_neg {x y z : D} (h1 : ltD y x = false) (h2 : ltD z y = false) : ltD z x = false := by
  cases e : ltD z x with
  | false => rfl
  | true =>
    cases e1 : ltD x y with
    | true =>
      have := ltD_trans z x y e e1
      rw [h2] at this
      cases this
    | false =>
      have := ltD_tot x y e1 h1
      subst this
      rw [h2] at e
      cases e
def cmpInt (f : Int → Int → Bool) : D → D → (Bool → Prop) → Prop
  | .int a, .int b, Q => Q (f a b)
  | _, _, _ => False
def cmpLt : D → D → (Bool → Prop) → Prop
  | .int a, .int b, Q => Q (decide (a < b))
  | .str a, .str b, Q => Q (decide (a < b))
  | .tup xs, .tup ys, Q => cmpbs xs ys = true ∧ pureDs xs = true ∧ pureDs ys = true ∧ (plains 190 xs = true ∨ plains 190 ys = true) ∧ Q (ltDs xs ys)
  | _, _, _ => False
def isNon (x y : D) (Q : Bool → Prop) : Prop := match y with
  | .non => Q (decide (x = .non))
  | .bl b => (match x with
    | .bl a => Q (decide (a = b))
    | _ => False)
  | _ => False

def opCmp (o : Cop) (x y : D) (h : AH) (Q : Bool → Prop) : Prop := match o with
  | .eq => eqOkX x y h Q
  | .ne => eqOk x y h fun c => Q (!c)
  | .lt => cmpLt x y Q
  | .le => cmpInt (fun a b => decide (a ≤ b)) x y Q
  | .gt => cmpInt (fun a b => decide (b < a)) x y Q
  | .ge => cmpInt (fun a b => decide (b ≤ a)) x y Q
  | .isin => memOk x y h Q
  | .notin => memOk x y h fun c => Q (!c)
  | .is_ => isNon x y Q
  | .isnt => isNon x y fun c => Q (!c)
  | .nes => neD x y h Q

def atI {α : Type} (xs : List α) (i : Int) : Option α := if 0 ≤ i then xs[i.toNat]? else if -(xs.length : Int) ≤ i then xs[(i + xs.length).toNat]? else none
def ixAt (ds : List D) (y : D) (h : AH) (Q : VQ) : Prop := match y with
  | .int i => (match atI ds i with
    | some d => Q d h
    | none => False)
  | _ => False
def ixStr (s : Sx) (y : D) (h : AH) (Q : VQ) : Prop := match y with
  | .int i => s.length ≤ LINE ∧ (match atI s i with
    | some c => Q (.str [c]) h
    | none => False)
  | _ => False
def opIx (x y : D) (h : AH) (Q : VQ) : Prop := match x with
  | .tup ds => ixAt ds y h Q
  | .rol ds => ixAt ds y h Q
  | .str s => ixStr s y h Q
  | .ref p => (match h p with
    | some (.lst xs) => ixAt xs y h Q
    | some (.dct kd kvs) => keyOk kd y = true ∧ (match kvGet kvs y with
      | some d => Q d h
      | none => False)
    | some (.rdct kd kvs) => keyOk kd y = true ∧ (match kvGet kvs y with
      | some d => Q d h
      | none => False)
    | some (.dcn kvs) => nkOk y = true ∧ (match kvGet kvs y with
      | some d => Q d h
      | none => False)
    | _ => False)
  | _ => False

/-- where a slice's bound lies -/
def clip (n d : Nat) : Option Int → Nat
  | none => d
  | some i => if i < 0 then (i + n).toNat else min i.toNat n
def cut {α : Type} (xs : List α) (lo hi : Option Int) : List α := (xs.drop (clip xs.length 0 lo)).take (clip xs.length xs.length hi - clip xs.length 0 lo)
def opSl (x : D) (lo hi : Option Int) (h : AH) (Q : VQ) : Prop := match x with
  | .tup ds => ¬ (clip ds.length 0 lo = 0 ∧ clip ds.length ds.length hi = ds.length) ∧ Q (.tup (cut ds lo hi)) h
  | .rol ds => ∀ r, h r = none → Q (.ref r) (up h r (.lst (cut ds lo hi)))
  | .str s => s.length ≤ LINE ∧ Q (.str (cut s lo hi)) h
  | .ref p => (match h p with
    | some (.lst xs) => ∀ r, h r = none → Q (.ref r) (up h r (.lst (cut xs lo hi)))
    | _ => False)
  | _ => False

/-- a tuple's slice, the whole of it too -/
def opSlW (x : D) (lo hi : Option Int) (h : AH) (Q : VQ) : Prop := match x with
  | .tup ds => Q (.tup (cut ds lo hi)) h
  | _ => False

def intsOf : List D → Option (List Int)
  | [] => some []
  | .int i :: ds => (intsOf ds).map (i :: ·)
  | _ => none
def bls : List D → Option (List Bool)
  | [] => some []
  | .bl i :: ds => (bls ds).map (i :: ·)
  | _ => none
/-- what may be read as a list or a tuple -/
def seqOf : D → AH → Option (List D)
  | .tup xs, _ => some xs
  | .rol xs, _ => some xs
  | .ref p, h => match h p with
    | some (.lst xs) => some xs
    | _ => none
  | _, _ => none

/-- one argument, two -/
def arg1 (ds : List D) (f : D → Prop) : Prop := match ds with
  | [d] => f d
  | _ => False
def arg2 (ds : List D) (f : D → D → Prop) : Prop := match ds with
  | [d, e] => f d e
  | _ => False
def anInt (d : D) (f : Int → Prop) : Prop := match d with
  | .int i => f i
  | _ => False
def aRef (d : D) (f : Nat → Prop) : Prop := match d with
  | .ref p => f p
  | _ => False
def aLst (d : D) (h : AH) (f : Nat → List D → Prop) : Prop := match d with
  | .ref p => (match h p with
    | some (.lst xs) => f p xs
    | _ => False)
  | _ => False
def aDct (d : D) (h : AH) (f : Nat → Nat → List (D × D) → Prop) : Prop := match d with
  | .ref p => (match h p with
    | some (.dct k kvs) => f p k kvs
    | _ => False)
  | _ => False
/-- a dict, locked or not -/
def aDctR (d : D) (h : AH) (f : Nat → Nat → List (D × D) → Prop) : Prop := match d with
  | .ref p => (match h p with
    | some (.dct k kvs) => f p k kvs
    | some (.rdct k kvs) => f p k kvs
    | _ => False)
  | _ => False
def aSome {α : Type} (o : Option α) (f : α → Prop) : Prop := match o with
  | some a => f a
  | none => False
def lenOk (d : D) (h : AH) (f : Nat → Prop) : Prop := match d with
  | .str s => s.length ≤ LINE ∧ f s.length
  | .ref p => (match h p with
    | some (.lst xs) => f xs.length
    | some (.dct _ kvs) => f kvs.length
    | some (.rdct _ kvs) => f kvs.length
    | _ => False)
  | d => aSome (seqOf d h) fun xs => f xs.length
def toInt (d : D) (f : Int → Prop) : Prop := match d with
  | .int i => f i
  | .bl b => f (if b then 1 else 0)
  | _ => False
def aTup (d : D) (f : List D → Prop) : Prop := match d with
  | .tup xs => f xs
  | _ => False
def strsOf : List D → Option (List Sx)
  | [] => some []
  | .str s :: ds => (strsOf ds).map (s :: ·)
  | _ => none
/-- what sorted takes of tuples: as < may be asked of any two, their first ones of one type -/
def tupsOk (xs : List D) : Prop := pureDs xs = true ∧ plains 190 xs = true ∧ (∃ t, (t = 2 ∨ t = 3 ∨ t = 4) ∧ ∀ x ∈ xs, ∃ y r, x = .tup (y :: r) ∧ rkD y = t) ∧ ∀ x ∈ xs, ∀ y ∈ xs, cmpb x y = true
def sortOk (xs : List D) : Prop := xs.length < 2 ∨ (∃ ss, strsOf xs = some ss ∧ ss.length < 64) ∨ (∃ ns, intsOf xs = some ns) ∨ tupsOk xs
def sortP (d : D) (h : AH) (f : List D → Prop) : Prop := match d with
  | .ref p => (match h p with
    | some (.lst xs) => sortOk xs ∧ f xs
    | some (.dct 0 kvs) => (∃ ss, strsOf (kvs.map (·.1)) = some ss ∧ ss.length < 64) ∧ f (kvs.map (·.1))
    | some (.rdct 0 kvs) => (∃ ss, strsOf (kvs.map (·.1)) = some ss ∧ ss.length < 64) ∧ f (kvs.map (·.1))
    | _ => False)
  | _ => False
def opBlt (b : Blt) (ds : List D) (h : AH) (Q : VQ) : Prop := match b with
  | .len => arg1 ds fun d => lenOk d h fun n => Q (.int n) h
  | .min2 => arg2 ds fun x y => anInt x fun a => anInt y fun b => Q (.int (if b < a then b else a)) h
  | .max2 => arg2 ds fun x y => anInt x fun a => anInt y fun b => Q (.int (if b > a then b else a)) h
  | .int1 => arg1 ds fun d => toInt d fun i => Q (.int i) h
  | .abs => arg1 ds fun d => anInt d fun a => Q (.int (if a < 0 then -a else a)) h
  | .sum => arg1 ds fun d => aLst d h fun _ xs => aSome (intsOf xs) fun ns => Q (.int ns.sum) h
  | .all => arg1 ds fun d => aLst d h fun _ xs => aSome (bls xs) fun bs => Q (.bl (bs.all id)) h
  | .any => arg1 ds fun d => aLst d h fun _ xs => aSome (bls xs) fun bs => Q (.bl (bs.any id)) h
  | .sortd => arg1 ds fun d => sortP d h fun xs => ∀ ys : List D, ys.Perm xs → ys.Pairwise (fun a b => ltD b a = false) → ∀ r, h r = none → Q (.ref r) (up h r (.lst ys))
  | .list => arg1 ds fun d => aSome (seqOf d h) fun xs => ∀ r, h r = none → Q (.ref r) (up h r (.lst xs))
  | .tuple => arg1 ds fun d => aSome (seqOf d h) fun xs => Q (.tup xs) h
  | .dict1 => arg1 ds fun d => aDctR d h fun _ k kvs => ∀ r, h r = none → Q (.ref r) (up h r (.dct k kvs))
  | .klist => arg1 ds fun d => aDctR d h fun _ _ kvs => ∀ r, h r = none → Q (.ref r) (up h r (.lst (kvs.map (·.1))))
  | .max1 => arg1 ds fun d => aLst d h fun _ xs => aSome (intsOf xs) fun ns => ns ≠ [] ∧ ∀ m, m ∈ ns → (∀ y, y ∈ ns → y ≤ m) → Q (.int m) h
  | .sorted => arg1 ds fun d => aDctR d h fun _ _ kvs => aSome (strsOf (kvs.map (·.1))) fun ss => ss.length < 64 ∧ ∀ ys : List Sx, ys.Perm ss → ∀ r, h r = none → Q (.ref r) (up h r (.lst (ys.map .str)))
  | _ => False

def opIsi : D → Ty → AH → Option Bool
  | .non, _, _ => some false
  | .bl _, .bool, _ => some true
  | .bl _, .int, _ => some true
  | .bl _, _, _ => some false
  | .int _, .int, _ => some true
  | .int _, _, _ => some false
  | .str _, .str, _ => some true
  | .str _, _, _ => some false
  | .tup _, .tuple, _ => some true
  | .tup _, _, _ => some false
  | .ref p, t, h => match h p with
    | some (.lst _) => some (match t with
      | .list => true
      | _ => false)
    | some (.dct 0 _) => some (match t with
      | .dict => true
      | _ => false)
    | _ => none
  | .rol _, _, _ => none

def mergeL : List (D × D) → List (D × D) → List (D × D)
  | acc, [] => acc
  | acc, kv :: r => mergeL (kvPut acc kv.1 kv.2) r
def aStr (d : D) (f : Sx → Prop) : Prop := match d with
  | .str s => f s
  | _ => False
def joinS (s : Sx) : List Sx → Sx
  | [] => []
  | [p] => p
  | p :: q :: r => p ++ (s ++ joinS s (q :: r))
def opMth (m : Mth) (x : D) (ds : List D) (h : AH) (Q : VQ) : Prop := match m with
  | .append => arg1 ds fun d => aLst x h fun p xs => xs.length < LINE ∧ Q .non (up h p (.lst (xs ++ [d])))
  | .pop => ds = [] ∧ aLst x h fun p xs => aSome xs[xs.length - 1]? fun y => Q y (up h p (.lst xs.dropLast))
  | .popAt => arg1 ds fun d => anInt d fun i => aLst x h fun p xs => (0 ≤ i ∧ i < 2 ^ 62) ∧ aSome xs[i.toNat]? fun y => Q y (up h p (.lst (xs.eraseIdx i.toNat)))
  | .extend => arg1 ds fun d => aLst x h fun p xs => aLst d h fun q ys => xs.length + ys.length ≤ LINE ∧ Q .non (up h p (.lst (xs ++ ys)))
  | .extendT => arg1 ds fun d => aLst x h fun p xs => aTup d fun ys => xs.length + ys.length ≤ LINE ∧ Q .non (up h p (.lst (xs ++ ys)))
  | .reverse => ds = [] ∧ aLst x h fun p xs => Q .non (up h p (.lst xs.reverse))
  | .clear => ds = [] ∧ aLst x h fun p xs => Q .non (up h p (.lst []))
  | .get1 => arg1 ds fun k => aDct x h fun p kd kvs => keyOk kd k = true ∧ Q ((kvGet kvs k).getD .non) h
  | .get2 => arg2 ds fun k d => aDct x h fun p kd kvs => keyOk kd k = true ∧ Q ((kvGet kvs k).getD d) h
  | .update => arg1 ds fun d => aDct x h fun p kd kvs => aDct d h fun r kd' more => p ≠ r ∧ kd = 0 ∧ kd' = 0 ∧ kvs.length + more.length ≤ LINE ∧ Q .non (up h p (.dct 0 (mergeL kvs more)))
  | .insert => arg2 ds fun y d => anInt y fun i => aLst x h fun p xs => (0 ≤ i ∧ i < 2 ^ 62) ∧ xs.length < LINE ∧ Q .non (up h p (.lst (xs.take i.toNat ++ [d] ++ xs.drop i.toNat)))
  | .dclear => ds = [] ∧ aDct x h fun p kd kvs => kd = 0 ∧ Q .non (up h p (.dct 0 []))
  | .index => arg1 ds fun d => anInt d fun i => aLst x h fun _ xs => aSome (intsOf xs) fun ns => i ∈ ns ∧ Q (.int (ns.idxOf i : Nat)) h
  | .join => arg1 ds fun d => aStr x fun s => aSome (seqOf d h) fun xs => aSome (strsOf xs) fun ss => (ss.map (·.length)).sum + ss.length * s.length ≤ LINE ∧ Q (.str (joinS s ss)) h
  | _ => False

/-- of what a method is asked -/
def recvOk (m : Mth) (d : D) (h : AH) : Prop := match m with
  | .get1 => aDct d h fun _ _ _ => True
  | .get2 => aDct d h fun _ _ _ => True
  | .update => aDct d h fun _ _ _ => True
  | .dclear => aDct d h fun _ _ _ => True
  | .join => aStr d fun _ => True
  | _ => aLst d h fun _ _ => True
/-- o[i] = v -/
def opSet (x y v : D) (h : AH) (Q : AH → Prop) : Prop := match x with
  | .ref p => (match h p with
    | some (.lst xs) => anInt y fun i => (0 ≤ i ∧ i < xs.length) ∧ Q (up h p (.lst (xs.set i.toNat v)))
    | some (.dct kd kvs) => keyOk kd y = true ∧ kvs.length < LINE ∧ Q (up h p (.dct kd (kvPut kvs y v)))
    | some (.dcn kvs) => nkOk y = true ∧ kvs.length < LINE ∧ Q (up h p (.dcn (kvPut kvs y v)))
    | _ => False)
  | _ => False

def keysOk (k : Nat) : List (D × D) → Bool
  | [] => true
  | kv :: r => keyOk k kv.1 && keysOk k r
def pairUp : List D → Option (List (D × D))
  | [] => some []
  | a :: b :: r => (pairUp r).map ((a, b) :: ·)
  | _ => none

/-- x op= y of numbers, of texts -/
def opAug (o : Bop) (x y : D) (Q : D → Prop) : Prop := match o with
  | .add => (match x with
    | .int a => (match y with
      | .int b => Q (.int (a + b))
      | _ => False)
    | .str a => (match y with
      | .str b => a.length + b.length ≤ LINE ∧ Q (.str (a ++ b))
      | _ => False)
    | _ => False)
  | .sub => (match x with
    | .int a => (match y with
      | .int b => Q (.int (a - b))
      | _ => False)
    | _ => False)
  | _ => False

/-! ### what is walked -/
def rangeL (lo hi : Int) : List D := (List.range (hi - lo).toNat).map fun (k : Nat) => D.int (lo + (k : Int))
def enumL (i : Nat) : List D → List D
  | [] => []
  | x :: xs => .tup [.int i, x] :: enumL (i + 1) xs
def aRng (ds : List D) (f : Int → Int → Prop) : Prop := match ds with
  | [.int n] => (-(2 ^ 62) ≤ n ∧ n ≤ LINE) ∧ f 0 n
  | [.int a, .int b] => ((-(2 ^ 62) ≤ a ∧ a ≤ LINE) ∧ -(2 ^ 62) ≤ b ∧ b ≤ LINE ∧ (b - a).toNat ≤ LINE) ∧ f a b
  | _ => False
/-- Q of the items, and of what must stay true of the heap while they are walked -/
def walk : Itk → List D → AH → (List D → (AH → Prop) → Prop) → Prop
  | .seq, [.tup xs], _, Q => Q xs fun _ => True
  | .seq, [.rol xs], _, Q => Q xs fun _ => True
  | .seq, [.str s], _, Q => Q (s.map fun c => .str [c]) fun _ => True
  | .seq, [.ref p], h, Q => match h p with
    | some (.lst xs) => Q xs fun h' => h' p = some (.lst xs)
    | _ => False
  | .rng, [.int n], _, Q => -(2 ^ 62) ≤ n ∧ n < 2 ^ 62 ∧ Q (rangeL 0 n) fun _ => True
  | .rng, [.int a, .int b], _, Q => (-(2 ^ 62) ≤ a ∧ a < 2 ^ 62 ∧ -(2 ^ 62) ≤ b ∧ b < 2 ^ 62) ∧ Q (rangeL a b) fun _ => True
  | .rrng, [.int n], _, Q => -(2 ^ 62) ≤ n ∧ n < 2 ^ 62 ∧ Q (rangeL 0 n).reverse fun _ => True
  | .enum, [.ref p], h, Q => match h p with
    | some (.lst xs) => Q (enumL 0 xs) fun h' => h' p = some (.lst xs)
    | _ => False
  | .rev, [.ref p], h, Q => match h p with
    | some (.lst xs) => Q xs.reverse fun h' => h' p = some (.lst xs)
    | _ => False
  | .rev, [.tup xs], _, Q => Q xs.reverse fun _ => True
  | .zip, [.tup xs, .tup ys], _, Q => Q (zipL xs ys) fun _ => True
  | .zip, [.ref p, .ref q], h, Q => (match h p, h q with
    | some (.lst xs), some (.lst ys) => Q (zipL xs ys) fun h' => h' p = some (.lst xs) ∧ h' q = some (.lst ys)
    | _, _ => False)
  | .keys, [.ref p], h, Q => match h p with
    | some (.rdct _ kvs) => Q (kvs.map (·.1)) fun _ => True
    | _ => False
  | .values, [.ref p], h, Q => match h p with
    | some (.rdct _ kvs) => Q (kvs.map (·.2)) fun _ => True
    | _ => False
  | .items, [.ref p], h, Q => match h p with
    | some (.rdct _ kvs) => Q (kvs.map fun kv => .tup [kv.1, kv.2]) fun _ => True
    | _ => False
  | _, _, _, _ => False

def setT : Tgt → D → St → Option St
  | .nm i, d, σ => some (σ.set i (some d))
  | .tp ts, .tup ds, σ => setTs ts ds σ
  | _, _, _ => none
where
  setTs : List Nat → List D → St → Option St
    | [], [], σ => some σ
    | i :: is, d :: ds, σ => setTs is ds (σ.set i (some d))
    | _, _, _ => none

def forget (σ : St) : List Nat → St
  | [] => σ
  | v :: vs => (forget σ vs).set v none

/-- a loop over xs by an invariant over (turn, names, heap) -/
def loopW (xs : List D) (ok : AH → Prop) (body : D → St → AH → (St → AH → Prop) → Prop) (done : St → AH → Prop) (σ : St) (h : AH) : Prop :=
  ∃ P : Nat → St → AH → Prop, P 0 σ h ∧ (∀ i σ h, P i σ h → ok h) ∧ (∀ i x σ h, xs[i]? = some x → P i σ h → body x σ h (P (i + 1))) ∧ ∀ σ h, P xs.length σ h → done σ h
/-- a comprehension by an invariant over (turn, list so far, heap) -/
def compW (xs : List D) (ok : AH → Prop) (body : D → AH → (D → AH → Prop) → (AH → Prop) → Prop) (done : List D → AH → Prop) (h : AH) : Prop :=
  ∃ P : Nat → List D → AH → Prop, P 0 [] h ∧ (∀ i acc h, P i acc h → ok h ∧ acc.length ≤ i) ∧ xs.length ≤ LINE ∧
    (∀ i x acc h, xs[i]? = some x → P i acc h → body x h (fun y h' => P (i + 1) (acc ++ [y]) h') (fun h' => P (i + 1) acc h')) ∧ ∀ acc h, P xs.length acc h → done acc h

/-- the entries of a dict that stands free -/
def aVals (d : D) (h : AH) (f : List (D × D) → Prop) : Prop := match d with
  | .ref p => (match h p with
    | some (.dct 0 kvs) => f kvs
    | _ => False)
  | _ => False
/-- an instance of a class of the program -/
def aIns (d : D) (h : AH) (f : Nat → Sx → List (Sx × D) → Prop) : Prop := match d with
  | .ref p => (match h p with
    | some (.ins c fs) => f p c fs
    | _ => False)
  | _ => False
def putA (f : Sx) (v : D) : List (Sx × D) → List (Sx × D)
  | [] => [(f, v)]
  | (g, x) :: r => if g = f then (g, v) :: r else (g, x) :: putA f v r
/-- what makes an instance of c; its def m -/
def mkN (c : Sx) : Sx := 1114112 :: c
def metN (c m : Sx) : Sx := c ++ 46 :: m
def sInit : Sx := [95, 95, 105, 110, 105, 116, 95, 95]
/-- the dict that a name holds -/
def lockAt (σ : St) (i : Nat) (h : AH) (f : Nat → Nat → List (D × D) → Prop) : Prop := match σ[i]? with
  | some (some (.ref p)) => (match h p with
    | some (.dct kd kvs) => f p kd kvs
    | _ => False)
  | _ => False
/-- min of a list of numbers, None of none -/
def minD (ds : List D) (h : AH) (Q : VQ) : Prop := arg1 ds fun d => aLst d h fun _ xs => aSome (intsOf xs) fun ns => (ns = [] → Q .non h) ∧ ∀ m, m ∈ ns → (∀ y, y ∈ ns → m ≤ y) → Q (.int m) h
/-! ### the readings -/
mutual
def wE (C : Cx) : E → St → AH → VQ → Prop
  | .var i, σ, h, Q => match σ[i]? with
    | some (some d) => Q d h
    | _ => False
  | .int n, _, h, Q => Q (.int n) h
  | .str s, _, h, Q => Q (.str s) h
  | .bl b, _, h, Q => Q (.bl b) h
  | .non, _, h, Q => Q .non h
  | .gint _ n, _, h, Q => Q (.int n) h
  | .gstr _ s, _, h, Q => Q (.str s) h
  | .tup es, σ, h, Q => wEs C es σ h fun ds h1 => ds.length ≤ LINE ∧ Q (.tup ds) h1
  | .lst es, σ, h, Q => wEs C es σ h fun ds h1 => ds.length ≤ LINE ∧ ∀ r, h1 r = none → Q (.ref r) (up h1 r (.lst ds))
  | .dct k es, σ, h, Q => match es with
    | .nil => ∀ r, h r = none → Q (.ref r) (up h r (.dct k []))
    | .cons e es => ∀ r, h r = none → wE C e σ (up h r (.dct k [])) fun d h1 => wEs C es σ h1 fun ds h2 => h2 r = some (.dct k []) ∧ aSome (pairUp (d :: ds)) fun kvs => keysOk k kvs = true ∧ Q (.ref r) (up h2 r (.dct k (mergeL [] kvs)))
  | .dcn, _, h, Q => ∀ r, h r = none → Q (.ref r) (up h r (.dcn []))
  | .bin o a b, σ, h, Q => wE C a σ h fun x h1 => wE C b σ h1 fun y h2 => opBin o x y h2 Q
  | .neg a, σ, h, Q => wE C a σ h fun x h1 => match x with
    | .int i => Q (.int (-i)) h1
    | _ => False
  | .cmp o a b, σ, h, Q => wE C a σ h fun x h1 => wE C b σ h1 fun y h2 => opCmp o x y h2 fun c => Q (.bl c) h2
  | .chn o o' a b c, σ, h, Q => wE C a σ h fun x h1 => wE C b σ h1 fun y h2 => opCmp o x y h2 fun k => match k with
    | true => wE C c σ h2 fun z h3 => opCmp o' y z h3 fun k' => Q (.bl k') h3
    | false => Q (.bl false) h2
  | .bop isAnd es, σ, h, Q => wB C isAnd es σ h Q
  | .not a, σ, h, Q => wE C a σ h fun x h1 => match x with
    | .bl b => Q (.bl (!b)) h1
    | _ => False
  | .ite c a b, σ, h, Q => wE C c σ h fun x h1 => match x with
    | .bl true => wE C a σ h1 Q
    | .bl false => wE C b σ h1 Q
    | _ => False
  | .ix a i, σ, h, Q => wE C a σ h fun x h1 => wE C i σ h1 fun y h2 => opIx x y h2 Q
  | .sl a lo hi, σ, h, Q => wE C a σ h fun x h1 => wO C lo σ h1 fun l h2 => wO C hi σ h2 fun u h3 => opSl x l u h3 Q
  | .call f es, σ, h, Q => wEs C es σ h fun ds h1 => C.call f ds h1 Q C.ex
  | .callD f k es, σ, h, Q => wEs C es σ h fun ds h1 => C.call f (ds ++ List.replicate k .non) h1 Q C.ex
  | .smv e, σ, h, Q => wE C e σ h fun x h1 => aVals x h1 fun kvs => aSome (intsOf (kvs.map (·.2))) fun ns => Q (.int ns.sum) h1
  | .fld e f, σ, h, Q => wE C e σ h fun x h1 => aIns x h1 fun _ _ fs => aSome (fs.lookup f) fun v => Q v h1
  | .newo c es, σ, h, Q => wEs C es σ h fun ds h1 => C.call (mkN c) ds h1 Q C.ex
  | .mcall c m o es, σ, h, Q => wE C o σ h fun x h1 => aIns x h1 fun p c' fs => c' = c ∧ fs.lookup m = none ∧ wEs C es σ h1 fun ds h2 => C.call (metN c m) (.ref p :: ds) h2 Q C.ex
  | .blt b es, σ, h, Q => wEs C es σ h fun ds h1 => opBlt b ds h1 Q
  | .isi a t, σ, h, Q => wE C a σ h fun x h1 => match opIsi x t h1 with
    | some b => Q (.bl b) h1
    | none => False
  | .mth m o es, σ, h, Q => wE C o σ h fun x h1 => recvOk m x h1 ∧ wEs C es σ h1 fun ds h2 => opMth m x ds h2 Q
  | .lc elt t own k src ifs, σ, h, Q => wEs C src σ h fun ds h1 => walk k ds h1 fun xs ok =>
      compW xs ok (fun x h2 yes no => match setT t x (forget σ own) with
        | some σ' => wB C true ifs σ' h2 fun c h3 => match c with
          | .bl true => wE C elt σ' h3 yes
          | .bl false => no h3
          | _ => False
        | none => False) (fun acc h2 => ∀ r, h2 r = none → Q (.ref r) (up h2 r (.lst acc))) h1
  | .bad, _, _, _ => False
  | .lock i e, σ, h, Q => lockAt σ i h fun p kd kvs => wE C e σ (up h p (.rdct kd kvs)) fun d h' => Q d (up h' p (.dct kd kvs))
  | .lzip es, σ, h, Q => wEs C es σ h fun ds h2 => arg2 ds fun x y => aTup x fun xs => aTup y fun ys => ∀ r, h2 r = none → Q (.ref r) (up h2 r (.lst (zipL xs ys)))
  | .lrng es, σ, h, Q => wEs C es σ h fun ds h1 => aRng ds fun lo hi => ∀ r, h1 r = none → Q (.ref r) (up h1 r (.lst (rangeL lo hi)))
  | .rev a, σ, h, Q => wE C a σ h fun x h1 => aLst x h1 fun _ xs => ∀ r, h1 r = none → Q (.ref r) (up h1 r (.lst xs.reverse))
  | .mnd es, σ, h, Q => wEs C es σ h fun ds h1 => minD ds h1 Q
  | .orv a b, σ, h, Q => wE C a σ h fun x h1 => match x with
    | .non => wE C b σ h1 Q
    | .int i => (i ≠ 0 → Q (.int i) h1) ∧ (i = 0 → wE C b σ h1 Q)
    | _ => False
  | .slw a lo hi, σ, h, Q => wE C a σ h fun x h1 => wO C lo σ h1 fun l h2 => wO C hi σ h2 fun u h3 => opSlW x l u h3 Q
  | .tlr a, σ, h, Q => wE C a σ h fun x h1 => aTup x fun xs => Q (.tup xs.tail.reverse) h1
  | .tix _ tab a, σ, h, Q => wE C a σ h fun x h1 => match x with
    | .str s => (match tab.lookup s with
      | some t => Q (.str t) h1
      | none => False)
    | _ => False
def wEs (C : Cx) : Es → St → AH → (List D → AH → Prop) → Prop
  | .nil, _, h, Q => Q [] h
  | .cons e es, σ, h, Q => wE C e σ h fun d h1 => wEs C es σ h1 fun ds h2 => Q (d :: ds) h2
/-- and, or: the empty one is True, False -/
def wB (C : Cx) : Bool → Es → St → AH → VQ → Prop
  | isAnd, .nil, _, h, Q => Q (.bl isAnd) h
  | isAnd, .cons e es, σ, h, Q => wE C e σ h fun d h1 => match d with
    | .bl b => (match b == isAnd with
      | true => wB C isAnd es σ h1 Q
      | false => Q (.bl b) h1)
    | _ => False
def wO (C : Cx) : Es → St → AH → (Option Int → AH → Prop) → Prop
  | .nil, _, h, Q => Q none h
  | .cons e .nil, σ, h, Q => wE C e σ h fun d h1 => match d with
    | .int n => Q (some n) h1
    | _ => False
  | .cons _ (.cons _ _), _, _, _ => False
end
/-- a test -/
def wT (C : Cx) (e : E) (σ : St) (h : AH) (Q : Bool → AH → Prop) : Prop := wE C e σ h fun d h1 => match d with
  | .bl b => Q b h1
  | _ => False

mutual
def wS (C : Cx) : S → Ends → St → AH → Prop
  | .asg t e, R, σ, h => wE C e σ h fun d h1 => match setT t d σ with
    | some σ' => R.nx σ' h1
    | none => False
  | .sfld c o f e, R, σ, h => wE C e σ h fun v h1 => wE C o σ h1 fun x h2 => aIns x h2 fun p c' fs => c' = c ∧ fs.length < 1000 ∧ R.nx σ (up h2 p (.ins c (putA f v fs)))
  | .six o i e, R, σ, h => wE C e σ h fun v h1 => wE C o σ h1 fun x h2 => wE C i σ h2 fun y h3 => opSet x y v h3 fun h4 => R.nx σ h4
  | .aug i o e, R, σ, h => match σ[i]? with
    | some (some x) => wE C e σ h fun y h1 => opAug o x y fun z => R.nx (σ.set i (some z)) h1
    | _ => False
  | .ex e, R, σ, h => wE C e σ h fun _ h1 => R.nx σ h1
  | .ret e, R, σ, h => wE C e σ h R.rt
  | .retN, R, σ, h => R.rt .non h
  | .ife c a b, R, σ, h => wT C c σ h fun k h1 => match k with
    | true => wSs C a R σ h1
    | false => wSs C b R σ h1
  | .whl c b, R, σ, h => ∃ W : Nat → St → AH → Prop, (∃ m, W m σ h) ∧ ∀ m σ h, W m σ h → wT C c σ h fun k h1 => match k with
    | true => wSs C b { nx := fun σ' h' => ∃ m', m' < m ∧ W m' σ' h', ct := fun σ' h' => ∃ m', m' < m ∧ W m' σ' h', bk := R.nx, rt := R.rt } σ h1
    | false => R.nx σ h1
  | .for_ t k src b, R, σ, h => wEs C src σ h fun ds h1 => walk k ds h1 fun xs ok =>
      loopW xs ok (fun x σ h P => match setT t x σ with
        | some σ' => wSs C b { nx := P, ct := P, bk := R.nx, rt := R.rt } σ' h
        | none => False) R.nx σ h1
  | .pass, R, σ, h => R.nx σ h
  | .brk, R, σ, h => R.bk σ h
  | .cont, R, σ, h => R.ct σ h
  | .bad, _, _, _ => False
  | .lock i s, R, σ, h => lockAt σ i h fun p kd kvs => wS C s { nx := fun σ' h' => R.nx σ' (up h' p (.dct kd kvs)), rt := fun d h' => R.rt d (up h' p (.dct kd kvs)), bk := fun σ' h' => R.bk σ' (up h' p (.dct kd kvs)), ct := fun σ' h' => R.ct σ' (up h' p (.dct kd kvs)) } σ (up h p (.rdct kd kvs))
  | .lock2 i s, R, σ, h => (lockAt σ i h fun p kd kvs => wS C s { nx := fun σ' h' => R.nx σ' (up h' p (.dct kd kvs)), rt := fun d h' => R.rt d (up h' p (.dct kd kvs)), bk := fun σ' h' => R.bk σ' (up h' p (.dct kd kvs)), ct := fun σ' h' => R.ct σ' (up h' p (.dct kd kvs)) } σ (up h p (.rdct kd kvs))) ∨ wS C s R σ h
def wSs (C : Cx) : Ss → Ends → St → AH → Prop
  | .nil, R, σ, h => R.nx σ h
  | .cons s ss, R, σ, h => wS C s { R with nx := fun σ' h' => wSs C ss R σ' h' } σ h
end

/-- a def: its parameters' number, all its names' number, its body -/
structure FD where
  ps : Nat
  n : Nat
  body : Ss
abbrev Prog := Sx → Option FD
def pOf (l : List (Sx × FD)) : Prog := fun f => (l.find? fun p => p.1 == f).map (·.2)
def start (fd : FD) (ds : List D) : St := ds.map some ++ List.replicate (fd.n - fd.ps) none
def run (P : Prog) : Nat → Sx → List D → AH → VQ → XP → Prop
  | 0, _, _, _, _, _ => False
  | n + 1, f, ds, h, Q, X => match P f with
    | some fd => ds.length = fd.ps ∧ wSs ⟨run P n, X⟩ fd.body { nx := fun _ h' => Q .non h', rt := Q, bk := fun _ _ => False, ct := fun _ _ => False } (start fd ds) h
    | none => match f with
      | 1114112 :: c => ∀ r, h r = none → run P n (metN c sInit) (.ref r :: ds) (up h r (.ins c [])) (fun d h2 => d = .non ∧ Q (.ref r) h2) X
      | _ => False
end
end M
end
section
/-! Sound1: how the model's values and heap bear the IR's. -/
namespace Snd
open PySem L2
abbrev SD := M.D
/-- what stands in the frame, the program, the world -/
structure Fr where
  K : PySem.W.Frag
  P : Program
  w : World
  mg : Str → Option Value
instance : Coe Fr PySem.W.Frag := ⟨Fr.K⟩
abbrev _root_.L2.Cx.F (X : L2.Cx) : Fr := ⟨X.K, X.prog, X.w, X.mg⟩

def sV (s : M.Sx) : Str := ⟨s.toArray⟩
def sOk (s : M.Sx) : Prop := ∀ c ∈ s, c < 0x110000
def KTup (K : Fr) (a : Addr) (vs : List V) : Prop := ∃ (o : Obj) (its : Array Value) (n : Nat), K.K.lookup a = some o ∧ o.cls = .type "tuple" ∧ o.data = .seq its n ∧ its.size ≤ sizeLine ∧ Vals vs its.toList
def KLst (K : Fr) (a : Addr) (vs : List V) : Prop := ∃ (o : Obj) (its : Array Value) (n : Nat), K.K.lookup a = some o ∧ o.cls = .type "list" ∧ o.dict = none ∧ o.data = .seq its n ∧ its.size ≤ sizeLine ∧ Vals vs its.toList

mutual
def Rep (K : Fr) (H : Hp) : SD → V → Prop
  | .non, v => v = .non
  | .bl b, v => v = .bl b
  | .int i, v => v = .int i
  | .str s, v => v = .str (sV s) ∧ sOk s
  | .tup ds, v => ∃ a vs, v = .ref a ∧ (H a = some (.tup vs) ∨ KTup K a vs) ∧ Reps K H ds vs
  | .rol ds, v => ∃ a vs, v = .ref a ∧ ((∃ o, H a = some (.frz o (.lst vs))) ∨ KLst K a vs) ∧ Reps K H ds vs
  | .ref a, v => v = .ref a
def Reps (K : Fr) (H : Hp) : List SD → List V → Prop
  | [], vs => vs = []
  | d :: ds, vs => ∃ v r, vs = v :: r ∧ Rep K H d v ∧ Reps K H ds r
end

/-- dict keys -/
def keyV : SD → Option Key
  | .int i => some (.inl i)
  | .str s => some (.inr (sV s))
  | _ => none
/-! nested keys -/
mutual
def nK : SD → NestedKey
  | .int i => .num i
  | .str s => .text (sV s)
  | .tup ds => .tup (nKs ds)
  | _ => .none
def nKs : List SD → List NestedKey
  | [] => []
  | d :: ds => nK d :: nKs ds
end
/-- the dict at a with nested keys: its entries (the tuples that are keys by where they lie) -/
def EntO (P : Program) (w : World) (a : Addr) (xs : List (NestedKey × Addr × V)) (h : Heap) : Prop := xs.length ≤ sizeLine ∧ (a == sysModules) = false ∧ ∃ ys : List (NestedKey × Addr × Value), Paired (fun p q => p.1 = q.1 ∧ p.2.1 = q.2.1 ∧ RelV p.2.2 q.2.2) xs ys ∧
  ∃ o es ep, h.get? a = some o ∧ o.ExactDict ∧ o.data = .dict es ep ∧ es.toList = ys.map (entryOfKey (nestedKind P w)) ∧ (ys.map (·.1)).Nodup
def ObRep (K : Fr) (H : Hp) (a : Addr) : M.Ob → Prop
  | .lst xs => ∃ vs, H a = some (.lst vs) ∧ Reps K H xs vs
  | .dct 0 kvs => ∃ ps : List (Key × V), H a = some (.dK ps) ∧ Paired (fun (x : SD × SD) (p : Key × V) => keyV x.1 = some p.1 ∧ (∀ s, x.1 = .str s → sOk s) ∧ Rep K H x.2 p.2) kvs ps
  | .rdct 0 kvs => ∃ (od : Obj) (ps : List (Key × V)), H a = some (.frz od (.dK ps)) ∧ Paired (fun (x : SD × SD) (p : Key × V) => keyV x.1 = some p.1 ∧ (∀ s, x.1 = .str s → sOk s) ∧ Rep K H x.2 p.2) kvs ps
  | .dcn kvs => ∃ xs : List (NestedKey × Addr × V), H a = some (.ext (EntO K.P K.w a xs)) ∧ Paired (fun (x : SD × SD) (p : NestedKey × Addr × V) => p.1 = nK x.1 ∧ M.nkOk x.1 = true ∧ Rep K H x.1 (.ref p.2.1) ∧ Rep K H x.2 p.2.2) kvs xs
  | .ins c fs => ∃ (C dx : Addr) (ps : List (Str × V)), H a = some (.ins C dx ps) ∧ K.mg (sV c) = some (.ref C) ∧ Cls K.K C ∧ Paired (fun (x : M.Sx × SD) (p : Str × V) => p.1 = sV x.1 ∧ NoAttr K.K C p.1 ∧ Rep K H x.2 p.2) fs ps
  | _ => False
def RH (K : Fr) (H : Hp) (h : M.AH) : Prop := ∀ a o, h a = some o → ObRep K H a o
/-- not in h, or locked -/
def Fre (h : M.AH) (a : Addr) : Prop := ∀ o, h a = some o → o.lk = true
/-- what is tracked and not in h, or locked there, stays as it is -/
def Frm (H : Hp) (h : M.AH) (H' : Hp) (h' : M.AH) : Prop := ∀ a o, H a = some o → Fre h a → H' a = some o ∧ h' a = h a
/-- names -/
def RS (K : Fr) (H : Hp) (σ : L2.St) (σa : M.St) : Prop := σ.length = σa.length ∧ ∀ (i : Nat) d, σa[i]? = some (some d) → ∃ v, σ[i]? = some (some v) ∧ Rep K H d v
/-- tuples and locked lists stay -/
def Kp (H H' : Hp) : Prop := (∀ a vs, H a = some (.tup vs) → H' a = some (.tup vs)) ∧ ∀ a o u, H a = some (.frz o (.lst u)) → H' a = some (.frz o (.lst u))
/-- what is locked stays -/
def Fz (H H' : Hp) : Prop := ∀ a o u, H a = some (.frz o u) → H' a = some (.frz o u)

section
variable {K : Fr} {H H1 H2 H' : Hp} {h h1 h2 h' : M.AH}
theorem Fre.none {a : Addr} (n : h a = none) : Fre h a := fun o e => by rw [n] at e; cases e
theorem Fre.eq {a : Addr} (e : h' a = h a) (n : Fre h a) : Fre h' a := fun o z => n o (by rw [← e]; exact z)
theorem Frm.refl : Frm H h H h := fun _ _ e n => ⟨e, rfl⟩
theorem Frm.trans (a : Frm H h H1 h1) (b : Frm H1 h1 H2 h2) : Frm H h H2 h2 := fun x o e n => by
  obtain ⟨e1, n1⟩ := a x o e n
  obtain ⟨e2, n2⟩ := b x o e1 (fun o z => n o (by rw [← n1]; exact z))
  exact ⟨e2, n2.trans n1⟩
theorem ObRep.some {a : Addr} {o : M.Ob} (r : ObRep K H a o) : ∃ u, H a = some u ∧ (∀ vs, u ≠ .tup vs) ∧ (∀ ob w, u ≠ .frz ob (.lst w)) ∧ ∀ ob w, u = .frz ob w → o.lk = true := by
  match o, r with
  | .lst xs, ⟨vs, e, _⟩ => exact ⟨_, e, (by intro _ z; cases z), (by intro _ _ z; cases z), by intro _ _ z; cases z⟩
  | .dct 0 kvs, ⟨vs, e, _⟩ => exact ⟨_, e, (by intro _ z; cases z), (by intro _ _ z; cases z), by intro _ _ z; cases z⟩
  | .rdct 0 kvs, ⟨od, vs, e, _⟩ => exact ⟨_, e, (by intro _ z; cases z), (by intro _ _ z; cases z), fun _ _ _ => rfl⟩
  | .ins c fs, ⟨C, dx, ps, e, _⟩ => exact ⟨_, e, (by intro _ z; cases z), (by intro _ _ z; cases z), by intro _ _ z; cases z⟩
  | .dcn kvs, ⟨xs, e, _⟩ => exact ⟨_, e, (by intro _ z; cases z), (by intro _ _ z; cases z), by intro _ _ z; cases z⟩
theorem RH.none_tup (r : RH K H h) {a : Addr} {vs : List V} (e : H a = some (.tup vs)) : h a = none := by
  cases q : h a with
  | none => rfl
  | some o =>
    obtain ⟨u, e', n, _⟩ := (r a o q).some
    rw [e] at e'
    exact absurd (Option.some.inj e').symm (n vs)
theorem RH.fre_frz (r : RH K H h) {a : Addr} {ob u} (e : H a = some (.frz ob u)) : Fre h a := fun o q => by
  obtain ⟨w, e', _, _, n⟩ := (r a o q).some
  rw [e] at e'
  exact n ob u (Option.some.inj e').symm
theorem RH.none (r : RH K H h) {a : Addr} (e : H a = none) : h a = none := by
  cases q : h a with
  | none => rfl
  | some o =>
    obtain ⟨w, e', _, n⟩ := (r a o q).some
    rw [e] at e'
    cases e'
theorem Frm.kp (f : Frm H h H' h') (r : RH K H h) : Kp H H' := ⟨fun _ _ e => (f _ _ e (.none (r.none_tup e))).1, fun _ _ _ e => (f _ _ e (r.fre_frz e)).1⟩
theorem Frm.fz (f : Frm H h H' h') (r : RH K H h) : Fz H H' := fun _ _ _ e => (f _ _ e (r.fre_frz e)).1
theorem Fz.refl : Fz H H := fun _ _ _ e => e
theorem Fz.trans (a : Fz H H1) (b : Fz H1 H2) : Fz H H2 := fun x o u e => b x o u (a x o u e)
theorem Kp.refl : Kp H H := ⟨fun _ _ e => e, fun _ _ _ e => e⟩
theorem Kp.trans (a : Kp H H1) (b : Kp H1 H2) : Kp H H2 := ⟨fun x v e => b.1 x v (a.1 x v e), fun x o u e => b.2 x o u (a.2 x o u e)⟩
mutual
theorem Rep.kp (k : Kp H H') : ∀ {d : SD} {v : V}, Rep K H d v → Rep K H' d v
  | .non, _, r => r
  | .bl _, _, r => r
  | .int _, _, r => r
  | .str _, _, r => r
  | .ref _, _, r => r
  | .tup _, _, ⟨a, vs, e, t, rs⟩ => ⟨a, vs, e, t.imp (k.1 _ _) id, Reps.kp k rs⟩
  | .rol _, _, ⟨a, vs, e, t, rs⟩ => ⟨a, vs, e, t.imp (fun ⟨o, z⟩ => ⟨o, k.2 _ _ _ z⟩) id, Reps.kp k rs⟩
theorem Reps.kp (k : Kp H H') : ∀ {ds : List SD} {vs : List V}, Reps K H ds vs → Reps K H' ds vs
  | [], _, r => r
  | _ :: _, _, ⟨v, r, e, a, b⟩ => ⟨v, r, e, Rep.kp k a, Reps.kp k b⟩
end
theorem RS.kp {σ : L2.St} {σa : M.St} (k : Kp H H') (r : RS K H σ σa) : RS K H' σ σa := ⟨r.1, fun i d e => let ⟨v, e1, q⟩ := r.2 i d e; ⟨v, e1, q.kp k⟩⟩
theorem ObRep.kp {a : Addr} {o : M.Ob} (k : Kp H H') (e : H' a = H a) (r : ObRep K H a o) : ObRep K H' a o := by
  match o, r with
  | .lst xs, ⟨vs, q, r⟩ => exact ⟨vs, e.trans q, r.kp k⟩
  | .dct 0 kvs, ⟨vs, q, r⟩ => exact ⟨vs, e.trans q, Paired.mapP r fun _ _ z => ⟨z.1, z.2.1, z.2.2.kp k⟩⟩
  | .rdct 0 kvs, ⟨od, vs, q, r⟩ => exact ⟨od, vs, e.trans q, Paired.mapP r fun _ _ z => ⟨z.1, z.2.1, z.2.2.kp k⟩⟩
  | .ins c fs, ⟨C, dx, ps, q, m, cl, r⟩ => exact ⟨C, dx, ps, e.trans q, m, cl, Paired.mapP r fun _ _ z => ⟨z.1, z.2.1, z.2.2.kp k⟩⟩
  | .dcn kvs, ⟨xs, q, r⟩ => exact ⟨xs, e.trans q, Paired.mapP r fun _ _ z => ⟨z.1, z.2.1, z.2.2.1.kp k, z.2.2.2.kp k⟩⟩
theorem Reps.length : ∀ {ds : List SD} {vs : List V}, Reps K H ds vs → vs.length = ds.length
  | [], _, r => by cases (show _ = [] from r); rfl
  | _ :: _, _, ⟨v, r, e, _, b⟩ => by subst e; simp [Reps.length b]
theorem Reps.get : ∀ {ds : List SD} {vs : List V} {i : Nat} {d : SD}, Reps K H ds vs → ds[i]? = some d → ∃ v, vs[i]? = some v ∧ Rep K H d v
  | [], _, _, _, _, e => by simp at e
  | _ :: _, _, 0, d, ⟨v, r, e, a, _⟩, q => by subst e; simp at q; subst q; exact ⟨v, rfl, a⟩
  | _ :: _, _, i + 1, d, ⟨v, r, e, _, b⟩, q => by subst e; obtain ⟨w, z, y⟩ := Reps.get (i := i) b (by simpa using q); exact ⟨w, by simpa using z, y⟩
theorem Reps.append : ∀ {ds es : List SD} {vs ws : List V}, Reps K H ds vs → Reps K H es ws → Reps K H (ds ++ es) (vs ++ ws)
  | [], _, _, _, r, s => by cases (show _ = [] from r); exact s
  | _ :: _, _, _, _, ⟨v, r, e, a, b⟩, s => by subst e; exact ⟨v, _, rfl, a, Reps.append b s⟩
theorem Reps.one {d : SD} {v : V} (r : Rep K H d v) : Reps K H [d] [v] := ⟨v, [], rfl, r, rfl⟩
theorem Reps.take : ∀ (n : Nat) {ds : List SD} {vs : List V}, Reps K H ds vs → Reps K H (ds.take n) (vs.take n)
  | 0, _, _, _ => by simp [Reps]
  | n + 1, [], _, r => by cases (show _ = [] from r); simp [Reps]
  | n + 1, _ :: _, _, ⟨v, r, e, a, b⟩ => by subst e; exact ⟨v, _, rfl, a, Reps.take n b⟩
theorem Reps.drop : ∀ (n : Nat) {ds : List SD} {vs : List V}, Reps K H ds vs → Reps K H (ds.drop n) (vs.drop n)
  | 0, _, _, r => r
  | n + 1, [], _, r => by cases (show _ = [] from r); simp [Reps]
  | n + 1, _ :: _, _, ⟨v, r, e, a, b⟩ => by subst e; exact Reps.drop n b
theorem Reps.set {d : SD} {v : V} (q : Rep K H d v) : ∀ (n : Nat) {ds : List SD} {vs : List V}, Reps K H ds vs → Reps K H (ds.set n d) (vs.set n v)
  | _, [], _, r => by cases (show _ = [] from r); simp [Reps]
  | 0, _ :: _, _, ⟨w, r, e, a, b⟩ => by subst e; exact ⟨v, r, rfl, q, b⟩
  | n + 1, _ :: _, _, ⟨w, r, e, a, b⟩ => by subst e; exact ⟨w, _, rfl, a, Reps.set q n b⟩
theorem Reps.rev : ∀ {ds : List SD} {vs : List V}, Reps K H ds vs → Reps K H ds.reverse vs.reverse
  | [], _, r => by cases (show _ = [] from r); simp [Reps]
  | _ :: _, _, ⟨w, r, e, a, b⟩ => by subst e; rw [List.reverse_cons, List.reverse_cons]; exact (Reps.rev b).append (.one a)
theorem Reps.nil {vs : List V} (r : Reps K H [] vs) : vs = [] := r
theorem Reps.cons {d : SD} {ds : List SD} {v : V} {vs : List V} (a : Rep K H d v) (b : Reps K H ds vs) : Reps K H (d :: ds) (v :: vs) := ⟨v, vs, rfl, a, b⟩
theorem Reps.rep {ds : List SD} {vs : List V} (r : Reps K H ds vs) : ∀ k : Nat, Reps K H (List.replicate k ds).flatten (List.replicate k vs).flatten
  | 0 => by simp [Reps]
  | k + 1 => by rw [List.replicate_succ, List.flatten_cons, List.replicate_succ, List.flatten_cons]; exact r.append (Reps.rep r k)
theorem Reps.dropLast {ds : List SD} {vs : List V} (r : Reps K H ds vs) : Reps K H ds.dropLast vs.dropLast := by
  rw [List.dropLast_eq_take, List.dropLast_eq_take, r.length]
  exact r.take _

/-! ### a new object, a written one -/
theorem up_same {a : Nat} {o : M.Ob} : M.up h a o a = some o := by unfold M.up; rw [if_pos rfl]
theorem up_ne {a b : Nat} {o : M.Ob} (e : b ≠ a) : M.up h a o b = h b := by unfold M.up; rw [if_neg e]
theorem kp_new {p : Addr} {o : HO} (n : H p = none) : Kp H (upd H p o) := ⟨fun a vs e => by rw [upd_ne (ne_of_none e n)]; exact e, fun a ob u e => by rw [upd_ne (ne_of_none e n)]; exact e⟩
/-- an object that only the model knows (a tuple) -/
theorem frm_hid {p : Addr} {o : HO} (n : H p = none) : Frm H h (upd H p o) h := fun a u e q => ⟨by rw [upd_ne (ne_of_none e n)]; exact e, rfl⟩
theorem rh_hid {p : Addr} {o : HO} (r : RH K H h) (n : H p = none) : RH K (upd H p o) h := fun a u e => (r a u e).kp (kp_new n) (by
  obtain ⟨w, z, _⟩ := (r a u e).some
  exact upd_ne (ne_of_none z n))
theorem frm_new {p : Addr} {o : HO} {ob : M.Ob} (n : H p = none) : Frm H h (upd H p o) (M.up h p ob) := fun a u e q => by
  have ne := ne_of_none e n
  exact ⟨by rw [upd_ne ne]; exact e, up_ne ne⟩
theorem rh_new {p : Addr} {o : HO} {ob : M.Ob} (r : RH K H h) (n : H p = none) (q : ObRep K (upd H p o) p ob) : RH K (upd H p o) (M.up h p ob) := fun a u e => by
  by_cases z : a = p
  · subst z; rw [up_same] at e; cases e; exact q
  · rw [up_ne z] at e; exact rh_hid r n a u e
/-- a written object -/
theorem kp_put {p : Addr} {o : HO} {ob : M.Ob} (r : RH K H h) (e : h p = some ob) : Kp H (upd H p o) := by
  obtain ⟨u, z, n1, n2, _⟩ := (r p ob e).some
  refine ⟨fun a vs q => ?_, fun a ob u q => ?_⟩
  · rw [upd_ne (fun y => by subst y; rw [z] at q; exact n1 _ (Option.some.inj q))]; exact q
  · rw [upd_ne (fun y => by subst y; rw [z] at q; exact n2 _ _ (Option.some.inj q))]; exact q
theorem frm_put {p : Addr} {o : HO} {ob ob' : M.Ob} (e : h p = some ob) (nl : ob.lk = false := by rfl) : Frm H h (upd H p o) (M.up h p ob') := fun a u z q => by
  have ne : a ≠ p := fun y => by subst y; rw [q _ e] at nl; cases nl
  exact ⟨by rw [upd_ne ne]; exact z, up_ne ne⟩
/-- locked, and unlocked behind it -/
theorem frm_lock {p : Addr} {o o' : HO} {ob ob1 ob2 : M.Ob} (e : h p = some ob) (nl : ob.lk = false) (f : Frm (upd H p o) (M.up h p ob1) H' h') : Frm H h (upd H' p o') (M.up h' p ob2) := fun a u z q => by
  have ne : a ≠ p := fun y => by subst y; rw [q _ e] at nl; cases nl
  obtain ⟨f1, f2⟩ := f a u (by rw [upd_ne ne]; exact z) (fun o z => q o (by rw [up_ne ne] at z; exact z))
  exact ⟨by rw [upd_ne ne]; exact f1, by rw [up_ne ne, f2, up_ne ne]⟩
theorem rh_put {p : Addr} {o : HO} {ob ob' : M.Ob} (r : RH K H h) (e : h p = some ob) (q : ObRep K (upd H p o) p ob') : RH K (upd H p o) (M.up h p ob') := fun a u z => by
  by_cases y : a = p
  · subst y; rw [up_same] at z; cases z; exact q
  · rw [up_ne y] at z
    exact (r a u z).kp (kp_put r e) (upd_ne y)
end
end Snd
end
section
/-! Sound2: the operations. -/
namespace Snd
open PySem L2 PySem.Spec PyProof.Rows

/-- what stands behind: Q of whatever bears d, in whatever heap bears h' -/
def Kont (K : Fr) (H : Hp) (h : M.AH) (Qa : M.VQ) (Q : VK) : Prop := ∀ d h' v H', Qa d h' → Frm H h H' h' → Rep K H' d v → RH K H' h' → Q v H'
/-- the same of a truth, of the heap -/
def KontB (K : Fr) (H : Hp) (h : M.AH) (Qa : Bool → Prop) (Q : VK) : Prop := ∀ b, Qa b → Q (.bl b) H
section
variable {K : Fr} {H H1 H' : Hp} {h h1 h' : M.AH} {Qa : M.VQ} {Q : VK}
theorem Kont.go (k : Kont K H h Qa Q) (f : Frm H h H1 h1) : Kont K H1 h1 Qa Q := fun d h' v H' q f' r rh => k d h' v H' q (f.trans f') r rh
theorem Kont.now (k : Kont K H h Qa Q) (rh : RH K H h) {d : SD} {v : V} (q : Qa d h) (r : Rep K H d v) : Q v H := k d h v H q .refl r rh
theorem line_eq : (sizeLine : Nat) = M.LINE := by rw [sizeLine_eq]; rfl
theorem sV_len (s : M.Sx) : (sV s).length = s.length := by simp [sV, Str.length]
theorem sV_app (a b : M.Sx) : sV a ++ sV b = sV (a ++ b) := by
  show Str.append _ _ = _
  simp [sV, Str.append]
theorem sV_inj {a b : M.Sx} (e : sV a = sV b) : a = b := by
  have e1 : a.toArray = b.toArray := congrArg Str.cps e
  simpa using congrArg Array.toList e1
theorem sV_cps (a : M.Sx) : (sV a).cps.toList = a := by simp [sV]
theorem sOk_app {a b : M.Sx} (x : sOk a) (y : sOk b) : sOk (a ++ b) := fun c hc => (List.mem_append.mp hc).elim (x c) (y c)

/-! ### two places -/
def rAddS : R2 := fun x y H Q => ∃ i j, x = .str i ∧ y = .str j ∧ i.length + j.length ≤ sizeLine ∧ Q (.str (i ++ j)) H
def rPow : R2 := rI CPow fun i j => .int (i ^ j.toNat)
def rAdd4 (K : Fr) : R2 := fun x y H Q => (rI0 fun i j => .int (i + j)) x y H Q ∨ rAddS x y H Q ∨ rCatA K x y H Q ∨ rCat x y H Q
def rMul3 : R2 := fun x y H Q => (rI CMul fun i j => .int (i * j)) x y H Q ∨ (rI CMulW fun i j => .int (i * j)) x y H Q ∨ rRep x y H Q
def rBin (K : Fr) : M.Bop → R2
  | .add => rAdd4 K
  | .sub => rI0 fun i j => .int (i - j)
  | .mul => rMul3
  | .mod => rI (fun _ j => 0 < j) fun i j => .int (i % j)
  | .fdiv => rI CDivW fun i j => .int (i / j)
  | .pow => rPow
def bop : M.Bop → Operator
  | .add => .Add | .sub => .Sub | .mul => .Mult | .mod => .Mod | .fdiv => .FloorDiv | .pow => .Pow
theorem op_bin {X : Cx} (o : M.Bop) : OpR X (binaryOp (bop o)) (rBin X.F o) := by
  cases o
  · exact op_add.or (op_add_str.or (op_catA.or op_cat))
  · exact op_sub
  · exact op_mul.or (op_mulW.or op_rep)
  · exact op_mod
  · exact op_fdivW
  · exact op_pow
theorem log_small {b : Int} (h0 : 0 < b) (h1 : b < 2 ^ 64) : b.natAbs.log2 < 9000 :=
  (wide_div (i := 0) (b := 64) h0 (by omega) (by decide) (by decide)).2
theorem opInt_inv {f : Int → Int → (Int → Prop) → Prop} {dx dy : SD} (q : M.opInt f dx dy h Qa) : ∃ a b, dx = .int a ∧ dy = .int b ∧ f a b fun c => Qa (.int c) h := by
  cases dx with
  | int a => cases dy with
    | int b => exact ⟨a, b, rfl, rfl, q⟩
    | _ => exact False.elim q
  | _ => exact False.elim q
theorem opAdd_inv {dx dy : SD} (q : M.opAdd dx dy h Qa) : (∃ a b, dx = .int a ∧ dy = .int b ∧ Qa (.int (a + b)) h) ∨ (∃ a b, dx = .str a ∧ dy = .str b ∧ a.length + b.length ≤ M.LINE ∧ Qa (.str (a ++ b)) h) ∨
    (∃ a b, dx = .tup a ∧ dy = .tup b ∧ a.length + b.length ≤ M.LINE ∧ Qa (.tup (a ++ b)) h) ∨
    ∃ p p2, dx = .ref p ∧ dy = .ref p2 ∧ ∃ xs ys, h p = some (.lst xs) ∧ h p2 = some (.lst ys) ∧ xs.length + ys.length ≤ M.LINE ∧ ∀ r, h r = none → Qa (.ref r) (M.up h r (.lst (xs ++ ys))) := by
  cases dx with
  | int a => cases dy with
    | int b => exact .inl ⟨a, b, rfl, rfl, q⟩
    | _ => exact False.elim q
  | str a => cases dy with
    | str b => exact .inr (.inl ⟨a, b, rfl, rfl, q.1, q.2⟩)
    | _ => exact False.elim q
  | tup a => cases dy with
    | tup b => exact .inr (.inr (.inl ⟨a, b, rfl, rfl, q.1, q.2⟩))
    | _ => exact False.elim q
  | ref a => cases dy with
    | ref b => exact .inr (.inr (.inr ⟨a, b, rfl, rfl, q⟩))
    | _ => exact False.elim q
  | _ => exact False.elim q
theorem opMul_inv {dx dy : SD} (q : M.opMul dx dy h Qa) : (∃ a b, dx = .int a ∧ dy = .int b ∧ M.mulOk a b ∧ Qa (.int (a * b)) h) ∨
    ∃ p n, dx = .ref p ∧ dy = .int n ∧ ∃ xs, h p = some (.lst xs) ∧ -(2 ^ 63) ≤ n ∧ n < 2 ^ 63 ∧ xs.length * n.toNat ≤ M.LINE ∧ ∀ r, h r = none → Qa (.ref r) (M.up h r (.lst (List.replicate n.toNat xs).flatten)) := by
  cases dx with
  | int a => cases dy with
    | int b => exact .inl ⟨a, b, rfl, rfl, q.1, q.2⟩
    | _ => exact False.elim q
  | ref a => cases dy with
    | int b => exact .inr ⟨a, b, rfl, rfl, q⟩
    | _ => exact False.elim q
  | _ => exact False.elim q
theorem add_ok {dx dy : SD} {x y : V} (rh : RH K H h) (rx : Rep K H dx x) (ry : Rep K H dy y) (q : M.opAdd dx dy h Qa) (k : Kont K H h Qa Q) : rAdd4 K x y H Q := by
  have hl := line_eq
  rcases opAdd_inv q with ⟨a, b, rfl, rfl, q⟩ | ⟨a, b, rfl, rfl, hz, q⟩ | ⟨a, b, rfl, rfl, hz, q⟩ | ⟨p, p2, rfl, rfl, xs, ys, e1, e2, hz, q⟩
  · cases (show x = _ from rx); cases (show y = _ from ry)
    exact .inl ⟨a, b, rfl, rfl, k.now rh q rfl⟩
  · obtain ⟨rx, ox⟩ := rx
    obtain ⟨ry, oy⟩ := ry
    subst rx; subst ry
    refine .inr (.inl ⟨sV a, sV b, rfl, rfl, by rw [sV_len, sV_len, hl]; exact hz, ?_⟩)
    rw [sV_app]
    exact k.now rh q ⟨rfl, sOk_app ox oy⟩
  · obtain ⟨p, vs, e1, t1, r1⟩ := rx
    obtain ⟨p2, ws, e2, t2, r2⟩ := ry
    subst e1; subst e2
    have l1 := r1.length
    have l2 := r2.length
    have s1 : SqT K H p vs := t1.imp .inl id
    have s2 : SqT K H p2 ws := t2.imp .inl id
    refine .inr (.inr (.inl ⟨p, p2, vs, ws, rfl, rfl, s1, s2, by omega, ?_⟩))
    · refine ⟨fun e => ?_, fun ne1 e => ?_, fun ne1 ne2 l hn => ?_⟩
      · have : a = [] := by
          subst e; cases a with
          | nil => rfl
          | cons _ _ => simp at l1
        subst this
        refine k.now rh q ⟨p2, ws, rfl, t2, by simpa using r2⟩
      · have : b = [] := by
          subst e; cases b with
          | nil => rfl
          | cons _ _ => simp at l2
        subst this
        refine k.now rh q ⟨p, vs, rfl, t1, by simpa using r1⟩
      · refine k _ _ _ _ q (frm_hid hn) ⟨l, vs ++ ws, rfl, .inl upd_same, (r1.kp (kp_new hn)).append (r2.kp (kp_new hn))⟩ (rh_hid rh hn)
  · cases (show x = _ from rx); cases (show y = _ from ry)
    obtain ⟨vs, a1, r1⟩ := rh p _ e1
    obtain ⟨ws, a2, r2⟩ := rh p2 _ e2
    have l1 := r1.length
    have l2 := r2.length
    refine .inr (.inr (.inr ⟨p, p2, vs, ws, rfl, rfl, a1, a2, by omega, fun l hn => ?_⟩))
    exact k _ _ _ _ (q l (rh.none hn)) (frm_new hn) rfl (rh_new rh hn ⟨_, upd_same, (r1.kp (kp_new hn)).append (r2.kp (kp_new hn))⟩)
theorem mul_ok {dx dy : SD} {x y : V} (rh : RH K H h) (rx : Rep K H dx x) (ry : Rep K H dy y) (q : M.opMul dx dy h Qa) (k : Kont K H h Qa Q) : rMul3 x y H Q := by
  have hl := line_eq
  rcases opMul_inv q with ⟨a, b, rfl, rfl, c, q⟩ | ⟨p, n, rfl, rfl, xs, e1, n1, n2, hz, q⟩
  · cases (show x = _ from rx); cases (show y = _ from ry)
    rcases c with c | c | ⟨m, m0, m1, m2, m3⟩
    · exact .inl ⟨a, b, rfl, rfl, .inl c, k.now rh q rfl⟩
    · exact .inl ⟨a, b, rfl, rfl, .inr c, k.now rh q rfl⟩
    · exact .inr (.inl ⟨a, b, rfl, rfl, wide_mul m2 m3 m0 m0 (by omega), k.now rh q rfl⟩)
  · cases (show x = _ from rx); cases (show y = _ from ry)
    obtain ⟨vs, a1, r1⟩ := rh p _ e1
    have l1 := r1.length
    refine .inr (.inr ⟨p, n, vs, rfl, rfl, a1, n1, n2, by rw [l1, hl]; exact hz, fun l hn => ?_⟩)
    exact k _ _ _ _ (q l (rh.none hn)) (frm_new hn) rfl (rh_new rh hn ⟨_, upd_same, (r1.kp (kp_new hn)).rep _⟩)
theorem bin_ok {o : M.Bop} {dx dy : SD} {x y : V} (rh : RH K H h) (rx : Rep K H dx x) (ry : Rep K H dy y) (q : M.opBin o dx dy h Qa) (k : Kont K H h Qa Q) : rBin K o x y H Q := by
  cases o with
  | add => exact add_ok rh rx ry q k
  | mul => exact mul_ok rh rx ry q k
  | sub =>
    simp only [M.opBin] at q
    obtain ⟨a, b, rfl, rfl, q⟩ := opInt_inv q
    cases (show x = _ from rx); cases (show y = _ from ry)
    exact ⟨a, b, rfl, rfl, k.now rh q rfl⟩
  | mod =>
    simp only [M.opBin] at q
    obtain ⟨a, b, rfl, rfl, c, q⟩ := opInt_inv q
    cases (show x = _ from rx); cases (show y = _ from ry)
    exact ⟨a, b, rfl, rfl, c, k.now rh q rfl⟩
  | fdiv =>
    simp only [M.opBin] at q
    obtain ⟨a, b, rfl, rfl, c, q⟩ := opInt_inv q
    cases (show x = _ from rx); cases (show y = _ from ry)
    exact ⟨a, b, rfl, rfl, ⟨c.1, log_small c.1 c.2⟩, k.now rh q rfl⟩
  | pow =>
    simp only [M.opBin] at q
    obtain ⟨a, b, rfl, rfl, c, q⟩ := opInt_inv q
    cases (show x = _ from rx); cases (show y = _ from ry)
    exact ⟨a, b, rfl, rfl, c, k.now rh q rfl⟩

/-! ### data as the model reads it -/
mutual
def toPy : SD → PyData
  | .non => .none
  | .bl b => .bool b
  | .int i => .int i
  | .str s => .str (sV s)
  | .tup ds => .tuple (toPys ds)
  | .rol ds => .list (toPys ds)
  | .ref _ => .none
def toPys : List SD → List PyData
  | [] => []
  | d :: ds => toPy d :: toPys ds
end
theorem ba {a b : Bool} (h : (a && b) = true) : a = true ∧ b = true := Bool.and_eq_true_iff.mp h
mutual
theorem rep_dp : ∀ {d : SD} {v : V}, M.pureD d = true → Rep K H d v → Dp K H v (toPy d)
  | .non, _, _, r => by cases (show _ = _ from r); exact .non
  | .int i, _, _, r => by cases (show _ = _ from r); exact .int i
  | .str s, _, _, r => by cases (show _ = _ from r.1); exact .str _
  | .tup ds, _, p, ⟨a, vs, e, t, rs⟩ => by subst e; exact .tup (t.imp .inl id) (reps_dp (by simpa only [M.pureD] using p) rs)
  | .bl _, _, p, _ => by simp [M.pureD] at p
  | .ref _, _, p, _ => by simp [M.pureD] at p
  | .rol _, _, p, _ => by simp [M.pureD] at p
theorem reps_dp : ∀ {ds : List SD} {vs : List V}, M.pureDs ds = true → Reps K H ds vs → DpAll K H vs (toPys ds)
  | [], _, _, r => by cases (show _ = _ from r); exact .nil
  | d :: ds, _, p, ⟨v, r, e, a, b⟩ => by
    subst e
    obtain ⟨p1, p2⟩ := ba (show (M.pureD d && M.pureDs ds) = true by simpa only [M.pureDs] using p)
    exact .cons (rep_dp p1 a) (reps_dp p2 b)
end
mutual
theorem rep_can : ∀ {d : SD} {v : V}, M.pureD d = true → Rep K H d v → (toPy d).canLay0 = true
  | .non, _, _, r => rfl
  | .int i, _, _, r => rfl
  | .str s, _, _, r => by
    have ok := r.2
    show PyData.strOk (sV s) = true
    simp only [PyData.strOk, sV, Array.all_eq_true_iff_forall_mem, List.mem_toArray, decide_eq_true_eq]
    exact ok
  | .tup ds, _, p, ⟨a, vs, e, t, rs⟩ => by
    show PyData.canLayAll0 (toPys ds) = true
    exact reps_can (by simpa only [M.pureD] using p) rs
  | .bl _, _, p, _ => by simp [M.pureD] at p
  | .ref _, _, p, _ => by simp [M.pureD] at p
  | .rol _, _, p, _ => by simp [M.pureD] at p
theorem reps_can : ∀ {ds : List SD} {vs : List V}, M.pureDs ds = true → Reps K H ds vs → PyData.canLayAll0 (toPys ds) = true
  | [], _, _, r => rfl
  | d :: ds, _, p, ⟨v, r, e, a, b⟩ => by
    obtain ⟨p1, p2⟩ := ba (show (M.pureD d && M.pureDs ds) = true by simpa only [M.pureDs] using p)
    show (PyData.canLay0 (toPy d) && PyData.canLayAll0 (toPys ds)) = true
    rw [rep_can p1 a, reps_can p2 b]
    rfl
end
mutual
theorem py_depth : ∀ (n : Nat) (d : SD), M.plain n d = true → (toPy d).depth ≤ n
  | _, .non, _ => by simp [toPy, PyData.depth]
  | _, .int i, _ => by simp [toPy, PyData.depth]
  | _, .str s, _ => by simp [toPy, PyData.depth]
  | 0, .tup ds, p => by simp [M.plain] at p
  | n + 1, .tup ds, p => by
    have := pys_depth n ds (by simpa only [M.plain] using p)
    simp only [toPy, PyData.depth]
    omega
  | 0, .bl _, p => by simp [M.plain] at p
  | n + 1, .bl _, p => by simp [M.plain] at p
  | 0, .ref _, p => by simp [M.plain] at p
  | n + 1, .ref _, p => by simp [M.plain] at p
  | 0, .rol _, p => by simp [M.plain] at p
  | n + 1, .rol _, p => by simp [M.plain] at p
theorem pys_depth : ∀ (n : Nat) (ds : List SD), M.plains n ds = true → PyData.depthAll (toPys ds) ≤ n
  | _, [], _ => by simp [toPys, PyData.depthAll]
  | n, d :: ds, p => by
    obtain ⟨p1, p2⟩ := ba (show (M.plain n d && M.plains n ds) = true by cases n <;> simpa only [M.plains] using p)
    have := py_depth n d p1
    have := pys_depth n ds p2
    simp only [toPys, PyData.depthAll]
    omega
end
mutual
theorem eqv_py : ∀ (a b : SD), M.pureD a = true → M.pureD b = true → PyData.eqv (toPy a) (toPy b) = decide (a = b)
  | .non, b, _, q => by cases b <;> simp [M.pureD, toPy, PyData.eqv] at q ⊢
  | .int i, b, _, q => by cases b <;> simp [M.pureD, toPy, PyData.eqv, Bool.beq_eq_decide_eq] at q ⊢
  | .str s, b, _, q => by
    cases b <;> simp [M.pureD, toPy, PyData.eqv, Bool.beq_eq_decide_eq] at q ⊢
    rename_i t
    exact ⟨sV_inj, fun e => by rw [e]⟩
  | .tup ds, b, p, q => by
    cases b <;> simp [M.pureD, toPy, PyData.eqv] at p q ⊢
    exact eqv_pys ds _ p q
  | .bl _, b, p, _ => by simp [M.pureD] at p
  | .ref _, b, p, _ => by simp [M.pureD] at p
  | .rol _, b, p, _ => by simp [M.pureD] at p
theorem eqv_pys : ∀ (as bs : List SD), M.pureDs as = true → M.pureDs bs = true → PyData.eqvAll (toPys as) (toPys bs) = decide (as = bs)
  | [], [], _, _ => by simp [toPys, PyData.eqvAll]
  | [], _ :: _, _, _ => by simp [toPys, PyData.eqvAll]
  | _ :: _, [], _, _ => by simp [toPys, PyData.eqvAll]
  | a :: as, b :: bs, p, q => by
    obtain ⟨p1, p2⟩ := ba (show (M.pureD a && M.pureDs as) = true by simpa only [M.pureDs] using p)
    obtain ⟨q1, q2⟩ := ba (show (M.pureD b && M.pureDs bs) = true by simpa only [M.pureDs] using q)
    simp only [toPys, PyData.eqvAll, eqv_py a b p1 q1, eqv_pys as bs p2 q2, List.cons.injEq, Bool.decide_and]
end
end
end Snd
end
section
/-! SortL: < of nested data, sorted of lists of such. -/
namespace PySem.SeqAt
open AutoSeq1 (wpAny_loadPart')
open MeetsSeq MeetsSeq2 MeetsSeq3 SeqRoads2
section
/-- the items from the i-th on -/
def ltRest (e r : Nat → Bool) (z : Bool) (n i : Nat) : Bool := firstLt e r z ((List.range n).drop i)
theorem ltRest_in {e r : Nat → Bool} {z : Bool} {n i : Nat} (h : i < n) : ltRest e r z n i = if e i = true then ltRest e r z n (i + 1) else r i := by
  have hd : (List.range n).drop i = i :: (List.range n).drop (i + 1) := by simp [List.drop_eq_getElem_cons, h]
  unfold ltRest
  rw [hd]
  rfl
theorem ltRest_out {e r : Nat → Bool} {z : Bool} {n i : Nat} (h : n ≤ i) : ltRest e r z n i = z := by
  unfold ltRest
  rw [List.drop_of_length_le (by simpa using h)]
  rfl
end
theorem tupLt_run (p q : Addr) (xs ys : Array Value) (m k : Nat) (o1 o2 : Option Addr) (t1 t2 : Array (Option Value)) (e r : Nat → Bool) :
    Meets (Builtin.«tuple.__lt__» ⟨[.ref p, .ref q], []⟩) (fun A R s =>
      s.heap.get? p = some { cls := .type "tuple", dict := o1, data := .seq xs m, slots := t1 } ∧
      s.heap.get? q = some { cls := .type "tuple", dict := o2, data := .seq ys k, slots := t2 } ∧
      (∀ j (a : j < xs.size) (b : j < ys.size), EqAt A.in1 s xs[j] ys[j] (e j)) ∧
      (∀ j (a : j < xs.size) (b : j < ys.size), (∀ i, i < j → e i = true) → e j = false → RcLt A.in1 s xs[j] ys[j] (r j)) ∧
      R (.ok (.ret (.bool (ltRest e r (decide (xs.size < ys.size)) (min xs.size ys.size) 0)))) s) :=
  .of_wp fun prog w A R s h => by
    obtain ⟨hp, g, d, tk, os⟩ := s
    obtain ⟨hx, hy, he, hr, h⟩ := h
    have f2 := AutoSeq1.sub_tuple_tuple
    have lz : (xs.toList.zip ys.toList).length = min xs.size ys.size := by simp
    wp_walk using wpAny_loadPart' hx, wpAny_loadPart' hy, wpAny_forIn_list _ (fun rest b s' => b.1 = none ∧ s' = ⟨hp, g, d, tk, os⟩ ∧
      ∃ i, rest = (xs.toList.zip ys.toList).drop i ∧ (∀ a, a < i → e a = true) ∧ R (.ok (.ret (.bool (ltRest e r (decide (xs.size < ys.size)) (min xs.size ys.size) i)))) ⟨hp, g, d, tk, os⟩) _
    case turn =>
      rintro ⟨u, v⟩ rest b s' ⟨hb, rfl, i, hz, hall, hR⟩
      have lt1 : i < (xs.toList.zip ys.toList).length := Nat.lt_of_not_le fun z => by
        rw [List.drop_of_length_le z] at hz
        cases hz
      have lt2 : i < min xs.size ys.size := by rw [← lz]; exact lt1
      have i1 : i < xs.size := by omega
      have i2 : i < ys.size := by omega
      rw [List.drop_eq_getElem_cons lt1] at hz
      injection hz with huv hrest
      have hu : u = xs[i] := by simpa using congrArg Prod.fst huv
      have hv : v = ys[i] := by simpa using congrArg Prod.snd huv
      subst hu hv
      rw [ltRest_in lt2] at hR
      refine wpAny_bind (he i i1 i2 prog w _ _ ?_)
      cases ei : e i with
      | true =>
        rw [if_pos ei] at hR
        wp_walk
        exact ⟨rfl, rfl, i + 1, hrest, fun a ha => (Nat.lt_succ_iff_lt_or_eq.mp ha).elim (hall a) (fun z => z ▸ ei), hR⟩
      | false =>
        rw [if_neg (by rw [ei]; simp)] at hR
        have step := hr i i1 i2 hall ei prog w
        wp_walk using step _ _
        exact ⟨_, rfl, hR⟩
    case fin =>
      rintro ⟨b1, b2⟩ s' ⟨hb, rfl, i, hz, hall, hR⟩
      simp only at hb
      subst hb
      have ge : min xs.size ys.size ≤ i := Nat.le_of_not_lt fun z => by
        rw [List.drop_eq_getElem_cons (by rw [lz]; exact z)] at hz
        cases hz
      rw [ltRest_out ge] at hR
      wp_walk
      exact ⟨_, rfl, by simpa [Builtin.Tuple.tupleCompareSizes] using hR⟩
    case h =>
      exact ⟨rfl, rfl, 0, rfl, (fun a ha => absurd ha (Nat.not_lt_zero a)), h⟩
theorem RcLt.tuplesF {A : Around} {s : Shared} {p q : Addr} {xs ys : Array Value} {e r : Nat → Bool} (hx : s.heap.IsTuple p xs) (hy : s.heap.IsTuple q ys) (hu : A.units < cLine)
    (he : ∀ j (a : j < xs.size) (b : j < ys.size), EqAt A.in1 s xs[j] ys[j] (e j))
    (hr : ∀ j (a : j < xs.size) (b : j < ys.size), (∀ i, i < j → e i = true) → e j = false → RcLt A.in1 s xs[j] ys[j] (r j)) :
    RcLt A s (.ref p) (.ref q) (ltRest e r (decide (xs.size < ys.size)) (min xs.size ys.size) 0) := fun prog w E Q h => by
  obtain ⟨⟨c1, d1, dat1, s1⟩, g1, e1, m1, f1⟩ := id hx
  obtain ⟨⟨c2, d2, dat2, s2⟩, g2, e2, m2, f2⟩ := id hy
  simp only at e1 f1 e2 f2
  subst e1 f1 e2 f2
  refine richCompare_meets_room (op := .Lt) ⟨_, g1, rfl⟩ ⟨_, g2, rfl⟩ F.slot_tuple_lt F.entry_tuple_lt (F.args_tuple_lt_2 _ _) (tupLt_run p q xs ys m1 m2 d1 d2 s1 s2 e r) ⟨g1, g2, he, hr, ?_⟩ hu
  exact ⟨(fun z => nomatch z), h⟩
end PySem.SeqAt
namespace Snd
open PySem L2 PySem.Spec PyProof.Rows
theorem toPys_get : ∀ {ds : List SD} {j : Nat} {d : SD}, ds[j]? = some d → (toPys ds)[j]? = some (toPy d)
  | [], _, _, h => by simp at h
  | _ :: _, 0, _, h => by simp at h; subst h; simp [toPys]
  | _ :: ds, j + 1, d, h => by
    have := toPys_get (ds := ds) (j := j) (by simpa using h)
    simpa [toPys] using this
theorem reads_get {h : Heap} : ∀ {vs : List Value} {ds : List PyData} {as : List Addr} {j : Nat} {d : PyData}, ReadsAll h vs ds as → ds[j]? = some d → ∃ v bs, vs[j]? = some v ∧ Reads h v d bs
  | _, [], _, _, _, _, e => by simp at e
  | _, _ :: _, _, 0, d, r, e => by
    cases r with
    | cons h1 h2 => simp at e; subst e; exact ⟨_, _, rfl, h1⟩
  | _, _ :: _, _, j + 1, d, r, e => by
    cases r with
    | cons h1 h2 =>
      obtain ⟨v, bs, e1, e2⟩ := reads_get (j := j) h2 (by simpa using e)
      exact ⟨v, bs, by simpa using e1, e2⟩
theorem reads_len {h : Heap} : ∀ {vs : List Value} {ds : List PyData} {as : List Addr}, ReadsAll h vs ds as → vs.length = ds.length
  | _, [], _, r => by cases r; rfl
  | _, _ :: _, _, r => by
    cases r with
    | cons h1 h2 => simp [reads_len h2]
theorem pureDs_at : ∀ {ds : List SD} {j : Nat} {d : SD}, M.pureDs ds = true → ds[j]? = some d → M.pureD d = true
  | [], _, _, _, e => by simp at e
  | _ :: _, 0, _, p, e => by
    simp at e; subst e
    exact (ba (show (_ && _) = true by simpa only [M.pureDs] using p)).1
  | _ :: ds, j + 1, _, p, e => pureDs_at (ds := ds) (j := j) (ba (show (_ && _) = true by simpa only [M.pureDs] using p)).2 (by simpa using e)
theorem plains_two {n : Nat} {d : SD} {ds : List SD} (p : M.plains n (d :: ds) = true) : M.plain n d = true ∧ M.plains n ds = true := by
  cases n <;> simp only [M.plains] at p <;> exact ba p
theorem plains_at {n : Nat} : ∀ {ds : List SD} {j : Nat} {d : SD}, M.plains n ds = true → ds[j]? = some d → M.plain n d = true
  | [], _, _, _, e => by simp at e
  | _ :: _, 0, _, p, e => by
    simp at e; subst e
    exact (plains_two p).1
  | _ :: ds, j + 1, _, p, e => plains_at (ds := ds) (j := j) (plains_two p).2 (by simpa using e)
theorem canAll_at : ∀ {ds : List SD} {j : Nat} {d : SD}, PyData.canLayAll0 (toPys ds) = true → ds[j]? = some d → (toPy d).canLay0 = true
  | [], _, _, _, e => by simp at e
  | _ :: _, 0, _, p, e => by
    simp at e; subst e
    exact (ba (show (_ && _) = true from p)).1
  | _ :: ds, j + 1, _, p, e => canAll_at (ds := ds) (j := j) (ba (show (_ && _) = true from p)).2 (by simpa using e)
/-- ltDs by places -/
noncomputable def eD (xs ys : List SD) (j : Nat) : Bool := decide (xs[j]? = ys[j]?)
noncomputable def rD (xs ys : List SD) (j : Nat) : Bool := match xs[j]?, ys[j]? with
  | some x, some y => M.ltD x y
  | _, _ => false
theorem lt_rest : ∀ (k : Nat) (xs ys : List SD) (i : Nat), min xs.length ys.length - i = k → i ≤ min xs.length ys.length → SeqAt.ltRest (eD xs ys) (rD xs ys) (decide (xs.length < ys.length)) (min xs.length ys.length) i = M.ltDs (xs.drop i) (ys.drop i)
  | 0, xs, ys, i, hk, hi => by
    rw [SeqAt.ltRest_out (by omega)]
    rcases Nat.lt_or_ge i xs.length with h1 | h1
    · have h2 : ys.length ≤ i := by omega
      rw [List.drop_of_length_le h2, List.drop_eq_getElem_cons h1]
      simp [M.ltDs]; omega
    · rw [List.drop_of_length_le h1]
      rcases Nat.lt_or_ge i ys.length with h2 | h2
      · rw [List.drop_eq_getElem_cons h2]
        simp [M.ltDs]; omega
      · rw [List.drop_of_length_le h2]
        simp [M.ltDs]; omega
  | k + 1, xs, ys, i, hk, hi => by
    have h1 : i < xs.length := by omega
    have h2 : i < ys.length := by omega
    rw [SeqAt.ltRest_in (by omega), List.drop_eq_getElem_cons h1, List.drop_eq_getElem_cons h2, M.ltDs_cons]
    have e1 : eD xs ys i = decide (xs[i] = ys[i]) := by simp [eD, h1, h2]
    have e2 : rD xs ys i = M.ltD xs[i] ys[i] := by simp [rD, h1, h2]
    rw [e1, e2]
    by_cases z : xs[i] = ys[i]
    · rw [if_pos z, if_pos (decide_eq_true z)]
      exact lt_rest k xs ys (i + 1) (by omega) (by omega)
    · rw [if_neg z, if_neg (by simp [z])]
theorem lt_whole (xs ys : List SD) : SeqAt.firstLt (eD xs ys) (rD xs ys) (decide (xs.length < ys.length)) (List.range (min xs.length ys.length)) = M.ltDs xs ys := by
  have := lt_rest _ xs ys 0 rfl (Nat.zero_le _)
  simpa [SeqAt.ltRest] using this
/-- what < is asked of at the first place that differs -/
theorem cmp_first : ∀ {xs ys : List SD} {j : Nat} {x y : SD}, M.cmpbs xs ys = true → xs[j]? = some x → ys[j]? = some y → (∀ i, i < j → xs[i]? = ys[i]?) → x ≠ y → M.cmpb x y = true
  | [], _, _, _, _, _, e, _, _, _ => by simp at e
  | _ :: _, [], _, _, _, _, _, e, _, _ => by simp at e
  | a :: xs, b :: ys, 0, x, y, c, e1, e2, _, ne => by
    simp at e1 e2
    subst e1 e2
    simp only [M.cmpbs, if_neg ne] at c
    exact c
  | a :: xs, b :: ys, j + 1, x, y, c, e1, e2, al, ne => by
    have e0 := al 0 (by omega)
    simp at e0
    subst e0
    simp only [M.cmpbs, if_pos] at c
    exact cmp_first (xs := xs) (ys := ys) (j := j) c (by simpa using e1) (by simpa using e2) (fun i hi => by simpa using al (i + 1) (by omega)) ne
end Snd
namespace Snd
open PySem L2 PySem.Spec PyProof.Rows
theorem depth_at : ∀ {ds : List SD} {j : Nat} {d : SD}, ds[j]? = some d → (toPy d).depth ≤ PyData.depthAll (toPys ds)
  | [], _, _, e => by simp at e
  | d :: ds, 0, _, e => by
    simp at e; subst e
    simp only [toPys, PyData.depthAll]
    omega
  | d :: ds, j + 1, _, e => by
    have := depth_at (ds := ds) (j := j) (by simpa using e)
    simp only [toPys, PyData.depthAll]
    omega
/-- a < b of the data -/
def LtG (a : SD) : Prop := ∀ (b : SD) (A : Around) (s : Shared) (u v : Value) (as bs : List Addr), M.cmpb a b = true → M.pureD a = true → M.pureD b = true → (toPy a).canLay0 = true → (toPy b).canLay0 = true →
  Reads s.heap u (toPy a) as → Reads s.heap v (toPy b) bs → A.units + min (toPy a).depth (toPy b).depth < cLine → SeqAt.RcLt A s u v (M.ltD a b)
theorem ltG_seq {xs : List SD} (ih : ∀ x ∈ xs, LtG x) : LtG (.tup xs) := by
  intro b A s u v as bs c pa pb ca cb ra rb hu
  cases b with
  | tup ys =>
    have c : M.cmpbs xs ys = true := by simpa only [M.cmpb] using c
    have pa : M.pureDs xs = true := by simpa only [M.pureD] using pa
    have pb : M.pureDs ys = true := by simpa only [M.pureD] using pb
    have ca : PyData.canLayAll0 (toPys xs) = true := ca
    have cb : PyData.canLayAll0 (toPys ys) = true := cb
    have lx : (toPys xs).length = xs.length := by
      have : ∀ l : List SD, (toPys l).length = l.length := fun l => by induction l with
        | nil => rfl
        | cons x l h => simp [toPys, h]
      exact this xs
    have ly : (toPys ys).length = ys.length := by
      have : ∀ l : List SD, (toPys l).length = l.length := fun l => by induction l with
        | nil => rfl
        | cons x l h => simp [toPys, h]
      exact this ys
    cases ra with
    | @tuple p o vs n _ as₁ g1 g2 g3 g4 =>
      cases rb with
      | @tuple q o' ws n' _ bs₁ k1 k2 k3 k4 =>
        have n1 : vs.size = xs.length := by simpa [lx] using reads_len g4
        have n2 : ws.size = ys.length := by simpa [ly] using reads_len k4
        have hd : A.units + 1 + min (PyData.depthAll (toPys xs)) (PyData.depthAll (toPys ys)) < cLine := by
          have e1 : (PyData.tuple (toPys xs)).depth = PyData.depthAll (toPys xs) + 1 := rfl
          have e2 : (PyData.tuple (toPys ys)).depth = PyData.depthAll (toPys ys) + 1 := rfl
          have hu : A.units + min (PyData.tuple (toPys xs)).depth (PyData.tuple (toPys ys)).depth < cLine := hu
          omega
        have key := lt_whole xs ys
        show SeqAt.RcLt A s _ _ (M.ltD (.tup xs) (.tup ys))
        have e0 : M.ltD (.tup xs) (.tup ys) = M.ltDs xs ys := by simp only [M.ltD]
        rw [e0, ← key]
        have both : ∀ j (a : j < vs.size) (b : j < ws.size), ∃ x y a1 b1, xs[j]? = some x ∧ ys[j]? = some y ∧ Reads s.heap vs[j] (toPy x) a1 ∧ Reads s.heap ws[j] (toPy y) b1 := fun j a b => by
          have ex : xs[j]? = some (xs[j]'(by omega)) := List.getElem?_eq_getElem (by omega)
          have ey : ys[j]? = some (ys[j]'(by omega)) := List.getElem?_eq_getElem (by omega)
          obtain ⟨v1, a1, f1, r1⟩ := reads_get g4 (toPys_get ex)
          obtain ⟨v2, b1, f2, r2⟩ := reads_get k4 (toPys_get ey)
          have f1' : vs[j] = v1 := by simpa [Array.getElem?_toList, a] using f1
          have f2' : ws[j] = v2 := by simpa [Array.getElem?_toList, b] using f2
          exact ⟨_, _, a1, b1, ex, ey, by rw [f1']; exact r1, by rw [f2']; exact r2⟩
        have main := SeqAt.RcLt.tuplesF (A := A) (s := s) (p := p) (q := q) (xs := vs) (ys := ws) (e := eD xs ys) (r := rD xs ys) ⟨_, g1, g2, _, g3⟩ ⟨_, k1, k2, _, k3⟩ (by omega) (fun j a b => ?_) (fun j a b hall hj => ?_)
        · rw [n1, n2] at main
          exact main
        · obtain ⟨x, y, a1, b1, ex, ey, r1, r2⟩ := both j a b
          have := SeqAt.eqAt_reads (toPy x) (toPy y) A.in1 s _ _ _ _ r1 r2 (canAll_at ca ex) (canAll_at cb ey) (by
            have := depth_at ex
            have := depth_at ey
            have e : A.in1.units = A.units + 1 := rfl
            omega)
          rw [eqv_py x y (pureDs_at pa ex) (pureDs_at pb ey)] at this
          have e1 : eD xs ys j = decide (x = y) := by simp [eD, ex, ey]
          rw [e1]
          exact this
        · obtain ⟨x, y, a1, b1, ex, ey, r1, r2⟩ := both j a b
          have e1 : eD xs ys j = decide (x = y) := by simp [eD, ex, ey]
          have e2 : rD xs ys j = M.ltD x y := by simp [rD, ex, ey]
          rw [e1] at hj
          rw [e2]
          refine ih x (List.mem_of_getElem? ex) y A.in1 s _ _ _ _ (cmp_first c ex ey (fun i hi => by simpa [eD] using hall i hi) (by simpa using hj)) (pureDs_at pa ex) (pureDs_at pb ey) (canAll_at ca ex) (canAll_at cb ey) r1 r2 ?_
          have := depth_at ex
          have := depth_at ey
          have e : A.in1.units = A.units + 1 := rfl
          omega
  | _ => simp [M.cmpb] at c
mutual
theorem ltG : ∀ a : SD, LtG a
  | .tup xs => ltG_seq (ltGs xs)
  | .int x => fun b A s u v as bs c _ _ _ _ ra rb _ => by
    cases b with
    | int y =>
      cases ra
      cases rb
      intro prog w E Q hq
      refine PyProof.Rows.lt_int ?_
      simpa [M.ltD] using hq
    | _ => simp [M.cmpb] at c
  | .str x => fun b A s u v as bs c _ _ _ _ ra rb _ => by
    cases b with
    | str y =>
      cases ra
      cases rb
      intro prog w E Q hq
      refine PyProof.Rows.lt_str ?_
      simpa [M.ltD, sV_cps] using hq
    | _ => simp [M.cmpb] at c
  | .non => fun b A s u v as bs c => by simp [M.cmpb] at c
  | .bl _ => fun b A s u v as bs c => by simp [M.cmpb] at c
  | .ref _ => fun b A s u v as bs c => by simp [M.cmpb] at c
  | .rol _ => fun b A s u v as bs c => by simp [M.cmpb] at c
theorem ltGs : ∀ xs : List SD, ∀ x ∈ xs, LtG x
  | [], x, h => nomatch h
  | y :: ys, x, h => by
    rcases List.mem_cons.mp h with e | h
    · rw [e]; exact ltG y
    · exact ltGs ys x h
end
/-- x < y of nested data -/
def rLtD (K : Fr) : R2 := fun x y H Q => ∃ a b : SD, M.cmpb a b = true ∧ M.pureD a = true ∧ M.pureD b = true ∧ (toPy a).canLay0 = true ∧ (toPy b).canLay0 = true ∧ ((toPy a).depth ≤ 191 ∨ (toPy b).depth ≤ 191) ∧ Dp K H x (toPy a) ∧ Dp K H y (toPy b) ∧ Q (.bl (M.ltD a b)) H
theorem op_ltD {X : Cx} (hu : X.A.units + 200 < cLine) : OpR X (compareOp .Lt) (rLtD X.F) := by
  intro pins s σ H x y v u Q I rx ry h
  obtain ⟨a, b, c, pa, pb, ca, cb, dp, hd, he, q⟩ := h
  obtain ⟨as, r1⟩ := Dp.reads I _ x v hd rx
  obtain ⟨bs, r2⟩ := Dp.reads I _ y u he ry
  exact ltG a b X.A s v u as bs c pa pb ca cb r1 r2 (by omega) _ _ _ _ ⟨.bl _, H, I, rfl, q⟩

/-! ### sorted of tuples -/
theorem swo_lt (k : Value → SD) : SrtO.Swo fun v u => M.ltD (k v) (k u) := ⟨fun _ _ h => M.ltD_asym h, fun _ _ _ h1 h2 => M.ltD_neg h1 h2⟩
theorem toPy_inj {a b : SD} (pa : M.pureD a = true) (pb : M.pureD b = true) (e : toPy a = toPy b) : a = b := by
  have h1 := eqv_py a b pa pb
  have h2 := eqv_py a a pa pa
  rw [e] at h1 h2
  rw [h1] at h2
  simpa using h2
section
variable {prog : Program} {w : World}
open PySem.W
theorem kat_data {A : Around} {b fin : Bool} {Q : Bool → Shared → Prop} : ∀ {xs ys : List SD} {vs ws : List Value} {s : Shared} {as bs : List Addr} {i : Nat}, ReadsAll s.heap vs (toPys xs) as → ReadsAll s.heap ws (toPys ys) bs →
    M.cmpbs xs ys = true → M.pureDs xs = true → M.pureDs ys = true → PyData.canLayAll0 (toPys xs) = true → PyData.canLayAll0 (toPys ys) = true →
    A.units + 1 + min (PyData.depthAll (toPys xs)) (PyData.depthAll (toPys ys)) < cLine → fin = decide (xs.length < ys.length) → ((b && i == 0) = true → ∀ x r, xs = x :: r → M.rkD x ≠ 4) → Q (M.ltDs xs ys) s → KatLex prog w A b fin Q (vs.zip ws) i s
  | [], ys, vs, ws, s, as, bs, i, ra, rb, c, pa, pb, ca, cb, hu, hf, hb, q => by
    cases ra
    rw [List.zip_nil_left]
    refine kat_nil ?_
    rw [hf]
    cases ys <;> simpa [M.ltDs] using q
  | x :: xs, [], vs, ws, s, as, bs, i, ra, rb, c, pa, pb, ca, cb, hu, hf, hb, q => by
    cases rb
    rw [List.zip_nil_right]
    refine kat_nil ?_
    rw [hf]
    simpa [M.ltDs] using q
  | x :: xs, y :: ys, vs, ws, s, as, bs, i, ra, rb, c, pa, pb, ca, cb, hu, hf, hb, q => by
    cases ra with
    | @cons v vs _ _ a1 a2 r1 r2 =>
      cases rb with
      | @cons w' ws _ _ b1 b2 t1 t2 =>
        obtain ⟨pa1, pa2⟩ := ba (show (M.pureD x && M.pureDs xs) = true by simpa only [M.pureDs] using pa)
        obtain ⟨pb1, pb2⟩ := ba (show (M.pureD y && M.pureDs ys) = true by simpa only [M.pureDs] using pb)
        obtain ⟨ca1, ca2⟩ := ba (show ((toPy x).canLay0 && PyData.canLayAll0 (toPys xs)) = true from ca)
        obtain ⟨cb1, cb2⟩ := ba (show ((toPy y).canLay0 && PyData.canLayAll0 (toPys ys)) = true from cb)
        have e1 : PyData.depthAll (toPys (x :: xs)) = max (toPy x).depth (PyData.depthAll (toPys xs)) := by simp [toPys, PyData.depthAll]
        have e2 : PyData.depthAll (toPys (y :: ys)) = max (toPy y).depth (PyData.depthAll (toPys ys)) := by simp [toPys, PyData.depthAll]
        rw [e1, e2] at hu
        show KatLex prog w A b fin Q ((v, w') :: vs.zip ws) i s
        refine kat_cons (SeqAt.eqAt_reads (toPy x) (toPy y) A s v w' _ _ r1 t1 ca1 cb1 (by omega) prog w _ _ ?_)
        rw [eqv_py x y pa1 pb1]
        rw [M.ltDs_cons] at q
        have c0 : (if x = y then M.cmpbs xs ys else M.cmpb x y) = true := by simpa only [M.cmpbs] using c
        by_cases z : x = y
        · rw [if_pos z] at q c0
          rw [decide_eq_true z]
          refine kat_yes (kat_data r2 t2 c0 pa2 pb2 ca2 cb2 (by omega) ?_ (fun h => ?_) q)
          · rw [hf]; simp
          · simp at h
        · rw [if_neg z] at q c0
          rw [decide_eq_false z]
          refine kat_no ?_
          cases hbi : (b && i == 0) with
          | true =>
            have n4 := hb hbi x xs rfl
            cases x with
            | int m =>
              cases y with
              | int n =>
                cases r1
                cases t1
                refine PyProof.Rows.oneLt_int ?_
                simpa [M.ltD] using q
              | _ => simp [M.cmpb] at c0
            | str m =>
              cases y with
              | str n =>
                cases r1
                cases t1
                refine oneLt_any_str ?_
                simpa [M.ltD, sV_cps] using q
              | _ => simp [M.cmpb] at c0
            | tup _ => exact absurd rfl n4
            | _ => simp [M.cmpb] at c0
          | false =>
            refine kat_one v w' (ltG x y A s v w' _ _ c0 pa1 pb1 ca1 cb1 r1 t1 (by omega) prog w _ _ ?_)
            exact q
theorem first_type {s : Shared} {y : SD} {v : Value} {as : List Addr} {t : Nat} (r : Reads s.heap v (toPy y) as) (e : M.rkD y = t) (ht : t = 2 ∨ t = 3 ∨ t = 4) : Looks (model prog w) s.heap (typeOf v) (if t = 2 then .type "int" else if t = 3 then .type "str" else .type "tuple") := by
  cases y with
  | int i =>
    cases r
    have : t = 2 := e.symm
    subst this
    exact Looks.of_pure rfl
  | str i =>
    cases r
    have : t = 3 := e.symm
    subst this
    exact Looks.of_pure rfl
  | tup xs =>
    have : t = 4 := e.symm
    subst this
    cases r with
    | tuple h1 h2 h3 h4 =>
      rename_i a o vs n
      have key : Looks (model prog w) s.heap (typeOf (.ref a)) o.cls := (Looks.ld h1).andThen .now
      rw [h2] at key
      simpa using key
  | _ =>
    simp [M.rkD] at e
    omega

theorem tups_firsts {s : Shared} {t : Nat} (ht : t = 2 ∨ t = 3 ∨ t = 4) : ∀ {vs : List Value} {ds : List SD} {as : List Addr}, ReadsAll s.heap vs (toPys ds) as → (∀ x ∈ ds, ∃ y r, x = .tup (y :: r) ∧ M.rkD y = t) →
    ∃ fs, KatTups s.heap vs fs ∧ fs.length = ds.length ∧ ∀ v ∈ fs, Looks (model prog w) s.heap (typeOf v) (if t = 2 then .type "int" else if t = 3 then .type "str" else .type "tuple")
  | vs, [], as, r, _ => by
    cases r
    exact ⟨[], KatTups.nil, rfl, fun v h => nomatch h⟩
  | vs, d :: ds, as, r, h => by
    obtain ⟨y, l, e, k⟩ := h d List.mem_cons_self
    subst e
    cases r with
    | cons r1 r2 =>
      obtain ⟨fs, h1, h2, h3⟩ := tups_firsts ht r2 fun x hx => h x (List.mem_cons_of_mem _ hx)
      cases r1 with
      | tuple g1 g2 g3 g4 =>
        rename_i a o us n
        obtain ⟨f, b, e1, e2⟩ := reads_get (j := 0) (d := toPy y) g4 (by simp [toPys])
        refine ⟨f :: fs, KatTups.cons g1 g2 g3 (by simpa using e1) h1, by simp [h2], fun v hv => ?_⟩
        rcases List.mem_cons.mp hv with z | hv
        · rw [z]; exact first_type e2 k ht
        · exact h3 v hv
end
/-- sorted(l), l a list of tuples that read as ds -/
theorem sorted_tups {prog : Program} {w : World} {A : Around} {E : Value → Shared → Prop} {s : Shared} {l : Addr} {its : List Value} {ds : List SD} {as : List Addr} {k : Value → SD} {Q : Value → Shared → Prop} (hl : s.heap.IsList l its.toArray) (hz : its.length ≤ sizeLine)
    (ra : ReadsAll s.heap its (toPys ds) as) (ok : M.tupsOk ds) (can : PyData.canLayAll0 (toPys ds) = true) (hu : A.units + 200 < cLine) (hk : its.map k = ds)
    (h : ∀ (h' : Heap) (d : Addr) (out : List Value), SrtO.Srtd (fun v u => M.ltD (k v) (k u)) out → out.Perm its → (∀ b o, s.heap.get? b = some o → h'.get? b = some o) → s.heap.objs.size ≤ d → (∃ n, h'.get? d = some (seqObj "list" out.toArray n)) → Q (.ref d) { s with heap := h' }) :
    wpAny (model prog w) A (call (.builtin "sorted") [.ref l]) Q E s := by
  obtain ⟨pu, pl, ⟨t, ht, hds⟩, cmp⟩ := ok
  refine SrtO.sorted_ord (swo_lt k) hl hz (fun h2 h₁ a ha kk => ?_) fun out hs hb => ?_
  · intro h' keep
    have all : ∀ b o, s.heap.get? b = some o → h'.get? b = some o := fun b o e => keep b o (kk b o e).1 (kk b o e).2
    have ra' : ReadsAll h' its (toPys ds) as := ReadsAll.keeps all ra
    obtain ⟨fs, f1, f2, f3⟩ := tups_firsts (prog := prog) (w := w) (s := { s with heap := h' }) ht ra' hds
    have ln : its.length = ds.length := by rw [← hk, List.length_map]
    refine ⟨_, fun Q' E' hq => PySem.W.kat_kind (s := { s with heap := h' }) f1 (by omega) f3 (by rcases ht with rfl | rfl | rfl <;> rfl) hq, ?_⟩
    intro p q hp hq
    obtain ⟨i, hi⟩ := List.getElem?_of_mem hp
    obtain ⟨j, hj⟩ := List.getElem?_of_mem hq
    have di : ds[i]? = some (k p.1) := by rw [← hk, List.getElem?_map, hi]; rfl
    have dj : ds[j]? = some (k q.1) := by rw [← hk, List.getElem?_map, hj]; rfl
    obtain ⟨v1, a1, e1, r1⟩ := reads_get ra' (toPys_get di)
    obtain ⟨v2, a2, e2, r2⟩ := reads_get ra' (toPys_get dj)
    rw [hi] at e1
    rw [hj] at e2
    have e1 := Option.some.inj e1
    have e2 := Option.some.inj e2
    have c1 := canAll_at can di
    have c2 := canAll_at can dj
    have u1 := pureDs_at pu di
    have u2 := pureDs_at pu dj
    have m1 := List.mem_of_getElem? di
    have m2 := List.mem_of_getElem? dj
    have cc := cmp _ m1 _ m2
    obtain ⟨x1, l1, ex1, k1⟩ := hds _ m1
    obtain ⟨x2, l2, ex2, k2⟩ := hds _ m2
    have pl1 := plains_at pl di
    show wpAny (model prog w) A.in1.in1 (keyLt' _ p.1 q.1) (fun r s' => s' = { s with heap := h' } ∧ r = M.ltD (k p.1) (k q.1)) (fun _ _ => False) { s with heap := h' }
    rw [e1, e2]
    rw [e1] at ex1 pl1 u1 c1
    rw [e2] at ex2 u2 c2
    rw [e1, e2] at cc
    rw [e1] at r1
    rw [e2] at r2
    rw [ex1] at r1 c1 u1 cc pl1
    rw [ex2] at r2 c2 u2 cc
    have elt : M.ltD (k v1) (k v2) = M.ltDs (x1 :: l1) (x2 :: l2) := by rw [ex1, ex2]; simp only [M.ltD]
    rw [elt]
    cases r1 with
    | tuple g1 g2 g3 g4 =>
      cases r2 with
      | tuple t1 t2 t3 t4 =>
        refine PySem.W.kat_lt g1 g3 t1 t3 ?_
        have dp : PyData.depthAll (toPys (x1 :: l1)) ≤ 190 := by
          have := py_depth 190 _ pl1
          have e : (toPy (M.D.tup (x1 :: l1))).depth = PyData.depthAll (toPys (x1 :: l1)) + 1 := rfl
          omega
        have n1 := reads_len g4
        have n2 := reads_len t4
        have tl : ∀ l : List SD, (toPys l).length = l.length := fun l => by induction l with
          | nil => rfl
          | cons x l h => simp [toPys, h]
        rw [tl] at n1 n2
        refine kat_data g4 t4 (by simpa only [M.cmpb] using cc) (by simpa only [M.pureD] using u1) (by simpa only [M.pureD] using u2) c1 c2 ?_ ?_ (fun hb' x r e => ?_) ⟨rfl, rfl⟩
        · have : A.in1.in1.units = A.units + 2 := rfl
          omega
        · rw [← n1, ← n2]
          simp
        · obtain ⟨rfl, rfl⟩ := List.cons.inj e
          rw [k1]
          rcases ht with rfl | rfl | rfl
          · decide
          · decide
          · simp at hb'
  · exact h _ _ out hs hb.perm (fun b o e => sortedAll_old e) (Nat.le_succ _) (sortedAll_at s.heap its out.toArray)
def rSortT (K : Fr) : List V → Hp → VK → Prop := fun xs H Q => ∃ (a : Addr) (vs : List V) (ds : List SD), xs = [V.ref a] ∧ SqL K H a vs ∧ DpAll K H vs (toPys ds) ∧ M.tupsOk ds ∧ PyData.canLayAll0 (toPys ds) = true ∧
  ∀ ps : List (V × SD), ps.Perm (vs.zip ds) → (ps.map (·.2)).Pairwise (fun a b => M.ltD b a = false) → ∀ p, H p = none → Q (.ref p) (upd H p (.lst (ps.map (·.1))))
theorem dp_ref {K : PySem.W.Frag} {H : Hp} {v : V} {ds : List PyData} (d : Dp K H v (.tuple ds)) : ∃ a, v = V.ref a := by
  cases d
  exact ⟨_, rfl⟩
theorem dps_get {K : PySem.W.Frag} {H : Hp} : ∀ {vs : List V} {ds : List PyData} {v : V}, DpAll K H vs ds → v ∈ vs → ∃ d ∈ ds, Dp K H v d
  | _, _, _, .nil, h => nomatch h
  | _, _, _, .cons d r, h => by
    rcases List.mem_cons.mp h with e | h
    · subst e; exact ⟨_, List.mem_cons_self, d⟩
    · obtain ⟨d', m, x⟩ := dps_get r h
      exact ⟨d', List.mem_cons_of_mem _ m, x⟩
theorem toPys_mem {ds : List SD} {p : PyData} (h : p ∈ toPys ds) : ∃ d ∈ ds, p = toPy d := by
  induction ds with
  | nil => cases h
  | cons x ds ih =>
    rcases List.mem_cons.mp (show p ∈ toPy x :: toPys ds from h) with e | h
    · exact ⟨x, List.mem_cons_self, e⟩
    · obtain ⟨d, m, e⟩ := ih h
      exact ⟨d, List.mem_cons_of_mem _ m, e⟩
open Classical in
/-- the data that a value reads as -/
noncomputable def keyOf (h : Heap) (ds : List SD) (u : Value) : SD := if z : ∃ d, d ∈ ds ∧ ∃ as, Reads h u (toPy d) as then z.choose else .non
theorem keyOf_eq {h : Heap} {ds : List SD} {u : Value} {d : SD} {as : List Addr} (p : M.pureDs ds = true) (c : PyData.canLayAll0 (toPys ds) = true) (m : d ∈ ds) (r : Reads h u (toPy d) as) : keyOf h ds u = d := by
  have z : ∃ d, d ∈ ds ∧ ∃ as, Reads h u (toPy d) as := ⟨d, m, as, r⟩
  have e : keyOf h ds u = z.choose := by unfold keyOf; rw [dif_pos z]
  obtain ⟨m2, as2, r2⟩ := z.choose_spec
  rw [e]
  obtain ⟨i, hi⟩ := List.getElem?_of_mem m
  obtain ⟨j, hj⟩ := List.getElem?_of_mem m2
  exact toPy_inj (pureDs_at p hj) (pureDs_at p hi) (SeqAt.Reads.unique _ _ _ _ _ (canAll_at c hj) r2 r)
theorem keys_eq {h : Heap} {D : List SD} (p : M.pureDs D = true) (c : PyData.canLayAll0 (toPys D) = true) : ∀ {us : List Value} {ds : List SD} {as : List Addr}, (∀ d ∈ ds, d ∈ D) → ReadsAll h us (toPys ds) as → us.map (keyOf h D) = ds
  | _, [], _, _, r => by cases r; rfl
  | _, d :: ds, _, s, r => by
    cases r with
    | cons r1 r2 =>
      rw [List.map_cons, keyOf_eq p c (s d List.mem_cons_self) r1, keys_eq p c (fun x hx => s x (List.mem_cons_of_mem _ hx)) r2]
theorem cr_sortT {X : Cx} (hu : X.A.units + 200 < cLine) : CallR X (.builtin "sorted") (rSortT X.F) := by
  intro pins s σ H xs us Q I r h
  obtain ⟨a, vs, ds, rfl, hs, hd, ok, can, q⟩ := h
  obtain ⟨its, rv, hl, hz⟩ := I.list hs
  obtain ⟨u, rfl, ru⟩ := vals1 r
  obtain rfl : u = Value.ref a := ru
  obtain ⟨as, ra⟩ := Dp.readsAll I _ _ _ hd rv
  have pu := ok.1
  obtain ⟨t, ht, hds⟩ := ok.2.2.1
  obtain ⟨e1, e2⟩ := refs_back rv fun x m => by
    obtain ⟨d, md, dd⟩ := dps_get hd m
    obtain ⟨d', m', e⟩ := toPys_mem md
    obtain ⟨y, l, e3, _⟩ := hds d' m'
    rw [e, e3] at dd
    exact dp_ref dd
  have ek := keys_eq pu can (fun d m => m) ra
  refine sorted_tups (k := keyOf s.heap ds) hl.isList (by rw [← rv.length]; exact hz) ra ok can hu ek fun h' d out so hp kp hd2 hn => ?_
  have h3 : ∀ u ∈ out, ∃ a, u = Value.ref a := fun u hu => e2 u (hp.mem_iff.mp hu)
  obtain ⟨n, hn⟩ := hn
  have ez : vs.zip ds = its.map fun u => (backV u, keyOf s.heap ds u) := by
    conv => lhs; rw [e1, ← ek]
    rw [List.zip_map']
  have ef : (out.map fun u => (backV u, keyOf s.heap ds u)).map (·.1) = out.map backV := by rw [List.map_map]; rfl
  refine ⟨.ref d, upd H d (.lst (out.map backV)), I.laid (t' := s.toks) kp hd2 ⟨?_, out, n, vals_back h3, hn⟩, rfl, ?_⟩
  · rw [List.length_map, hp.length_eq, ← rv.length]; exact hz
  · rw [← ef]
    refine q _ ?_ ?_ d (I.hok.fresh hd2)
    · rw [ez]; exact hp.map _
    · rw [List.map_map]
      exact List.pairwise_map.mpr so
end Snd
end
section
/-! Sound3: comparisons, items, slices, stores. -/
namespace Snd
open PySem L2 PySem.Spec PyProof.Rows
section
variable {K : Fr} {H H1 H' : Hp} {h h1 h' : M.AH} {Qa : M.VQ} {Q : VK} {qb : Bool → Prop}

/-! ### == -/
def rEqP (K : Fr) : R2 := fun x y H Q => ∃ d e, Dp K H x d ∧ Dp K H y e ∧ d.canLay0 = true ∧ e.canLay0 = true ∧ (d.depth ≤ 191 ∨ e.depth ≤ 191) ∧ Q (.bl (PyData.eqv d e)) H
def rNeP (K : Fr) : R2 := fun x y H Q => ∃ d e, Dp K H x d ∧ Dp K H y e ∧ d.canLay0 = true ∧ e.canLay0 = true ∧ (d.depth ≤ 191 ∨ e.depth ≤ 191) ∧ Q (.bl (!PyData.eqv d e)) H
theorem op_eqP {X : Cx} (hu : X.A.units + 200 < cLine) : OpR X (compareOp .Eq) (rEqP X.F) := by
  intro pins s σ H x y v u Q I rx ry h
  obtain ⟨d, e, hd, he, sd, se, dp, q⟩ := h
  obtain ⟨as, r1⟩ := Dp.reads I d x v hd rx
  obtain ⟨bs, r2⟩ := Dp.reads I e y u he ry
  exact SeqAt.compareEq_reads r1 r2 sd se (by omega) ⟨.bl _, H, I, rfl, q⟩
theorem op_neP {X : Cx} (hu : X.A.units + 200 < cLine) : OpR X (compareOp .NotEq) (rNeP X.F) := by
  intro pins s σ H x y v u Q I rx ry h
  obtain ⟨d, e, hd, he, sd, se, dp, q⟩ := h
  obtain ⟨as, r1⟩ := Dp.reads I d x v hd rx
  obtain ⟨bs, r2⟩ := Dp.reads I e y u he ry
  exact SeqAt.compareNe_reads r1 r2 sd se (by omega) ⟨.bl _, H, I, rfl, q⟩
/-- what two equal things are asked -/
def EqK (K : Fr) (x y : V) (H : Hp) (P : Bool → Prop) : Prop := (∃ a b, x = .bl a ∧ y = .bl b ∧ P (decide (a = b))) ∨ ∃ d e, Dp K H x d ∧ Dp K H y e ∧ d.canLay0 = true ∧ e.canLay0 = true ∧ (d.depth ≤ 191 ∨ e.depth ≤ 191) ∧ P (PyData.eqv d e)
theorem eqk {dx dy : SD} {x y : V} {P : Bool → Prop} (rh : RH K H h) (rx : Rep K H dx x) (ry : Rep K H dy y) (q : M.eqOk dx dy h P) : EqK K x y H P := by
  have plainCase : M.pureD dx = true ∧ M.pureD dy = true ∧ (M.plain 190 dx = true ∨ M.plain 190 dy = true) ∧ P (decide (dx = dy)) → EqK K x y H P := fun ⟨p1, p2, dp, q⟩ => by
    refine .inr ⟨toPy dx, toPy dy, rep_dp p1 rx, rep_dp p2 ry, rep_can p1 rx, rep_can p2 ry, ?_, by rw [eqv_py dx dy p1 p2]; exact q⟩
    rcases dp with dp | dp
    · exact .inl (Nat.le_succ_of_le (py_depth _ _ dp))
    · exact .inr (Nat.le_succ_of_le (py_depth _ _ dp))
  cases dx with
  | bl a => cases dy with
    | bl b =>
      cases (show x = _ from rx); cases (show y = _ from ry)
      exact .inl ⟨a, b, rfl, rfl, q⟩
    | _ => exact False.elim q
  | ref p => cases dy with
    | ref p2 =>
      cases (show x = _ from rx); cases (show y = _ from ry)
      obtain ⟨xs, ys, e1, e2, p1, p2, dp, q⟩ := q
      obtain ⟨vs, a1, r1⟩ := rh _ _ e1
      obtain ⟨ws, a2, r2⟩ := rh _ _ e2
      refine .inr ⟨.list (toPys xs), .list (toPys ys), .lst (SqL.of a1) (reps_dp p1 r1), .lst (SqL.of a2) (reps_dp p2 r2), reps_can p1 r1, reps_can p2 r2, ?_, ?_⟩
      · simp only [PyData.depth]
        rcases dp with dp | dp
        · exact .inl (Nat.succ_le_succ (pys_depth _ _ dp))
        · exact .inr (Nat.succ_le_succ (pys_depth _ _ dp))
      · simp only [PyData.eqv, eqv_pys xs ys p1 p2]
        exact q
    | _ => exact False.elim q
  | non => exact plainCase q
  | int _ => exact plainCase q
  | str _ => exact plainCase q
  | tup _ => exact plainCase q
  | rol _ => exact plainCase q

/-! ### in -/
def rDin (neg : Bool) : R2 := fun x y H Q => ∃ a o, y = .ref a ∧ DGet H a x o ∧ Q (.bl (if neg then !o.isSome else o.isSome)) H
theorem op_din {X : Cx} (hu : X.A.units + 1 < cLine) : OpR X (compareOp .In) (rDin false) := by
  intro pins s σ H x y v u Q I rx ry h
  obtain ⟨a, o, rfl, g, q⟩ := h
  obtain rfl : u = Value.ref a := ry
  exact d_in hu I g rx fun s3 I3 => ⟨.bl o.isSome, H, I3, rfl, q⟩
theorem op_dnotin {X : Cx} (hu : X.A.units + 1 < cLine) : OpR X (compareOp .NotIn) (rDin true) := by
  intro pins s σ H x y v u Q I rx ry h
  obtain ⟨a, o, rfl, g, q⟩ := h
  obtain rfl : u = Value.ref a := ry
  exact d_notIn hu I g rx fun s3 I3 => ⟨.bl (!o.isSome), H, I3, rfl, q⟩
def rLin (K : Fr) (neg : Bool) : R2 := fun x y H Q => ∃ d ds, Dp K H x d ∧ Dp K H y (.list ds) ∧ d.canLay0 = true ∧ PyData.canLayAll0 ds = true ∧ (d.depth ≤ 191 ∨ PyData.depthAll ds ≤ 191) ∧ Q (.bl (if neg then !ds.any fun z => PyData.eqv z d else ds.any fun z => PyData.eqv z d)) H
theorem op_lin {X : Cx} (hu : X.A.units + 200 < cLine) : OpR X (compareOp .In) (rLin X.F false) := by
  intro pins s σ H x y v u Q I rx ry h
  obtain ⟨d, ds, hd, he, sd, se, dp, q⟩ := h
  obtain ⟨as, r1⟩ := Dp.reads I d x v hd rx
  obtain ⟨bs, r2⟩ := Dp.reads I (.list ds) y u he ry
  exact SeqAt.in_list_reads r2 r1 se sd (by omega) ⟨.bl _, H, I, rfl, q⟩
theorem op_lnotin {X : Cx} (hu : X.A.units + 200 < cLine) : OpR X (compareOp .NotIn) (rLin X.F true) := by
  intro pins s σ H x y v u Q I rx ry h
  obtain ⟨d, ds, hd, he, sd, se, dp, q⟩ := h
  obtain ⟨as, r1⟩ := Dp.reads I d x v hd rx
  obtain ⟨bs, r2⟩ := Dp.reads I (.list ds) y u he ry
  exact SeqAt.notIn_list_reads r2 r1 se sd (by omega) ⟨.bl _, H, I, rfl, q⟩
theorem any_py : ∀ (xs : List SD) (x : SD), M.pureDs xs = true → M.pureD x = true → ((toPys xs).any fun z => PyData.eqv z (toPy x)) = xs.any fun y => decide (y = x)
  | [], _, _, _ => rfl
  | y :: ys, x, p, q => by
    obtain ⟨p1, p2⟩ := ba (show (M.pureD y && M.pureDs ys) = true by simpa only [M.pureDs] using p)
    show (PyData.eqv (toPy y) (toPy x) || (toPys ys).any fun z => PyData.eqv z (toPy x)) = _
    rw [eqv_py y x p1 q, any_py ys x p2 q, List.any_cons]
/-- keys -/
theorem keyV_inj {a b : SD} {k : Key} (h1 : keyV a = some k) (h2 : keyV b = some k) : a = b := by
  cases a <;> simp [keyV] at h1
  · cases b <;> simp [keyV] at h2
    · subst h1; rw [Sum.inl.inj h2]
    · subst h1; cases h2
  · cases b <;> simp [keyV] at h2
    · subst h1; cases h2
    · subst h1; rw [sV_inj (Sum.inr.inj h2)]
theorem keyV_rep {d : SD} {k : Key} {v : V} (e : keyV d = some k) (r : Rep K H d v) : v = kV k := by
  cases d <;> simp [keyV] at e
  · subst e; exact r
  · subst e; exact r.1
theorem keyOk0 {d : SD} (k : M.keyOk 0 d = true) : ∃ x, keyV d = some x := by
  cases d <;> first | exact ⟨_, rfl⟩ | simp [M.keyOk] at k
theorem rep_str {d : SD} {v : V} (r : Rep K H d v) : ∀ s, d = .str s → sOk s := fun s e => by subst e; exact r.2
theorem reps_str {ds : List SD} {vs : List V} (r : Reps K H ds vs) : ∀ d ∈ ds, ∀ s, d = .str s → sOk s := by
  induction ds generalizing vs with
  | nil => intro d hd; cases hd
  | cons a as ih =>
    obtain ⟨v, w, _, r1, r2⟩ := r
    intro d hd
    rcases List.mem_cons.mp hd with e | hd
    · subst e; exact rep_str r1
    · exact ih r2 d hd

/-- a table of any kind of keys: how the two look-ups agree -/
structure KeyRel (κ : Type) [DecidableEq κ] (K : Fr) (H : Hp) (R : SD → κ → Prop) : Prop where
  inj : ∀ a b k, R a k → R b k → a = b
  fn : ∀ a k k', R a k → R a k' → k = k'
abbrev PR {κ : Type} (K : Fr) (H : Hp) (R : SD → κ → Prop) := fun (x : SD × SD) (p : κ × V) => R x.1 p.1 ∧ Rep K H x.2 p.2
section
variable {κ : Type} [DecidableEq κ] {R : SD → κ → Prop} (kr : KeyRel κ K H R)
include kr
theorem kv_get {kvs : List (SD × SD)} {ps : List (κ × V)} (r : Paired (PR K H R) kvs ps) {d : SD} {k : κ} (hk : R d k) :
    (M.kvGet kvs d = none ∧ valV ps k = none) ∨ ∃ e v, M.kvGet kvs d = some e ∧ valV ps k = some v ∧ Rep K H e v := by
  induction r with
  | nil => exact .inl ⟨rfl, rfl⟩
  | @cons x p xs ps hx t ih =>
    by_cases e : x.1 = d
    · have e2 : p.1 = k := kr.fn _ _ _ (e ▸ hx.1) hk
      exact .inr ⟨x.2, p.2, by simp [M.kvGet, List.find?_cons, e], valV_pos e2, hx.2⟩
    · have e2 : ¬ p.1 = k := fun z => e (kr.inj _ _ _ (z ▸ hx.1) hk)
      have e3 : M.kvGet (x :: xs) d = M.kvGet xs d := by simp [M.kvGet, List.find?_cons, e]
      rw [e3, valV_neg e2]
      exact ih
theorem kv_any {kvs : List (SD × SD)} {ps : List (κ × V)} (r : Paired (PR K H R) kvs ps) {d : SD} {k : κ} (hk : R d k) :
    (kvs.any fun kv => decide (kv.1 = d)) = ps.any fun kv => decide (kv.1 = k) := by
  induction r with
  | nil => rfl
  | @cons x p xs ps hx t ih =>
    rw [List.any_cons, List.any_cons, ih]
    congr 1
    by_cases e : x.1 = d
    · have e2 : p.1 = k := kr.fn _ _ _ (e ▸ hx.1) hk
      rw [decide_eq_true e, decide_eq_true e2]
    · have e2 : ¬ p.1 = k := fun z => e (kr.inj _ _ _ (z ▸ hx.1) hk)
      rw [decide_eq_false e, decide_eq_false e2]
theorem kv_repl {kvs : List (SD × SD)} {ps : List (κ × V)} (r : Paired (PR K H R) kvs ps) {d e : SD} {k : κ} {v : V} (hk : R d k) (re : Rep K H e v) :
    Paired (PR K H R) (kvs.map fun kv => if kv.1 = d then (kv.1, e) else kv) (ps.map fun kv => if kv.1 = k then (kv.1, v) else kv) := by
  induction r with
  | nil => exact .nil
  | @cons x p xs ps hx t ih =>
    rw [List.map_cons, List.map_cons]
    refine .cons ?_ ih
    by_cases e : x.1 = d
    · have e2 : p.1 = k := kr.fn _ _ _ (e ▸ hx.1) hk
      rw [if_pos e, if_pos e2]
      exact ⟨hx.1, re⟩
    · have e2 : ¬ p.1 = k := fun z => e (kr.inj _ _ _ (z ▸ hx.1) hk)
      rw [if_neg e, if_neg e2]
      exact hx
theorem kv_put {kvs : List (SD × SD)} {ps : List (κ × V)} (r : Paired (PR K H R) kvs ps) {d e : SD} {k : κ} {v : V} (hk : R d k) (re : Rep K H e v) : Paired (PR K H R) (M.kvPut kvs d e) (putK ps k v) := by
  unfold M.kvPut putK
  rw [kv_any kr r hk]
  by_cases z : (ps.any fun kv => decide (kv.1 = k)) = true
  · rw [if_pos z, if_pos z]; exact kv_repl kr r hk re
  · rw [if_neg z, if_neg z]; exact Paired.snoc r ⟨hk, re⟩
end
def R0 : SD → Key → Prop := fun d k => keyV d = some k ∧ ∀ s, d = .str s → sOk s
theorem kr0 : KeyRel Key K H R0 := ⟨fun a b k h1 h2 => keyV_inj h1.1 h2.1, fun a k k' h1 h2 => Option.some.inj (h1.1.symm.trans h2.1)⟩
theorem dct0 {p : Addr} {kvs : List (SD × SD)} : ObRep K H p (.dct 0 kvs) ↔ ∃ ps : List (Key × V), H p = some (.dK ps) ∧ Paired (PR K H R0) kvs ps :=
  ⟨fun ⟨ps, e, r⟩ => ⟨ps, e, Paired.mapP r fun _ _ z => ⟨⟨z.1, z.2.1⟩, z.2.2⟩⟩, fun ⟨ps, e, r⟩ => ⟨ps, e, Paired.mapP r fun _ _ z => ⟨z.1.1, z.1.2, z.2⟩⟩⟩
/-- what a dict says of a key -/
theorem dget_ok {p : Addr} {kd : Nat} {kvs : List (SD × SD)} {d : SD} {v : V} (o : ObRep K H p (.dct kd kvs)) (kk : M.keyOk kd d = true) (r : Rep K H d v) :
    ∃ ov, DGet H p v ov ∧ ((M.kvGet kvs d = none ∧ ov = none) ∨ ∃ e w, M.kvGet kvs d = some e ∧ ov = some w ∧ Rep K H e w) := by
  match kd, o, kk with
  | 0, o, kk =>
    obtain ⟨ps, e, pr⟩ := dct0.mp o
    obtain ⟨k, ek⟩ := keyOk0 kk
    have ev := keyV_rep ek r
    subst ev
    refine ⟨valV ps k, DGet.k e, ?_⟩
    exact (kv_get kr0 pr ⟨ek, rep_str r⟩).imp (fun z => z) (fun ⟨e, v, a, b, c⟩ => ⟨e, v, a, b, c⟩)
theorem rdct0 {p : Addr} {kvs : List (SD × SD)} : ObRep K H p (.rdct 0 kvs) ↔ ∃ (od : Obj) (ps : List (Key × V)), H p = some (.frz od (.dK ps)) ∧ Paired (PR K H R0) kvs ps :=
  ⟨fun ⟨od, ps, e, r⟩ => ⟨od, ps, e, Paired.mapP r fun _ _ z => ⟨⟨z.1, z.2.1⟩, z.2.2⟩⟩, fun ⟨od, ps, e, r⟩ => ⟨od, ps, e, Paired.mapP r fun _ _ z => ⟨z.1.1, z.1.2, z.2⟩⟩⟩
theorem rd_dct {p : Addr} {kd : Nat} {kvs : List (SD × SD)} (o : ObRep K H p (.dct kd kvs) ∨ ObRep K H p (.rdct kd kvs)) : kd = 0 ∧ ∃ ps : List (Key × V), Rd H p (.dK ps) ∧ Paired (PR K H R0) kvs ps := by
  rcases o with o | o
  · match kd, o with
    | 0, o => obtain ⟨ps, e, pr⟩ := dct0.mp o; exact ⟨rfl, ps, .inl e, pr⟩
  · match kd, o with
    | 0, o => obtain ⟨od, ps, e, pr⟩ := rdct0.mp o; exact ⟨rfl, ps, .inr ⟨od, e⟩, pr⟩
theorem dget_rok {p : Addr} {kd : Nat} {kvs : List (SD × SD)} {d : SD} {v : V} (o : ObRep K H p (.rdct kd kvs)) (kk : M.keyOk kd d = true) (r : Rep K H d v) :
    ∃ ov, DGet H p v ov ∧ ((M.kvGet kvs d = none ∧ ov = none) ∨ ∃ e w, M.kvGet kvs d = some e ∧ ov = some w ∧ Rep K H e w) := by
  obtain ⟨rfl, ps, e, pr⟩ := rd_dct (.inr o)
  obtain ⟨k, ek⟩ := keyOk0 kk
  have ev := keyV_rep ek r
  subst ev
  refine ⟨valV ps k, .inl ⟨ps, k, e, rfl, rfl⟩, ?_⟩
  exact (kv_get kr0 pr ⟨ek, rep_str r⟩).imp (fun z => z) (fun ⟨e, v, a, b, c⟩ => ⟨e, v, a, b, c⟩)
theorem dput_ok {p : Addr} {kd : Nat} {kvs : List (SD × SD)} {d e : SD} {v w : V} (o : ObRep K H p (.dct kd kvs)) (kk : M.keyOk kd d = true) (r : Rep K H d v) (re : Rep K H e w) (hz : kvs.length < M.LINE) (hp : h p = some (.dct kd kvs)) (rh : RH K H h) :
    ∃ H', DPut H p v w H' ∧ Frm H h H' (M.up h p (.dct kd (M.kvPut kvs d e))) ∧ RH K H' (M.up h p (.dct kd (M.kvPut kvs d e))) := by
  match kd, o, kk, hp with
  | 0, o, kk, hp =>
    obtain ⟨ps, e1, pr⟩ := dct0.mp o
    obtain ⟨k, ek⟩ := keyOk0 kk
    have ev := keyV_rep ek r
    subst ev
    have hl := line_eq
    have hn := Paired.length pr
    refine ⟨_, DPut.k e1 (by omega), frm_put hp, rh_put rh hp ?_⟩
    refine dct0.mpr ⟨_, upd_same, ?_⟩
    have kp : Kp H (upd H p (.dK (putK ps k w))) := kp_put rh hp
    exact Paired.mapP (kv_put kr0 pr ⟨ek, rep_str r⟩ re) fun _ _ z => ⟨z.1, z.2.kp kp⟩

/-! == of what holds lists and dicts -/
def rEqS (K : Fr) : R2 := fun x y H Q => ∃ (h : M.AH) (a b : SD) (r : Bool), RH K H h ∧ Rep K H a x ∧ Rep K H b y ∧ M.EqS (M.EqD 20 h) h a b r ∧ Q (.bl r) H
section
variable {X : L2.Cx} {pins : List (Addr × Obj)} {σ : L2.St} {s : Shared}
theorem all2_run {A : Around} {R : SD → SD → Prop} (ih : ∀ a b x y v u, R a b → Rep X.F H a x → Rep X.F H b y → RelV x v → RelV y u → SeqAt.EqP X.prog X.w A s v u true) : ∀ {as bs : List SD} {xs ys : List V} {us ws : List Value}, M.All2 R as bs → Reps X.F H as xs → Reps X.F H bs ys → Vals xs us → Vals ys ws →
    us.length = ws.length ∧ ∀ j (h1 : j < us.length) (h2 : j < ws.length), SeqAt.EqP X.prog X.w A s us[j] ws[j] true
  | [], [], _, _, _, _, _, r1, r2, v1, v2 => by
    cases (show _ = _ from r1); cases (show _ = _ from r2)
    cases v1; cases v2
    exact ⟨rfl, fun j h1 => absurd h1 (Nat.not_lt_zero j)⟩
  | [], _ :: _, _, _, _, _, h, _, _, _, _ => h.elim
  | _ :: _, [], _, _, _, _, h, _, _, _, _ => h.elim
  | a :: as, b :: bs, _, _, _, _, ⟨h1, h2⟩, ⟨v, r, e, a1, a2⟩, ⟨v', r', e', b1, b2⟩, v1, v2 => by
    subst e; subst e'
    cases v1 with
    | cons p1 p2 => cases v2 with
      | cons q1 q2 =>
        obtain ⟨l, k⟩ := all2_run ih h2 a2 b2 p2 q2
        refine ⟨by simp [l], fun j j1 j2 => ?_⟩
        cases j with
        | zero => exact ih _ _ _ _ _ _ h1 a1 b1 p1 q1
        | succ j => exact k j (Nat.lt_of_succ_lt_succ j1) (Nat.lt_of_succ_lt_succ j2)
theorem hitsD_run (I : Inv X pins σ H s) {A : Around} {R : SD → SD → Bool → Prop} (ih : ∀ a b x y v u r, R a b r → Rep X.F H a x → Rep X.F H b y → RelV x v → RelV y u → SeqAt.EqP X.prog X.w A s v u r) {kws : List (SD × SD)} {ls : List (Key × V)} {vb : List (Key × Value)} (pb : Paired (PR X.F H R0) kws ls) (rb : KV ls vb) :
    ∀ {kvs : List (SD × SD)} {ks : List (Key × V)} {va : List (Key × Value)} {r : Bool}, M.HitsD R kws kvs r → Paired (PR X.F H R0) kvs ks → KV ks va → PySem.W.KeqHitsP X.prog X.w A s vb va r
  | [], _, _, r, h, pa, ra => by
    cases pa
    unfold KV at ra
    cases ra
    rw [show r = true from h]
    exact .nil
  | kv :: kvs, _, _, r, h, pa, ra => by
    cases pa with
    | @cons _ p _ ps hp tp =>
      unfold KV at ra
      cases ra with
      | @cons _ q _ qs hq tq =>
        obtain ⟨h1, h2⟩ := hq
        obtain ⟨key, v⟩ := q
        have h1' : p.1 = key := h1
        subst h1'
        have look := rb.val p.1
        have kg := kv_get kr0 pb (d := kv.1) (k := p.1) hp.1
        rcases h with ⟨e, rfl⟩ | ⟨u, e, r', e1, e2, e3, rfl⟩
        · rcases kg with ⟨_, g2⟩ | ⟨_, _, g1, _⟩
          · rw [g2] at look
            refine .miss ?_
            have := look.isSome_eq
            cases z : valueAt vb p.1 with
            | none => rfl
            | some _ => rw [z] at this; cases this
          · rw [e] at g1; cases g1
        · rcases kg with ⟨g1, _⟩ | ⟨d, w, g1, g2, g3⟩
          · rw [e1] at g1; cases g1
          · rw [e1] at g1; cases g1
            rw [g2] at look
            obtain ⟨y, hy, ry⟩ := look.some_of
            exact .hit hy (ih _ _ _ _ _ _ _ e2 hp.2 g3 h2 ry) (hitsD_run I ih pb rb e3 tp tq)
theorem eqS_run (I : Inv X pins σ H s) (rh : RH X.F H h) {A : Around} {R : SD → SD → Bool → Prop} (hu : A.units < cLine) (ih : ∀ a b x y v u r, R a b r → Rep X.F H a x → Rep X.F H b y → RelV x v → RelV y u → SeqAt.EqP X.prog X.w A.in1 s v u r) {a b : SD} {x y : V} {v u : Value} {r : Bool}
    (q : M.EqS R h a b r) (ra : Rep X.F H a x) (rb : Rep X.F H b y) (rx : RelV x v) (ry : RelV y u) (E Q : Value → Shared → Prop) (k : Q (.bool r) s) : wpAny (model X.prog X.w) A (richCompare .Eq v u) Q E s := by
  have ih2 : ∀ a b x y v u, R a b true → Rep X.F H a x → Rep X.F H b y → RelV x v → RelV y u → SeqAt.EqP X.prog X.w A.in1 s v u true := fun a b x y v u z => ih a b x y v u true z
  rcases q with ⟨xs, ys, rfl, rfl, al, rfl⟩ | ⟨p, q, xs, ys, rfl, rfl, ne, e1, e2, al, rfl⟩ | ⟨p, q, kvs, kws, r', rfl, rfl, ne, e1, e2, hits, rfl⟩
  · obtain ⟨a1, vs, e1, t1, s1⟩ := ra
    obtain ⟨a2, ws, e2, t2, s2⟩ := rb
    subst e1; subst e2
    cases (show v = Value.ref a1 from rx); cases (show u = Value.ref a2 from ry)
    obtain ⟨us1, w1, p1, _⟩ := I.tuple (show SqT X.F H a1 vs from t1.imp .inl id)
    obtain ⟨us2, w2, p2, _⟩ := I.tuple (show SqT X.F H a2 ws from t2.imp .inl id)
    obtain ⟨l, k2⟩ := all2_run ih2 al s1 s2 w1 w2
    refine GQ.rc_tupG (items := us1.toArray) (items2 := us2.toArray) (by simpa using l) hu (fun _ s' => s' = s) p1 p2 (fun i h1 h2 s' e => ?_) (fun s' e => by rw [e]; exact k) rfl
    subst e
    have := k2 i (by simpa using h1) (by simpa using h2) E (fun r s'' => r = true ∧ s'' = s') ⟨rfl, rfl⟩
    simpa using this
  · cases (show x = _ from ra); cases (show y = _ from rb)
    cases (show v = Value.ref p from rx); cases (show u = Value.ref q from ry)
    obtain ⟨vs, a1, r1⟩ := rh p _ e1
    obtain ⟨ws, a2, r2⟩ := rh q _ e2
    obtain ⟨us1, w1, p1, _⟩ := I.list (SqL.of (K := X.F) a1)
    obtain ⟨us2, w2, p2, _⟩ := I.list (SqL.of (K := X.F) a2)
    obtain ⟨l, k2⟩ := all2_run ih2 al r1 r2 w1 w2
    refine SeqAt.rcP_lists (e := fun _ => true) p1.isList p2.isList (by simpa using l) hu (fun j h1 h2 => ?_) E Q ?_
    · have := k2 j (by simpa using h1) (by simpa using h2)
      simpa using this
    · rw [show ((List.range us1.toArray.size).all fun _ => true) = true from List.all_eq_true.mpr fun _ _ => rfl]
      exact k
  · cases (show x = _ from ra); cases (show y = _ from rb)
    cases (show v = Value.ref p from rx); cases (show u = Value.ref q from ry)
    obtain ⟨ks, a1, pa⟩ := dct0.mp (rh p _ e1)
    obtain ⟨ls, a2, pb⟩ := dct0.mp (rh q _ e2)
    obtain ⟨_, ya, va, ka, da⟩ := dk_of I.hok a1
    obtain ⟨_, yb, vb, kb, db⟩ := dk_of I.hok a2
    have n1 : kvs.length = va.length := (Paired.length pa).trans ka.length
    have n2 : kws.length = vb.length := (Paired.length pb).trans kb.length
    refine PySem.W.rcP_dicts (knd := mixKind X.prog X.w) (r := r') ya yb da db hu (fun hl => hitsD_run I ih pb kb (hits (by omega)) pa ka) E Q ?_
    rw [← n1, ← n2]
    exact k
theorem eqD_run (I : Inv X pins σ H s) (rh : RH X.F H h) : ∀ (n : Nat) (A : Around), A.units + n + 179 < cLine → ∀ (a b : SD) (x y : V) (v u : Value) (r : Bool), M.EqD n h a b r → Rep X.F H a x → Rep X.F H b y → RelV x v → RelV y u → SeqAt.EqP X.prog X.w A s v u r
  | 0, _, _, _, _, _, _, _, _, _, h, _, _, _, _ => (show False from h).elim
  | n + 1, A, hu, a, b, x, y, v, u, r, q, ra, rb, rx, ry => by
    rcases q with ⟨p1, p2, dp, rfl⟩ | ⟨p, rfl, rfl, rfl⟩ | q
    · obtain ⟨as, r1⟩ := Dp.reads I _ x v (rep_dp p1 ra) rx
      obtain ⟨bs, r2⟩ := Dp.reads I _ y u (rep_dp p2 rb) ry
      rw [← eqv_py a b p1 p2]
      refine (SeqAt.eqAt_reads _ _ A s v u as bs r1 r2 (rep_can p1 ra) (rep_can p2 rb) ?_).eqP
      have : min (toPy a).depth (toPy b).depth ≤ 170 + n := by
        rcases dp with dp | dp
        · exact Nat.le_trans (Nat.min_le_left _ _) (py_depth _ _ dp)
        · exact Nat.le_trans (Nat.min_le_right _ _) (py_depth _ _ dp)
      omega
    · cases (show x = _ from ra); cases (show y = _ from rb)
      cases (show v = Value.ref p from rx); cases (show u = Value.ref p from ry)
      exact (SeqAt.EqAt.same _).eqP
    · have step := fun E Q k => eqS_run I rh (A := A) (by omega) (fun a b x y v u r z => eqD_run I rh n A.in1 (by show A.units + 1 + n + 179 < cLine; omega) a b x y v u r z) q ra rb rx ry E Q k
      rcases q with ⟨xs, ys, rfl, rfl, al, rfl⟩ | ⟨p, q, xs, ys, rfl, rfl, ne, e1, e2, al, rfl⟩ | ⟨p, q, kvs, kws, r', rfl, rfl, ne, e1, e2, hits, rfl⟩
      · obtain ⟨a1, vs, e1, t1, s1⟩ := ra
        obtain ⟨a2, ws, e2, t2, s2⟩ := rb
        subst e1; subst e2
        cases (show v = Value.ref a1 from rx); cases (show u = Value.ref a2 from ry)
        by_cases e : a1 = a2
        · subst e; exact (SeqAt.EqAt.same _).eqP
        · exact SeqAt.eqP_refs e step
      · cases (show x = _ from ra); cases (show y = _ from rb)
        cases (show v = Value.ref p from rx); cases (show u = Value.ref q from ry)
        exact SeqAt.eqP_refs ne step
      · cases (show x = _ from ra); cases (show y = _ from rb)
        cases (show v = Value.ref p from rx); cases (show u = Value.ref q from ry)
        exact SeqAt.eqP_refs ne step
end
theorem op_eqS {X : L2.Cx} (hu : X.A.units + 200 < cLine) : OpR X (compareOp .Eq) (rEqS X.F) := by
  intro pins s σ H x y v u Q I rx ry h
  obtain ⟨hh, a, b, r, rh, ra, rb, e, q⟩ := h
  exact eqS_run I rh (A := X.A) (by omega) (fun a b x y v u r z => eqD_run I rh 20 X.A.in1 (by show X.A.units + 1 + 20 + 179 < cLine; omega) a b x y v u r z) e ra rb rx ry _ _ ⟨.bl r, H, I, rfl, q⟩
/-! != of two dicts -/
def rNeS (K : Fr) : R2 := fun x y H Q => ∃ (h : M.AH) (a b : SD), RH K H h ∧ Rep K H a x ∧ Rep K H b y ∧ M.neD a b h fun r => Q (.bl r) H
theorem ne_dicts {κ : Type} [DecidableEq κ] {prog : Program} {w : World} {knd : PySem.KeyKind prog w κ} {A : Around} {s : Shared} {a b : Addr} {ka kb : List (κ × Value)} {r : Bool} (ha : (a == sysModules) = false) (hb : (b == sysModules) = false)
    (da : s.heap.DictOf knd a ka) (db : s.heap.DictOf knd b kb) (hu : A.units < cLine) (hits : ka.length = kb.length → PySem.W.KeqHitsP prog w A.in1 s kb ka r) {E Q : Value → Shared → Prop} (h : Q (.bool (!(ka.length == kb.length && r))) s) : wpAny (model prog w) A (compareOp .NotEq (.ref a) (.ref b)) Q E s := by
  have e1 := F.slot_dict_ne
  refine wpAny_richCompare_same_room (op := .NotEq) da.typeIs db.typeIs e1 (wpAny_call_entry e1 da.typeIs F.entry_dict_ne ?_ (F.args_dict_ne_2 _ _)) hu
  show wpAny _ _ (Builtin.Dict.dictSlotArgs "__ne__" ⟨[.ref a, .ref b], []⟩ >>= _) _ _ s
  refine wpAny_bind ?_
  unfold Builtin.Dict.dictSlotArgs
  refine wpAny_bind (wpAny_notOrdered_dict da.typeIs ?_)
  show wpAny _ _ (pure (Value.ref a, Value.ref b)) _ _ s
  refine wpAny_pure (wpAny_bind (wpAny_isInstance (T := "dict") db.typeIs F.sub_dict_dict ?_))
  simp only [Bool.not_true, Bool.false_eq_true, if_false]
  refine wpAny_bind (wpAny_pure (wpAny_bind (wpAny_pure (wpAny_bind (PySem.W.samePairsP ha hb da db hits ?_)))))
  refine wpAny_pure ⟨_, rfl, (fun x => nomatch x), ?_⟩
  simpa using h
theorem op_neS {X : L2.Cx} (hu : X.A.units + 200 < cLine) : OpR X (compareOp .NotEq) (rNeS X.F) := by
  intro pins s σ H x y v u Q I rx ry h
  obtain ⟨hh, a, b, rh, ra, rb, p, q, kvs, kws, r', rfl, rfl, e1, e2, hits, q0⟩ := h
  cases (show x = _ from ra); cases (show y = _ from rb)
  cases (show v = Value.ref p from rx); cases (show u = Value.ref q from ry)
  obtain ⟨ks, a1, pa⟩ := dct0.mp (rh p _ e1)
  obtain ⟨ls, a2, pb⟩ := dct0.mp (rh q _ e2)
  obtain ⟨_, ya, va, ka, da⟩ := dk_of I.hok a1
  obtain ⟨_, yb, vb, kb, db⟩ := dk_of I.hok a2
  have n1 : kvs.length = va.length := (Paired.length pa).trans ka.length
  have n2 : kws.length = vb.length := (Paired.length pb).trans kb.length
  refine ne_dicts (knd := mixKind X.prog X.w) (r := r') ya yb da db (by omega) (fun hl => hitsD_run I (fun a b x y v u r z => eqD_run I rh 20 X.A.in1 (by show X.A.units + 1 + 20 + 179 < cLine; omega) a b x y v u r z) pb kb (hits (by omega)) pa ka) ?_
  rw [← n1, ← n2]
  exact ⟨.bl _, H, I, rfl, q0⟩
/-! ### dicts with nested keys -/
mutual
theorem nK_inj : ∀ (a b : SD), M.pureD a = true → M.pureD b = true → nK a = nK b → a = b
  | .non, b, _, q, e => by cases b <;> simp [M.pureD, nK] at q e ⊢
  | .int i, b, _, q, e => by cases b <;> simp [M.pureD, nK] at q e ⊢; exact e
  | .str s, b, _, q, e => by cases b <;> simp [M.pureD, nK] at q e ⊢; exact sV_inj e
  | .tup xs, b, p, q, e => by
    cases b <;> simp [M.pureD, nK] at p q e ⊢
    exact nKs_inj xs _ p q e
  | .bl _, _, p, _, _ => by simp [M.pureD] at p
  | .ref _, _, p, _, _ => by simp [M.pureD] at p
  | .rol _, _, p, _, _ => by simp [M.pureD] at p
theorem nKs_inj : ∀ (as bs : List SD), M.pureDs as = true → M.pureDs bs = true → nKs as = nKs bs → as = bs
  | [], bs, _, _, e => by cases bs <;> simp [nKs] at e ⊢
  | a :: as, bs, p, q, e => by
    cases bs with
    | nil => simp [nKs] at e
    | cons b bs =>
      simp only [M.pureDs, Bool.and_eq_true] at p q
      simp only [nKs, List.cons.injEq] at e ⊢
      exact ⟨nK_inj a b p.1 q.1 e.1, nKs_inj as bs p.2 q.2 e.2⟩
end
mutual
theorem nk_depth : ∀ (n : Nat) (d : SD), M.plain n d = true → (nK d).depth ≤ n
  | _, .non, _ => by simp [nK, NestedKey.depth]
  | _, .int _, _ => by simp [nK, NestedKey.depth]
  | _, .str _, _ => by simp [nK, NestedKey.depth]
  | _, .bl _, _ => by simp [nK, NestedKey.depth]
  | _, .ref _, _ => by simp [nK, NestedKey.depth]
  | _, .rol _, _ => by simp [nK, NestedKey.depth]
  | 0, .tup ds, h => by simp [M.plain] at h
  | n + 1, .tup ds, h => by
    simp only [M.plain] at h
    simp only [nK, NestedKey.depth]
    exact Nat.succ_le_succ (nks_depth n ds h)
theorem nks_depth : ∀ (n : Nat) (ds : List SD), M.plains n ds = true → NestedKey.depthAll (nKs ds) ≤ n
  | _, [], _ => by simp [nKs, NestedKey.depthAll]
  | n, d :: ds, h => by
    simp only [M.plains, Bool.and_eq_true] at h
    simp only [nKs, NestedKey.depthAll]
    exact Nat.max_le.mpr ⟨nk_depth n d h.1, nks_depth n ds h.2⟩
end
section
variable {X : L2.Cx} {pins : List (Addr × Obj)} {σ : L2.St} {s : Shared}
mutual
theorem rep_ni (I : Inv X pins σ H s) : ∀ (d : SD) (v : V) (u : Value), M.pureD d = true → Rep X.F H d v → RelV v u → NestedIs s.heap (nK d) u
  | .non, v, u, _, r, ru => by cases (show v = _ from r); cases (show u = _ from ru); exact .none
  | .int i, v, u, _, r, ru => by
    cases (show v = _ from r)
    obtain ⟨t, rfl⟩ := (show ∃ t, u = Value.int i t from ru)
    exact .int i t
  | .str x, v, u, _, r, ru => by
    cases (show v = _ from r.1)
    obtain ⟨t, rfl⟩ := (show ∃ t, u = Value.str (sV x) t from ru)
    exact .text _ t
  | .tup ds, v, u, p, ⟨a, vs, e, t, rs⟩, ru => by
    subst e
    cases (show u = Value.ref a from ru)
    obtain ⟨us, w, ⟨o, h1, h2, n, h3⟩, _⟩ := I.tuple (show SqT X.K H a vs from t.imp .inl id)
    exact .tup h1 h2 h3 (reps_ni I ds vs us (by simpa only [M.pureD] using p) rs w)
  | .bl _, _, _, p, _, _ => by simp [M.pureD] at p
  | .ref _, _, _, p, _, _ => by simp [M.pureD] at p
  | .rol _, _, _, p, _, _ => by simp [M.pureD] at p
theorem reps_ni (I : Inv X pins σ H s) : ∀ (ds : List SD) (vs : List V) (us : List Value), M.pureDs ds = true → Reps X.F H ds vs → Vals vs us → NestedAll s.heap (nKs ds) us
  | [], vs, us, _, r, w => by cases (show vs = [] from r); cases w; exact .nil
  | d :: ds, _, us, p, ⟨v, r, e, a, b⟩, w => by
    subst e
    simp only [M.pureDs, Bool.and_eq_true] at p
    cases w with
    | cons w1 w2 => exact .cons (rep_ni I d v _ p.1 a w1) (reps_ni I ds r _ p.2 b w2)
end
theorem nk_pure {d : SD} (h : M.nkOk d = true) : M.pureD d = true ∧ M.plain 8 d = true := by
  cases d with
  | tup ds =>
    simp only [M.nkOk, Bool.and_eq_true] at h
    exact ⟨by simp only [M.pureD]; exact h.1, by simp only [M.plain]; exact h.2⟩
  | _ => simp [M.nkOk] at h
theorem nk_is (I : Inv X pins σ H s) {d : SD} {a : Addr} (h : M.nkOk d = true) (r : Rep X.F H d (.ref a)) : (nestedKind X.prog X.w).is s.heap (nK d) a :=
  ⟨rep_ni I d _ _ (nk_pure h).1 r rfl, nk_depth 8 d (nk_pure h).2⟩
end
abbrev PN (K : Fr) (H : Hp) := fun (x : SD × SD) (p : NestedKey × Addr × V) => p.1 = nK x.1 ∧ M.nkOk x.1 = true ∧ Rep K H x.1 (.ref p.2.1) ∧ Rep K H x.2 p.2.2
abbrev PY := fun (p : NestedKey × Addr × V) (q : NestedKey × Addr × Value) => p.1 = q.1 ∧ p.2.1 = q.2.1 ∧ RelV p.2.2 q.2.2
def putX (k : NestedKey) (v : V) (x : NestedKey × Addr × V) : NestedKey × Addr × V := if x.1 = k then (x.1, x.2.1, v) else x
def storedX (xs : List (NestedKey × Addr × V)) (k : NestedKey) (a : Addr) (v : V) : List (NestedKey × Addr × V) := if (xs.any fun x => decide (x.1 = k)) = true then xs.map (putX k v) else xs ++ [(k, a, v)]
theorem storedX_len {xs : List (NestedKey × Addr × V)} {k : NestedKey} {a : Addr} {v : V} : (storedX xs k a v).length ≤ xs.length + 1 := by
  unfold storedX
  split <;> simp
theorem ent_any {xs : List (NestedKey × Addr × V)} {ys : List (NestedKey × Addr × Value)} (r : Paired PY xs ys) (k : NestedKey) : (xs.any fun x => decide (x.1 = k)) = (atKey ys k).isSome := by
  induction r with
  | nil => rfl
  | @cons p q ps qs h t ih =>
    rw [List.any_cons, ih]
    unfold atKey
    rw [List.find?_cons]
    by_cases e : q.1 = k
    · simp [h.1, e]
    · simp [h.1, e]
theorem ent_stored {xs : List (NestedKey × Addr × V)} {ys : List (NestedKey × Addr × Value)} (r : Paired PY xs ys) (k : NestedKey) (a : Addr) {v : V} {u : Value} (ru : RelV v u) : Paired PY (storedX xs k a v) (storedH ys k a u) := by
  unfold storedX storedH
  rw [ent_any r k]
  split
  · have rep : ∀ {ps qs}, Paired PY ps qs → Paired PY (ps.map (putX k v)) (qs.map (putAt k u)) := by
      intro ps qs r
      induction r with
      | nil => exact .nil
      | @cons p q ps qs h t ih =>
        rw [List.map_cons, List.map_cons]
        refine .cons ?_ ih
        unfold putX putAt
        by_cases e : p.1 = k
        · rw [if_pos e, if_pos (h.1.symm.trans e)]; exact ⟨h.1, h.2.1, ru⟩
        · rw [if_neg e, if_neg (fun z => e (h.1.trans z))]; exact h
    exact rep r
  · exact Paired.snoc r ⟨rfl, rfl, ru⟩
theorem nkey_iff {d d' : SD} (h : M.nkOk d = true) (h' : M.nkOk d' = true) : nK d = nK d' ↔ d = d' := ⟨nK_inj _ _ (nk_pure h).1 (nk_pure h').1, fun e => by rw [e]⟩
theorem nk_get {kvs : List (SD × SD)} {xs : List (NestedKey × Addr × V)} {ys : List (NestedKey × Addr × Value)} (r : Paired (PN K H) kvs xs) (ry : Paired PY xs ys) {d : SD} (hd : M.nkOk d = true) :
    (M.kvGet kvs d = none ∧ atKey ys (nK d) = none) ∨ ∃ e v p, M.kvGet kvs d = some e ∧ atKey ys (nK d) = some p ∧ Rep K H e v ∧ RelV v p.2 := by
  induction r generalizing ys with
  | nil => cases ry; exact .inl ⟨rfl, rfl⟩
  | @cons x p ks ps h t ih =>
    cases ry with
    | @cons _ q _ qs hq tq =>
      by_cases e : x.1 = d
      · refine .inr ⟨x.2, p.2.2, q.2, by simp [M.kvGet, List.find?_cons, e], ?_, h.2.2.2, hq.2.2⟩
        have : q.1 = nK d := by rw [← hq.1, h.1, e]
        simp [atKey, List.find?_cons, this]
      · have ne : ¬ q.1 = nK d := fun z => e ((nkey_iff h.2.1 hd).mp (by rw [← h.1, hq.1, z]))
        have e3 : M.kvGet (x :: ks) d = M.kvGet ks d := by simp [M.kvGet, List.find?_cons, e]
        have e4 : atKey (q :: qs) (nK d) = atKey qs (nK d) := by simp [atKey, List.find?_cons, ne]
        rw [e3, e4]
        exact ih tq
theorem nk_put {kvs : List (SD × SD)} {xs : List (NestedKey × Addr × V)} (r : Paired (PN K H) kvs xs) {d e : SD} {a : Addr} {v : V} (hd : M.nkOk d = true) (rd : Rep K H d (.ref a)) (re : Rep K H e v) : Paired (PN K H) (M.kvPut kvs d e) (storedX xs (nK d) a v) := by
  have an : (kvs.any fun kv => decide (kv.1 = d)) = xs.any fun x => decide (x.1 = nK d) := by
    induction r with
    | nil => rfl
    | @cons x p ks ps h t ih =>
      rw [List.any_cons, List.any_cons, ih, h.1]
      congr 1
      rw [decide_eq_decide]
      exact (nkey_iff h.2.1 hd).symm
  unfold M.kvPut storedX
  rw [an]
  split
  · have rep : ∀ {ks ps}, Paired (PN K H) ks ps → Paired (PN K H) (ks.map fun kv => if kv.1 = d then (kv.1, e) else kv) (ps.map (putX (nK d) v)) := by
      intro ks ps r
      induction r with
      | nil => exact .nil
      | @cons x p ks ps h t ih =>
        rw [List.map_cons, List.map_cons]
        refine .cons ?_ ih
        unfold putX
        by_cases z : x.1 = d
        · rw [if_pos z, if_pos (by rw [h.1, z])]; exact ⟨h.1, h.2.1, h.2.2.1, re⟩
        · rw [if_neg z, if_neg (by rw [h.1]; exact fun y => z ((nkey_iff h.2.1 hd).mp y))]; exact h
    exact rep r
  · exact Paired.snoc r ⟨rfl, hd, rd, re⟩
section
variable {X : L2.Cx} {pins : List (Addr × Obj)} {σ : L2.St} {s : Shared}
theorem ent_ok {h1 h2 : Heap} {P : Program} {w : World} {a : Addr} {xs : List (NestedKey × Addr × V)} (e : EntO P w a xs h1) (st : ∀ o, h1.get? a = some o → h2.get? a = some o) : EntO P w a xs h2 := by
  obtain ⟨z, y, ys, r, o, es, ep, g, q⟩ := e
  exact ⟨z, y, ys, r, o, es, ep, st _ g, q⟩
theorem ent_dict (I : Inv X pins σ H s) {p : Addr} {kvs : List (SD × SD)} {xs : List (NestedKey × Addr × V)} (e : H p = some (.ext (EntO X.prog X.w p xs))) (pr : Paired (PN X.F H) kvs xs) :
    xs.length ≤ sizeLine ∧ (p == sysModules) = false ∧ ∃ ys, Paired PY xs ys ∧ s.heap.DictOfH (nestedKind X.prog X.w) p ys := by
  obtain ⟨⟨z, y, ys, r, o, es, ep, g, c, dd, ee, nd⟩, _⟩ := I.hok p _ e
  refine ⟨z, y, ys, r, o, es, ep, g, c, dd, ee, ?_, nd⟩
  have all : ∀ {ks ps qs}, Paired (PN X.F H) ks ps → Paired PY ps qs → ∀ q ∈ qs, (nestedKind X.prog X.w).is s.heap q.1 q.2.1 := by
    intro ks ps qs r
    induction r generalizing qs with
    | nil => intro r2; cases r2; exact fun q hq => nomatch hq
    | @cons x p ks ps h t ih =>
      intro r2
      cases r2 with
      | @cons _ q _ qs hq tq =>
        intro q' hq'
        rcases List.mem_cons.mp hq' with e | hq'
        · subst e
          rw [← hq.1, ← hq.2.1, h.1]
          exact nk_is I h.2.1 h.2.2.1
        · exact ih tq q' hq'
  exact all pr r
def rNin (K : Fr) (neg : Bool) : R2 := fun x y H Q => ∃ a kvs d b, y = .ref a ∧ x = .ref b ∧ ObRep K H a (.dcn kvs) ∧ M.nkOk d = true ∧ Rep K H d x ∧ Q (.bl (if neg then !(M.kvGet kvs d).isSome else (M.kvGet kvs d).isSome)) H
theorem op_nin {X : Cx} (hu : X.A.units + 200 < cLine) : OpR X (compareOp .In) (rNin X.F false) := by
  intro pins s σ H x y v u Q I rx ry h
  obtain ⟨a, kvs, d, b, rfl, rfl, ⟨xs, e, pr⟩, hd, rd, q⟩ := h
  obtain rfl : u = Value.ref a := ry
  obtain rfl : v = Value.ref b := rx
  obtain ⟨z, hy, ys, py, dd⟩ := ent_dict I e pr
  refine wpAny_in_heap (knd := nestedKind X.prog X.w) (by show X.A.units + 1 + 8 < cLine; omega) (nk_is I hd rd) hy dd ?_
  refine ⟨.bl _, H, I.tok _, rfl, ?_⟩
  rcases nk_get pr py hd with ⟨e1, e2⟩ | ⟨_, _, _, e1, e2, _⟩
  · rw [e1] at q; rw [e2]; exact q
  · rw [e1] at q; rw [e2]; exact q
theorem op_nnotin {X : Cx} (hu : X.A.units + 200 < cLine) : OpR X (compareOp .NotIn) (rNin X.F true) := by
  intro pins s σ H x y v u Q I rx ry h
  obtain ⟨a, kvs, d, b, rfl, rfl, ⟨xs, e, pr⟩, hd, rd, q⟩ := h
  obtain rfl : u = Value.ref a := ry
  obtain rfl : v = Value.ref b := rx
  obtain ⟨z, hy, ys, py, dd⟩ := ent_dict I e pr
  refine wpAny_notIn_heap (knd := nestedKind X.prog X.w) (by show X.A.units + 1 + 8 < cLine; omega) (nk_is I hd rd) hy dd ?_
  refine ⟨.bl _, H, I.tok _, rfl, ?_⟩
  rcases nk_get pr py hd with ⟨e1, e2⟩ | ⟨_, _, _, e1, e2, _⟩
  · rw [e1] at q; rw [e2]; exact q
  · rw [e1] at q; rw [e2]; exact q
end
/-! ### comparisons -/
def cop : M.Cop → CmpOp
  | .eq => .Eq | .ne => .NotEq | .lt => .Lt | .le => .LtE | .gt => .Gt | .ge => .GtE | .isin => .In | .notin => .NotIn | .is_ => .Is | .isnt => .IsNot | .nes => .NotEq
def rLtS : R2 := fun x y H Q => ∃ i j, x = .str i ∧ y = .str j ∧ Q (.bl (decide (i.cps.toList < j.cps.toList))) H
def rCmp (K : Fr) : M.Cop → R2
  | .eq => fun x y H Q => (scal x y = true ∧ Q (.bl (decide (x = y))) H) ∨ rEqP K x y H Q ∨ rEqS K x y H Q
  | .ne => fun x y H Q => (scal x y = true ∧ Q (.bl (!decide (x = y))) H) ∨ rNeP K x y H Q
  | .lt => fun x y H Q => (rI0 fun i j => .bl (decide (i < j))) x y H Q ∨ rLtS x y H Q ∨ rLtD K x y H Q
  | .le => rI0 fun i j => .bl (decide (i ≤ j))
  | .gt => rI0 fun i j => .bl (decide (j < i))
  | .ge => rI0 fun i j => .bl (decide (j ≤ i))
  | .isin => fun x y H Q => rDin false x y H Q ∨ rLin K false x y H Q ∨ rIn K false x y H Q ∨ rNin K false x y H Q
  | .notin => fun x y H Q => rDin true x y H Q ∨ rLin K true x y H Q ∨ rIn K true x y H Q ∨ rNin K true x y H Q
  | .is_ => fun x y H Q => (y = .non ∧ Q (.bl (decide (x = .non))) H) ∨ rIsB x y H Q
  | .isnt => fun x y H Q => (y = .non ∧ Q (.bl (!decide (x = .non))) H) ∨ rNotB x y H Q
  | .nes => rNeS K
theorem op_cmp {X : Cx} (hu : X.A.units + 200 < cLine) (o : M.Cop) : OpR X (compareOp (cop o)) (rCmp X.F o) := by
  cases o
  · exact op_eq.or ((op_eqP hu).or (op_eqS hu))
  · exact op_ne.or (op_neP hu)
  · exact op_lt.or (op_lt_str.or (op_ltD hu))
  · exact op_le
  · exact op_gt
  · exact op_ge
  · exact (op_din (by omega)).or ((op_lin hu).or (op_in_seq.or (op_nin hu)))
  · exact (op_dnotin (by omega)).or ((op_lnotin hu).or (op_notIn_seq.or (op_nnotin hu)))
  · exact op_isN.or op_isBl
  · exact op_notN.or op_notBl
  · exact op_neS hu
theorem rep_non {d : SD} {v : V} (r : Rep K H d v) : decide (v = .non) = decide (d = .non) := by
  cases d with
  | non => cases (show v = _ from r); simp
  | bl _ => cases (show v = _ from r); simp
  | int _ => cases (show v = _ from r); simp
  | str _ => cases (show v = _ from r.1); simp
  | ref _ => cases (show v = _ from r); simp
  | tup _ => obtain ⟨a, vs, e, _⟩ := r; subst e; simp
  | rol _ => obtain ⟨a, vs, e, _⟩ := r; subst e; simp
theorem flat_eq {a b : SD} {x y : V} (fa : M.flat a = true) (fb : M.flat b = true) (ra : Rep K H a x) (rb : Rep K H b y) : flatV x = true ∧ eqV x y = decide (a = b) := by
  cases a <;> simp [M.flat] at fa
  · cases (show x = _ from ra)
    cases b <;> simp [M.flat] at fb
    · cases (show y = _ from rb); simp [flatV, eqV]
    · cases (show y = _ from rb); simp [flatV, eqV]
    · cases (show y = _ from rb.1); simp [flatV, eqV]
  · cases (show x = _ from ra)
    cases b <;> simp [M.flat] at fb
    · cases (show y = _ from rb); simp [flatV, eqV]
    · cases (show y = _ from rb); simp [flatV, eqV, Bool.beq_eq_decide_eq]
    · cases (show y = _ from rb.1); simp [flatV, eqV]
  · cases (show x = _ from ra.1)
    cases b <;> simp [M.flat] at fb
    · cases (show y = _ from rb); simp [flatV, eqV]
    · cases (show y = _ from rb); simp [flatV, eqV]
    · cases (show y = _ from rb.1)
      simp only [flatV, eqV, Bool.beq_eq_decide_eq, decide_eq_decide, true_and, M.D.str.injEq]
      exact ⟨sV_inj, fun e => by rw [e]⟩
theorem flat_any {x : SD} {v : V} (fx : M.flat x = true) (rx : Rep K H x v) : ∀ {xs : List SD} {vs : List V}, xs.all M.flat = true → Reps K H xs vs → vs.all flatV = true ∧ inV v vs = xs.any fun y => decide (y = x)
  | [], vs, _, r => by cases (show vs = _ from r); exact ⟨rfl, rfl⟩
  | y :: ys, vs, fa, ⟨w, r, e, a, b⟩ => by
    subst e
    rw [List.all_cons] at fa
    obtain ⟨f1, f2⟩ := ba fa
    obtain ⟨h1, h2⟩ := flat_any fx rx f2 b
    obtain ⟨h3, h4⟩ := flat_eq f1 fx a rx
    refine ⟨by rw [List.all_cons, h3, h1]; rfl, ?_⟩
    show (w :: r).any _ = _
    rw [List.any_cons, List.any_cons, h4]
    exact congrArg _ h2
theorem mem_ok {neg : Bool} {dx dy : SD} {x y : V} {P : Bool → Prop} (rh : RH K H h) (rx : Rep K H dx x) (ry : Rep K H dy y) (q : M.memOk dx dy h P) (k : ∀ b, P b → Q (.bl (if neg then !b else b)) H) :
    rDin neg x y H Q ∨ rLin K neg x y H Q ∨ rIn K neg x y H Q ∨ rNin K neg x y H Q := by
  cases dy with
  | ref p =>
    cases (show y = _ from ry)
    simp only [M.memOk] at q
    cases e : h p with
    | none => rw [e] at q; exact q.elim
    | some o =>
      rw [e] at q
      cases o with
      | dct kd kvs =>
        obtain ⟨kk, q⟩ := q
        obtain ⟨ov, g, r⟩ := dget_ok (rh p _ e) kk rx
        refine .inl ⟨p, ov, rfl, g, k _ ?_⟩
        rcases r with ⟨e1, e2⟩ | ⟨_, _, e1, e2, _⟩
        · rw [e1] at q; rw [e2]; exact q
        · rw [e1] at q; rw [e2]; exact q
      | rdct kd kvs =>
        obtain ⟨kk, q⟩ := q
        obtain ⟨ov, g, r⟩ := dget_rok (rh p _ e) kk rx
        refine .inl ⟨p, ov, rfl, g, k _ ?_⟩
        rcases r with ⟨e1, e2⟩ | ⟨_, _, e1, e2, _⟩
        · rw [e1] at q; rw [e2]; exact q
        · rw [e1] at q; rw [e2]; exact q
      | lst xs =>
        obtain ⟨p1, p2, dp, q⟩ := q
        obtain ⟨vs, a1, r1⟩ := rh p _ e
        refine .inr (.inl ⟨toPy dx, toPys xs, rep_dp p1 rx, .lst (SqL.of a1) (reps_dp p2 r1), rep_can p1 rx, reps_can p2 r1, ?_, ?_⟩)
        · rcases dp with dp | dp
          · exact .inl (Nat.le_succ_of_le (py_depth _ _ dp))
          · exact .inr (Nat.le_succ_of_le (pys_depth _ _ dp))
        · rw [any_py xs dx p2 p1]
          exact k _ q
      | dcn kvs =>
        obtain ⟨kk, q⟩ := q
        have rx' := rx
        cases dx with
        | tup ds =>
          obtain ⟨b, vs, rfl, _⟩ := rx
          refine .inr (.inr (.inr ⟨p, kvs, _, b, rfl, rfl, rh p _ e, kk, rx', k _ q⟩))
        | _ => simp [M.nkOk] at kk
      | _ => exact q.elim
  | tup xs =>
    obtain ⟨a, vs, e, t, rs⟩ := ry
    subst e
    obtain ⟨f1, f2, q⟩ := q
    obtain ⟨h1, h2⟩ := flat_any f1 rx f2 rs
    refine .inr (.inr (.inl ⟨a, vs, rfl, .inr (t.imp .inl id), ?_, h1, ?_⟩))
    · exact (flat_eq f1 f1 rx rx).1
    · rw [h2]
      exact k _ q
  | _ => exact False.elim q
theorem cmpInt_inv {f : Int → Int → Bool} {dx dy : SD} {P : Bool → Prop} (q : M.cmpInt f dx dy P) : ∃ a b, dx = .int a ∧ dy = .int b ∧ P (f a b) := by
  cases dx with
  | int a => cases dy with
    | int b => exact ⟨a, b, rfl, rfl, q⟩
    | _ => exact False.elim q
  | _ => exact False.elim q
theorem cmpLt_inv {dx dy : SD} {P : Bool → Prop} (q : M.cmpLt dx dy P) : (∃ a b, dx = .int a ∧ dy = .int b ∧ P (decide (a < b))) ∨ (∃ a b, dx = .str a ∧ dy = .str b ∧ P (decide (a < b))) ∨ ∃ xs ys, dx = .tup xs ∧ dy = .tup ys ∧ M.cmpbs xs ys = true ∧ M.pureDs xs = true ∧ M.pureDs ys = true ∧ (M.plains 190 xs = true ∨ M.plains 190 ys = true) ∧ P (M.ltDs xs ys) := by
  cases dx with
  | int a => cases dy with
    | int b => exact .inl ⟨a, b, rfl, rfl, q⟩
    | _ => exact False.elim q
  | str a => cases dy with
    | str b => exact .inr (.inl ⟨a, b, rfl, rfl, q⟩)
    | _ => exact False.elim q
  | tup a => cases dy with
    | tup b => exact .inr (.inr ⟨a, b, rfl, rfl, q⟩)
    | _ => exact False.elim q
  | _ => exact False.elim q
theorem isNon_inv {dx dy : SD} {P : Bool → Prop} (q : M.isNon dx dy P) : (dy = .non ∧ P (decide (dx = .non))) ∨ ∃ a b, dx = .bl a ∧ dy = .bl b ∧ P (decide (a = b)) := by
  cases dy with
  | non => exact .inl ⟨rfl, q⟩
  | bl b => cases dx with
    | bl a => exact .inr ⟨a, b, rfl, rfl, q⟩
    | _ => exact False.elim q
  | _ => exact False.elim q
theorem cmp_ok {o : M.Cop} {dx dy : SD} {x y : V} {P : Bool → Prop} (rh : RH K H h) (rx : Rep K H dx x) (ry : Rep K H dy y) (q : M.opCmp o dx dy h P) (k : ∀ b, P b → Q (.bl b) H) : rCmp K o x y H Q := by
  cases o with
  | eq =>
    simp only [M.opCmp] at q
    rcases q with q | ⟨r, q, qq⟩
    · rcases eqk rh rx ry q with ⟨a, b, rfl, rfl, q⟩ | ⟨d, e, h1, h2, h3, h4, h5, q⟩
      · exact .inl ⟨rfl, k _ (by simpa using q)⟩
      · exact .inr (.inl ⟨d, e, h1, h2, h3, h4, h5, k _ q⟩)
    · exact .inr (.inr ⟨h, dx, dy, r, rh, rx, ry, q, k _ qq⟩)
  | ne =>
    simp only [M.opCmp] at q
    rcases eqk rh rx ry q with ⟨a, b, rfl, rfl, q⟩ | ⟨d, e, h1, h2, h3, h4, h5, q⟩
    · exact .inl ⟨rfl, k _ (by simpa using q)⟩
    · exact .inr ⟨d, e, h1, h2, h3, h4, h5, k _ q⟩
  | lt =>
    simp only [M.opCmp] at q
    rcases cmpLt_inv q with ⟨a, b, rfl, rfl, q⟩ | ⟨a, b, rfl, rfl, q⟩ | ⟨a, b, rfl, rfl, c, p1, p2, dp, q⟩
    · cases (show x = _ from rx); cases (show y = _ from ry)
      exact .inl ⟨a, b, rfl, rfl, k _ q⟩
    · cases (show x = _ from rx.1); cases (show y = _ from ry.1)
      exact .inr (.inl ⟨_, _, rfl, rfl, k _ (by rw [sV_cps, sV_cps]; exact q)⟩)
    · have p1' : M.pureD (.tup a) = true := by simpa only [M.pureD] using p1
      have p2' : M.pureD (.tup b) = true := by simpa only [M.pureD] using p2
      refine .inr (.inr ⟨.tup a, .tup b, by simpa only [M.cmpb] using c, p1', p2', rep_can p1' rx, rep_can p2' ry, ?_, rep_dp p1' rx, rep_dp p2' ry, ?_⟩)
      · rcases dp with dp | dp
        · exact .inl (Nat.le_trans (py_depth 191 _ (by simpa only [M.plain] using dp)) (by omega))
        · exact .inr (Nat.le_trans (py_depth 191 _ (by simpa only [M.plain] using dp)) (by omega))
      · have e : M.ltD (.tup a) (.tup b) = M.ltDs a b := by simp only [M.ltD]
        rw [e]
        exact k _ q
  | le =>
    simp only [M.opCmp] at q
    obtain ⟨a, b, rfl, rfl, q⟩ := cmpInt_inv q
    cases (show x = _ from rx); cases (show y = _ from ry)
    exact ⟨a, b, rfl, rfl, k _ q⟩
  | gt =>
    simp only [M.opCmp] at q
    obtain ⟨a, b, rfl, rfl, q⟩ := cmpInt_inv q
    cases (show x = _ from rx); cases (show y = _ from ry)
    exact ⟨a, b, rfl, rfl, k _ q⟩
  | ge =>
    simp only [M.opCmp] at q
    obtain ⟨a, b, rfl, rfl, q⟩ := cmpInt_inv q
    cases (show x = _ from rx); cases (show y = _ from ry)
    exact ⟨a, b, rfl, rfl, k _ q⟩
  | isin =>
    simp only [M.opCmp] at q
    exact mem_ok (neg := false) rh rx ry q fun b hb => k b hb
  | notin =>
    simp only [M.opCmp] at q
    exact mem_ok (neg := true) rh rx ry q fun b hb => k _ hb
  | is_ =>
    simp only [M.opCmp] at q
    rcases isNon_inv q with ⟨rfl, q⟩ | ⟨a, b, rfl, rfl, q⟩
    · cases (show y = _ from ry)
      exact .inl ⟨rfl, k _ (by rw [rep_non rx]; exact q)⟩
    · cases (show x = _ from rx); cases (show y = _ from ry)
      exact .inr ⟨a, b, rfl, rfl, k _ q⟩
  | isnt =>
    simp only [M.opCmp] at q
    rcases isNon_inv q with ⟨rfl, q⟩ | ⟨a, b, rfl, rfl, q⟩
    · cases (show y = _ from ry)
      exact .inl ⟨rfl, k _ (by rw [rep_non rx]; exact q)⟩
    · cases (show x = _ from rx); cases (show y = _ from ry)
      exact .inr ⟨a, b, rfl, rfl, k _ q⟩
  | nes =>
    simp only [M.opCmp] at q
    obtain ⟨p, p2, kvs, kws, r, e1, e2, e3, e4, e5, q⟩ := q
    exact ⟨h, dx, dy, rh, rx, ry, p, p2, kvs, kws, r, e1, e2, e3, e4, e5, k _ q⟩
end
end Snd
end
section
/-! Sound4: items, slices, built-in functions, methods, stores. -/
namespace Snd
open PySem L2 PySem.Spec PyProof.Rows
section
variable {K : Fr} {H H1 H' : Hp} {h h1 h' : M.AH} {Qa : M.VQ} {Q : VK} {qb : Bool → Prop}
theorem atI_eq {α : Type} (xs : List α) (i : Int) : M.atI xs i = L2.atI xs i := by
  unfold M.atI L2.atI ixN
  by_cases h0 : 0 ≤ i
  · rw [if_pos h0, if_pos h0]
    by_cases h1 : i < xs.length
    · rw [if_pos h1]; rfl
    · rw [if_neg h1]
      exact List.getElem?_eq_none (by omega)
  · rw [if_neg h0, if_neg h0]
    by_cases h1 : -(xs.length : Int) ≤ i
    · rw [if_pos h1, if_pos h1]; rfl
    · rw [if_neg h1, if_neg h1]; rfl
theorem atI_rep {ds : List SD} {vs : List V} {i : Int} {d : SD} (r : Reps K H ds vs) (e : M.atI ds i = some d) : ∃ v, L2.atI vs i = some v ∧ Rep K H d v := by
  rw [atI_eq] at e
  have hl := r.length
  unfold L2.atI at e ⊢
  rw [hl]
  cases z : ixN ds.length i with
  | none => rw [z] at e; cases e
  | some j =>
    rw [z] at e
    obtain ⟨v, h1, h2⟩ := r.get (i := j) (d := d) e
    exact ⟨v, h1, h2⟩
def rIxD : R2 := fun x y H Q => ∃ a v, x = .ref a ∧ DGet H a y (some v) ∧ Q v H
theorem ix_dict {X : Cx} (hu : X.A.units + 1 < cLine) : IxR X rIxD := by
  intro value slice pins s σ H x y v u Q I rx ry h hs
  obtain ⟨a, w, rfl, g, q⟩ := h
  cases rx
  exact tail_any (dict_typeIs I g) PySem.F.slot_dict_getitem.lookup (d_getItem hu I g ry fun w' s3 I3 rw' => ⟨w, H, I3, rw', q⟩) hs
/-- a dict with nested keys -/
def rIxN (K : Fr) : R2 := fun x y H Q => ∃ a b kvs d e, x = .ref a ∧ y = .ref b ∧ ObRep K H a (.dcn kvs) ∧ M.nkOk d = true ∧ Rep K H d y ∧ M.kvGet kvs d = some e ∧ ∀ v, Rep K H e v → Q v H
theorem ix_nest {X : Cx} (hu : X.A.units + 200 < cLine) : IxR X (rIxN X.F) := by
  intro value slice pins s σ H x y v u Q I rx ry h hs
  obtain ⟨a, b, kvs, d, e, rfl, rfl, ⟨xs, eo, pr⟩, hd, rd, ge, q⟩ := h
  cases rx
  cases (show u = Value.ref b from ry)
  obtain ⟨z, hy, ys, py, dd⟩ := ent_dict I eo pr
  rcases nk_get pr py hd with ⟨e1, _⟩ | ⟨e', v', p, e1, e2, re, rv⟩
  · rw [ge] at e1; cases e1
  · rw [ge] at e1
    cases e1
    exact tail_any dd.typeIs PySem.F.slot_dict_getitem.lookup (wpAny_getItem_heap (knd := nestedKind X.prog X.w) (by show X.A.units + 1 + 8 < cLine; omega) (nk_is I hd rd) dd e2 ⟨v', H, I.tok _, rv, q v' re⟩) hs
def rIx4 (K : Fr) : R2 := fun x y H Q => rIx K x y H Q ∨ rIxD x y H Q ∨ rIxN K x y H Q
theorem ix_all {X : Cx} (hu : X.A.units + 200 < cLine) : IxR X (rIx4 X.F) := ix_seq.or ((ix_dict (by omega)).or (ix_nest hu))
theorem ixAt_inv {ds : List SD} {dy : SD} (q : M.ixAt ds dy h Qa) : ∃ i d, dy = .int i ∧ M.atI ds i = some d ∧ Qa d h := by
  cases dy with
  | int i =>
    simp only [M.ixAt] at q
    cases e : M.atI ds i with
    | none => rw [e] at q; exact q.elim
    | some d => rw [e] at q; exact ⟨i, d, rfl, e, q⟩
  | _ => exact False.elim q
theorem rol_sql {a : Addr} {vs : List V} (t : (∃ o, H a = some (.frz o (.lst vs))) ∨ KLst K a vs) : SqL K H a vs := t.imp (fun ⟨o, e⟩ => .inr ⟨o, e⟩) id
theorem ix_ok {dx dy : SD} {x y : V} (rh : RH K H h) (rx : Rep K H dx x) (ry : Rep K H dy y) (q : M.opIx dx dy h Qa) (k : Kont K H h Qa Q) : rIx4 K x y H Q := by
  have hl := line_eq
  cases dx with
  | tup ds =>
    obtain ⟨a, vs, e, t, rs⟩ := rx
    subst e
    obtain ⟨i, d, rfl, e, q⟩ := ixAt_inv (show M.ixAt ds dy h Qa from q)
    cases (show y = _ from ry)
    obtain ⟨v, e2, r⟩ := atI_rep rs e
    exact .inl (.inr (.inl ⟨a, vs, i, v, rfl, rfl, t.imp .inl id, e2, k.now rh q r⟩))
  | rol ds =>
    obtain ⟨a, vs, e, t, rs⟩ := rx
    subst e
    obtain ⟨i, d, rfl, e, q⟩ := ixAt_inv (show M.ixAt ds dy h Qa from q)
    cases (show y = _ from ry)
    obtain ⟨v, e2, r⟩ := atI_rep rs e
    exact .inl (.inl ⟨a, vs, i, v, rfl, rfl, rol_sql t, e2, k.now rh q r⟩)
  | str s =>
    cases dy with
    | int i =>
      obtain ⟨rx, ok⟩ := rx
      subst rx
      cases (show y = _ from ry)
      obtain ⟨hz, q⟩ := (show s.length ≤ M.LINE ∧ _ from q)
      cases e : M.atI s i with
      | none => rw [e] at q; exact q.elim
      | some c =>
        rw [e] at q
        refine .inl (.inr (.inr ⟨sV s, i, c, rfl, rfl, by rw [sV_len, hl]; exact hz, ?_, k.now rh q ⟨rfl, ?_⟩⟩))
        · rw [sV_cps, ← atI_eq]; exact e
        · intro z hz2
          have : z = c := by simpa using hz2
          subst this
          rw [atI_eq] at e
          obtain ⟨j, _, hj, _⟩ := atI_get e
          exact ok _ (List.mem_of_getElem? hj)
    | _ => exact False.elim q
  | ref p =>
    cases (show x = _ from rx)
    simp only [M.opIx] at q
    cases e : h p with
    | none => rw [e] at q; exact q.elim
    | some o =>
      rw [e] at q
      cases o with
      | lst xs =>
        obtain ⟨vs, a1, r1⟩ := rh p _ e
        obtain ⟨i, d, rfl, e3, q⟩ := ixAt_inv (show M.ixAt xs dy h Qa from q)
        cases (show y = _ from ry)
        obtain ⟨v, e2, r⟩ := atI_rep r1 e3
        exact .inl (.inl ⟨p, vs, i, v, rfl, rfl, SqL.of a1, e2, k.now rh q r⟩)
      | dct kd kvs =>
        obtain ⟨kk, q⟩ := q
        obtain ⟨ov, g, r⟩ := dget_ok (rh p _ e) kk ry
        rcases r with ⟨e1, e2⟩ | ⟨d, w, e1, e2, r⟩
        · rw [e1] at q; exact q.elim
        · rw [e1] at q; subst e2
          exact .inr (.inl ⟨p, w, rfl, g, k.now rh q r⟩)
      | rdct kd kvs =>
        obtain ⟨kk, q⟩ := q
        obtain ⟨ov, g, r⟩ := dget_rok (rh p _ e) kk ry
        rcases r with ⟨e1, e2⟩ | ⟨d, w, e1, e2, r⟩
        · rw [e1] at q; exact q.elim
        · rw [e1] at q; subst e2
          exact .inr (.inl ⟨p, w, rfl, g, k.now rh q r⟩)
      | dcn kvs =>
        obtain ⟨kk, q⟩ := q
        have ry' := ry
        cases dy with
        | tup ds =>
          obtain ⟨b, vs, rfl, _⟩ := ry
          cases g : M.kvGet kvs (.tup ds) with
          | none => rw [g] at q; exact q.elim
          | some d =>
            rw [g] at q
            exact .inr (.inr ⟨p, b, kvs, _, d, rfl, rfl, rh p _ e, kk, ry', g, fun v rv => k.now rh q rv⟩)
        | _ => simp [M.nkOk] at kk
      | _ => exact q.elim
  | _ => exact False.elim q

/-! ### slices -/
theorem clip_lo (n d : Nat) (o : Option Int) : M.clip n d o = if o = none then d else HT.sIx n d o := by
  cases o with
  | none => rfl
  | some i =>
    rw [if_neg (by simp)]
    have e := HT.clip_eq i n d
    show (if i < 0 then (i + n).toNat else min i.toNat n) = _
    split
    · rename_i hi
      rw [if_pos hi] at e
      omega
    · rename_i hi
      rw [if_neg hi] at e
      omega
theorem cut_eq {α : Type} (xs : List α) (lo hi : Option Int) : M.cut xs lo hi = (xs.drop (HT.sIx xs.length 0 lo)).take (HT.sIx xs.length xs.length hi - HT.sIx xs.length 0 lo) := by
  have h1 : M.clip xs.length 0 lo = HT.sIx xs.length 0 lo := by
    rw [clip_lo]; split
    · rename_i e; rw [e, HT.sIx_none]
    · rfl
  have h2 : M.clip xs.length xs.length hi = HT.sIx xs.length xs.length hi := by
    rw [clip_lo]; split
    · rename_i e; rw [e, HT.sIx_none]
    · rfl
  unfold M.cut
  rw [h1, h2]
theorem cut_rep {ds : List SD} {vs : List V} {lo hi : Option Int} (r : Reps K H ds vs) : Reps K H (M.cut ds lo hi) (cutV vs lo hi) := by
  rw [cut_eq, ← r.length]
  exact (r.drop _).take _
def rSlTW (K : Fr) : V → Option Int → Option Int → Hp → VK → Prop := fun x lo hi H Q => ∃ a xs, x = .ref a ∧ SqT K H a xs ∧ (HT.sIx xs.length 0 lo = 0 ∧ HT.sIx xs.length xs.length hi = xs.length) ∧ Q (.ref a) H
def rSl (K : Fr) : V → Option Int → Option Int → Hp → VK → Prop := fun x lo hi H Q => rSlT K x lo hi H Q ∨ rSlL K x lo hi H Q ∨ rSlS x lo hi H Q
theorem sl_all {X : Cx} : SlR X (rSl X.F) := sl_tup.or (sl_list.or sl_str)
def slPart (ds : List SD) (lo hi : Option Int) : Prop := ¬ (M.clip ds.length 0 lo = 0 ∧ M.clip ds.length ds.length hi = ds.length)
theorem sl_ok {dx : SD} {x : V} {lo hi : Option Int} (rh : RH K H h) (rx : Rep K H dx x) (q : M.opSl dx lo hi h Qa) (k : Kont K H h Qa Q) : rSl K x lo hi H Q := by
  have hl := line_eq
  cases dx with
  | tup ds =>
    obtain ⟨a, vs, e, t, rs⟩ := rx
    subst e
    obtain ⟨np, q⟩ := q
    have ln := rs.length
    have h1 : M.clip ds.length 0 lo = HT.sIx ds.length 0 lo := by
      rw [clip_lo]; split
      · rename_i e; rw [e, HT.sIx_none]
      · rfl
    have h2 : M.clip ds.length ds.length hi = HT.sIx ds.length ds.length hi := by
      rw [clip_lo]; split
      · rename_i e; rw [e, HT.sIx_none]
      · rfl
    refine .inl ⟨a, vs, rfl, t.imp .inl id, by rw [ln, ← h1, ← h2]; exact np, fun p hn => ?_⟩
    exact k _ _ _ _ q (frm_hid hn) ⟨p, _, rfl, .inl upd_same, (cut_rep rs).kp (kp_new hn)⟩ (rh_hid rh hn)
  | rol ds =>
    obtain ⟨a, vs, e, t, rs⟩ := rx
    subst e
    refine .inr (.inl ⟨a, vs, rfl, rol_sql t, fun p hn => ?_⟩)
    exact k _ _ _ _ (q p (rh.none hn)) (frm_new hn) rfl (rh_new rh hn ⟨_, upd_same, (cut_rep rs).kp (kp_new hn)⟩)
  | str s =>
    obtain ⟨rx, ok⟩ := rx
    subst rx
    obtain ⟨hz, q⟩ := q
    refine .inr (.inr ⟨sV s, rfl, by rw [sV_len, hl]; exact hz, ?_⟩)
    have e : cutS (sV s) lo hi = sV (M.cut s lo hi) := by
      unfold cutS
      rw [sV_len, sV_cps, cut_eq]
      rfl
    rw [e]
    refine k.now rh q ⟨rfl, fun c hc => ok c ?_⟩
    unfold M.cut at hc
    exact List.mem_of_mem_drop (List.mem_of_mem_take hc)
  | ref p =>
    cases (show x = _ from rx)
    simp only [M.opSl] at q
    cases e : h p with
    | none => rw [e] at q; exact q.elim
    | some o =>
      rw [e] at q
      cases o with
      | lst xs =>
        obtain ⟨vs, a1, r1⟩ := rh p _ e
        refine .inr (.inl ⟨p, vs, rfl, SqL.of a1, fun l hn => ?_⟩)
        exact k _ _ _ _ (q l (rh.none hn)) (frm_new hn) rfl (rh_new rh hn ⟨_, upd_same, (cut_rep r1).kp (kp_new hn)⟩)
      | _ => exact q.elim
  | _ => exact False.elim q

/-! ### built-in functions -/
theorem arg1_inv {ds : List SD} {f : SD → Prop} (q : M.arg1 ds f) : ∃ d, ds = [d] ∧ f d := by
  match ds, q with
  | [d], q => exact ⟨d, rfl, q⟩
theorem arg2_inv {ds : List SD} {f : SD → SD → Prop} (q : M.arg2 ds f) : ∃ d e, ds = [d, e] ∧ f d e := by
  match ds, q with
  | [d, e], q => exact ⟨d, e, rfl, q⟩
theorem anInt_inv {d : SD} {f : Int → Prop} (q : M.anInt d f) : ∃ i, d = .int i ∧ f i := by
  cases d with
  | int i => exact ⟨i, rfl, q⟩
  | _ => exact False.elim q
theorem aSome_inv {α : Type} {o : Option α} {f : α → Prop} (q : M.aSome o f) : ∃ a, o = some a ∧ f a := by
  cases o with
  | some a => exact ⟨a, rfl, q⟩
  | none => exact False.elim q
theorem aLst_inv {d : SD} {f : Nat → List SD → Prop} (q : M.aLst d h f) : ∃ p xs, d = .ref p ∧ h p = some (.lst xs) ∧ f p xs := by
  cases d with
  | ref p =>
    simp only [M.aLst] at q
    cases e : h p with
    | none => rw [e] at q; exact q.elim
    | some o => rw [e] at q; cases o with
      | lst xs => exact ⟨p, xs, rfl, e, q⟩
      | _ => exact q.elim
  | _ => exact False.elim q
theorem aDct_inv {d : SD} {f : Nat → Nat → List (SD × SD) → Prop} (q : M.aDct d h f) : ∃ p k kvs, d = .ref p ∧ h p = some (.dct k kvs) ∧ f p k kvs := by
  cases d with
  | ref p =>
    simp only [M.aDct] at q
    cases e : h p with
    | none => rw [e] at q; exact q.elim
    | some o => rw [e] at q; cases o with
      | dct k xs => exact ⟨p, k, xs, rfl, e, q⟩
      | _ => exact q.elim
  | _ => exact False.elim q
theorem aDctR_inv {d : SD} {f : Nat → Nat → List (SD × SD) → Prop} (q : M.aDctR d h f) : ∃ p k kvs, d = .ref p ∧ (h p = some (.dct k kvs) ∨ h p = some (.rdct k kvs)) ∧ f p k kvs := by
  cases d with
  | ref p =>
    simp only [M.aDctR] at q
    cases e : h p with
    | none => rw [e] at q; exact q.elim
    | some o => rw [e] at q; cases o with
      | dct k xs => exact ⟨p, k, xs, rfl, .inl e, q⟩
      | rdct k xs => exact ⟨p, k, xs, rfl, .inr e, q⟩
      | _ => exact q.elim
  | _ => exact False.elim q
theorem toInt_inv {d : SD} {f : Int → Prop} (q : M.toInt d f) : (∃ i, d = .int i ∧ f i) ∨ ∃ b, d = .bl b ∧ f (if b then 1 else 0) := by
  cases d with
  | int i => exact .inl ⟨i, rfl, q⟩
  | bl b => exact .inr ⟨b, rfl, q⟩
  | _ => exact False.elim q
theorem seq_rep {d : SD} {v : V} {xs : List SD} (rh : RH K H h) (r : Rep K H d v) (e : M.seqOf d h = some xs) : ∃ p vs, v = .ref p ∧ ((SqL K H p vs ∧ ∀ zs, d ≠ .tup zs) ∨ (SqT K H p vs ∧ d = .tup xs)) ∧ Reps K H xs vs := by
  cases d with
  | tup ds =>
    simp only [M.seqOf, Option.some.injEq] at e
    subst e
    obtain ⟨a, vs, e, t, rs⟩ := r
    exact ⟨a, vs, e, .inr ⟨t.imp .inl id, rfl⟩, rs⟩
  | rol ds =>
    simp only [M.seqOf, Option.some.injEq] at e
    subst e
    obtain ⟨a, vs, e, t, rs⟩ := r
    exact ⟨a, vs, e, .inl ⟨rol_sql t, fun _ z => by cases z⟩, rs⟩
  | ref p =>
    simp only [M.seqOf] at e
    cases e1 : h p with
    | none => rw [e1] at e; cases e
    | some o => rw [e1] at e; cases o with
      | lst ys =>
        simp only [Option.some.injEq] at e
        subst e
        obtain ⟨vs, a1, r1⟩ := rh p _ e1
        exact ⟨p, vs, r, .inl ⟨SqL.of a1, fun _ z => by cases z⟩, r1⟩
      | _ => cases e
  | _ => simp [M.seqOf] at e
theorem ints_rep : ∀ {xs : List SD} {vs : List V} {ns : List Int}, M.intsOf xs = some ns → Reps K H xs vs → vs = ns.map V.int
  | [], vs, ns, e, r => by simp only [M.intsOf, Option.some.injEq] at e; subst e; exact r
  | d :: ds, vs, ns, e, ⟨v, w, ev, a, b⟩ => by
    subst ev
    cases d with
    | int i =>
      simp only [M.intsOf] at e
      cases z : M.intsOf ds with
      | none => rw [z] at e; cases e
      | some ms =>
        rw [z] at e
        simp only [Option.map_some, Option.some.injEq] at e
        subst e
        rw [ints_rep z b, show v = V.int i from a]
        rfl
    | _ => simp [M.intsOf] at e
theorem bls_rep : ∀ {xs : List SD} {vs : List V} {ns : List Bool}, M.bls xs = some ns → Reps K H xs vs → vs = ns.map V.bl
  | [], vs, ns, e, r => by simp only [M.bls, Option.some.injEq] at e; subst e; exact r
  | d :: ds, vs, ns, e, ⟨v, w, ev, a, b⟩ => by
    subst ev
    cases d with
    | bl i =>
      simp only [M.bls] at e
      cases z : M.bls ds with
      | none => rw [z] at e; cases e
      | some ms =>
        rw [z] at e
        simp only [Option.map_some, Option.some.injEq] at e
        subst e
        rw [bls_rep z b, show v = V.bl i from a]
        rfl
    | _ => simp [M.bls] at e
theorem reps1 {d : SD} {vs : List V} (r : Reps K H [d] vs) : ∃ v, vs = [v] ∧ Rep K H d v := by
  obtain ⟨v, w, e, a, b⟩ := r
  cases (show w = _ from b)
  exact ⟨v, e, a⟩
theorem reps2 {d e : SD} {vs : List V} (r : Reps K H [d, e] vs) : ∃ v w, vs = [v, w] ∧ Rep K H d v ∧ Rep K H e w := by
  obtain ⟨v, w, ev, a, b⟩ := r
  obtain ⟨u, e2, c⟩ := reps1 b
  subst e2
  exact ⟨v, u, ev, a, c⟩

theorem lenOk_inv {d : SD} {f : Nat → Prop} (q : M.lenOk d h f) : (∃ s, d = .str s ∧ s.length ≤ M.LINE ∧ f s.length) ∨ (∃ xs, M.seqOf d h = some xs ∧ f xs.length) ∨ ∃ p k kvs, d = .ref p ∧ (h p = some (.dct k kvs) ∨ h p = some (.rdct k kvs)) ∧ f kvs.length := by
  cases d with
  | str s => exact .inl ⟨s, rfl, q.1, q.2⟩
  | non => exact .inr (.inl (aSome_inv (o := M.seqOf .non h) (f := fun xs => f xs.length) q))
  | bl b => exact .inr (.inl (aSome_inv (o := M.seqOf (.bl b) h) (f := fun xs => f xs.length) q))
  | int b => exact .inr (.inl (aSome_inv (o := M.seqOf (.int b) h) (f := fun xs => f xs.length) q))
  | tup b => exact .inr (.inl (aSome_inv (o := M.seqOf (.tup b) h) (f := fun xs => f xs.length) q))
  | rol b => exact .inr (.inl (aSome_inv (o := M.seqOf (.rol b) h) (f := fun xs => f xs.length) q))
  | ref b =>
    simp only [M.lenOk] at q
    cases e : h b with
    | none => rw [e] at q; exact q.elim
    | some o => rw [e] at q; cases o with
      | lst xs => exact .inr (.inl ⟨xs, by simp only [M.seqOf, e], q⟩)
      | dct k xs => exact .inr (.inr ⟨b, k, xs, rfl, .inl e, q⟩)
      | rdct k xs => exact .inr (.inr ⟨b, k, xs, rfl, .inr e, q⟩)
      | _ => exact q.elim
theorem call_lenD {X : L2.Cx} : CallR X (.builtin "len") (fun xs H Q => (∃ x n, xs = [x] ∧ LenV X.F x H n ∧ Q (.int n) H) ∨ ∃ (a : Addr) (kvs : List (Key × V)), xs = [.ref a] ∧ Rd H a (.dK kvs) ∧ Q (.int kvs.length) H) := by
  intro pins s σ H xs us Q I rv h
  rcases h with h | ⟨a, kvs, rfl, rd, q⟩
  · exact call_len pins s σ H xs us Q I rv h
  · obtain ⟨u, rfl, ru⟩ := rv.one
    obtain rfl : u = Value.ref a := ru
    exact d_len I rd fun t s3 I3 => ⟨.int _, H, I3, ⟨t, rfl⟩, q⟩
theorem keys_rep {H' : Hp} : ∀ {kvs : List (SD × SD)} {ps : List (Key × V)}, Paired (PR K H R0) kvs ps → Reps K H' (kvs.map (·.1)) (ps.map fun kv => kV kv.1)
  | _, _, .nil => rfl
  | _, _, @Paired.cons _ _ _ x p xs ps h t => by
    refine ⟨kV p.1, _, rfl, ?_, keys_rep t⟩
    obtain ⟨⟨h1, h2⟩, _⟩ := h
    obtain ⟨a, b⟩ := x
    cases a <;> simp [keyV] at h1
    · rw [← h1]; rfl
    · rw [← h1]; exact ⟨rfl, h2 _ rfl⟩
theorem keys_strs : ∀ {kvs : List (SD × SD)} {ps : List (Key × V)} {ss : List M.Sx}, Paired (PR K H R0) kvs ps → M.strsOf (kvs.map (·.1)) = some ss → ps.map (·.1) = (ss.map sV).map Sum.inr ∧ ∀ s ∈ ss, sOk s
  | _, _, ss, .nil, e => by
    have e : M.strsOf [] = some ss := e
    simp only [M.strsOf, Option.some.injEq] at e
    subst e
    exact ⟨rfl, fun _ h => nomatch h⟩
  | _, _, ss, @Paired.cons _ _ _ x p xs ps h t, e => by
    obtain ⟨⟨h1, h2⟩, h3⟩ := h
    clear h3
    obtain ⟨a, b⟩ := x
    rw [List.map_cons] at e
    cases a <;> try (simp [M.strsOf] at e; done)
    rename_i s
    simp only [M.strsOf] at e
    cases z : M.strsOf (xs.map (·.1)) with
    | none => rw [z] at e; cases e
    | some r =>
      rw [z] at e
      simp only [Option.map_some, Option.some.injEq] at e
      subst e
      obtain ⟨i1, i2⟩ := keys_strs t z
      simp only [keyV, Option.some.injEq] at h1
      refine ⟨by rw [List.map_cons, List.map_cons, List.map_cons, i1, ← h1], fun y hy => ?_⟩
      rcases List.mem_cons.mp hy with e | hy
      · rw [e]; exact h2 s rfl
      · exact i2 y hy
theorem perm_sV {ys : List Str} {ss : List M.Sx} (h : ys.Perm (ss.map sV)) : ∃ ys' : List M.Sx, ys = ys'.map sV ∧ ys'.Perm ss := by
  refine ⟨ys.map fun s => s.cps.toList, ?_, ?_⟩
  · rw [List.map_map]
    have : (sV ∘ fun s : Str => s.cps.toList) = id := by funext s; cases s; simp [sV]
    rw [this, List.map_id]
  · have := h.map fun s : Str => s.cps.toList
    rw [List.map_map] at this
    have e : ((fun s : Str => s.cps.toList) ∘ sV) = id := by funext s; simp [sV]
    rw [e, List.map_id] at this
    exact this
theorem reps_strs {H' : Hp} : ∀ {ss : List M.Sx}, (∀ s ∈ ss, sOk s) → Reps K H' (ss.map M.D.str) (ss.map (V.str ∘ sV))
  | [], _ => rfl
  | s :: ss, h => ⟨_, _, rfl, ⟨rfl, h s List.mem_cons_self⟩, reps_strs fun t ht => h t (List.mem_cons_of_mem _ ht)⟩
inductive BK where | b (id : String) | t (T : String)
def bltK : M.Blt → Option BK
  | .len => some (.b "len") | .min2 => some (.b "min") | .max2 => some (.b "max") | .int1 => some (.t "int") | .abs => some (.b "abs") | .sum => some (.b "sum") | .all => some (.b "all") | .any => some (.b "any")
  | .list => some (.t "list") | .tuple => some (.t "tuple") | .dict1 => some (.t "dict") | .klist => some (.t "list") | .max1 => some (.b "max") | .sorted => some (.b "sorted") | .sortd => some (.b "sorted") | _ => none
def BK.val : BK → Value
  | .b id => .builtin id
  | .t T => .type T
def BK.name : BK → Str
  | .b id => Str.ofString id
  | .t T => Str.ofString T
/-- a list of less than two items -/
def rSortO (K : Fr) : List V → Hp → VK → Prop := fun xs H Q => ∃ (a : Addr) (vs : List V), xs = [V.ref a] ∧ SqL K H a vs ∧ vs.length < 2 ∧ ∀ p, H p = none → Q (.ref p) (upd H p (.lst vs))
theorem perm_short {α : Type} {l m : List α} (p : l.Perm m) (h : m.length < 2) : l = m := by
  match m, h with
  | [], _ => exact List.perm_nil.mp p
  | [x], _ => exact List.perm_singleton.mp p
  | _ :: _ :: l, h => exact absurd h (by simp)
theorem cr_sortO {X : L2.Cx} : CallR X (.builtin "sorted") (rSortO X.F) := by
  intro pins s σ H xs us Q I r h
  obtain ⟨a, vs, rfl, hs, h2, q⟩ := h
  obtain ⟨its, rv, hl, hz⟩ := I.list hs
  obtain ⟨u, rfl, ru⟩ := vals1 r
  obtain rfl : u = Value.ref a := ru
  refine SrtO.sorted_ord (ltv := fun _ _ => false) ⟨(fun _ _ h => by cases h), (fun _ _ _ _ _ => rfl)⟩ hl.isList (by rw [← rv.length]; exact hz) (fun h3 => absurd h3 (by rw [← rv.length]; omega)) fun out hs hb => ?_
  have e := perm_short hb.perm (by rw [← rv.length]; exact h2)
  subst e
  obtain ⟨n, hn⟩ := sortedAll_at s.heap out out.toArray
  exact ⟨.ref _, upd H (s.heap.objs.size + 1) (.lst vs), I.laid (t' := s.toks) (fun _ _ => sortedAll_old) (Nat.le_succ _) ⟨hz, out, n, rv, hn⟩, rfl, q _ (I.hok.fresh (Nat.le_succ _))⟩
def rSortDS : List V → Hp → VK → Prop := fun xs H Q => ∃ (a : Addr) (kvs : List (Key × V)) (ks : List Str), xs = [.ref a] ∧ Rd H a (.dK kvs) ∧ kvs.map (·.1) = ks.map Sum.inr ∧ ks.length < 64 ∧ ∀ ys p, ys.Perm ks → sortedS ys = true → H p = none → Q (.ref p) (upd H p (.lst (ys.map V.str)))
def rSortD (K : Fr) : List V → Hp → VK → Prop := fun xs H Q => rSortO K xs H Q ∨ rSortedS K xs H Q ∨ rSortedI K xs H Q ∨ rSortT K xs H Q ∨ rSortDS xs H Q
def rBlt (K : Fr) : M.Blt → List V → Hp → VK → Prop
  | .len => fun xs H Q => (∃ x n, xs = [x] ∧ LenV K x H n ∧ Q (.int n) H) ∨ ∃ (a : Addr) (kvs : List (Key × V)), xs = [.ref a] ∧ Rd H a (.dK kvs) ∧ Q (.int kvs.length) H
  | .min2 => fun xs H Q => ∃ i j, xs = [.int i, .int j] ∧ Q (.int (if j < i then j else i)) H
  | .max2 => fun xs H Q => ∃ i j, xs = [.int i, .int j] ∧ Q (.int (if j > i then j else i)) H
  | .int1 => fun xs H Q => (∃ i, xs = [.int i] ∧ Q (.int i) H) ∨ ∃ k, xs = [.bl k] ∧ Q (.int (if k then 1 else 0)) H
  | .abs => fun xs H Q => ∃ i, xs = [.int i] ∧ Q (.int (if i < 0 then -i else i)) H
  | .sum => rSum K
  | .all => rAll K
  | .any => rAny K
  | .list => fun xs H Q => ∃ p ys, xs = [.ref p] ∧ (SqL K H p ys ∨ SqT K H p ys) ∧ ∀ l, H l = none → Q (.ref l) (upd H l (.lst ys))
  | .tuple => fun xs H Q => ∃ p ys, xs = [.ref p] ∧ ((SqL K H p ys ∧ ∀ l, H l = none → Q (.ref l) (upd H l (.tup ys))) ∨ (SqT K H p ys ∧ Q (.ref p) H))
  | .dict1 => fun xs H Q => ∃ (a : Addr) (kvs : List (Key × V)), xs = [.ref a] ∧ Rd H a (.dK kvs) ∧ ∀ p, H p = none → Q (.ref p) (upd H p (.dK kvs))
  | .klist => fun xs H Q => ∃ (a : Addr) (kvs : List (Key × V)), xs = [.ref a] ∧ Rd H a (.dK kvs) ∧ ∀ p, H p = none → Q (.ref p) (upd H p (.lst (kvs.map fun kv => kV kv.1)))
  | .max1 => rMax K
  | .sorted => fun xs H Q => ∃ (a : Addr) (kvs : List (Key × V)) (ks : List Str), xs = [.ref a] ∧ Rd H a (.dK kvs) ∧ kvs.map (·.1) = ks.map Sum.inr ∧ ks.length < 64 ∧ ∀ ys p, ys.Perm ks → sortedS ys = true → H p = none → Q (.ref p) (upd H p (.lst (ys.map V.str)))
  | .sortd => rSortD K
  | _ => fun _ _ _ => False
theorem call_blt {X : Cx} (hc : X.calm = true) (hu : X.A.units + 200 < cLine) (b : M.Blt) {bk : BK} (e : bltK b = some bk) : CallR X bk.val (rBlt X.F b) := by
  cases b <;> simp only [bltK, Option.some.injEq, reduceCtorEq] at e <;> subst e
  · exact call_lenD
  · exact call_min2 hc
  · exact call_max2 hc
  · exact call_int1
  · exact call_abs
  · exact cr_sum hc
  · exact cr_all hc
  · exact cr_any hc
  · exact call_list_of
  · exact call_tuple_of
  · exact call_sortedD hc
  · exact call_dictD
  · exact cr_max hc
  · exact call_listD hc
  · exact cr_sortO.or (cr_sortedS.or (cr_sortedI.or ((cr_sortT hu).or (call_sortedD hc))))
theorem strs_rep : ∀ {xs : List SD} {vs : List V} {ns : List M.Sx}, M.strsOf xs = some ns → Reps K H xs vs → (vs = ns.map fun s => V.str (sV s)) ∧ ∀ s ∈ ns, sOk s
  | [], vs, ns, e, r => by simp only [M.strsOf, Option.some.injEq] at e; subst e; exact ⟨r, fun s hs => nomatch hs⟩
  | d :: ds, vs, ns, e, ⟨v, w, ev, a, b⟩ => by
    subst ev
    cases d with
    | str i =>
      simp only [M.strsOf] at e
      cases z : M.strsOf ds with
      | none => rw [z] at e; cases e
      | some ms =>
        rw [z] at e
        simp only [Option.map_some, Option.some.injEq] at e
        subst e
        obtain ⟨h1, h2⟩ := strs_rep z b
        refine ⟨by rw [h1, show v = V.str (sV i) from a.1]; rfl, fun s hs => ?_⟩
        rcases List.mem_cons.mp hs with q | q
        · subst q; exact a.2
        · exact h2 s q
    | _ => simp [M.strsOf] at e
theorem sorted_pw : ∀ {ss : List M.Sx}, sortedS (ss.map sV) = true → (ss.map M.D.str).Pairwise (fun a b => M.ltD b a = false)
  | [], _ => List.Pairwise.nil
  | [x], _ => List.pairwise_singleton _ _
  | x :: y :: r, h => by
    have h' : (!ltCps (sV y).cps.toList (sV x).cps.toList && risingS (sV y) (r.map sV)) = true := h
    obtain ⟨h1, h2⟩ := ba h'
    have ih := sorted_pw (ss := y :: r) h2
    have e1 : ¬ y < x := by simpa [ltCps_eq, sV_cps] using h1
    refine List.pairwise_cons.mpr ⟨fun z hz => ?_, ih⟩
    rcases List.mem_cons.mp (show z ∈ M.D.str y :: r.map M.D.str from hz) with e | hz
    · subst e; simpa [M.ltD] using e1
    · have h3 := List.rel_of_pairwise_cons ih hz
      obtain ⟨t, _, rfl⟩ := List.mem_map.mp hz
      have e2 : ¬ t < y := by simpa [M.ltD] using h3
      have : ¬ t < x := fun z => by
        have a1 : x ≤ y := e1
        have a2 : y ≤ t := e2
        exact (List.le_trans a1 a2) z
      simpa [M.ltD] using this
theorem perm_strs {ys : List Str} {ss : List M.Sx} (h : ys.Perm (ss.map sV)) : ∃ ys' : List M.Sx, ys = ys'.map sV ∧ ys'.Perm ss := perm_sV h
theorem ints_pw {ns : List Int} (h : ns.Pairwise (· ≤ ·)) : (ns.map M.D.int).Pairwise (fun a b => M.ltD b a = false) :=
  List.pairwise_map.mpr (h.imp fun z => by simpa [M.ltD] using z)
theorem reps_zip : ∀ {ds : List SD} {vs : List V}, Reps K H ds vs → vs.length = ds.length ∧ ∀ p ∈ vs.zip ds, Rep K H p.2 p.1
  | [], vs, r => by cases (show vs = [] from r); exact ⟨rfl, fun p h => nomatch h⟩
  | d :: ds, vs, ⟨v, us, e, a, b⟩ => by
    subst e
    obtain ⟨h1, h2⟩ := reps_zip b
    refine ⟨by simp [h1], fun p hp => ?_⟩
    rcases List.mem_cons.mp (show p ∈ (v, d) :: us.zip ds from hp) with z | z
    · subst z; exact a
    · exact h2 p z
theorem reps_of : ∀ {ps : List (V × SD)}, (∀ p ∈ ps, Rep K H p.2 p.1) → Reps K H (ps.map (·.2)) (ps.map (·.1))
  | [], _ => rfl
  | p :: ps, h => ⟨_, _, rfl, h p List.mem_cons_self, reps_of fun q hq => h q (List.mem_cons_of_mem _ hq)⟩
theorem strs_map : ∀ {xs : List SD} {ss : List M.Sx}, M.strsOf xs = some ss → xs = ss.map M.D.str
  | [], ss, e => by simp only [M.strsOf, Option.some.injEq] at e; subst e; rfl
  | x :: xs, ss, e => by
    cases x <;> try (simp [M.strsOf] at e; done)
    simp only [M.strsOf] at e
    cases z : M.strsOf xs with
    | none => rw [z] at e; cases e
    | some r =>
      rw [z] at e
      simp only [Option.map_some, Option.some.injEq] at e
      subst e
      rw [strs_map z]
      rfl
theorem ints_map : ∀ {xs : List SD} {ns : List Int}, M.intsOf xs = some ns → xs = ns.map M.D.int
  | [], ss, e => by simp only [M.intsOf, Option.some.injEq] at e; subst e; rfl
  | x :: xs, ss, e => by
    cases x <;> try (simp [M.intsOf] at e; done)
    simp only [M.intsOf] at e
    cases z : M.intsOf xs with
    | none => rw [z] at e; cases e
    | some r =>
      rw [z] at e
      simp only [Option.map_some, Option.some.injEq] at e
      subst e
      rw [ints_map z]
      rfl
theorem reps_intsL : ∀ ns : List Int, Reps K H (ns.map M.D.int) (ns.map V.int)
  | [] => rfl
  | n :: ns => ⟨_, _, rfl, rfl, reps_intsL ns⟩
theorem pw_short {xs : List SD} (h : xs.length < 2) : xs.Pairwise (fun a b => M.ltD b a = false) := by
  match xs, h with
  | [], _ => exact List.Pairwise.nil
  | [x], _ => exact List.pairwise_singleton _ _
  | _ :: _ :: l, h => exact absurd h (by simp)
theorem sortP_inv {d : SD} {f : List SD → Prop} (q : M.sortP d h f) : ∃ p, d = .ref p ∧ ((∃ xs, h p = some (.lst xs) ∧ M.sortOk xs ∧ f xs) ∨ ∃ kvs, (h p = some (.dct 0 kvs) ∨ h p = some (.rdct 0 kvs)) ∧ (∃ ss, M.strsOf (kvs.map (·.1)) = some ss ∧ ss.length < 64) ∧ f (kvs.map (·.1))) := by
  cases d with
  | ref p =>
    refine ⟨p, rfl, ?_⟩
    cases e : h p with
    | none => simp only [M.sortP, e] at q
    | some o =>
      cases o with
      | lst xs => simp only [M.sortP, e] at q; exact .inl ⟨xs, rfl, q⟩
      | dct kd kvs =>
        cases kd with
        | zero => simp only [M.sortP, e] at q; exact .inr ⟨kvs, .inl rfl, q⟩
        | succ n => simp only [M.sortP, e] at q
      | rdct kd kvs =>
        cases kd with
        | zero => simp only [M.sortP, e] at q; exact .inr ⟨kvs, .inr rfl, q⟩
        | succ n => simp only [M.sortP, e] at q
      | _ => simp only [M.sortP, e] at q
  | _ => exact False.elim q
theorem sortd_ok {ds : List SD} {vs : List V} (rh : RH K H h) (r : Reps K H ds vs) (q : M.opBlt .sortd ds h Qa) (k : Kont K H h Qa Q) : rSortD K vs H Q := by
  simp only [M.opBlt] at q
  obtain ⟨d, rfl, q⟩ := arg1_inv q
  obtain ⟨v, rfl, rv⟩ := reps1 r
  obtain ⟨p, rfl, z0⟩ := sortP_inv q
  cases (show v = _ from rv)
  clear q
  rcases z0 with ⟨xs, e, so, q⟩ | ⟨kvs, e, ⟨ss, e2, l64⟩, q⟩
  · obtain ⟨vs, a1, r1⟩ := rh p _ e
    have fin : ∀ (ys : List SD) (ws : List V), ys.Perm xs → ys.Pairwise (fun a b => M.ltD b a = false) → Reps K H ys ws → ∀ l, H l = none → Q (.ref l) (upd H l (.lst ws)) := fun ys ws pm pw rw l hn =>
      k _ _ _ _ (q ys pm pw l (rh.none hn)) (frm_new hn) rfl (rh_new rh hn ⟨_, upd_same, rw.kp (kp_new hn)⟩)
    rcases so with so | ⟨ss, e2, l64⟩ | ⟨ns, e2⟩ | so
    · exact .inl ⟨p, vs, rfl, SqL.of a1, by rw [r1.length]; exact so, fin xs vs (.refl _) (pw_short so) r1⟩
    · obtain ⟨ev, ok⟩ := strs_rep e2 r1
      have ex := strs_map e2
      refine .inr (.inl ⟨p, ss.map sV, rfl, ?_, by simpa using l64, fun ys l pm so hn => ?_⟩)
      · rw [List.map_map]
        have : vs = ss.map (V.str ∘ sV) := ev
        rw [← this]; exact SqL.of a1
      · obtain ⟨ys', rfl, pm'⟩ := perm_sV pm
        have := fin (ys'.map M.D.str) (ys'.map (V.str ∘ sV)) (by rw [ex]; exact pm'.map _) (sorted_pw so) (reps_strs fun s hs => ok s (pm'.mem_iff.mp hs)) l hn
        rw [List.map_map]
        exact this
    · have ev := ints_rep e2 r1
      subst ev
      have ex := ints_map e2
      exact .inr (.inr (.inl ⟨p, ns, rfl, SqL.of a1, fun ys l pm so hn => fin (ys.map M.D.int) (ys.map V.int) (by rw [ex]; exact pm.map _) (ints_pw so) (reps_intsL ys) l hn⟩))
    · obtain ⟨z1, z2⟩ := reps_zip r1
      refine .inr (.inr (.inr (.inl ⟨p, vs, xs, rfl, SqL.of a1, reps_dp so.1 r1, so, reps_can so.1 r1, fun ps pm sp l hn => ?_⟩)))
      refine fin (ps.map (·.2)) (ps.map (·.1)) ?_ sp (reps_of fun x hx => z2 x (pm.mem_iff.mp hx)) l hn
      have := pm.map (·.2)
      rw [List.map_snd_zip (by omega)] at this
      exact this
  · obtain ⟨_, ps, a1, pr⟩ := rd_dct (e.imp (rh p _) (rh p _))
    obtain ⟨k1, k2⟩ := keys_strs pr e2
    have ex := strs_map e2
    refine .inr (.inr (.inr (.inr ⟨p, ps, ss.map sV, rfl, a1, k1, by simpa using l64, fun ys l hp so hn => ?_⟩)))
    obtain ⟨ys', rfl, hp'⟩ := perm_sV hp
    refine k _ _ _ _ (q (ys'.map M.D.str) (by rw [ex]; exact hp'.map _) (sorted_pw so) l (rh.none hn)) (frm_new hn) rfl (rh_new rh hn ⟨_, upd_same, ?_⟩)
    rw [List.map_map]
    exact reps_strs fun s hs => k2 s (hp'.mem_iff.mp hs)
theorem blt_ok {b : M.Blt} {ds : List SD} {vs : List V} (rh : RH K H h) (r : Reps K H ds vs) (q : M.opBlt b ds h Qa) (k : Kont K H h Qa Q) : rBlt K b vs H Q := by
  have hl := line_eq
  by_cases bs : b = .sortd
  · subst bs
    exact sortd_ok rh r q k
  cases b <;> simp only [M.opBlt] at q
  case len =>
    obtain ⟨d, rfl, q1⟩ := arg1_inv q
    obtain ⟨v, rfl, rv⟩ := reps1 r
    rcases lenOk_inv q1 with ⟨s, rfl, hz, q⟩ | ⟨xs, e, q⟩ | ⟨p, kd, kvs, rfl, e, q⟩
    · refine .inl ⟨v, s.length, rfl, ?_, k.now rh q rfl⟩
      cases (show v = _ from rv.1)
      exact ⟨by rw [sV_len, hl]; exact hz, (sV_len s).symm⟩
    · obtain ⟨p, ws, ev, t, rs⟩ := seq_rep rh rv e
      subst ev
      refine .inl ⟨_, xs.length, rfl, ?_, k.now rh q rfl⟩
      rcases t with ⟨t, _⟩ | ⟨t, _⟩
      · exact .inl ⟨ws, t, rs.length.symm⟩
      · exact .inr ⟨ws, t, rs.length.symm⟩
    · cases (show v = _ from rv)
      obtain ⟨rfl, ps, rd, pr⟩ := rd_dct (e.imp (rh p _) (rh p _))
      have ln := Paired.length pr
      exact .inr ⟨p, ps, rfl, rd, k.now rh q (by show V.int _ = V.int _; rw [ln])⟩
  case min2 =>
    obtain ⟨d, e, rfl, q⟩ := arg2_inv q
    obtain ⟨v, w, rfl, rv, rw'⟩ := reps2 r
    obtain ⟨i, rfl, q⟩ := anInt_inv q
    obtain ⟨j, rfl, q⟩ := anInt_inv q
    cases (show v = _ from rv); cases (show w = _ from rw')
    exact ⟨i, j, rfl, k.now rh q rfl⟩
  case max2 =>
    obtain ⟨d, e, rfl, q⟩ := arg2_inv q
    obtain ⟨v, w, rfl, rv, rw'⟩ := reps2 r
    obtain ⟨i, rfl, q⟩ := anInt_inv q
    obtain ⟨j, rfl, q⟩ := anInt_inv q
    cases (show v = _ from rv); cases (show w = _ from rw')
    exact ⟨i, j, rfl, k.now rh q rfl⟩
  case int1 =>
    obtain ⟨d, rfl, q⟩ := arg1_inv q
    obtain ⟨v, rfl, rv⟩ := reps1 r
    rcases toInt_inv q with ⟨i, rfl, q⟩ | ⟨i, rfl, q⟩
    · cases (show v = _ from rv)
      exact .inl ⟨i, rfl, k.now rh q rfl⟩
    · cases (show v = _ from rv)
      exact .inr ⟨i, rfl, k.now rh q rfl⟩
  case abs =>
    obtain ⟨d, rfl, q⟩ := arg1_inv q
    obtain ⟨v, rfl, rv⟩ := reps1 r
    obtain ⟨i, rfl, q⟩ := anInt_inv q
    cases (show v = _ from rv)
    exact ⟨i, rfl, k.now rh q rfl⟩
  case sum =>
    obtain ⟨d, rfl, q⟩ := arg1_inv q
    obtain ⟨v, rfl, rv⟩ := reps1 r
    obtain ⟨p, xs, rfl, e, q⟩ := aLst_inv q
    obtain ⟨ns, e2, q⟩ := aSome_inv q
    cases (show v = _ from rv)
    obtain ⟨vs, a1, r1⟩ := rh p _ e
    have := ints_rep e2 r1
    subst this
    exact ⟨p, ns, rfl, SqL.of a1, k.now rh q rfl⟩
  case all =>
    obtain ⟨d, rfl, q⟩ := arg1_inv q
    obtain ⟨v, rfl, rv⟩ := reps1 r
    obtain ⟨p, xs, rfl, e, q⟩ := aLst_inv q
    obtain ⟨ns, e2, q⟩ := aSome_inv q
    cases (show v = _ from rv)
    obtain ⟨vs, a1, r1⟩ := rh p _ e
    have := bls_rep e2 r1
    subst this
    exact ⟨p, ns, rfl, SqL.of a1, k.now rh q rfl⟩
  case any =>
    obtain ⟨d, rfl, q⟩ := arg1_inv q
    obtain ⟨v, rfl, rv⟩ := reps1 r
    obtain ⟨p, xs, rfl, e, q⟩ := aLst_inv q
    obtain ⟨ns, e2, q⟩ := aSome_inv q
    cases (show v = _ from rv)
    obtain ⟨vs, a1, r1⟩ := rh p _ e
    have := bls_rep e2 r1
    subst this
    exact ⟨p, ns, rfl, SqL.of a1, k.now rh q rfl⟩
  case list =>
    obtain ⟨d, rfl, q⟩ := arg1_inv q
    obtain ⟨v, rfl, rv⟩ := reps1 r
    obtain ⟨xs, e, q⟩ := aSome_inv q
    obtain ⟨p, ws, ev, t, rs⟩ := seq_rep rh rv e
    subst ev
    refine ⟨p, ws, rfl, t.imp (·.1) (·.1), fun l hn => ?_⟩
    exact k _ _ _ _ (q l (rh.none hn)) (frm_new hn) rfl (rh_new rh hn ⟨_, upd_same, rs.kp (kp_new hn)⟩)
  case tuple =>
    obtain ⟨d, rfl, q⟩ := arg1_inv q
    obtain ⟨v, rfl, rv⟩ := reps1 r
    obtain ⟨xs, e, q⟩ := aSome_inv q
    obtain ⟨p, ws, ev, t, rs⟩ := seq_rep rh rv e
    subst ev
    refine ⟨p, ws, rfl, ?_⟩
    rcases t with ⟨t, _⟩ | ⟨t, e3⟩
    · refine .inl ⟨t, fun l hn => ?_⟩
      exact k _ _ _ _ q (frm_hid hn) ⟨l, ws, rfl, .inl upd_same, rs.kp (kp_new hn)⟩ (rh_hid rh hn)
    · subst e3
      exact .inr ⟨t, k.now rh q rv⟩
  case dict1 =>
    obtain ⟨d, rfl, q⟩ := arg1_inv q
    obtain ⟨v, rfl, rv⟩ := reps1 r
    obtain ⟨p, kd, kvs, rfl, e1, q⟩ := aDctR_inv q
    cases (show v = _ from rv)
    obtain ⟨rfl, ps, a1, pr⟩ := rd_dct (e1.imp (rh p _) (rh p _))
    refine ⟨p, ps, rfl, a1, fun l hn => ?_⟩
    exact k _ _ _ _ (q l (rh.none hn)) (frm_new hn) rfl (rh_new rh hn (dct0.mpr ⟨ps, upd_same, Paired.mapP pr fun _ _ z => ⟨z.1, z.2.kp (kp_new hn)⟩⟩))
  case klist =>
    obtain ⟨d, rfl, q⟩ := arg1_inv q
    obtain ⟨v, rfl, rv⟩ := reps1 r
    obtain ⟨p, kd, kvs, rfl, e1, q⟩ := aDctR_inv q
    cases (show v = _ from rv)
    obtain ⟨rfl, ps, a1, pr⟩ := rd_dct (e1.imp (rh p _) (rh p _))
    refine ⟨p, ps, rfl, a1, fun l hn => ?_⟩
    exact k _ _ _ _ (q l (rh.none hn)) (frm_new hn) rfl (rh_new rh hn ⟨_, upd_same, keys_rep pr⟩)
  case max1 =>
    obtain ⟨d, rfl, q⟩ := arg1_inv q
    obtain ⟨v, rfl, rv⟩ := reps1 r
    obtain ⟨p, xs, rfl, e, q⟩ := aLst_inv q
    obtain ⟨ns, e2, q0, q⟩ := aSome_inv q
    cases (show v = _ from rv)
    obtain ⟨vs, a1, r1⟩ := rh p _ e
    have := ints_rep e2 r1
    subst this
    exact ⟨p, ns, rfl, SqL.of a1, List.length_pos_iff.mpr q0, fun m h1 h2 => k.now rh (q m h1 h2) rfl⟩
  case sortd => exact absurd rfl bs
  case sorted =>
    obtain ⟨d, rfl, q⟩ := arg1_inv q
    obtain ⟨v, rfl, rv⟩ := reps1 r
    obtain ⟨p, kd, kvs, rfl, e1, q⟩ := aDctR_inv q
    obtain ⟨ss, e2, q0, q⟩ := aSome_inv q
    cases (show v = _ from rv)
    obtain ⟨rfl, ps, a1, pr⟩ := rd_dct (e1.imp (rh p _) (rh p _))
    obtain ⟨k1, k2⟩ := keys_strs pr e2
    refine ⟨p, ps, ss.map sV, rfl, a1, k1, by simpa using q0, fun ys l hp _ hn => ?_⟩
    obtain ⟨ys', rfl, hp'⟩ := perm_sV hp
    refine k _ _ _ _ (q ys' hp' l (rh.none hn)) (frm_new hn) rfl (rh_new rh hn ⟨_, upd_same, ?_⟩)
    rw [List.map_map]
    exact reps_strs fun s hs => k2 s (hp'.mem_iff.mp hs)

/-! ### isinstance -/
def tyS : M.Ty → String
  | .int => "int" | .bool => "bool" | .tuple => "tuple" | .str => "str" | .list => "list" | .dict => "dict"
theorem isi_ok {d : SD} {t : M.Ty} {v : V} {b : Bool} (rh : RH K H h) (r : Rep K H d v) (e : M.opIsi d t h = some b) (q : Q (.bl b) H) : rIsi K [v, .ty (tyS t)] H Q := by
  have go : ∀ (T : String), TyX K H v (.type T) → kitB T (tyS t) = some b → rIsi K [v, .ty (tyS t)] H Q := fun T ty k => ⟨v, _, _, _, b, rfl, .ty _, ty, kit_ty k, q⟩
  cases d with
  | non =>
    cases (show v = _ from r)
    refine ⟨_, _, _, _, b, rfl, .ty _, .base .non, ?_, q⟩
    cases t <;> simp only [M.opIsi, Option.some.injEq] at e <;> subst e <;> rfl
  | bl y =>
    cases (show v = _ from r)
    refine go "bool" (.base (.bl y)) ?_
    cases t <;> simp only [M.opIsi, Option.some.injEq] at e <;> subst e <;> decide +kernel
  | int y =>
    cases (show v = _ from r)
    refine go "int" (.base (.int y)) ?_
    cases t <;> simp only [M.opIsi, Option.some.injEq] at e <;> subst e <;> decide +kernel
  | str y =>
    cases (show v = _ from r.1)
    refine go "str" (.base (.str _)) ?_
    cases t <;> simp only [M.opIsi, Option.some.injEq] at e <;> subst e <;> decide +kernel
  | tup y =>
    obtain ⟨a, vs, e1, tt, rs⟩ := r
    subst e1
    refine go "tuple" ?_ ?_
    · rcases tt with tt | ⟨o, its, n, e1, e2, _⟩
      · exact .base (.tup tt)
      · exact .kTuple e1 e2
    · cases t <;> simp only [M.opIsi, Option.some.injEq] at e <;> subst e <;> decide +kernel
  | ref p =>
    cases (show v = _ from r)
    simp only [M.opIsi] at e
    cases z : h p with
    | none => rw [z] at e; cases e
    | some o =>
      rw [z] at e
      cases o with
      | lst xs =>
        obtain ⟨vs, a1, r1⟩ := rh p _ z
        refine go "list" (.base (.lst a1)) ?_
        cases t <;> simp only [Option.some.injEq] at e <;> subst e <;> decide +kernel
      | dct kd kvs =>
        cases kd with
        | succ _ => cases e
        | zero =>
          obtain ⟨ps, a1, _⟩ := dct0.mp (rh p _ z)
          refine go "dict" (.base (.dK a1)) ?_
          cases t <;> simp only [Option.some.injEq] at e <;> subst e <;> decide +kernel
      | _ => cases e
  | rol _ => simp [M.opIsi] at e

/-! ### methods -/
/-- list.extend by a tuple, whatever else the tuple's object holds -/
theorem ext_tup (l b : Addr) (xs ys : Array Value) (n m : Nat) (dd : Option Addr) (sl : Array (Option Value)) (h1 : ¬(!xs.isEmpty && Builtin.List.listTooLong (xs.size + ys.size)) = true) (h2 : xs.size ≤ sizeLine) (h3 : xs.size + ys.size ≤ sizeLine + 1) :
    Meets (Builtin.«list.extend» ⟨[.ref l, .ref b], []⟩) (fun _ R s => s.heap.get? l = some { cls := .type "list", dict := none, data := .seq xs n, slots := #[] } ∧
      s.heap.get? b = some { cls := .type "tuple", dict := dd, data := .seq ys m, slots := sl } ∧
      R (.ok (.ret Value.none)) { s with heap := s.heap.update l (Obj.mapSeq fun x => x ++ ys), toks := s.toks }) := .of_wp fun prog w A R s h => by
    obtain ⟨hp, g, d, tk, os⟩ := s
    obtain ⟨hl, hb, h⟩ := h
    have f1 := AutoSeq1.idx_int
    have f2 := AutoSeq1.sub_tuple_tuple
    have f3 := AutoSeq1.sub_list_list
    have f4 := AutoSeq1.sub_tuple_list
    have f5 := AutoSeq1.sub_list_tuple
    have h4 : (xs ++ ys).size ≤ sizeLine + 1 := by rw [Array.size_append]; exact h3
    wp_walk using (wpAny_updateSeq hl rfl (hz := h2) (_hz' := h4)), AutoSeq1.wpAny_loadPart' hl, AutoSeq1.wpAny_loadPart' hb
    exact ⟨_, rfl, h⟩
def rExtT (K : Fr) : V → List V → Hp → VK → Prop := fun x vs H Q => ∃ l b xs zs, x = .ref l ∧ vs = [.ref b] ∧ H l = some (.lst xs) ∧ SqT K H b zs ∧ xs.length + zs.length ≤ sizeLine ∧ Q .non (upd H l (.lst (xs ++ zs)))
theorem mt_extT {X : Cx} : MtR X "list.extend" (rExtT X.F) := by
  intro pins s σ H x vs v us Q I rx rv h
  obtain ⟨l, b, xs, zs, rfl, rfl, hH, hB, hz, q⟩ := h
  cases rx
  obtain ⟨u, rfl, ru⟩ := rv.one
  cases ru
  obtain ⟨z, its, n, r, hl, e⟩ := I.lstM hH
  obtain ⟨its2, r2, ⟨o, e2, c2, m, d2⟩, _⟩ := I.tuple hB
  obtain ⟨oc, od, dt, osl⟩ := o
  dsimp only at c2 d2
  subst c2 d2
  have hsz : its.toArray.size + its2.toArray.size ≤ sizeLine := by
    have a1 := r.length
    have a2 := r2.length
    rw [List.size_toArray, List.size_toArray]; omega
  have hlong : ¬ (!its.toArray.isEmpty && Builtin.List.listTooLong (its.toArray.size + its2.toArray.size)) = true := by
    rw [notLongL hsz, Bool.and_false]
    exact Bool.false_ne_true
  refine call_meets F.slot_list_extend ⟨_, e, rfl⟩ F.entry_list_extend (F.args_list_extend_2 _ _) (ext_tup l b its.toArray its2.toArray n m od osl hlong (by omega) (by omega)) ⟨e, e2, ?_⟩
  refine ⟨.non, _, I.lset (its' := its ++ its2) hH e (by simp) (r.append r2) ?_, rfl, q⟩
  rw [List.length_append]
  omega
def mthT : M.Mth → Option (String × String × Str)
  | .append => some ("list", "list.append", "append") | .pop => some ("list", "list.pop", "pop") | .popAt => some ("list", "list.pop", "pop") | .extend => some ("list", "list.extend", "extend")
  | .reverse => some ("list", "list.reverse", "reverse") | .clear => some ("list", "list.clear", "clear") | .get1 => some ("dict", "dict.get", "get") | .get2 => some ("dict", "dict.get", "get")
  | .update => some ("dict", "dict.update", "update") | .insert => some ("list", "list.insert", "insert") | .dclear => some ("dict", "dict.clear", "clear") | .join => some ("str", "str.join", "join") | .index => some ("list", "list.index", "index") | .extendT => some ("list", "list.extend", "extend") | _ => none
def rUpd : V → List V → Hp → VK → Prop := fun x vs H Q => ∃ (a b : Addr) (ks ls : List (Key × V)), x = .ref a ∧ vs = [.ref b] ∧ a ≠ b ∧ H a = some (.dK ks) ∧ H b = some (.dK ls) ∧ ks.length + ls.length ≤ sizeLine ∧ Q .non (upd H a (.dK (mergeK ks ls)))
theorem mt_update {X : Cx} : MtR X "dict.update" rUpd := by
  intro pins s σ H x vs v us Q I rx rv h
  obtain ⟨a, b, ks, ls, rfl, rfl, hne, ha, hb, hz, q⟩ := h
  cases rx
  obtain ⟨u, rfl, ru⟩ := rv.one
  obtain rfl : u = Value.ref b := ru
  obtain ⟨_, ya, va, ra, da⟩ := dk_of I.hok ha
  obtain ⟨_, yb, vb, rb, db⟩ := dk_of I.hok hb
  refine call_meetsIn PySem.F.slot_dict_update da.typeIs PySem.F.entry_dict_update (PySem.F.args_dict_update_2 _ _) (meets_dict_update (mixKind X.prog X.w) a b hne yb) ⟨va, vb, da, db, by rw [← ra.length, ← rb.length]; exact hz, fun h' d1 d2 hs => ?_⟩
  have rm := KV.merge rb ra
  have hl : (mergeK ks ls).length ≤ sizeLine := by have := length_mergeK ls ks; omega
  obtain ⟨o1, ho1, _⟩ := Heap.dictOf_iff.mp d1
  exact ⟨.non, _, d_write I (by rw [ha]; trivial) hs ⟨_, ho1⟩ (dk_new hl ya rm d1), rfl, q⟩
def rGet1 : V → List V → Hp → VK → Prop := fun x vs H Q => ∃ a y o, x = .ref a ∧ vs = [y] ∧ DGet H a y o ∧ Q (o.getD .non) H
def rGet2 : V → List V → Hp → VK → Prop := fun x vs H Q => ∃ a y z o, x = .ref a ∧ vs = [y, z] ∧ DGet H a y o ∧ Q (o.getD z) H
theorem mt_get1 {X : Cx} (hu : X.A.units + 1 < cLine) : MtR X "dict.get" rGet1 := by
  intro pins s σ H x vs v us Q I rx rv h
  obtain ⟨a, y, o, rfl, rfl, g, q⟩ := h
  cases rx
  obtain ⟨u, rfl, ru⟩ := rv.one
  exact d_get1 hu I g ru fun w' s3 I3 rw' => ⟨_, H, I3, rw', q⟩
theorem mt_get2 {X : Cx} (hu : X.A.units + 1 < cLine) : MtR X "dict.get" rGet2 := by
  intro pins s σ H x vs v us Q I rx rv h
  obtain ⟨a, y, z, o, rfl, rfl, g, q⟩ := h
  cases rx
  obtain ⟨u, u2, rfl, ru, ru2⟩ := rv.two
  exact d_get2 hu I g ru ru2 fun w' s3 I3 rw' => ⟨_, H, I3, rw', q⟩
def rMth (K : Fr) : M.Mth → V → List V → Hp → VK → Prop
  | .append => rAppend | .pop => rPop | .popAt => rPopAt | .extend => rExtend | .reverse => rReverse | .clear => rClear | .get1 => rGet1 | .get2 => rGet2 | .update => rUpd
  | .insert => fun x vs H Q => ∃ (l : Addr) (xs : List V) (i : Int) (y : V), x = .ref l ∧ vs = [.int i, y] ∧ H l = some (.lst xs) ∧ xs.length < sizeLine ∧ 0 ≤ i ∧ i < 2 ^ 63 ∧ Q .non (upd H l (.lst (xs.take i.toNat ++ [y] ++ xs.drop i.toNat)))
  | .dclear => rDClear
  | .extendT => rExtT K
  | .index => rIndex K
  | .join => fun x xs H Q => ∃ a p, ∃ ys : List Str, x = .str a ∧ xs = [.ref p] ∧ (SqL K H p (ys.map V.str) ∨ SqT K H p (ys.map V.str)) ∧ (ys.map (·.length)).sum + ys.length * a.length ≤ 16777216 ∧ Q (.str (Txt.join a ys)) H
  | _ => fun _ _ _ _ => False
structure MFact (m : M.Mth) (T id : String) (nm : Str) : Prop where
  pa : PlainAttrs T
  slot : Slot T nm id
  ty : typeOf (.builtin id) = pure (.type "method_descriptor")
theorem mth_fact {m : M.Mth} {T id : String} {nm : Str} (e : mthT m = some (T, id, nm)) : MFact m T id nm := by
  cases m <;> simp only [mthT, Option.some.injEq, Prod.mk.injEq, reduceCtorEq] at e <;> obtain ⟨rfl, rfl, rfl⟩ := e
  · exact ⟨PySem.F.plainAttrs_list, PySem.F.slot_list_append, PySem.F.type_list_append⟩
  · exact ⟨PySem.F.plainAttrs_list, PySem.F.slot_list_pop, PySem.F.type_list_pop⟩
  · exact ⟨PySem.F.plainAttrs_list, PySem.F.slot_list_pop, PySem.F.type_list_pop⟩
  · exact ⟨PySem.F.plainAttrs_list, PySem.F.slot_list_extend, PySem.F.type_list_extend⟩
  · exact ⟨PySem.F.plainAttrs_list, PySem.F.slot_list_insert, PySem.F.type_list_insert⟩
  · exact ⟨PySem.F.plainAttrs_list, PySem.F.slot_list_reverse, PySem.F.type_list_reverse⟩
  · exact ⟨PySem.F.plainAttrs_list, PySem.F.slot_list_clear, PySem.F.type_list_clear⟩
  · exact ⟨PySem.F.plainAttrs_dict, PySem.F.slot_dict_get, PySem.F.type_dict_get⟩
  · exact ⟨PySem.F.plainAttrs_dict, PySem.F.slot_dict_get, PySem.F.type_dict_get⟩
  · exact ⟨PySem.F.plainAttrs_dict, PySem.F.slot_dict_update, PySem.F.type_dict_update⟩
  · exact ⟨PySem.F.plainAttrs_str, PySem.F.slot_str_join, PySem.F.type_str_join⟩
  · exact ⟨PySem.F.plainAttrs_list, PySem.F.slot_list_index, PySem.F.type_list_index⟩
  · exact ⟨PySem.F.plainAttrs_dict, PySem.F.slot_dict_clear, PySem.F.type_dict_clear⟩
  · exact ⟨PySem.F.plainAttrs_list, PySem.F.slot_list_extend, PySem.F.type_list_extend⟩
theorem mth_rule {X : Cx} (hu : X.A.units + 1 < cLine) {m : M.Mth} {T id : String} {nm : Str} (e : mthT m = some (T, id, nm)) : MtR X id (rMth X.F m) := by
  cases m <;> simp only [mthT, Option.some.injEq, Prod.mk.injEq, reduceCtorEq] at e <;> obtain ⟨rfl, rfl, rfl⟩ := e
  · exact mt_append
  · exact mt_pop
  · exact mt_popAt
  · exact mt_extend
  · exact mt_insert
  · exact mt_reverse
  · exact mt_clear
  · exact mt_get1 hu
  · exact mt_get2 hu
  · exact mt_update
  · exact mt_join
  · exact mt_index
  · exact mtd_clear
  · exact mt_extT
theorem recv_ok {m : M.Mth} {T id : String} {nm : Str} (e : mthT m = some (T, id, nm)) {d : SD} {v : V} (rh : RH K H h) (r : Rep K H d v) (q : M.recvOk m d h) : tyV K T v H := by
  have lst : M.aLst d h (fun _ _ => True) → tyV K "list" v H := fun q => by
    obtain ⟨p, xs, rfl, e1, _⟩ := aLst_inv q
    cases (show v = _ from r)
    obtain ⟨vs, a1, r1⟩ := rh p _ e1
    exact .inl ⟨rfl, vs, SqL.of a1⟩
  have dct : M.aDct d h (fun _ _ _ => True) → tyV K "dict" v H := fun q => by
    obtain ⟨p, kd, xs, rfl, e1, _⟩ := aDct_inv q
    cases (show v = _ from r)
    have o := rh p _ e1
    match kd, o with
    | 0, ⟨ps, a1, _⟩ => exact .inr (.inr (.inl ⟨rfl, .inl ⟨ps, a1⟩⟩))
  cases m <;> simp only [mthT, Option.some.injEq, Prod.mk.injEq, reduceCtorEq] at e <;> obtain ⟨rfl, rfl, rfl⟩ := e
  · exact lst q
  · exact lst q
  · exact lst q
  · exact lst q
  · exact lst q
  · exact lst q
  · exact lst q
  · exact dct q
  · exact dct q
  · exact dct q
  · cases d with
    | str s => cases (show v = _ from r.1); exact rfl
    | _ => exact False.elim q
  · exact lst q
  · exact dct q
  · exact lst q
theorem lst_put {p : Addr} {xs ys : List SD} {ws : List V} {d : SD} {v : V} (rh : RH K H h) (e : h p = some (.lst xs)) (q : Qa d (M.up h p (.lst ys))) (k : Kont K H h Qa Q) (rd : Rep K H d v) (rs : Reps K H ys ws) :
    Q v (upd H p (.lst ws)) := by
  have kp : Kp H (upd H p (.lst ws)) := kp_put rh e
  exact k _ _ _ _ q (frm_put e) (rd.kp kp) (rh_put rh e ⟨_, upd_same, rs.kp kp⟩)
theorem Reps.erase : ∀ (n : Nat) {ds : List SD} {vs : List V}, Reps K H ds vs → Reps K H (ds.eraseIdx n) (vs.eraseIdx n)
  | _, [], _, r => by cases (show _ = _ from r); exact rfl
  | 0, d :: ds, _, ⟨v, r, e, a, b⟩ => by subst e; exact b
  | n + 1, d :: ds, _, ⟨v, r, e, a, b⟩ => by subst e; exact ⟨v, _, rfl, a, Reps.erase n b⟩
theorem kv_merge : ∀ {more kvs : List (SD × SD)} {ls ks : List (Key × V)}, Paired (PR K H R0) more ls → Paired (PR K H R0) kvs ks → Paired (PR K H R0) (M.mergeL kvs more) (mergeK ks ls) := by
  intro more kvs ls ks r
  induction r generalizing kvs ks with
  | nil => intro q; exact q
  | @cons x p xs ps h t ih =>
    intro q
    exact ih (kv_put kr0 q h.1 h.2)
theorem joinS_eq (s : M.Sx) : ∀ ss : List M.Sx, TL.joinL s ss = M.joinS s ss
  | [] => rfl
  | [_] => rfl
  | p :: q :: r => by
    show p ++ (s ++ TL.joinL s (q :: r)) = p ++ (s ++ M.joinS s (q :: r))
    rw [joinS_eq s (q :: r)]
theorem joinS_ok {s : M.Sx} (os : sOk s) : ∀ {ss : List M.Sx}, (∀ t ∈ ss, sOk t) → sOk (M.joinS s ss)
  | [], _ => fun c hc => nomatch hc
  | [p], h => h p List.mem_cons_self
  | p :: q :: r, h => fun c hc => by
    rcases List.mem_append.mp hc with z | z
    · exact h p List.mem_cons_self c z
    · rcases List.mem_append.mp z with z | z
      · exact os c z
      · exact joinS_ok os (fun t ht => h t (List.mem_cons_of_mem _ ht)) c z
theorem mth_ok {m : M.Mth} {d : SD} {v : V} {ds : List SD} {vs : List V} (rh : RH K H h) (rd : Rep K H d v) (r : Reps K H ds vs) (q : M.opMth m d ds h Qa) (k : Kont K H h Qa Q) : rMth K m v vs H Q := by
  have hl := line_eq
  cases m <;> simp only [M.opMth] at q
  case append =>
    obtain ⟨e, rfl, q⟩ := arg1_inv q
    obtain ⟨w, rfl, rw'⟩ := reps1 r
    obtain ⟨p, xs, rfl, e1, hz, q⟩ := aLst_inv q
    cases (show v = _ from rd)
    obtain ⟨ws, a1, r1⟩ := rh p _ e1
    have ln := r1.length
    exact ⟨p, ws, w, rfl, rfl, a1, by omega, lst_put rh e1 q k rfl (r1.append (.one rw'))⟩
  case pop =>
    obtain ⟨rfl, q⟩ := q
    cases (show vs = _ from r)
    obtain ⟨p, xs, rfl, e1, q⟩ := aLst_inv q
    obtain ⟨y, e2, q⟩ := aSome_inv q
    cases (show v = _ from rd)
    obtain ⟨ws, a1, r1⟩ := rh p _ e1
    have ln := r1.length
    obtain ⟨w, e3, ry⟩ := r1.get e2
    exact ⟨p, ws, w, rfl, rfl, a1, by rw [ln]; exact e3, lst_put rh e1 q k ry r1.dropLast⟩
  case popAt =>
    obtain ⟨e, rfl, q⟩ := arg1_inv q
    obtain ⟨i, rfl, q⟩ := anInt_inv q
    obtain ⟨w, rfl, rw'⟩ := reps1 r
    cases (show w = _ from rw')
    obtain ⟨p, xs, rfl, e1, ⟨i0, i1⟩, q⟩ := aLst_inv q
    obtain ⟨y, e2, q⟩ := aSome_inv q
    cases (show v = _ from rd)
    obtain ⟨ws, a1, r1⟩ := rh p _ e1
    have ln := r1.length
    obtain ⟨w, e3, ry⟩ := r1.get e2
    have hlt : i.toNat < ws.length := (List.getElem?_eq_some_iff.mp e3).1
    refine ⟨p, ws, i, i.toNat, w, rfl, rfl, a1, by omega, by omega, ?_, e3, lst_put rh e1 q k ry (r1.erase _)⟩
    exact seqIndex_of (by omega) (by omega)
  case update =>
    obtain ⟨e, rfl, q⟩ := arg1_inv q
    obtain ⟨w, rfl, rw'⟩ := reps1 r
    obtain ⟨p, kd, kvs, rfl, e1, q⟩ := aDct_inv q
    obtain ⟨p2, kd2, more, rfl, e2, hne, rfl, rfl, hz, q⟩ := aDct_inv q
    cases (show v = _ from rd); cases (show w = _ from rw')
    obtain ⟨ks, a1, r1⟩ := dct0.mp (rh p _ e1)
    obtain ⟨ls, a2, r2⟩ := dct0.mp (rh p2 _ e2)
    have n1 := Paired.length r1
    have n2 := Paired.length r2
    have kp : Kp H (upd H p (.dK (mergeK ks ls))) := kp_put rh e1
    refine ⟨p, p2, ks, ls, rfl, rfl, hne, a1, a2, by omega, k _ _ _ _ q (frm_put e1) rfl (rh_put rh e1 (dct0.mpr ⟨_, upd_same, ?_⟩))⟩
    exact Paired.mapP (kv_merge r2 r1) fun _ _ z => ⟨z.1, z.2.kp kp⟩
  case insert =>
    obtain ⟨y, e, rfl, q⟩ := arg2_inv q
    obtain ⟨i, rfl, q⟩ := anInt_inv q
    obtain ⟨w, u, rfl, rw', ru⟩ := reps2 r
    cases (show w = _ from rw')
    obtain ⟨p, xs, rfl, e1, ⟨i0, i1⟩, hz, q⟩ := aLst_inv q
    cases (show v = _ from rd)
    obtain ⟨ws, a1, r1⟩ := rh p _ e1
    have ln := r1.length
    exact ⟨p, ws, i, u, rfl, rfl, a1, by omega, i0, by omega, lst_put rh e1 q k rfl (((r1.take _).append (.one ru)).append (r1.drop _))⟩
  case index =>
    obtain ⟨e, rfl, q⟩ := arg1_inv q
    obtain ⟨i, rfl, q⟩ := anInt_inv q
    obtain ⟨w, rfl, rw'⟩ := reps1 r
    cases (show w = _ from rw')
    obtain ⟨p, xs, rfl, e1, q⟩ := aLst_inv q
    obtain ⟨ns, e2, hi, q⟩ := aSome_inv q
    cases (show v = _ from rd)
    obtain ⟨ws, a1, r1⟩ := rh p _ e1
    obtain rfl := ints_rep e2 r1
    have hlt := List.idxOf_lt_length_of_mem hi
    have hz : ns[ns.idxOf i]? = some i := by
      rw [List.getElem?_eq_getElem hlt]
      simp
    refine ⟨p, _, _, ns.idxOf i, V.int i, rfl, rfl, SqL.of a1, rfl, ?_, by rw [List.getElem?_map, hz]; rfl, ?_, ?_, k.now rh q rfl⟩
    · simp [flatV]
    · simp [eqV]
    · intro m z' hm hz'
      rw [List.getElem?_map] at hz'
      cases e3 : ns[m]? with
      | none => rw [e3] at hz'; cases hz'
      | some j =>
        rw [e3] at hz'
        cases hz'
        have : j ≠ i := fun c => by
          subst c
          obtain ⟨l, e4⟩ := List.getElem?_eq_some_iff.mp e3
          have := List.not_of_lt_findIdx (p := (· == j)) (xs := ns) (i := m) hm
          simp [e4] at this
        simp [eqV, this]
  case dclear =>
    obtain ⟨rfl, q⟩ := q
    cases (show vs = _ from r)
    obtain ⟨p, kd, kvs, rfl, e1, rfl, q⟩ := aDct_inv q
    cases (show v = _ from rd)
    obtain ⟨ks, a1, r1⟩ := dct0.mp (rh p _ e1)
    exact ⟨p, ks, rfl, rfl, a1, k _ _ _ _ q (frm_put e1) rfl (rh_put rh e1 (dct0.mpr ⟨[], upd_same, .nil⟩))⟩
  case join =>
    obtain ⟨e, rfl, q⟩ := arg1_inv q
    obtain ⟨w, rfl, rw'⟩ := reps1 r
    cases d with
    | str s =>
      obtain ⟨xs, e1, q⟩ := aSome_inv q
      obtain ⟨ss, e2, hz, q⟩ := aSome_inv q
      obtain ⟨rd, os⟩ := rd
      cases (show v = _ from rd)
      obtain ⟨p, ws, ev, t, rs⟩ := seq_rep rh rw' e1
      subst ev
      obtain ⟨e3, oks⟩ := strs_rep e2 rs
      subst e3
      refine ⟨sV s, p, ss.map sV, rfl, rfl, ?_, ?_, ?_⟩
      · have : (ss.map sV).map V.str = ss.map fun s => V.str (sV s) := by rw [List.map_map]; rfl
        rw [this]
        exact t.imp (·.1) (·.1)
      · rw [List.map_map, List.length_map, sV_len]
        have : (ss.map ((fun x : Str => x.length) ∘ sV)) = ss.map (·.length) := List.map_congr_left fun x _ => sV_len x
        rw [this]
        exact hz
      · have : Txt.join (sV s) (ss.map sV) = sV (M.joinS s ss) := (SX.join_S s ss).trans (by rw [joinS_eq]; rfl)
        rw [this]
        refine k.now rh q ⟨rfl, ?_⟩
        exact joinS_ok os oks
    | _ => exact False.elim q
  case extend =>
    obtain ⟨e, rfl, q⟩ := arg1_inv q
    obtain ⟨w, rfl, rw'⟩ := reps1 r
    obtain ⟨p, xs, rfl, e1, q⟩ := aLst_inv q
    obtain ⟨p2, ys, rfl, e2, hz, q⟩ := aLst_inv q
    cases (show v = _ from rd); cases (show w = _ from rw')
    obtain ⟨ws, a1, r1⟩ := rh p _ e1
    obtain ⟨zs, a2, r2⟩ := rh p2 _ e2
    have ln := r1.length
    have ln2 := r2.length
    exact ⟨p, p2, ws, zs, rfl, rfl, a1, a2, by omega, lst_put rh e1 q k rfl (r1.append r2)⟩
  case extendT =>
    obtain ⟨e, rfl, q⟩ := arg1_inv q
    obtain ⟨w, rfl, rw'⟩ := reps1 r
    obtain ⟨p, xs, rfl, e1, q⟩ := aLst_inv q
    cases (show v = _ from rd)
    cases e with
    | tup ys =>
      obtain ⟨hz, q⟩ := (show xs.length + ys.length ≤ M.LINE ∧ _ from q)
      obtain ⟨a, zs, e2, t, r2⟩ := rw'
      subst e2
      obtain ⟨ws, a1, r1⟩ := rh p _ e1
      have ln := r1.length
      have ln2 := r2.length
      exact ⟨p, a, ws, zs, rfl, rfl, a1, t.imp .inl id, by omega, lst_put rh e1 q k rfl (r1.append r2)⟩
    | _ => exact False.elim q
  case reverse =>
    obtain ⟨rfl, q⟩ := q
    cases (show vs = _ from r)
    obtain ⟨p, xs, rfl, e1, q⟩ := aLst_inv q
    cases (show v = _ from rd)
    obtain ⟨ws, a1, r1⟩ := rh p _ e1
    exact ⟨p, ws, rfl, rfl, a1, lst_put rh e1 q k rfl r1.rev⟩
  case clear =>
    obtain ⟨rfl, q⟩ := q
    cases (show vs = _ from r)
    obtain ⟨p, xs, rfl, e1, q⟩ := aLst_inv q
    cases (show v = _ from rd)
    obtain ⟨ws, a1, r1⟩ := rh p _ e1
    exact ⟨p, ws, rfl, rfl, a1, lst_put rh e1 q k rfl rfl⟩
  case get1 =>
    obtain ⟨e, rfl, q⟩ := arg1_inv q
    obtain ⟨w, rfl, rw'⟩ := reps1 r
    obtain ⟨p, kd, kvs, rfl, e1, kk, q⟩ := aDct_inv q
    cases (show v = _ from rd)
    obtain ⟨ov, g, z⟩ := dget_ok (rh p _ e1) kk rw'
    refine ⟨p, w, ov, rfl, rfl, g, ?_⟩
    rcases z with ⟨z1, z2⟩ | ⟨x, y, z1, z2, z3⟩
    · rw [z1] at q; rw [z2]; exact k.now rh q rfl
    · rw [z1] at q; rw [z2]; exact k.now rh q z3
  case get2 =>
    obtain ⟨e, f, rfl, q⟩ := arg2_inv q
    obtain ⟨w, u, rfl, rw', ru⟩ := reps2 r
    obtain ⟨p, kd, kvs, rfl, e1, kk, q⟩ := aDct_inv q
    cases (show v = _ from rd)
    obtain ⟨ov, g, z⟩ := dget_ok (rh p _ e1) kk rw'
    refine ⟨p, w, u, ov, rfl, rfl, g, ?_⟩
    rcases z with ⟨z1, z2⟩ | ⟨x, y, z1, z2, z3⟩
    · rw [z1] at q; rw [z2]; exact k.now rh q ru
    · rw [z1] at q; rw [z2]; exact k.now rh q z3

/-! ### o[i] = v -/
def rSetD : TSet := fun o i v H Q => ∃ p H', o = .ref p ∧ DPut H p i v H' ∧ Q H'
theorem PSet.or {X : Cx} {t t' : TSet} (a : PSet X t) (b : PSet X t') : PSet X (fun o i v H Q => t o i v H Q ∨ t' o i v H Q) := by
  intro pins s σ H o i v ov iv u Q I r1 r2 r3 q
  rcases q with q | q
  · exact a pins s σ H o i v ov iv u Q I r1 r2 r3 q
  · exact b pins s σ H o i v ov iv u Q I r1 r2 r3 q
theorem set_dict {X : Cx} (hu : X.A.units + 1 < cLine) : PSet X rSetD := by
  intro pins s σ H o i v ov iv u Q I r1 r2 r3 q
  obtain ⟨p, H', rfl, g, q⟩ := q
  cases r1
  exact d_setItem hu I g r2 r3 fun s4 I4 => ⟨H', I4, q⟩
/-- a dict with nested keys -/
def rSetN (K : Fr) : TSet := fun o i v H Q => ∃ a b kvs d e, o = .ref a ∧ i = .ref b ∧ ObRep K H a (.dcn kvs) ∧ M.nkOk d = true ∧ Rep K H d i ∧ Rep K H e v ∧ kvs.length < M.LINE ∧ ∀ H' : Hp, (∃ u, H' = upd H a u ∧ (∀ vs, u ≠ .tup vs)) → ObRep K H' a (.dcn (M.kvPut kvs d e)) → Q H'
theorem set_nest {X : Cx} (hu : X.A.units + 200 < cLine) : PSet X (rSetN X.F) := by
  intro pins s σ H o i v ov iv u Q I r1 r2 r3 q
  obtain ⟨a, b, kvs, d, e, rfl, rfl, ⟨xs, eo, pr⟩, hd, rd, re, hz, q⟩ := q
  cases r1
  cases (show iv = Value.ref b from r2)
  obtain ⟨z, hy, ys, py, dd⟩ := ent_dict I eo pr
  have hl := line_eq
  have n1 := Paired.length pr
  have n2 := Paired.length py
  refine wpAny_setItem_heap (knd := nestedKind X.prog X.w) (hsz := by omega) (by show X.A.units + 1 + 8 < cLine; omega) (nk_is I hd rd) dd fun h' dd' hs => ?_
  obtain ⟨q1, es, ep, hq, h2, h3, h4, _, h5⟩ := dd'
  have ln := storedX_len (xs := xs) (k := nK d) (a := b) (v := v)
  have en : EntO X.prog X.w a (storedX xs (nK d) b v) h' := ⟨by omega, hy, _, ent_stored py (nK d) b r3, q1, es, ep, hq, h2, h3, h4, h5⟩
  have I2 := d_write (t' := s.toks + (nestedKind X.prog X.w).draws (nK d)) (ob := .ext (EntO X.prog X.w a (storedX xs (nK d) b v))) I (by rw [eo]; exact True.intro) hs ⟨q1, hq⟩ ⟨en, ⟨q1, hq⟩, fun h1 h2 e st => ent_ok e st⟩
  have kp : Kp H (upd H a (.ext (EntO X.prog X.w a (storedX xs (nK d) b v)))) := ⟨fun c vs ec => by rw [upd_ne (ne_of ec eo (fun z => nomatch z))]; exact ec, fun c o u ec => by rw [upd_ne (ne_of ec eo (fun z => nomatch z))]; exact ec⟩
  exact ⟨_, I2, q _ ⟨_, rfl, fun vs z => by cases z⟩ ⟨_, upd_same, Paired.mapP (nk_put pr hd rd re) fun _ _ z => ⟨z.1, z.2.1, z.2.2.1.kp kp, z.2.2.2.kp kp⟩⟩⟩
def rSet (K : Fr) : TSet := fun o i v H Q => rSetL o i v H Q ∨ rSetD o i v H Q ∨ rSetN K o i v H Q
theorem set_all {X : Cx} (hu : X.A.units + 200 < cLine) : PSet X (rSet X.F) := PSet.or set_list (PSet.or (set_dict (by omega)) (set_nest hu))
def KontH (K : Fr) (H : Hp) (h : M.AH) (Qa : M.AH → Prop) (Q : Hp → Prop) : Prop := ∀ h' H', Qa h' → Frm H h H' h' → RH K H' h' → Q H'
theorem set_ok {Qa : M.AH → Prop} {Q : Hp → Prop} {dx dy dv : SD} {x y v : V} (rh : RH K H h) (rx : Rep K H dx x) (ry : Rep K H dy y) (rv : Rep K H dv v) (q : M.opSet dx dy dv h Qa) (k : KontH K H h Qa Q) : rSet K x y v H Q := by
  cases dx with
  | ref p =>
    cases (show x = _ from rx)
    simp only [M.opSet] at q
    cases e : h p with
    | none => rw [e] at q; exact q.elim
    | some o => rw [e] at q; cases o with
      | lst xs =>
        obtain ⟨i, rfl, ⟨h0, h1⟩, q⟩ := anInt_inv q
        cases (show y = _ from ry)
        obtain ⟨ws, a1, r1⟩ := rh p _ e
        have ln := r1.length
        have kp : Kp H (upd H p (.lst (ws.set i.toNat v))) := kp_put rh e
        refine .inl ⟨p, ws, i, i.toNat, rfl, rfl, a1, ?_, k _ _ q (frm_put e) (rh_put rh e ⟨_, upd_same, (Reps.set rv _ r1).kp kp⟩)⟩
        unfold ixN
        rw [if_pos h0, if_pos (by omega)]
      | dct kd kvs =>
        obtain ⟨kk, hz, q⟩ := q
        obtain ⟨H', g, f, rh'⟩ := dput_ok (rh p _ e) kk ry rv hz e rh
        exact .inr (.inl ⟨p, H', rfl, g, k _ _ q f rh'⟩)
      | dcn kvs =>
        obtain ⟨kk, hz, q⟩ := q
        have ry' := ry
        cases dy with
        | tup ds =>
          obtain ⟨b, vs, rfl, _⟩ := ry
          refine .inr (.inr ⟨p, b, kvs, _, dv, rfl, rfl, rh p _ e, kk, ry', rv, hz, fun H' ⟨u, eu, nt⟩ ob => ?_⟩)
          subst eu
          exact k _ _ q (frm_put e) (rh_put rh e ob)
        | _ => simp [M.nkOk] at kk
      | _ => exact q.elim
  | _ => exact False.elim q
end
end Snd
end
section
/-! ZipL: list(zip(a, b)) of two tuples. -/
namespace ZL
open PySem PySem.Calls PyProof.Rows PySem.Spec PySem.W
section
variable {prog : Program} {w : World} {A : Around} {E : Value → Shared → Prop} {s : Shared}
/-- next of a zip of tuples whose last tuple is still held -/
theorem held_item {z TI TO T i1 i2 l1 l2 : Addr} {f : Bool} {oT : Obj} {k1 k2 : Nat} {xs ys : Array Value} {x y : Value} {Q : Value → Shared → Prop} (D : ZipApart z TI TO i1 i2 l1 l2)
    (hz : IsZipHeld s.heap z TI TO T f) (hT : s.heap.get? T = some oT) (tI : IsPair s.heap TI (.ref i1) (.ref i2))
    (g1 : s.heap.IsTupleIter i1 l1 k1) (g2 : s.heap.IsTupleIter i2 l2 k2) (t1 : s.heap.IsTuple l1 xs) (t2 : s.heap.IsTuple l2 ys) (hx : xs[k1]? = some x) (hy : ys[k2]? = some y)
    (hQ : ∀ h', IsZipHeld h' z TI TO T true → h'.IsTupleIter i1 l1 (k1 + 1) → h'.IsTupleIter i2 l2 (k2 + 1) → IsPair h' s.heap.objs.size x y → h'.objs.size = s.heap.objs.size + 1 →
      (∀ c o, c ≠ z → c ≠ i1 → c ≠ i2 → s.heap.get? c = some o → h'.get? c = some o) → Q (.ref s.heap.objs.size) { s with heap := h' }) :
    wpAny (model prog w) A (Builtin.«zip.__next__» ⟨[.ref z], []⟩) (fun fin r => ∃ v, fin = .done (.ret v) ∧ Q v r) E s := by
  show wpAny _ _ (field (.ref z) 2 >>= _) _ _ _; refine wpAny_bind (wpAny_field hz rfl (x := .bool false) rfl ?_)
  show wpAny _ _ (field (.ref z) 3 >>= _) _ _ _; refine wpAny_bind (wpAny_field hz rfl (x := .ref TI) rfl ?_); refine wpAny_bind (wpAny_seqItems tI rfl ?_)
  show wpAny _ _ (Builtin.SmallTypes.ownedTupleIsFree (.ref z) >>= _) _ _ _; refine wpAny_bind (wpAny_tupleHeld_zip hz hT fun m1 z1 s1 => ?_)
  simp only [Bool.false_eq_true, if_false]; refine wpAny_bind ?_; rw [← Array.forIn_toList]; simp only [List.forIn_cons, List.forIn_nil]
  refine wpAny_bind (wpAny_bind (wpAny_holding ?_)); show wpAny _ _ (Builtin.SmallTypes.nextOf (.ref i1) >>= _) _ _ _
  refine wpAny_bind (RZ.nextOf_tuple_item (s := { s with heap := m1 }) (g1.extBut s1.extBut D.i1z) (t1.extBut s1.extBut D.l1z) hx fun m2 g1' s2 => wpAny_pure (wpAny_pure ?_))
  refine wpAny_bind (wpAny_bind (wpAny_holding ?_)); show wpAny _ _ (Builtin.SmallTypes.nextOf (.ref i2) >>= _) _ _ _
  refine wpAny_bind (RZ.nextOf_tuple_item (s := { s with heap := m2 }) ((g2.extBut s1.extBut D.i2z).extBut s2.extBut D.i12.symm) ((t2.extBut s1.extBut D.l2z).extBut s2.extBut D.l2i1) hy fun m3 g2' s3 => wpAny_pure (wpAny_pure (wpAny_pure ?_)))
  show wpAny _ _ (newTuple [x, y] >>= _) _ _ _; refine wpAny_bind (wpAny_newTuple ?_)
  have hsz : m3.objs.size = s.heap.objs.size := by rw [s3.1, s2.1, s1.1]
  have z3 : IsZipHeld m3 z TI TO T true := s3.extBut _ _ D.i2z.symm (s2.extBut _ _ D.i1z.symm z1)
  have kp : ∀ c o, c ≠ z → c ≠ i1 → c ≠ i2 → s.heap.get? c = some o → m3.get? c = some o := fun c o a b d e => s3.extBut _ _ d (s2.extBut _ _ b (s1.extBut _ _ a e))
  have g13 : m3.IsTupleIter i1 l1 (k1 + 1) := g1'.extBut s3.extBut D.i12
  refine wpAny_pure ⟨_, rfl, ?_⟩; show Q (.ref m3.objs.size) _
  have hp : IsPair (m3.push { cls := .type "tuple", data := .seq #[x, y] }) m3.objs.size x y := Heap.get?_push_size _ rfl
  have hn : (m3.push { cls := .type "tuple", data := .seq #[x, y] }).objs.size = m3.objs.size + 1 := Heap.size_push ..
  rw [hsz] at hp hn ⊢
  exact hQ _ (Heap.get?_push_of_some _ z3) (g13.at fun o e => Heap.get?_push_of_some _ e) (g2'.at fun o e => Heap.get?_push_of_some _ e) hp hn fun c o a b d e => Heap.get?_push_of_some _ (kp c o a b d e)
theorem held_end {z TI TO T i1 i2 l1 l2 : Addr} {f : Bool} {oT : Obj} {k1 k2 : Nat} {xs ys : Array Value} {Q : Fin → Shared → Prop} (hh : A.handled = none) (D : ZipApart z TI TO i1 i2 l1 l2)
    (hz : IsZipHeld s.heap z TI TO T f) (hT : s.heap.get? T = some oT) (tI : IsPair s.heap TI (.ref i1) (.ref i2))
    (g1 : s.heap.IsTupleIter i1 l1 k1) (g2 : s.heap.IsTupleIter i2 l2 k2) (t1 : s.heap.IsTuple l1 xs) (t2 : s.heap.IsTuple l2 ys) (hend : xs[k1]? = none ∨ ys[k2]? = none)
    (hE : ∀ h' e, (∀ c o, c ≠ z → c ≠ i1 → c ≠ i2 → s.heap.get? c = some o → h'.get? c = some o) → (∃ o, h'.get? e = some o ∧ o.cls = .type "StopIteration") → E (.ref e) { s with heap := h' }) :
    wpAny (model prog w) A (Builtin.«zip.__next__» ⟨[.ref z], []⟩) Q E s := by
  show wpAny _ _ (field (.ref z) 2 >>= _) _ _ _; refine wpAny_bind (wpAny_field hz rfl (x := .bool false) rfl ?_)
  show wpAny _ _ (field (.ref z) 3 >>= _) _ _ _; refine wpAny_bind (wpAny_field hz rfl (x := .ref TI) rfl ?_); refine wpAny_bind (wpAny_seqItems tI rfl ?_)
  show wpAny _ _ (Builtin.SmallTypes.ownedTupleIsFree (.ref z) >>= _) _ _ _; refine wpAny_bind (wpAny_tupleHeld_zip hz hT fun m1 z1 s1 => ?_)
  simp only [Bool.false_eq_true, if_false]; refine wpAny_bind ?_; rw [← Array.forIn_toList]; simp only [List.forIn_cons, List.forIn_nil]
  refine wpAny_bind (wpAny_bind (wpAny_holding ?_)); show wpAny _ _ (Builtin.SmallTypes.nextOf (.ref i1) >>= _) _ _ _
  cases hx : xs[k1]? with
  | none => exact wpAny_bind (RZ.nextOf_tuple_end (s := { s with heap := m1 }) hh (g1.extBut s1.extBut D.i1z) (t1.extBut s1.extBut D.l1z) hx fun m2 e s2 he => hE m2 e (fun c o a b _ q => s2 _ _ b (s1.extBut _ _ a q)) he)
  | some x =>
    have hy : ys[k2]? = none := hend.resolve_left fun q => by rw [hx] at q; cases q
    refine wpAny_bind (RZ.nextOf_tuple_item (s := { s with heap := m1 }) (g1.extBut s1.extBut D.i1z) (t1.extBut s1.extBut D.l1z) hx fun m2 g1' s2 => wpAny_pure (wpAny_pure ?_))
    refine wpAny_bind (wpAny_bind (wpAny_holding ?_)); show wpAny _ _ (Builtin.SmallTypes.nextOf (.ref i2) >>= _) _ _ _
    exact wpAny_bind (RZ.nextOf_tuple_end (s := { s with heap := m2 }) hh ((g2.extBut s1.extBut D.i2z).extBut s2.extBut D.i12.symm) ((t2.extBut s1.extBut D.l2z).extBut s2.extBut D.l2i1) hy fun m3 e s3 he => hE m3 e (fun c o a b d q => s3 _ _ d (s2.extBut _ _ b (s1.extBut _ _ a q))) he)
/-- how far a zip of two tuples is -/
def Zst (z TI TO i1 i2 l1 l2 S : Addr) (xs ys : Array Value) (i : Nat) (h : Heap) : Prop :=
  IsPair h TI (.ref i1) (.ref i2) ∧ h.IsTupleIter i1 l1 i ∧ h.IsTupleIter i2 l2 i ∧ h.IsTuple l1 xs ∧ h.IsTuple l2 ys ∧
  ((i = 0 ∧ IsZip h z TI TO .none ∧ ∃ a b, IsPair h TO a b) ∨ ∃ T f oT, IsZipHeld h z TI TO T f ∧ h.get? T = some oT ∧ S < T)
def Out (wr : List Addr) (h h' : Heap) : Prop := ∀ b o, b ∉ wr → h.get? b = some o → h'.get? b = some o
theorem z_item {z TI TO i1 i2 l1 l2 S : Addr} {xs ys : Array Value} {i : Nat} {x y : Value} {Q : Option Value → Shared → Prop} (D : ZipApart z TI TO i1 i2 l1 l2) (hzS : z < S) (hi1S : i1 < S) (hi2S : i2 < S) (st : Zst z TI TO i1 i2 l1 l2 S xs ys i s.heap)
    (hS : S < s.heap.objs.size) (hx : xs[i]? = some x) (hy : ys[i]? = some y)
    (hQ : ∀ h', Zst z TI TO i1 i2 l1 l2 S xs ys (i + 1) h' → h'.get? s.heap.objs.size = some { cls := .type "tuple", data := .seq #[x, y] } → s.heap.objs.size < h'.objs.size → Out [z, TO, i1, i2] s.heap h' → Q (some (.ref s.heap.objs.size)) { s with heap := h' }) :
    wpAny (model prog w) A (pyNext (.ref z)) Q E s := by
  obtain ⟨tI, g1, g2, t1, t2, st⟩ := st
  rcases st with ⟨rfl, hz, a, b, tO⟩ | ⟨T, f, oT, hz, hT, hST⟩
  · refine RZ.pyNext_zipT_item D hz tI tO g1 g2 t1 t2 hx hy fun h' a1 a2 a3 a4 a5 a6 hk => hQ h' ⟨hk _ _ D.TIz D.TITO D.TIi1 D.TIi2 tI, a3, a4, t1.at fun o e => hk _ o D.l1z D.l1TO D.l1i1 D.l1i2 e, t2.at fun o e => hk _ o D.l2z D.l2TO D.l2i1 D.l2i2 e, .inr ⟨_, false, _, a1, a5, hS⟩⟩ a5 (by omega) fun c o hc e => ?_
    simp only [List.mem_cons, List.not_mem_nil, or_false, not_or] at hc
    exact hk c o hc.1 hc.2.1 hc.2.2.1 hc.2.2.2 e
  · have hTy : s.TypeIs (.ref z) "zip" := ⟨_, hz, rfl⟩
    unfold pyNext
    refine wpAny_bind (wpAny_attempt (wpAny_callSpecial?_slot (name := Str.ofString "__next__") hTy F.slot_zip_next (wpAny_call_entry F.slot_zip_next hTy F.entry_zip_next (held_item D hz hT tI g1 g2 t1 t2 hx hy fun h' a1 a3 a4 a5 a6 hk => wpAny_pure ?_) (F.args_zip_next_1 _))))
    have nz : T ≠ z ∧ T ≠ i1 ∧ T ≠ i2 := ⟨Nat.ne_of_gt (Nat.lt_trans hzS hST), Nat.ne_of_gt (Nat.lt_trans hi1S hST), Nat.ne_of_gt (Nat.lt_trans hi2S hST)⟩
    refine hQ h' ⟨hk _ _ D.TIz D.TIi1 D.TIi2 tI, a3, a4, t1.at fun o e => hk _ o D.l1z D.l1i1 D.l1i2 e, t2.at fun o e => hk _ o D.l2z D.l2i1 D.l2i2 e, .inr ⟨T, true, oT, a1, hk _ _ nz.1 nz.2.1 nz.2.2 hT, hST⟩⟩ a5 (by omega) fun c o hc e => ?_
    simp only [List.mem_cons, List.not_mem_nil, or_false, not_or] at hc
    exact hk c o hc.1 hc.2.2.1 hc.2.2.2 e
theorem z_done {z TI TO i1 i2 l1 l2 S : Addr} {xs ys : Array Value} {i : Nat} {Q : Option Value → Shared → Prop} (hh : A.handled = none) (D : ZipApart z TI TO i1 i2 l1 l2) (st : Zst z TI TO i1 i2 l1 l2 S xs ys i s.heap) (he : xs[i]? = none ∨ ys[i]? = none)
    (hQ : ∀ h', Out [z, TO, i1, i2] s.heap h' → Q none { s with heap := h' }) : wpAny (model prog w) A (pyNext (.ref z)) Q E s := by
  obtain ⟨tI, g1, g2, t1, t2, st⟩ := st
  rcases st with ⟨rfl, hz, a, b, tO⟩ | ⟨T, f, oT, hz, hT, hST⟩
  · refine RZ.pyNext_zipT_end hh D hz tI tO g1 g2 t1 t2 he fun h' hk => hQ h' fun c o hc e => ?_
    simp only [List.mem_cons, List.not_mem_nil, or_false, not_or] at hc
    exact hk c o hc.1 hc.2.1 hc.2.2.1 hc.2.2.2 e
  · have hTy : s.TypeIs (.ref z) "zip" := ⟨_, hz, rfl⟩
    unfold pyNext
    refine wpAny_bind (wpAny_attempt (wpAny_callSpecial?_slot (name := Str.ofString "__next__") hTy F.slot_zip_next (wpAny_call_entry F.slot_zip_next hTy F.entry_zip_next (held_end hh D hz hT tI g1 g2 t1 t2 he fun h' e hk ho => ?_) (F.args_zip_next_1 _))))
    obtain ⟨o, ho, hc⟩ := ho
    refine wpAny_bind (wpAny_isInstance (T := "StopIteration") (b := true) ⟨o, ho, hc⟩ isSubtype_stop (wpAny_pure (hQ _ fun c o hc e => ?_)))
    simp only [List.mem_cons, List.not_mem_nil, or_false, not_or] at hc
    exact hk c o hc.1 hc.2.2.1 hc.2.2.2 e
theorem Zst.keep {z TI TO i1 i2 l1 l2 S : Addr} {xs ys : Array Value} {i : Nat} {h h' : Heap} (st : Zst z TI TO i1 i2 l1 l2 S xs ys i h) (k : ∀ b o, b ≠ S → h.get? b = some o → h'.get? b = some o) (n : ∀ b, b ∈ [z, TI, TO, i1, i2, l1, l2] → b ≠ S) : Zst z TI TO i1 i2 l1 l2 S xs ys i h' := by
  obtain ⟨tI, g1, g2, t1, t2, st⟩ := st
  refine ⟨k _ _ (n _ (by simp)) tI, g1.at fun o e => k _ o (n _ (by simp)) e, g2.at fun o e => k _ o (n _ (by simp)) e, t1.at fun o e => k _ o (n _ (by simp)) e, t2.at fun o e => k _ o (n _ (by simp)) e, ?_⟩
  rcases st with ⟨e, hz, a, b, tO⟩ | ⟨T, f, oT, hz, hT, hST⟩
  · exact .inl ⟨e, k _ _ (n _ (by simp)) hz, a, b, k _ _ (n _ (by simp)) tO⟩
  · exact .inr ⟨T, f, oT, k _ _ (n _ (by simp)) hz, k _ _ (Nat.ne_of_gt hST) hT, hST⟩
end
/-- the tuples made so far: rising, above S, of the pairs -/
structure Made (xs ys : Array Value) (S : Addr) (h : Heap) (as : List Addr) : Prop where
  up : as.Pairwise (· < ·)
  hi : ∀ a ∈ as, S < a ∧ a < h.objs.size
  at_ : ∀ (j : Nat) (a : Addr), as[j]? = some a → ∃ x y, xs[j]? = some x ∧ ys[j]? = some y ∧ h.get? a = some { cls := .type "tuple", data := .seq #[x, y] }
section
variable {prog : Program} {w : World} {A : Around} {E : Value → Shared → Prop} {s : Shared} {R : Result → Shared → Prop}
theorem z_loop {z TI TO i1 i2 l1 l2 S : Addr} {xs ys : Array Value} (hh : A.handled = none) (D : ZipApart z TI TO i1 i2 l1 l2) (lt : ∀ b, b ∈ [z, TI, TO, i1, i2, l1, l2] → b < S) (hn : min xs.size ys.size ≤ sizeLine) (res : Value) {h₁ : Heap} (hS1 : S < h₁.objs.size)
    (hR : ∀ h' tk acc c as, (∀ b o, b ≠ S → b ∉ [z, TO, i1, i2] → h₁.get? b = some o → h'.get? b = some o) → h'.get? S = some { cls := .type "list", dict := none, data := .seq acc c, slots := #[] } → as.length = min xs.size ys.size → Made xs ys S h' as →
      acc.toList = as.map Value.ref → R (.ok (.ret res)) { s with heap := h', toks := tk }) :
    ∀ (k i : Nat) (h : Heap) (tk c : Nat) (acc : Array Value) (as : List Addr), min xs.size ys.size - i = k → i ≤ min xs.size ys.size → Zst z TI TO i1 i2 l1 l2 S xs ys i h → (∀ b o, b ≠ S → b ∉ [z, TO, i1, i2] → h₁.get? b = some o → h.get? b = some o) →
      h.get? S = some { cls := .type "list", dict := none, data := .seq acc c, slots := #[] } → acc.toList = as.map Value.ref → as.length = i → Made xs ys S h as →
      codeAny (model prog w) A (.builtin "list.extend.loop" ⟨[.ref S, .ref z, res], []⟩) R { s with heap := h, toks := tk } := by
  have nS : ∀ b, b ∈ [z, TI, TO, i1, i2, l1, l2] → b ≠ S := fun b hb => Nat.ne_of_lt (lt b hb)
  have wS : ∀ b, S ≤ b → b ∉ [z, TO, i1, i2] := fun b hb hm => by
    have : b ∈ [z, TI, TO, i1, i2, l1, l2] := by simp at hm ⊢; rcases hm with q | q | q | q <;> simp [q]
    exact absurd (lt b this) (Nat.not_lt.mpr hb)
  intro k
  induction k with
  | zero =>
    intro i h tk c acc as hk hi st hkeep hS hacc hal hG
    have hin : i = min xs.size ys.size := by omega
    refine codeAny_builtin PySem.F.entry_extend_loop ?_; rw [Around.under_plainId PySem.F.plain_extend_loop _]; show wpAny _ A.in1 (pyNext (.ref z) >>= _) _ _ _
    have he : xs[i]? = none ∨ ys[i]? = none := by
      rcases Nat.le_total xs.size ys.size with q | q
      · exact .inl (Array.getElem?_eq_none (by omega))
      · exact .inr (Array.getElem?_eq_none (by omega))
    refine wpAny_bind (z_done (s := { s with heap := h, toks := tk }) (A := A.in1) hh D st he fun h' ho => ?_)
    refine wpAny_pure (hR h' tk acc c as (fun b o b1 b2 e => ho b o b2 (hkeep b o b1 b2 e)) (ho S _ (wS S (Nat.le_refl _)) hS) (by omega) ⟨hG.up, fun a ha => ⟨(hG.hi a ha).1, ?_⟩, fun j a hj => ?_⟩ hacc)
    · obtain ⟨j, hj⟩ := List.mem_iff_getElem?.mp ha
      obtain ⟨x, y, _, _, e3⟩ := hG.at_ j a hj
      exact Heap.lt_size (ho a _ (wS a (Nat.le_of_lt (hG.hi a ha).1)) e3)
    · obtain ⟨x, y, e1, e2, e3⟩ := hG.at_ j a hj
      exact ⟨x, y, e1, e2, ho a _ (wS a (Nat.le_of_lt (hG.hi a (List.mem_of_getElem? hj)).1)) e3⟩
  | succ k ih =>
    intro i h tk c acc as hk hi st hkeep hS hacc hal hG
    have hix : i < xs.size := by omega
    have hiy : i < ys.size := by omega
    have ex := Array.getElem?_eq_getElem hix
    have ey := Array.getElem?_eq_getElem hiy
    have hsz : acc.size = i := by rw [← Array.length_toList, hacc, List.length_map, hal]
    have hSl : S < h.objs.size := Heap.lt_size hS
    refine codeAny_builtin PySem.F.entry_extend_loop ?_; rw [Around.under_plainId PySem.F.plain_extend_loop _]; show wpAny _ A.in1 (pyNext (.ref z) >>= _) _ _ _
    refine wpAny_bind (z_item (s := { s with heap := h, toks := tk }) D (lt z (by simp)) (lt i1 (by simp)) (lt i2 (by simp)) st hSl ex ey fun h' st' ht hz ho => ?_)
    dsimp only at ht hz ho ⊢
    have hS' := ho S _ (wS S (Nat.le_refl _)) hS
    have up : ∀ b o, b ≠ S → h'.get? b = some o → (h'.update S (Obj.mapSeq (·.push (Value.ref h.objs.size)))).get? b = some o := fun b o hb e => (Heap.get?_update_other _ _ (Ne.symm hb)).trans e
    show wpAny _ A.in1 (updateSeq S (·.push (Value.ref h.objs.size)) >>= _) _ _ _
    refine wpAny_bind ?_
    refine wpAny_updateSeq hS' rfl (wpAny_pure ⟨plainId_quiet PySem.F.plain_extend_loop _, ih (i + 1) _ tk _ (acc.push (Value.ref h.objs.size)) (as ++ [h.objs.size]) (by omega) (by omega) (st'.keep up nS)
      (fun b o b1 b2 e => up b o b1 (ho b o b2 (hkeep b o b1 b2 e))) (Heap.get?_update_self _ hS' rfl) (by rw [Array.toList_push, hacc, List.map_append]; rfl) (by rw [List.length_append, hal]; rfl) ⟨?_, ?_, ?_⟩⟩) (by rw [hsz]; omega) (by show (acc.push (Value.ref h.objs.size)).size ≤ sizeLine + 1; rw [Array.size_push, hsz]; omega)
    · refine List.pairwise_append.mpr ⟨hG.up, List.pairwise_singleton _ _, fun a ha b hb => ?_⟩
      rw [List.mem_singleton.mp hb]; exact (hG.hi a ha).2
    · intro a ha
      have sz : (h'.update S (Obj.mapSeq (·.push (Value.ref h.objs.size)))).objs.size = h'.objs.size := (Heap.SameBut.update ..).1
      rw [sz]
      rcases List.mem_append.mp ha with ha | ha
      · exact ⟨(hG.hi a ha).1, Nat.lt_trans (hG.hi a ha).2 hz⟩
      · rw [List.mem_singleton.mp ha]; exact ⟨hSl, hz⟩
    · intro j b hj
      rcases Nat.lt_trichotomy j as.length with q | q | q
      · rw [List.getElem?_append_left q] at hj
        obtain ⟨x, y, e1, e2, e3⟩ := hG.at_ j b hj
        have hb := (hG.hi b (List.mem_of_getElem? hj)).1
        exact ⟨x, y, e1, e2, up b _ (Nat.ne_of_gt hb) (ho b _ (wS b (Nat.le_of_lt hb)) e3)⟩
      · subst q
        have hb : h.objs.size = b := by simpa using hj
        subst hb
        exact ⟨_, _, by rw [hal]; exact ex, by rw [hal]; exact ey, up _ _ (Nat.ne_of_gt hSl) ht⟩
      · rw [List.getElem?_eq_none (by rw [List.length_append, List.length_singleton]; omega)] at hj; cases hj
theorem z_nolen : typeLookup (.type "zip") "__len__" = pure none := by rw [typeLookup_type, builtinLookup_eq_fast]; kernel_rfl
theorem z_nohint : typeLookup (.type "zip") "__length_hint__" = pure none := by rw [typeLookup_type, builtinLookup_eq_fast]; kernel_rfl
theorem z_hint {z : Addr} (hT : s.TypeIs (.ref z) "zip") {Q : Bool → Shared → Prop} (h : Q true s) : wpAny (model prog w) A (Builtin.List.listLengthHint (.ref z)) Q E s := by
  unfold Builtin.List.listLengthHint
  refine wpAny_bind (wpAny_specialOf hT z_nolen ?_)
  show wpAny _ A (specialOf (Value.ref z) (Str.ofString "__length_hint__") >>= _) _ _ _
  refine wpAny_bind (wpAny_specialOf hT z_nohint ?_)
  exact wpAny_pure h
theorem z_extend {z TI TO i1 i2 l1 l2 S : Addr} {xs ys : Array Value} (hh : A.handled = none) (D : ZipApart z TI TO i1 i2 l1 l2) (lt : ∀ b, b ∈ [z, TI, TO, i1, i2, l1, l2] → b < S) (hn : min xs.size ys.size ≤ sizeLine) (res : Value) (c₀ : Nat) (hS : s.heap.get? S = some { cls := .type "list", data := .seq #[] c₀ })
    (st : Zst z TI TO i1 i2 l1 l2 S xs ys 0 s.heap) (hz : ∃ f0, IsZip s.heap z TI TO f0)
    (hR : ∀ h' tk acc c as, (∀ b o, b ≠ S → b ∉ [z, TO, i1, i2] → s.heap.get? b = some o → h'.get? b = some o) → h'.get? S = some { cls := .type "list", dict := none, data := .seq acc c, slots := #[] } → as.length = min xs.size ys.size → Made xs ys S h' as →
      acc.toList = as.map Value.ref → R (.ok (.ret res)) { s with heap := h', toks := tk }) :
    wpAny (model prog w) A.in1 (Builtin.List.listExtendWith (.ref S) (.ref z) res)
      (fun fin s' => match fin with | .done f => R (.ok f) s' | .again c' => c'.quiet = true ∧ codeAny (model prog w) A c' R s') (fun e s' => R (.error e) s') s := by
  obtain ⟨f0, hz⟩ := hz
  have hT : s.TypeIs (.ref z) "zip" := ⟨_, hz, rfl⟩
  have nS : ∀ b, b ∈ [z, TI, TO, i1, i2, l1, l2] → b ≠ S := fun b hb => Nat.ne_of_lt (lt b hb)
  unfold Builtin.List.listExtendWith
  refine wpAny_bind (wpAny_typeOf hT ?_)
  have h1 : Builtin.List.listSameRef (.ref S) (.ref z) = false := by simp [Builtin.List.listSameRef, (nS z (by simp)).symm]
  have h2 : (Value.type "zip" == Value.type "list") = false := by decide
  have h3 : (Value.type "zip" == Value.type "tuple") = false := by decide
  simp only [h1, h2, h3, Bool.or_false, Bool.false_eq_true, if_false]
  refine wpAny_bind (wpAny_pyIter_zip hz ?_)
  refine wpAny_bind (wpAny_holding (z_hint hT ?_))
  simp only [Bool.true_or, if_true]
  refine wpAny_bind (wpAny_rule ?_)
  refine wpAny_bind ?_
  show wpAny _ _ (updateSeq S (·.push .none) >>= fun _ => updateSeq S (·.pop)) _ _ _
  refine wpAny_bind (wpAny_updateSeq hS rfl ?_)
  have hS₂ := Heap.get?_update_self (Obj.mapSeq (·.push Value.none)) hS rfl
  refine wpAny_updateSeq (hz := by seq_fits) hS₂ rfl ?_
  have hS₃ := Heap.get?_update_self (Obj.mapSeq (·.pop)) hS₂ rfl
  have oth : ∀ b o, b ≠ S → s.heap.get? b = some o → ((s.heap.update S (Obj.mapSeq (·.push Value.none))).update S (Obj.mapSeq (·.pop))).get? b = some o := fun b o hb e => (Heap.get?_update_other _ _ (Ne.symm hb)).trans ((Heap.get?_update_other _ _ (Ne.symm hb)).trans e)
  refine wpAny_pure ⟨plainId_quiet PySem.F.plain_extend_loop _, ?_⟩
  exact z_loop (s := s) (h₁ := s.heap) hh D lt hn res (Heap.lt_size hS) hR _ 0 _ _ _ _ [] rfl (Nat.zero_le _) (st.keep oth nS) (fun b o hb _ e => oth b o hb e) hS₃ rfl rfl ⟨List.Pairwise.nil, (fun a ha => nomatch ha), fun j a hj => by simp at hj⟩
theorem z_init {z TI TO i1 i2 l1 l2 S : Addr} {xs ys : Array Value} (hh : A.handled = none) (D : ZipApart z TI TO i1 i2 l1 l2) (lt : ∀ b, b ∈ [z, TI, TO, i1, i2, l1, l2] → b < S) (hn : min xs.size ys.size ≤ sizeLine) (hS : s.heap.get? S = some { cls := .type "list", data := .seq #[] })
    (st : Zst z TI TO i1 i2 l1 l2 S xs ys 0 s.heap) (hz : ∃ f0, IsZip s.heap z TI TO f0)
    (hR : ∀ h' tk acc c as, (∀ b o, b ≠ S → b ∉ [z, TO, i1, i2] → s.heap.get? b = some o → h'.get? b = some o) → h'.get? S = some { cls := .type "list", dict := none, data := .seq acc c, slots := #[] } → as.length = min xs.size ys.size → Made xs ys S h' as →
      acc.toList = as.map Value.ref → R (.ok (.ret .none)) { s with heap := h', toks := tk }) :
    wpAny (model prog w) A.in1 (Builtin.«list.__init__» ⟨[.ref S, .ref z], []⟩)
      (fun fin s' => match fin with | .done f => R (.ok f) s' | .again c' => c'.quiet = true ∧ codeAny (model prog w) A c' R s') (fun e s' => R (.error e) s') s := by
  have nS : ∀ b, b ∈ [z, TI, TO, i1, i2, l1, l2] → b ≠ S := fun b hb => Nat.ne_of_lt (lt b hb)
  show wpAny _ _ (do let old ← Builtin.List.listItems (.ref S); Builtin.List.listUpdate (.ref S) (fun _ => #[]); letGo old.toList.reverse; Builtin.List.listExtendWith (.ref S) (.ref z) .none) _ _ s
  refine wpAny_bind ?_; unfold Builtin.List.listItems; refine wpAny_bind (wpAny_seqItems hS rfl (wpAny_pure ?_))
  show wpAny _ _ (updateSeq S (fun _ => #[]) >>= fun _ => letGo (#[] : Array Value).toList.reverse >>= fun _ => Builtin.List.listExtendWith (.ref S) (.ref z) .none) _ _ s
  refine wpAny_bind (wpAny_updateSeq hS rfl ?_)
  have hS₂ := Heap.get?_update_self (Obj.mapSeq (fun _ => (#[] : Array Value))) hS rfl
  have oth : ∀ b o, b ≠ S → s.heap.get? b = some o → (s.heap.update S (Obj.mapSeq (fun _ => (#[] : Array Value)))).get? b = some o := fun b o hb e => (Heap.get?_update_other _ _ (Ne.symm hb)).trans e
  refine wpAny_bind (wpAny_letGo ?_)
  refine z_extend hh D lt hn .none _ hS₂ (st.keep oth nS) (hz.imp fun f0 e => oth z _ (nS z (by simp)) e) fun h' tk acc c as hk hS' hl hG hacc => ?_
  exact hR h' tk acc c as (fun b o b1 b2 e => hk b o b1 b2 (oth b o b1 e)) hS' hl hG hacc
theorem z_call {z TI TO i1 i2 l1 l2 : Addr} {xs ys : Array Value} {Q : Value → Shared → Prop} (hh : A.handled = none) (D : ZipApart z TI TO i1 i2 l1 l2) (lt : ∀ b, b ∈ [z, TI, TO, i1, i2, l1, l2] → b < s.heap.objs.size) (hn : min xs.size ys.size ≤ sizeLine)
    (hz : IsZip s.heap z TI TO .none) (tI : IsPair s.heap TI (.ref i1) (.ref i2)) (tO : IsPair s.heap TO .none .none) (g1 : s.heap.IsTupleIter i1 l1 0) (g2 : s.heap.IsTupleIter i2 l2 0) (t1 : s.heap.IsTuple l1 xs) (t2 : s.heap.IsTuple l2 ys)
    (hQ : ∀ h' tk acc c as, (∀ b o, b ∉ [z, TO, i1, i2] → s.heap.get? b = some o → h'.get? b = some o) → h'.get? s.heap.objs.size = some { cls := .type "list", dict := none, data := .seq acc c, slots := #[] } → as.length = min xs.size ys.size → Made xs ys s.heap.objs.size h' as →
      acc.toList = as.map Value.ref → Q (.ref s.heap.objs.size) { s with heap := h', toks := tk }) :
    wpAny (model prog w) A (call (.type "list") [.ref z]) Q E s := by
  refine callType_codes (Q₁ := fun obj r => obj = .ref s.heap.objs.size ∧ r = { s with heap := s.heap.push { cls := .type "list", data := .seq #[] } }) PySem.F.called_list (PySem.F.typeCall_list_1 _) PySem.F.entry_list_init (code_list_new _ ⟨rfl, rfl⟩) fun obj r hr => ?_
  obtain ⟨rfl, rfl⟩ := hr
  have hS : (s.heap.push { cls := .type "list", data := .seq #[] }).get? s.heap.objs.size = some { cls := .type "list", data := .seq #[] } := Heap.get?_push_size _ rfl
  have up : ∀ b o, s.heap.get? b = some o → (s.heap.push { cls := .type "list", data := .seq #[] }).get? b = some o := fun b o e => Heap.get?_push_of_some _ e
  refine ⟨⟨_, hS, rfl⟩, PySem.F.args_list_init_2 _ _, z_init (A := A.in1) hh D lt hn hS ⟨up _ _ tI, g1.at fun o e => up _ o e, g2.at fun o e => up _ o e, t1.at fun o e => up _ o e, t2.at fun o e => up _ o e, .inl ⟨rfl, up _ _ hz, _, _, up _ _ tO⟩⟩ ⟨_, up _ _ hz⟩ fun h' tk acc c as hk hS' hl hG hacc => ?_⟩
  exact ⟨rfl, hQ h' tk acc c as (fun b o hb e => hk b o (Nat.ne_of_lt (Heap.lt_size e)) hb (up b o e)) hS' hl hG hacc⟩
end
open L2
/-- the pairs, laid at their addresses -/
def putP : Hp → List Addr → List (V × V) → Hp
  | H, a :: as, p :: ps => putP (upd H a (.tup [p.1, p.2])) as ps
  | H, _, _ => H
theorem putP_off {b : Addr} : ∀ (as : List Addr) (ps : List (V × V)) (H : Hp), b ∉ as → putP H as ps b = H b
  | [], _, _, _ => rfl
  | _ :: _, [], _, _ => rfl
  | a :: as, p :: ps, H, h => by
    unfold putP
    rw [putP_off as ps _ (fun z => h (.tail _ z)), upd_ne (fun z => h (by rw [z]; exact .head _))]
theorem putP_at : ∀ (as : List Addr) (ps : List (V × V)) (H : Hp), as.length = ps.length → as.Nodup → Paired (fun (t : Addr) (p : V × V) => putP H as ps t = some (.tup [p.1, p.2])) as ps
  | [], [], _, _, _ => .nil
  | [], _ :: _, _, h, _ => nomatch h
  | _ :: _, [], _, h, _ => nomatch h
  | a :: as, p :: ps, H, h, hn => by
    obtain ⟨n1, n2⟩ := List.nodup_cons.mp hn
    have ih := putP_at as ps (upd H a (.tup [p.1, p.2])) (Nat.succ.inj h) n2
    exact .cons (by unfold putP; rw [putP_off as ps _ n1, upd_same]) ih
def rZipL (K : PySem.W.Frag) : V → V → Hp → VK → Prop := fun x y H Q => ∃ (a b : Addr) (xs ys : List V), x = .ref a ∧ y = .ref b ∧ SqT K H a xs ∧ SqT K H b ys ∧
  ∀ (H' : Hp) (p : Addr) (ts : List Addr), (∀ c o, H c = some o → H' c = some o) → H p = none → (∀ t ∈ ts, H t = none) → p ∉ ts → H' p = some (.lst (ts.map V.ref)) → Paired (fun (t : Addr) (q : V × V) => H' t = some (.tup [q.1, q.2])) ts (xs.zip ys) →
    (∀ c, H' c ≠ none → c = p ∨ c ∈ ts ∨ H c ≠ none) → Q (.ref p) H'
section
variable {X : Cx}
theorem vals_at {xs : List V} {us : List Value} (r : Vals xs us) : ∀ {j : Nat} {u : Value}, us[j]? = some u → ∃ x, xs[j]? = some x ∧ RelV x u := by
  unfold Vals at r
  induction r with
  | nil => intro j u e; simp at e
  | @cons a b as bs h t ih =>
    intro j u e
    cases j with
    | zero => simp at e; subst e; exact ⟨_, rfl, h⟩
    | succ j => exact ih (by simpa using e)
theorem pairs_laid {pins : List (Addr × Obj)} {σ : L2.St} {H : Hp} {s : Shared} {h' : Heap} {tk : Nat} {xs ys : List V} {us ws : List Value} {acc : Array Value} {c : Nat} {S : Addr} {as : List Addr} (I : Inv X pins σ H s) (hz : min xs.length ys.length ≤ sizeLine) (rx : Vals xs us) (ry : Vals ys ws)
    (hS0 : s.heap.objs.size ≤ S) (hk : ∀ b o, s.heap.get? b = some o → h'.get? b = some o) (hS : h'.get? S = some { cls := .type "list", dict := none, data := .seq acc c, slots := #[] }) (hl : as.length = min us.toArray.size ws.toArray.size) (hG : Made us.toArray ws.toArray S h' as) (hacc : acc.toList = as.map Value.ref) :
    ∃ H' : Hp, (∀ b o, H b = some o → H' b = some o) ∧ H S = none ∧ (∀ t ∈ as, H t = none) ∧ S ∉ as ∧ H' S = some (.lst (as.map V.ref)) ∧ Paired (fun (t : Addr) (q : V × V) => H' t = some (.tup [q.1, q.2])) as (xs.zip ys) ∧
      (∀ b, H' b ≠ none → b = S ∨ b ∈ as ∨ H b ≠ none) ∧ Inv X pins σ H' { s with heap := h', toks := tk } := by
  have lx := rx.length
  have ly := ry.length
  have lz : (xs.zip ys).length = as.length := by rw [List.length_zip, hl, List.size_toArray, List.size_toArray, lx, ly]
  have hSn : S ∉ as := fun z => Nat.lt_irrefl _ (hG.hi _ z).1
  have nd : as.Nodup := List.Pairwise.imp (fun {a b} (h : a < b) => Nat.ne_of_lt h) hG.up
  have new : ∀ t ∈ as, H t = none := fun t ht => I.hok.fresh (Nat.le_trans hS0 (Nat.le_of_lt (hG.hi t ht).1))
  have newS : H S = none := I.hok.fresh hS0
  have atP := putP_at as (xs.zip ys) (upd H S (.lst (as.map V.ref))) lz.symm nd
  have off : ∀ b, b ∉ as → b ≠ S → putP (upd H S (.lst (as.map V.ref))) as (xs.zip ys) b = H b := fun b h1 h2 => by rw [putP_off as _ _ h1, upd_ne h2]
  have low : ∀ b o, s.heap.get? b = some o → b ∉ as ∧ b ≠ S := fun b o e => ⟨fun z => absurd (Heap.lt_size e) (Nat.not_lt.mpr (Nat.le_trans hS0 (Nat.le_of_lt (hG.hi b z).1))), Nat.ne_of_lt (Nat.lt_of_lt_of_le (Heap.lt_size e) hS0)⟩
  have kp : ∀ b u, H b = some u → (putP (upd H S (.lst (as.map V.ref))) as (xs.zip ys)) b = some u := fun b u e => by
    rw [off b (fun z => by rw [new b z] at e; cases e) (fun z => by rw [z, newS] at e; cases e)]; exact e
  have eS : putP (upd H S (.lst (as.map V.ref))) as (xs.zip ys) S = some (.lst (as.map V.ref)) := by rw [putP_off as _ _ hSn, upd_same]
  refine ⟨putP (upd H S (.lst (as.map V.ref))) as (xs.zip ys), kp, newS, new, hSn, eS, atP, fun b hb => ?_, ?_⟩
  · by_cases h1 : b ∈ as
    · exact .inr (.inl h1)
    · by_cases h2 : b = S
      · exact .inl h2
      · rw [off b h1 h2] at hb; exact .inr (.inr hb)
  refine I.call' (ch := []) rfl ⟨fun b o q _ _ _ => hk b o q, fun b o q _ _ _ => ⟨o.slots, hk b o q⟩, fun b o q n _ => ?_, fun b o q _ => ⟨o, hk b o q⟩, fun b xs q => kp b _ q, fun b o u q => kp b _ q, fun b ps q => ⟨#[], by rw [kp b _ q]; simp⟩⟩ (fun b u q => ?_) I.bare fun b z => by simp at z
  · obtain ⟨z1, z2⟩ := low b o q
    rw [off b z1 z2]; exact n
  · by_cases hb : b ∈ as
    · obtain ⟨j, pk, e1, e2, e3⟩ := LiI.paired_ix atP hb
      rw [e3] at q; cases q
      obtain ⟨x, y, f1, f2, f3⟩ := hG.at_ j b e1
      obtain ⟨x', g1, g2⟩ := vals_at rx (by simpa using f1)
      obtain ⟨y', g3, g4⟩ := vals_at ry (by simpa using f2)
      have : pk = (x', y') := by
        rw [show (xs.zip ys)[j]? = some (x', y') from List.getElem?_zip_eq_some.mpr ⟨g1, g3⟩] at e2
        exact (Option.some.inj e2).symm
      subst this
      exact ⟨by show 2 ≤ sizeLine; decide, [x, y], .cons g2 (.cons g4 .nil), ⟨_, f3, rfl, _, rfl⟩⟩
    · by_cases hb2 : b = S
      · subst hb2
        rw [eS] at q; cases q
        refine ⟨by rw [List.length_map, hl, List.size_toArray, List.size_toArray, ← lx, ← ly]; exact hz, acc.toList, c, by rw [hacc]; exact LiI.vals_refs as, ?_⟩
        rw [Array.toArray_toList]; exact hS
      · rw [off b hb hb2] at q
        exact (I.hok b u q).stay (fun d v _ y => hk d v y) (fun d y => kp d _ y) fun d xs y => kp d _ y
theorem lt7 {n m a b c : Nat} (hm : m = n + 5) (la : a < n) (lb : b < n) (h : c = n + 4 ∨ c = n + 2 ∨ c = n + 3 ∨ c = n ∨ c = n + 1 ∨ c = a ∨ c = b) : c < m := by omega
theorem lt4 {n c : Nat} (h : c < n) (z : c = n + 4 ∨ c = n + 3 ∨ c = n ∨ c = n + 1) : False := by omega
def tZipL (K : PySem.W.Frag) (ta : TA) : TE := fun σ H Q => ta σ H fun vs H1 => ∃ x y, vs = [x, y] ∧ rZipL K x y H1 Q
theorem pe_lzip {e e2 : Expr} {ta : TA} {p p2 cpos pos : Pos} (hc : X.calm = true) (hg : Gl X "list") (hm : X.mg "list" = none) (hgz : Gl X "zip") (hmz : X.mg "zip" = none) (ha : PA X [e, e2] ta)
    (hs : starEach [e, e2] X.env = (false, eval e X.env) :: starEach [e2] X.env) (hpl : (backTo cpos (starEach [e2] X.env)).any (·.1) = false)
    (hso : starEach [.Call (.Name "zip" p2) [e, e2] [] cpos] X.env = (false, eval (.Call (.Name "zip" p2) [e, e2] [] cpos) X.env) :: starEach [] X.env := by rfl) :
    PE X (.Call (.Name "list" p) [.Call (.Name "zip" p2) [e, e2] [] cpos] [] pos) (tZipL X.K ta) := by
  refine ⟨fun pins s σ H Q I hq => ?_⟩
  refine wpAny_Call_Name_kw (ld_blt I hg hm (by decide +kernel : bootBuiltins "list" = some (.type "list")) ?_)
  refine PyProof.Rows.callWith_type1 ?_ hso rfl
  rw [hso]
  show wpAny _ _ (spliced ((false, eval (.Call (.Name "zip" p2) [e, e2] [] cpos) X.env) :: backTo pos (starEach [] X.env))) _ _ s
  refine Calls.spliced_cons ?_
  refine Call_ (ld_blt I hgz hmz PyProof.Rows.boot_zip (PyProof.Rows.callWith_type1 (thn (ha.run cpos pins s σ H _ I hq) fun us s1 ⟨vs, H1, I1, r1, q1⟩ => ?_) hs hpl))
  obtain ⟨x, y, rfl, a, b, xs, ys, rfl, rfl, hqx, hqy, q⟩ := q1
  cases r1 with
  | cons r rr =>
    cases rr with
    | cons r' rr =>
      cases rr
      cases r
      cases r'
      obtain ⟨us, ru, pu, hzu⟩ := I1.tuple hqx
      obtain ⟨ws, rw', pw, hzw⟩ := I1.tuple hqy
      obtain ⟨o1, ho1, _⟩ := id pu
      obtain ⟨o2, ho2, _⟩ := id pw
      have la := Heap.lt_size ho1
      have lb := Heap.lt_size ho2
      refine RZ.call_zipT (show s1.heap.IsTuple a us.toArray from pu) (show s1.heap.IsTuple b ws.toArray from pw) fun h5 hz tI tO g1 g2 hsz hk => ?_
      refine Calls.spliced_nil ?_
      have D := PySem.W.ktu_apart s1.heap.objs.size a b la lb
      have lt : ∀ c, c ∈ [s1.heap.objs.size + 4, s1.heap.objs.size + 2, s1.heap.objs.size + 3, s1.heap.objs.size, s1.heap.objs.size + 1, a, b] → c < h5.objs.size := by
        intro c hc
        simp only [List.mem_cons, List.not_mem_nil, or_false] at hc
        exact lt7 hsz la lb hc
      have hn : min us.toArray.size ws.toArray.size ≤ sizeLine := Nat.le_trans (Nat.min_le_left _ _) (by rw [List.size_toArray, ← ru.length]; exact hzu)
      refine z_call (s := { s1 with heap := h5 }) (I1.ok.hd hc) D lt hn hz tI tO g1 g2 (Heap.IsTuple.at pu fun o e => hk a o e) (Heap.IsTuple.at pw fun o e => hk b o e) fun h' tk acc c as hk' hS hl hG hacc => ?_
      have out : ∀ c o, s1.heap.get? c = some o → h'.get? c = some o := fun c o e => hk' c o (fun z => by
        have := Heap.lt_size e
        simp only [List.mem_cons, List.not_mem_nil, or_false] at z
        exact lt4 this z) (hk c o e)
      obtain ⟨H', k1, k2, k3, k4, k5, k6, k7, J⟩ := pairs_laid (tk := tk) I1 (by rw [ru.length, rw'.length]; simpa using hn) ru rw' (by show s1.heap.objs.size ≤ h5.objs.size; rw [hsz]; exact Nat.le_add_right _ _) out hS hl hG hacc
      exact ⟨.ref _, H', J, rfl, q H' _ as k1 k2 k3 k4 k5 k6 k7⟩
end
end ZL
end
section
/-! Sound5: expressions: the readings of the IR over those of the model. -/
namespace Snd
open PySem L2 PySem.Spec PyProof.Rows
abbrev WE := M.St → M.AH → M.VQ → Prop
abbrev WA := M.St → M.AH → (List SD → M.AH → Prop) → Prop
abbrev WO := M.St → M.AH → (Option Int → M.AH → Prop) → Prop
/-- a reading of the IR as one of the model -/
def lift (K : Fr) (w : WE) : TE := fun σ H Q => ∃ σa h Qa, RS K H σ σa ∧ RH K H h ∧ w σa h Qa ∧ Kont K H h Qa Q
def liftT (K : Fr) (w : WE) : TT := fun σ H Q => ∃ σa h Qa, RS K H σ σa ∧ RH K H h ∧ w σa h Qa ∧ ∀ d h', Qa d h' → ∃ b, d = .bl b ∧ ∀ H', Frm H h H' h' → RH K H' h' → Q b H'
def KontA (K : Fr) (H : Hp) (h : M.AH) (Qa : List SD → M.AH → Prop) (Q : List V → Hp → Prop) : Prop := ∀ ds h' vs H', Qa ds h' → Frm H h H' h' → Reps K H' ds vs → RH K H' h' → Q vs H'
def liftA (K : Fr) (w : WA) : TA := fun σ H Q => ∃ σa h Qa, RS K H σ σa ∧ RH K H h ∧ w σa h Qa ∧ KontA K H h Qa Q
def liftO (K : Fr) (w : WO) : TO := fun σ H Q => ∃ σa h Qa, RS K H σ σa ∧ RH K H h ∧ w σa h Qa ∧ ∀ o h' H', Qa o h' → Frm H h H' h' → RH K H' h' → Q o H'

theorem _root_.L2.PE.imp {X : L2.Cx} {e : Expr} {t t' : TE} (a : PE X e t) (i : ∀ σ H Q, t' σ H Q → t σ H Q) : PE X e t' := ⟨fun pins s σ H Q I h => a.run pins s σ H Q I (i σ H Q h)⟩
theorem _root_.L2.PT.imp {X : L2.Cx} {e : Expr} {t t' : TT} (a : PT X e t) (i : ∀ σ H Q, t' σ H Q → t σ H Q) : PT X e t' := ⟨fun pins s σ H Q I h => a.run pins s σ H Q I (i σ H Q h)⟩
theorem _root_.L2.PW.imp {X : L2.Cx} {e : Expr} {t t' : TT} (a : PW X e t) (i : ∀ σ H Q, t' σ H Q → t σ H Q) : PW X e t' := ⟨fun wh pins s σ H Q I h => a.run wh pins s σ H Q I (i σ H Q h)⟩
theorem _root_.L2.PA.imp {X : L2.Cx} {e : List Expr} {t t' : TA} (a : PA X e t) (i : ∀ σ H Q, t' σ H Q → t σ H Q) : PA X e t' := ⟨fun pos pins s σ H Q I h => a.run pos pins s σ H Q I (i σ H Q h)⟩
theorem _root_.L2.PO.imp {X : L2.Cx} {e : Option Expr} {t t' : TO} (a : PO X e t) (i : ∀ σ H Q, t' σ H Q → t σ H Q) : PO X e t' := ⟨fun pins s σ H Q I h => a.run pins s σ H Q I (i σ H Q h)⟩

section
variable {X : L2.Cx} {K : Fr} {σ : L2.St} {σa : M.St} {H H1 : Hp} {h h1 : M.AH} {w wa wb wc : WE} {Qa : M.VQ} {a b c e : Expr} {pos : Pos}
theorem lift_go {R : VK} (rs : RS K H σ σa) (rh : RH K H h) (q : w σa h Qa) (k : ∀ d h' v H', Qa d h' → Frm H h H' h' → Rep K H' d v → RH K H' h' → RS K H' σ σa → R v H') : lift K w σ H R :=
  ⟨σa, h, Qa, rs, rh, q, fun d h' v H' q f r rh' => k d h' v H' q f r rh' (rs.kp (f.kp rh))⟩
theorem liftA_go {w : WA} {Qa : List SD → M.AH → Prop} {R : List V → Hp → Prop} (rs : RS K H σ σa) (rh : RH K H h) (q : w σa h Qa) (k : ∀ d h' v H', Qa d h' → Frm H h H' h' → Reps K H' d v → RH K H' h' → RS K H' σ σa → R v H') : liftA K w σ H R :=
  ⟨σa, h, Qa, rs, rh, q, fun d h' v H' q f r rh' => k d h' v H' q f r rh' (rs.kp (f.kp rh))⟩

/-! ### names and constants -/
theorem s_var {i : Nat} {x : Str} (hN : X.N[i]? = some x) (hv : Vis X.env.scope x) (hd : (x == ("__debug__" : Str)) = false) (hcd : (x == ("__classdict__" : Str)) = false) :
    PE X (.Name x pos) (lift X.F fun σ h Q => match σ[i]? with | some (some d) => Q d h | _ => False) := by
  refine (pe_var hN hv hd hcd).imp fun σ H Q ⟨σa, h, Qa, rs, rh, q, k⟩ => ?_
  dsimp only at q
  cases e : σa[i]? with
  | none => rw [e] at q; exact q.elim
  | some o => cases o with
    | none => rw [e] at q; exact q.elim
    | some d =>
      rw [e] at q
      obtain ⟨v, e2, r⟩ := rs.2 i d e
      exact ⟨v, e2, k.now rh q r⟩
theorem s_const {v : V} {d : SD} (p : PE X e (tC v)) (r : ∀ H, Rep X.F H d v) : PE X e (lift X.F fun _ h Q => Q d h) :=
  p.imp fun σ H Q ⟨σa, h, Qa, rs, rh, q, k⟩ => k.now rh q (r H)

/-! ### operators -/
theorem s_bin {o : M.Bop} (ha : PE X a (lift X.F wa)) (hb : PE X b (lift X.F wb)) : PE X (.BinOp a (bop o) b pos) (lift X.F fun σ h Q => wa σ h fun x h1 => wb σ h1 fun y h2 => M.opBin o x y h2 Q) := by
  refine (pe_op (op_bin o) ha hb).imp fun σ H Q ⟨σa, h, Qa, rs, rh, q, k⟩ => ?_
  exact lift_go rs rh q fun dx h1 x H1 q1 f1 r1 rh1 rs1 => lift_go rs1 rh1 q1 fun dy h2 y H2 q2 f2 r2 rh2 rs2 =>
    bin_ok rh2 (r1.kp (f2.kp rh1)) r2 q2 (k.go (f1.trans f2))
theorem s_neg (ha : PE X a (lift X.F wa)) : PE X (.UnaryOp .USub a pos) (lift X.F fun σ h Q => wa σ h fun x h1 => match x with | .int i => Q (.int (-i)) h1 | _ => False) := by
  refine (pe_un un_neg ha).imp fun σ H Q ⟨σa, h, Qa, rs, rh, q, k⟩ => ?_
  refine lift_go rs rh q fun dx h1 x H1 q1 f1 r1 rh1 rs1 => ?_
  cases dx with
  | int i =>
    cases (show x = _ from r1)
    exact ⟨i, rfl, (k.go f1).now rh1 q1 rfl⟩
  | _ => exact q1.elim
theorem s_not (ha : PE X a (lift X.F wa)) : PE X (.UnaryOp .Not a pos) (lift X.F fun σ h Q => wa σ h fun x h1 => match x with | .bl b => Q (.bl (!b)) h1 | _ => False) := by
  refine (pe_not ha).imp fun σ H Q ⟨σa, h, Qa, rs, rh, q, k⟩ => ?_
  refine lift_go rs rh q fun dx h1 x H1 q1 f1 r1 rh1 rs1 => ?_
  cases dx with
  | bl i =>
    cases (show x = _ from r1)
    exact ⟨i, rfl, (k.go f1).now rh1 q1 rfl⟩
  | _ => exact q1.elim
theorem t_not (ha : PT X a (liftT X.F wa)) : PT X (.UnaryOp .Not a pos) (liftT X.F fun σ h Q => wa σ h fun x h1 => match x with | .bl b => Q (.bl (!b)) h1 | _ => False) := by
  refine (pt_not ha).imp fun σ H Q ⟨σa, h, Qa, rs, rh, q, k⟩ => ?_
  refine ⟨σa, h, _, rs, rh, q, fun d h' q1 => ?_⟩
  cases d with
  | bl b =>
    obtain ⟨b', e, kk⟩ := k _ _ q1
    cases e
    exact ⟨b, rfl, fun H' f rh' => kk H' f rh'⟩
  | _ => exact q1.elim
theorem s_cmp (hu : X.A.units + 200 < cLine) {o : M.Cop} (hm : behindInMarks (cop o) b = false) (ha : PE X a (lift X.F wa)) (hb : PE X b (lift X.F wb)) :
    PE X (.Compare a [cop o] [b] pos) (lift X.F fun σ h Q => wa σ h fun x h1 => wb σ h1 fun y h2 => M.opCmp o x y h2 fun c => Q (.bl c) h2) := by
  refine (pe_cmpR (op_cmp hu o) ha hb hm).imp fun σ H Q ⟨σa, h, Qa, rs, rh, q, k⟩ => ?_
  exact lift_go rs rh q fun dx h1 x H1 q1 f1 r1 rh1 rs1 => lift_go rs1 rh1 q1 fun dy h2 y H2 q2 f2 r2 rh2 rs2 =>
    cmp_ok rh2 (r1.kp (f2.kp rh1)) r2 q2 fun b hb => (k.go (f1.trans f2)).now rh2 hb rfl
theorem t_cmp (hu : X.A.units + 200 < cLine) {o : M.Cop} (hm : behindInMarks (cop o) b = false) (ha : PE X a (lift X.F wa)) (hb : PE X b (lift X.F wb)) :
    PT X (.Compare a [cop o] [b] pos) (liftT X.F fun σ h Q => wa σ h fun x h1 => wb σ h1 fun y h2 => M.opCmp o x y h2 fun c => Q (.bl c) h2) := by
  refine (pt_cmpR (op_cmp hu o) ha hb hm).imp fun σ H Q ⟨σa, h, Qa, rs, rh, q, k⟩ => ?_
  exact lift_go rs rh q fun dx h1 x H1 q1 f1 r1 rh1 rs1 => lift_go rs1 rh1 q1 fun dy h2 y H2 q2 f2 r2 rh2 rs2 =>
    cmp_ok rh2 (r1.kp (f2.kp rh1)) r2 q2 fun b hb => by
      obtain ⟨b', e, kk⟩ := k _ _ hb
      cases e
      exact ⟨b, rfl, kk H2 (f1.trans f2) rh2⟩
theorem s_chn (hu : X.A.units + 200 < cLine) {o o' : M.Cop} (hm : lastMarks [cop o, cop o'] [b, c] = false) (ha : PE X a (lift X.F wa)) (hb : PE X b (lift X.F wb)) (hc : PE X c (lift X.F wc)) :
    PE X (.Compare a [cop o, cop o'] [b, c] pos) (lift X.F fun σ h Q => wa σ h fun x h1 => wb σ h1 fun y h2 => M.opCmp o x y h2 fun k => match k with
    | true => wc σ h2 fun z h3 => M.opCmp o' y z h3 fun k' => Q (.bl k') h3
    | false => Q (.bl false) h2) := by
  refine (pe_chain (op_cmp hu o) (op_cmp hu o') ha hb hc hm).imp fun σ H Q ⟨σa, h, Qa, rs, rh, q, k⟩ => ?_
  exact lift_go rs rh q fun dx h1 x H1 q1 f1 r1 rh1 rs1 => lift_go rs1 rh1 q1 fun dy h2 y H2 q2 f2 r2 rh2 rs2 =>
    cmp_ok rh2 (r1.kp (f2.kp rh1)) r2 q2 fun b hb => ⟨b, rfl, by
      cases b with
      | true =>
        refine lift_go rs2 rh2 hb fun dz h3 z H3 q3 f3 r3 rh3 rs3 => ?_
        exact cmp_ok rh3 (r2.kp (f3.kp rh2)) r3 q3 fun b' hb' => (k.go ((f1.trans f2).trans f3)).now rh3 hb' rfl
      | false => exact (k.go (f1.trans f2)).now rh2 hb rfl⟩
theorem t_chn (hu : X.A.units + 200 < cLine) {o o' : M.Cop} (hm : lastMarks [cop o, cop o'] [b, c] = false) (ha : PE X a (lift X.F wa)) (hb : PE X b (lift X.F wb)) (hc : PE X c (lift X.F wc)) :
    PT X (.Compare a [cop o, cop o'] [b, c] pos) (liftT X.F fun σ h Q => wa σ h fun x h1 => wb σ h1 fun y h2 => M.opCmp o x y h2 fun k => match k with
    | true => wc σ h2 fun z h3 => M.opCmp o' y z h3 fun k' => Q (.bl k') h3
    | false => Q (.bl false) h2) := by
  refine (pt_chain (op_cmp hu o) (op_cmp hu o') ha hb hc hm).imp fun σ H Q ⟨σa, h, Qa, rs, rh, q, k⟩ => ?_
  exact lift_go rs rh q fun dx h1 x H1 q1 f1 r1 rh1 rs1 => lift_go rs1 rh1 q1 fun dy h2 y H2 q2 f2 r2 rh2 rs2 =>
    cmp_ok rh2 (r1.kp (f2.kp rh1)) r2 q2 fun b hb => ⟨b, rfl, by
      cases b with
      | true =>
        refine lift_go rs2 rh2 hb fun dz h3 z H3 q3 f3 r3 rh3 rs3 => ?_
        exact cmp_ok rh3 (r2.kp (f3.kp rh2)) r3 q3 fun b' hb' => by
          obtain ⟨b'', e, kk⟩ := k _ _ hb'
          cases e
          exact ⟨b', rfl, kk H3 ((f1.trans f2).trans f3) rh3⟩
      | false =>
        obtain ⟨b'', e, kk⟩ := k _ _ hb
        cases e
        exact ⟨false, rfl, kk H2 (f1.trans f2) rh2⟩⟩
theorem s_ite (hc : PT X c (liftT X.F wc)) (ha : PE X a (lift X.F wa)) (hb : PE X b (lift X.F wb)) :
    PE X (.IfExp c a b pos) (lift X.F fun σ h Q => wc σ h fun x h1 => match x with
    | .bl true => wa σ h1 Q
    | .bl false => wb σ h1 Q
    | _ => False) := by
  refine (pe_ifExp hc ha hb).imp fun σ H Q ⟨σa, h, Qa, rs, rh, q, k⟩ => ?_
  refine ⟨σa, h, _, rs, rh, q, fun d h' q1 => ?_⟩
  cases d with
  | bl b =>
    refine ⟨b, rfl, fun H' f rh' => ?_⟩
    cases b with
    | true => exact lift_go (rs.kp (f.kp rh)) rh' q1 fun d h2 v H2 q2 f2 r2 rh2 _ => k _ _ _ _ q2 (f.trans f2) r2 rh2
    | false => exact lift_go (rs.kp (f.kp rh)) rh' q1 fun d h2 v H2 q2 f2 r2 rh2 _ => k _ _ _ _ q2 (f.trans f2) r2 rh2
  | _ => exact q1.elim
theorem pt_plain (ha : PE X e (lift X.F wa)) (he : ∀ whole, isTrue e X.env whole = (do let v ← whole; standAt e.pos; holding [v] (truthy v))) : PT X e (liftT X.F wa) := by
  refine (pt_val ha he).imp fun σ H Q ⟨σa, h, Qa, rs, rh, q, k⟩ => ?_
  refine ⟨σa, h, Qa, rs, rh, q, fun d h' v H' q1 f r rh' => ?_⟩
  obtain ⟨b, rfl, kk⟩ := k d h' q1
  exact ⟨b, r, kk H' f rh'⟩

/-! ### items, slices -/
theorem s_ix (hu : X.A.units + 200 < cLine) (hs : PlainIx b) (ha : PE X a (lift X.F wa)) (hb : PE X b (lift X.F wb)) : PE X (.Subscript a b pos) (lift X.F fun σ h Q => wa σ h fun x h1 => wb σ h1 fun y h2 => M.opIx x y h2 Q) := by
  refine (pe_ix (ix_all (by omega)) ha hb hs).imp fun σ H Q ⟨σa, h, Qa, rs, rh, q, k⟩ => ?_
  exact lift_go rs rh q fun dx h1 x H1 q1 f1 r1 rh1 rs1 => lift_go rs1 rh1 q1 fun dy h2 y H2 q2 f2 r2 rh2 rs2 =>
    ix_ok rh2 (r1.kp (f2.kp rh1)) r2 q2 (k.go (f1.trans f2))
theorem s_part (he : PE X e (lift X.F w)) : PO X (some e) (liftO X.F fun σ h Q => w σ h fun d h1 => match d with | .int n => Q (some n) h1 | _ => False) := by
  refine (po_some he).imp fun σ H Q ⟨σa, h, Qa, rs, rh, q, k⟩ => ?_
  refine lift_go rs rh q fun d h1 v H1 q1 f1 r1 rh1 _ => ?_
  cases d with
  | int i =>
    cases (show v = _ from r1)
    exact ⟨i, rfl, k _ _ _ q1 f1 rh1⟩
  | _ => exact q1.elim
theorem s_nopart : PO X none (liftO X.F fun _ h Q => Q none h) := po_none.imp fun σ H Q ⟨σa, h, Qa, rs, rh, q, k⟩ => k _ _ _ q .refl rh
theorem s_sl {lo hi : Option Expr} {wl wh : WO} {p2 : Pos} (ha : PE X a (lift X.F wa)) (hl : PO X lo (liftO X.F wl)) (hh : PO X hi (liftO X.F wh)) :
    PE X (.Subscript a (.Slice lo hi none p2) pos) (lift X.F fun σ h Q => wa σ h fun x h1 => wl σ h1 fun l h2 => wh σ h2 fun u h3 => M.opSl x l u h3 Q) := by
  refine (pe_slice sl_all ha hl hh).imp fun σ H Q ⟨σa, h, Qa, rs, rh, q, k⟩ => ?_
  refine lift_go rs rh q fun dx h1 x H1 q1 f1 r1 rh1 rs1 => ?_
  refine ⟨σa, h1, _, rs1, rh1, q1, fun l h2 H2 q2 f2 rh2 => ?_⟩
  refine ⟨σa, h2, _, rs1.kp (f2.kp rh1), rh2, q2, fun u h3 H3 q3 f3 rh3 => ?_⟩
  exact sl_ok rh3 ((r1.kp (f2.kp rh1)).kp (f3.kp rh2)) q3 (k.go ((f1.trans f2).trans f3))

theorem s_rev {p1 p2 p3 : Pos} {k0 : Nat} (ha : PE X a (lift X.F wa)) : PE X (.Subscript a (.Slice none none (some (.UnaryOp .USub (.Constant (.int 1) k0 p1) p2)) p3) pos) (lift X.F fun σ h Q => wa σ h fun x h1 => M.aLst x h1 fun _ xs => ∀ r, h1 r = none → Q (.ref r) (M.up h1 r (.lst xs.reverse))) := by
  refine (pe_revL ha).imp fun σ H Q ⟨σa, h, Qa, rs, rh, q, k⟩ => ?_
  refine lift_go rs rh q fun dx h1 x H1 q1 f1 r1 rh1 rs1 => ?_
  obtain ⟨p, xs, rfl, e1, q⟩ := aLst_inv q1
  cases (show x = _ from r1)
  obtain ⟨ws, a1, r2⟩ := rh1 p _ e1
  refine ⟨p, ws, rfl, SqL.of a1, fun l hn => ?_⟩
  exact k _ _ _ _ (q l (rh1.none hn)) (f1.trans (frm_new hn)) rfl (rh_new rh1 hn ⟨_, upd_same, r2.rev.kp (kp_new hn)⟩)

/-! ### argument lists, displays -/
theorem s_nil : PA X [] (liftA X.F fun _ h Q => Q [] h) := pa_nil.imp fun σ H Q ⟨σa, h, Qa, rs, rh, q, k⟩ => k _ _ _ _ q .refl rfl rh
theorem s_cons {es : List Expr} {wr : WA} (hs : starEach (e :: es) X.env = (false, eval e X.env) :: starEach es X.env) (he : PE X e (lift X.F w)) (hr : PA X es (liftA X.F wr)) :
    PA X (e :: es) (liftA X.F fun σ h Q => w σ h fun d h1 => wr σ h1 fun ds h2 => Q (d :: ds) h2) := by
  refine (pa_cons he hr hs).imp fun σ H Q ⟨σa, h, Qa, rs, rh, q, k⟩ => ?_
  exact lift_go rs rh q fun d h1 v H1 q1 f1 r1 rh1 rs1 => liftA_go rs1 rh1 q1 fun ds h2 vs H2 q2 f2 r2 rh2 _ => k _ _ _ _ q2 (f1.trans f2) (Reps.cons (r1.kp (f2.kp rh1)) r2) rh2
theorem s_tup {es : List Expr} {wr : WA} {x1} (hr : PA X es (liftA X.F wr)) : PE X (.Tuple es x1 pos) (lift X.F fun σ h Q => wr σ h fun ds h1 => ds.length ≤ M.LINE ∧ Q (.tup ds) h1) := by
  refine (pe_tup hr).imp fun σ H Q ⟨σa, h, Qa, rs, rh, q, k⟩ => ?_
  refine liftA_go rs rh q fun ds h1 vs H1 ⟨hz, q1⟩ f1 r1 rh1 _ => ⟨by rw [r1.length, line_eq]; exact hz, fun p hn => ?_⟩
  exact k _ _ _ _ q1 (f1.trans (frm_hid hn)) ⟨p, vs, rfl, .inl upd_same, r1.kp (kp_new hn)⟩ (rh_hid rh1 hn)
theorem s_lst {es : List Expr} {wr : WA} (hr : PA X es (liftA X.F wr)) : PE X (.List es pos) (lift X.F fun σ h Q => wr σ h fun ds h1 => ds.length ≤ M.LINE ∧ ∀ r, h1 r = none → Q (.ref r) (M.up h1 r (.lst ds))) := by
  refine (pe_lst hr).imp fun σ H Q ⟨σa, h, Qa, rs, rh, q, k⟩ => ?_
  refine liftA_go rs rh q fun ds h1 vs H1 ⟨hz, q1⟩ f1 r1 rh1 _ => ⟨by rw [r1.length, line_eq]; exact hz, fun p hn => ?_⟩
  exact k _ _ _ _ (q1 p (rh1.none hn)) (f1.trans (frm_new hn)) rfl (rh_new rh1 hn ⟨_, upd_same, r1.kp (kp_new hn)⟩)
theorem s_dct : PE X (.Dict [] [] pos) (lift X.F fun _ h Q => ∀ r, h r = none → Q (.ref r) (M.up h r (.dct 0 []))) := by
  refine pe_dnewK.imp fun σ H Q ⟨σa, h, Qa, rs, rh, q, k⟩ => ?_
  intro d hn
  exact k _ _ _ _ (q d (rh.none hn)) (frm_new hn) rfl (rh_new rh hn (dct0.mpr ⟨[], upd_same, .nil⟩))

def tDNewN (P : Program) (w : World) : TE := fun _ H Q => ∀ p, H p = none → Q (.ref p) (upd H p (.ext (EntO P w p [])))
theorem ent_empty {P : Program} {w : World} {H : Hp} (h : Heap) (hb : sysModules < h.objs.size) : ObjOk P w H (h.push { cls := .type "dict", data := .dict #[] }) h.objs.size (.ext (EntO P w h.objs.size [])) := by
  obtain ⟨o, es, ep, h1, h2, h3, h4, _, h5⟩ := Heap.DictOfH.new (knd := nestedKind P w) h
  exact ⟨⟨Nat.zero_le _, beq_eq_false_iff_ne.mpr (Ne.symm (Nat.ne_of_lt hb)), [], .nil, o, es, ep, h1, h2, h3, h4, h5⟩, ⟨o, h1⟩, fun _ _ e st => ent_ok e st⟩
theorem pe_dnewN : PE X (.Dict [] [] pos) (tDNewN X.prog X.w) := ⟨fun pins s σ H Q I h =>
  wpAny_Dict_empty ⟨.ref s.heap.objs.size, _, I.laid (a := s.heap.objs.size) (o := .ext (EntO X.prog X.w s.heap.objs.size [])) (t' := s.toks) (fun _ _ q => Heap.get?_push_of_some _ q) (Nat.le_refl _) (ent_empty s.heap I.big), rfl, h _ (I.hok.fresh (Nat.le_refl _))⟩⟩
theorem s_dcn : PE X (.Dict [] [] pos) (lift X.F fun _ h Q => ∀ r, h r = none → Q (.ref r) (M.up h r (.dcn []))) := by
  refine pe_dnewN.imp fun σ H Q ⟨σa, h, Qa, rs, rh, q, k⟩ => ?_
  intro d hn
  exact k _ _ _ _ (q d (rh.none hn)) (frm_new hn) rfl (rh_new rh hn ⟨[], upd_same, .nil⟩)
theorem frm_ext {H' : Hp} {p : Addr} {ob : M.Ob} (k1 : ∀ c o, H c = some o → H' c = some o) (hp : H p = none) : Frm H h H' (M.up h p ob) := fun a o e n => ⟨k1 a o e, up_ne (ne_of_none e hp)⟩
theorem rh_ext {H' : Hp} {p : Addr} {ob : M.Ob} (r : RH K H h) (k1 : ∀ c o, H c = some o → H' c = some o) (hp : H p = none) (o : ObRep K H' p ob) : RH K H' (M.up h p ob) := fun a u e => by
  by_cases z : a = p
  · subst z; rw [up_same] at e; cases e; exact o
  · rw [up_ne z] at e
    have x := r a u e
    obtain ⟨w, e1, _⟩ := x.some
    exact x.kp ⟨fun b vs q => k1 b _ q, fun b o w q => k1 b _ q⟩ (by rw [e1]; exact k1 a _ e1)
theorem zip_rep {H' : Hp} : ∀ {ds es : List SD} {xs ys : List V} {ts : List Addr}, Reps K H' ds xs → Reps K H' es ys → Paired (fun (t : Addr) (q : V × V) => H' t = some (.tup [q.1, q.2])) ts (xs.zip ys) → Reps K H' (M.zipL ds es) (ts.map V.ref) := by
  intro ds
  induction ds with
  | nil =>
    intro es xs ys ts r1 r2 pr
    cases (show xs = _ from r1)
    cases pr
    exact rfl
  | cons d ds ih =>
    intro es xs ys ts r1 r2 pr
    obtain ⟨v, r, e, a, b⟩ := r1
    subst e
    cases es with
    | nil =>
      cases (show ys = _ from r2)
      cases pr
      exact rfl
    | cons d2 es =>
      obtain ⟨v2, r', e, a2, b2⟩ := r2
      subst e
      cases pr with
      | cons h t => exact ⟨_, _, rfl, ⟨_, _, rfl, .inl h, .cons a (.one a2)⟩, ih b b2 t⟩
theorem aTup_inv {d : SD} {f : List SD → Prop} (q : M.aTup d f) : ∃ xs, d = .tup xs ∧ f xs := by
  cases d with
  | tup i => exact ⟨i, rfl, q⟩
  | _ => exact False.elim q
theorem s_lzip {e e2 : Expr} {p p2 cpos : Pos} {wr : WA} (hc : X.calm = true) (hg : Gl X "list") (hm : X.mg "list" = none) (hgz : Gl X "zip") (hmz : X.mg "zip" = none) (ha : PA X [e, e2] (liftA X.F wr))
    (hs : starEach [e, e2] X.env = (false, eval e X.env) :: starEach [e2] X.env) (hpl : (backTo cpos (starEach [e2] X.env)).any (·.1) = false) :
    PE X (.Call (.Name "list" p) [.Call (.Name "zip" p2) [e, e2] [] cpos] [] pos) (lift X.F fun σ h Q => wr σ h fun ds h2 => M.arg2 ds fun x y => M.aTup x fun xs => M.aTup y fun ys => ∀ r, h2 r = none → Q (.ref r) (M.up h2 r (.lst (M.zipL xs ys)))) := by
  refine (ZL.pe_lzip hc hg hm hgz hmz ha hs hpl).imp fun σ H Q ⟨σa, h, Qa, rs, rh, q, k⟩ => ?_
  refine ⟨σa, h, _, rs, rh, q, ?_⟩
  rintro ds h2 vs H2 q f r rh2
  obtain ⟨x, y, rfl, q⟩ := arg2_inv q
  obtain ⟨xs, rfl, q⟩ := aTup_inv q
  obtain ⟨ys, rfl, q⟩ := aTup_inv q
  obtain ⟨v, w, rfl, ⟨a1, us, rfl, t1, r1⟩, ⟨a2, ws, rfl, t2, r2⟩⟩ := reps2 r
  refine ⟨_, _, rfl, a1, a2, us, ws, rfl, rfl, t1.imp .inl id, t2.imp .inl id, fun H' p ts k1 k2 k3 k4 k5 k6 k7 => ?_⟩
  have kp : Kp H2 H' := ⟨fun b vs q => k1 b _ q, fun b o w q => k1 b _ q⟩
  exact k _ _ _ _ (q p (rh2.none k2)) (f.trans (frm_ext k1 k2)) rfl (rh_ext rh2 k1 k2 ⟨_, k5, zip_rep (r1.kp kp) (r2.kp kp) k6⟩)
/-! ### list(range(..)) -/
theorem rgV_rep (lo hi : Int) : Reps K H (M.rangeL lo hi) (rgV lo hi) := by
  unfold M.rangeL rgV
  generalize List.range (hi - lo).toNat = l
  induction l with
  | nil => exact rfl
  | cons i l ih => exact ⟨_, _, rfl, rfl, ih⟩
theorem aRng_inv1 {d : SD} {f : Int → Int → Prop} (q : M.aRng [d] f) : ∃ n, d = .int n ∧ -(2 ^ 62) ≤ n ∧ n ≤ M.LINE ∧ f 0 n := by
  cases d with
  | int n => exact ⟨n, rfl, q.1.1, q.1.2, q.2⟩
  | _ => exact False.elim q
theorem aRng_inv2 {d e : SD} {f : Int → Int → Prop} (q : M.aRng [d, e] f) : ∃ a b, d = .int a ∧ e = .int b ∧ -(2 ^ 62) ≤ a ∧ a ≤ M.LINE ∧ -(2 ^ 62) ≤ b ∧ b ≤ M.LINE ∧ (b - a).toNat ≤ M.LINE ∧ f a b := by
  cases d with
  | int a => cases e with
    | int b => exact ⟨a, b, rfl, rfl, q.1.1.1, q.1.1.2, q.1.2.1, q.1.2.2.1, q.1.2.2.2, q.2⟩
    | _ => exact False.elim q
  | _ => exact False.elim q
theorem s_lrng1 {p p2 cpos : Pos} (hc : X.calm = true) (hg : Gl X "list") (hm : X.mg "list" = none) (hgr : Gl X "range") (hmr : X.mg "range" = none) (ha : PE X a (lift X.F wa)) (hs : starEach [a] X.env = (false, eval a X.env) :: starEach [] X.env) :
    PE X (.Call (.Name "list" p) [.Call (.Name "range" p2) [a] [] cpos] [] pos) (lift X.F fun σ h Q => wa σ h fun d h1 => M.aRng [d] fun lo hi => ∀ r, h1 r = none → Q (.ref r) (M.up h1 r (.lst (M.rangeL lo hi)))) := by
  refine (pe_listRg hc hg hm (prg_1 hgr hmr ha hs)).imp fun σ H Q ⟨σa, h, Qa, rs, rh, q, k⟩ => ?_
  refine lift_go rs rh q fun d h1 v H1 q1 f1 r1 rh1 _ => ?_
  have hl : M.LINE = 16777216 := rfl
  obtain ⟨n, rfl, n0, n1, q1⟩ := aRng_inv1 q1
  cases (show v = _ from r1)
  exact ⟨n, rfl, ⟨by omega, by omega, by omega, by omega, by omega⟩, fun l hn => k _ _ _ _ (q1 l (rh1.none hn)) (f1.trans (frm_new hn)) rfl (rh_new rh1 hn ⟨_, upd_same, rgV_rep 0 n⟩)⟩
theorem s_lrng2 {p p2 cpos : Pos} (hc : X.calm = true) (hg : Gl X "list") (hm : X.mg "list" = none) (hgr : Gl X "range") (hmr : X.mg "range" = none) (ha : PE X a (lift X.F wa)) (hb : PE X b (lift X.F wb)) (hs : starEach [a, b] X.env = (false, eval a X.env) :: starEach [b] X.env) (hs2 : starEach [b] X.env = (false, eval b X.env) :: starEach [] X.env) (hp : (backTo cpos (starEach [b] X.env)).any (·.1) = false) :
    PE X (.Call (.Name "list" p) [.Call (.Name "range" p2) [a, b] [] cpos] [] pos) (lift X.F fun σ h Q => wa σ h fun d h1 => wb σ h1 fun e h2 => M.aRng [d, e] fun lo hi => ∀ r, h2 r = none → Q (.ref r) (M.up h2 r (.lst (M.rangeL lo hi)))) := by
  refine (pe_listRg hc hg hm (prg_2 hgr hmr ha hb hs hs2 hp)).imp fun σ H Q ⟨σa, h, Qa, rs, rh, q, k⟩ => ?_
  refine lift_go rs rh q fun d h1 v H1 q1 f1 r1 rh1 rs1 => lift_go rs1 rh1 q1 fun e h2 w H2 q2 f2 r2 rh2 _ => ?_
  have hl : M.LINE = 16777216 := rfl
  obtain ⟨m, n, rfl, rfl, n0, n1, n2, n3, n4, q2⟩ := aRng_inv2 q2
  cases (show v = _ from r1); cases (show w = _ from r2)
  exact ⟨m, n, rfl, rfl, ⟨by omega, by omega, by omega, by omega, by omega⟩, fun l hn => k _ _ _ _ (q2 l (rh2.none hn)) ((f1.trans f2).trans (frm_new hn)) rfl (rh_new rh2 hn ⟨_, upd_same, rgV_rep m n⟩)⟩
/-! ### dict displays -/
theorem keys_get : ∀ {kvs : List (SD × SD)}, M.keysOk 0 kvs = true → ∀ {ps : List (V × V)}, Paired (fun (x : SD × SD) (p : V × V) => Rep K H x.1 p.1 ∧ Rep K H x.2 p.2) kvs ps → ∃ ks : List (Key × V), ps = ks.map (fun kv => (kV kv.1, kv.2)) ∧ Paired (PR K H R0) kvs ks
  | [], _, _, r => by cases r; exact ⟨[], rfl, .nil⟩
  | x :: kvs, ok, _, r => by
    cases r with
    | @cons _ p _ ps h t =>
      simp only [M.keysOk] at ok
      obtain ⟨o1, o2⟩ := ba ok
      obtain ⟨ks, e, pr⟩ := keys_get o2 t
      obtain ⟨k, ek⟩ := keyOk0 o1
      have ev := keyV_rep ek h.1
      refine ⟨(k, p.2) :: ks, ?_, .cons ⟨⟨ek, rep_str h.1⟩, h.2⟩ pr⟩
      rw [List.map_cons, ← e, ← ev]
def wPs : List (WE × WE) → WA
  | [], _, h, Q => Q [] h
  | (wk, wv) :: r, σ, h, Q => wk σ h fun d h1 => wv σ h1 fun e h2 => wPs r σ h2 fun ds h3 => Q (d :: e :: ds) h3
theorem tp_go : ∀ (ws : List (WE × WE)) {σ : L2.St} {σa : M.St} {H : Hp} {h : M.AH} {Qa : List SD → M.AH → Prop} {R : List (V × V) → Hp → Prop}, RS K H σ σa → RH K H h → wPs ws σa h Qa →
    (∀ ds h' H' ps kvs, Qa ds h' → Frm H h H' h' → RH K H' h' → M.pairUp ds = some kvs → Paired (fun (x : SD × SD) (p : V × V) => Rep K H' x.1 p.1 ∧ Rep K H' x.2 p.2) kvs ps → ps.length = ws.length → R ps H') →
    tPairs (ws.map fun w => (lift K w.1, lift K w.2)) σ H R
  | [], σ, σa, H, h, Qa, R, rs, rh, q, k => k [] h H [] [] q .refl rh rfl .nil rfl
  | (wk, wv) :: r, σ, σa, H, h, Qa, R, rs, rh, q, k => by
    show lift K wk σ H _
    refine lift_go rs rh q fun d h1 x H1 q1 f1 r1 rh1 rs1 => ?_
    refine lift_go rs1 rh1 q1 fun e h2 y H2 q2 f2 r2 rh2 rs2 => ?_
    refine tp_go r rs2 rh2 q2 fun ds h3 H3 ps kvs q3 f3 rh3 pu pr ln => ?_
    have k3 := f3.kp rh2
    have k2 := f2.kp rh1
    refine k (d :: e :: ds) h3 H3 ((x, y) :: ps) ((d, e) :: kvs) q3 ((f1.trans f2).trans f3) rh3 (by simp only [M.pairUp, pu]; rfl) (.cons ⟨(r1.kp k2).kp k3, r2.kp k3⟩ pr) (by simp [ln])
theorem s_dsp {ks : List (Option Expr)} {vs : List Expr} {ws : List (WE × WE)} (hp : PPs X pos ks vs (ws.map fun w => (lift X.F w.1, lift X.F w.2))) (hall : ks.all (·.isSome) = true) (hl : ks.length = vs.length) (h0 : ks ≠ []) (h15 : ks.length ≤ 15) (hw : ws.length ≤ 15) :
    PE X (.Dict ks vs pos) (lift X.F fun σ h Q => ∀ r, h r = none → wPs ws σ (M.up h r (.dct 0 [])) fun ds h2 => h2 r = some (.dct 0 []) ∧ M.aSome (M.pairUp ds) fun kvs => M.keysOk 0 kvs = true ∧ Q (.ref r) (M.up h2 r (.dct 0 (M.mergeL [] kvs)))) := by
  refine (pe_disp hp hall hl h0 h15).imp fun σ H Q ⟨σa, h, Qa, rs, rh, q, k⟩ => ?_
  intro p hn
  have f0 : Frm H h (upd H p (.dK [])) (M.up h p (.dct 0 [])) := frm_new hn
  have rh0 : RH X.F (upd H p (.dK [])) (M.up h p (.dct 0 [])) := rh_new rh hn (dct0.mpr ⟨[], upd_same, .nil⟩)
  refine tp_go ws (rs.kp (f0.kp rh)) rh0 (q p (rh.none hn)) fun ds h2 H2 ps kvs q2 f2 rh2 pu pr ln => ?_
  obtain ⟨e2, q2⟩ := q2
  rw [pu] at q2
  obtain ⟨ok, q2⟩ := q2
  obtain ⟨ks2, e3, pk⟩ := keys_get ok pr
  obtain ⟨qs, e4, pe4⟩ := dct0.mp (rh2 p _ e2)
  cases pe4
  refine ⟨e4, ks2, e3, by rw [e3, List.length_map] at ln; omega, ?_⟩
  have kp : Kp H2 (upd H2 p (.dK (mergeK [] ks2))) := kp_put rh2 e2
  exact k _ _ _ _ q2 ((f0.trans f2).trans (frm_put e2)) rfl (rh_put rh2 e2 (dct0.mpr ⟨_, upd_same, Paired.mapP (kv_merge pk .nil) fun _ _ z => ⟨z.1, z.2.kp kp⟩⟩))
/-! ### calls -/
theorem s_blt {x : Str} {p : Pos} {es : List Expr} {wr : WA} {b : M.Blt} {bk : BK} (hcalm : X.calm = true) (hu : X.A.units + 200 < cLine) (eb : bltK b = some bk) (hx : x = bk.name) (hg : Gl X x) (hm : X.mg x = none)
    (he : starEach (e :: es) X.env = (false, eval e X.env) :: starEach es X.env) (hpl : (backTo pos (starEach es X.env)).any (·.1) = false) (hr : PA X (e :: es) (liftA X.F wr)) :
    PE X (.Call (.Name x p) (e :: es) [] pos) (lift X.F fun σ h Q => wr σ h fun ds h1 => M.opBlt b ds h1 Q) := by
  subst hx
  have key : PE X (.Call (.Name bk.name p) (e :: es) [] pos) (tCB (rBlt X.F b) (liftA X.F wr)) := by
    have cr := call_blt (X := X) hcalm hu b eb
    cases b <;> simp only [bltK, Option.some.injEq, reduceCtorEq] at eb <;> subst eb
    all_goals first
      | exact pe_callB cr hg hm (by decide +kernel) hr (by decide +kernel) (by decide +kernel) he hpl
      | exact pe_callTy cr hg hm (by decide +kernel) hr (by decide +kernel) (by decide +kernel) he hpl
  refine key.imp fun σ H Q ⟨σa, h, Qa, rs, rh, q, k⟩ => ?_
  exact liftA_go rs rh q fun ds h1 vs H1 q1 f1 r1 rh1 _ => blt_ok rh1 r1 q1 (k.go f1)
theorem s_isi {t : M.Ty} {p p2 : Pos} {xt : Str} (hg : Gl X "isinstance") (hm : X.mg "isinstance" = none) (hxt : xt = Str.ofString (tyS t)) (hg2 : Gl X xt) (hm2 : X.mg xt = none)
    (he : starEach [a, .Name xt p2] X.env = (false, eval a X.env) :: starEach [.Name xt p2] X.env) (ha : PE X a (lift X.F wa)) :
    PE X (.Call (.Name "isinstance" p) [a, .Name xt p2] [] pos) (lift X.F fun σ h Q => wa σ h fun x h1 => match M.opIsi x t h1 with | some b => Q (.bl b) h1 | none => False) := by
  subst hxt
  have pt : PE X (.Name (Str.ofString (tyS t)) p2) (tC (.ty (tyS t))) := by
    cases t <;> exact pe_bltn (v := .ty _) hg2 hm2 (u := .type _) (by decide +kernel) rfl (by decide +kernel) (by decide +kernel)
  refine (pe_callB call_isi hg hm (by decide +kernel) (pa_cons ha (pa_cons pt pa_nil) he) (by decide +kernel) (by decide +kernel) he rfl).imp fun σ H Q ⟨σa, h, Qa, rs, rh, q, k⟩ => ?_
  refine lift_go rs rh q fun dx h1 x H1 q1 f1 r1 rh1 rs1 => ?_
  cases e : M.opIsi dx t h1 with
  | none => rw [e] at q1; exact q1.elim
  | some b =>
    rw [e] at q1
    exact isi_ok rh1 r1 e ((k.go f1).now rh1 q1 rfl)
theorem s_mth0 (hu : X.A.units + 200 < cLine) {m : M.Mth} {T id : String} {nm nm2 : Str} {apos cpos : Pos} (em : mthT m = some (T, id, nm)) (hnm : nm2 = nm) (hbase : attributeBase a nm X.env (eval a X.env) = eval a X.env) (hline : (apos.endLine == cpos.line) = true) (ha : PE X a (lift X.F wa)) :
    PE X (.Call (.Attribute a nm2 apos) [] [] cpos) (lift X.F fun σ h Q => wa σ h fun x h1 => M.recvOk m x h1 ∧ M.opMth m x [] h1 Q) := by
  subst hnm
  have F := mth_fact em
  refine (pe_bm0 F.pa F.slot F.ty (mth_rule (by omega) em) ha hbase hline).imp fun σ H Q ⟨σa, h, Qa, rs, rh, q, k⟩ => ?_
  exact lift_go rs rh q fun dx h1 x H1 ⟨q0, q1⟩ f1 r1 rh1 rs1 => ⟨recv_ok em rh1 r1 q0, mth_ok (ds := []) (vs := []) rh1 r1 rfl q1 (k.go f1)⟩
theorem s_mth (hu : X.A.units + 200 < cLine) {m : M.Mth} {T id : String} {nm nm2 : Str} {apos cpos : Pos} {es : List Expr} {wr : WA} (em : mthT m = some (T, id, nm)) (hnm : nm2 = nm) (hbase : attributeBase a nm X.env (eval a X.env) = eval a X.env)
    (hfew : ((backTo cpos (starEach (e :: es) X.env)).all (fun x => !x.1) && (backToKw cpos (keywordEach [] X.env)).all (fun x => x.1.isSome)
      && decide ((e :: es).length + ([] : List Keyword).length + (if ([] : List Keyword).isEmpty then 0 else 1) < 30)) = true)
    (hline : (apos.endLine == cpos.line) = true) (hs : starEach (e :: es) X.env = (false, eval e X.env) :: starEach es X.env) (hplain : (backTo cpos (starEach es X.env)).any (·.1) = false) (ha : PE X a (lift X.F wa)) (hr : PA X (e :: es) (liftA X.F wr)) :
    PE X (.Call (.Attribute a nm2 apos) (e :: es) [] cpos) (lift X.F fun σ h Q => wa σ h fun x h1 => M.recvOk m x h1 ∧ wr σ h1 fun ds h2 => M.opMth m x ds h2 Q) := by
  subst hnm
  have F := mth_fact em
  refine (pe_bm F.pa F.slot F.ty (mth_rule (by omega) em) ha hr hbase hfew hline hs hplain).imp fun σ H Q ⟨σa, h, Qa, rs, rh, q, k⟩ => ?_
  refine lift_go rs rh q fun dx h1 x H1 ⟨q0, q1⟩ f1 r1 rh1 rs1 => ⟨recv_ok em rh1 r1 q0, ?_⟩
  exact liftA_go rs1 rh1 q1 fun ds h2 vs H2 q2 f2 r2 rh2 _ => mth_ok rh2 (r1.kp (f2.kp rh1)) r2 q2 (k.go (f1.trans f2))
/-- what a def of the program promises -/
def spC (K : Fr) (P : M.Prog) (n : Nat) (f : M.Sx) : Sp := fun vs H Q _ => ∃ ds h Qa xx, Reps K H ds vs ∧ RH K H h ∧ M.run P n f ds h Qa xx ∧ Kont K H h Qa Q
theorem s_call {x : Str} {p : Pos} {es : List Expr} {wr : WA} {P : M.Prog} {n : Nat} {f : M.Sx} {fa : Addr} {fd : FuncData} {ps : List Str} {xx : M.XP} (F : FnOk X.prog X.w X.F X.mg X.base CX0 n fa fd ps (spC X.F P n f)) (hroom : Room n X.A) (hg : Gl X x) (hm : X.mg x = some (.ref fa))
    (hk : PySem.W.keepIn X.F (.ref fa) = true) (hb : Binds X.F fd ps []) (hdb : (x == ("__debug__" : Str)) = false)
    (he : starEach (e :: es) X.env = (false, eval e X.env) :: starEach es X.env) (hpl : (backTo pos (starEach es X.env)).any (·.1) = false) (hr : PA X (e :: es) (liftA X.F wr)) :
    PE X (.Call (.Name x p) (e :: es) [] pos) (lift X.F fun σ h Q => wr σ h fun ds h1 => M.run P n f ds h1 Q xx) := by
  refine (pe_call F hroom hg hm hk hb .nil pass0 hr hdb he hpl).imp fun σ H Q ⟨σa, h, Qa, rs, rh, q, k⟩ => ?_
  refine liftA_go rs rh q fun ds h1 vs H1 q1 f1 r1 rh1 _ => ?_
  exact ⟨ds, h1, Qa, xx, by rw [List.append_nil]; exact r1, rh1, q1, k.go f1⟩
theorem s_call0 {x : Str} {p : Pos} {P : M.Prog} {n : Nat} {f : M.Sx} {fa : Addr} {fd : FuncData} {ps : List Str} {xx : M.XP} (F : FnOk X.prog X.w X.F X.mg X.base CX0 n fa fd ps (spC X.F P n f)) (hroom : Room n X.A) (hg : Gl X x) (hm : X.mg x = some (.ref fa))
    (hk : PySem.W.keepIn X.F (.ref fa) = true) (hb : Binds X.F fd ps []) (hdb : (x == ("__debug__" : Str)) = false) :
    PE X (.Call (.Name x p) [] [] pos) (lift X.F fun σ h Q => M.run P n f [] h Q xx) := by
  refine (pe_call0 F hroom hg hm hk hb .nil pass0 hdb).imp fun σ H Q ⟨σa, h, Qa, rs, rh, q, k⟩ => ?_
  exact ⟨[], h, Qa, xx, rfl, rh, q, k⟩
theorem reps_nons {K : Fr} {H : Hp} : ∀ k : Nat, Reps K H (List.replicate k .non) (List.replicate k V.non)
  | 0 => rfl
  | k + 1 => ⟨_, _, rfl, rfl, reps_nons k⟩
theorem s_callD {x : Str} {p : Pos} {es : List Expr} {wr : WA} {P : M.Prog} {n k : Nat} {f : M.Sx} {fa : Addr} {fd : FuncData} {ps : List Str} {ds0 : List Value} {xx : M.XP} (F : FnOk X.prog X.w X.F X.mg X.base CX0 n fa fd ps (spC X.F P n f)) (hroom : Room n X.A) (hg : Gl X x) (hm : X.mg x = some (.ref fa))
    (hk : PySem.W.keepIn X.F (.ref fa) = true) (hd : Vals (List.replicate k V.non) ds0) (hb : Binds X.F fd ps ds0) (hdb : (x == ("__debug__" : Str)) = false)
    (he : starEach (e :: es) X.env = (false, eval e X.env) :: starEach es X.env) (hpl : (backTo pos (starEach es X.env)).any (·.1) = false) (hr : PA X (e :: es) (liftA X.F wr)) :
    PE X (.Call (.Name x p) (e :: es) [] pos) (lift X.F fun σ h Q => wr σ h fun ds h1 => M.run P n f (ds ++ List.replicate k .non) h1 Q xx) := by
  refine (pe_call F hroom hg hm hk hb hd pass0 hr hdb he hpl).imp fun σ H Q ⟨σa, h, Qa, rs, rh, q, k⟩ => ?_
  refine liftA_go rs rh q fun ds h1 vs H1 q1 f1 r1 rh1 _ => ?_
  exact ⟨_, h1, Qa, xx, r1.append (reps_nons _), rh1, q1, k.go f1⟩
end
end Snd
end
section
/-! Sound6: what is walked, targets, comprehensions, statements. -/
namespace Snd
open PySem L2 PySem.Spec PyProof.Rows
section
variable {X : L2.Cx} {K : Fr} {σ : L2.St} {σa : M.St} {H H1 : Hp} {h h1 : M.AH} {w wa wb wc : WE} {Qa : M.VQ} {a b c e : Expr} {pos : Pos} {tg : Expr}
/-- an iterator of the model bears the items xs, as long as ok holds -/
def Walks (K : Fr) (H1 : Hp) (J : It) (xs : List SD) (ok : M.AH → Prop) : Prop := ∀ (i : Nat) (H : Hp) (h : M.AH), Kp H1 H → Fz H1 H → RH K H h → ok h →
  (i < xs.length → J.go i H) ∧ (xs.length ≤ i → J.stop i H) ∧ ∀ x H', J.yld i H x H' → ∀ d, xs[i]? = some d → Rep K H' d x ∧ Frm H h H' h ∧ RH K H' h
theorem PI.imp' {t t' : TI} (a : PI X tg e t) (i : ∀ σ H Q, t' σ H Q → t σ H Q) : PI X tg e t' := ⟨fun pins s σ H Q I h => a.run pins s σ H Q I (i σ H Q h)⟩
def liftI (K : Fr) (k : M.Itk) (w : WA) : TI := fun σ H R => ∃ σa h Qd, RS K H σ σa ∧ RH K H h ∧ w σa h Qd ∧ ∀ ds h1, Qd ds h1 → ∃ QW : List SD → (M.AH → Prop) → Prop, M.walk k ds h1 QW ∧
  ∀ xs ok J H1, QW xs ok → Frm H h H1 h1 → RH K H1 h1 → Walks K H1 J xs ok → R J H1
/-- a list, a tuple, a text -/
def iSeq (K : Fr) (tl : TE) : TI := fun σ H R => tl σ H fun x H1 => (∃ a, x = .ref a ∧ (∃ xs, SqL K H1 a xs) ∧ R (Itl K a) H1) ∨ (∃ a, x = .ref a ∧ (∃ xs, SqT K H1 a xs) ∧ R (Itt K a) H1) ∨ ∃ z, x = .str z ∧ R (Its z) H1
theorem pi_seq {l : Expr} {tl : TE} (hl : PE X l tl) : PI X tg l (iSeq X.F tl) := by
  refine ⟨fun pins s σ H R I hw => thn (hl.run pins s σ H _ I hw) ?_⟩
  rintro v s1 ⟨x, H1, J, rv, q⟩
  rcases q with ⟨ad, rfl, ⟨xs, hx⟩, q⟩ | ⟨ad, rfl, ⟨xs, hx⟩, q⟩ | ⟨z, rfl, q⟩
  · cases rv
    obtain ⟨its, r, p, hz⟩ := J.list hx
    exact wpAny_pyIter_list p.isList (pi_one (tk := s1.toks) J _ (turn_list ad _) ⟨_, Heap.get?_push_size _ rfl, rfl, rfl⟩ q)
  · cases rv
    obtain ⟨its, r, p, hz⟩ := J.tuple hx
    exact wpAny_pyIter_tuple (show s1.heap.IsTuple ad its.toArray from p) (pi_one (tk := s1.toks) J _ (turn_tuple ad _) ⟨_, Heap.get?_push_size _ rfl, rfl, rfl⟩ q)
  · obtain ⟨t, rfl⟩ := rv
    cases wide : z.cps.all (· < 128)
    · exact wpAny_pyIter_wide wide (pi_one (tk := s1.toks) J _ (turn_str _ z t "str_iterator" (.inr rfl)) ⟨_, Heap.get?_push_size _ rfl, rfl, rfl⟩ q)
    · exact wpAny_pyIter_ascii wide (pi_one (tk := s1.toks) J _ (turn_str _ z t "str_ascii_iterator" (.inl rfl)) ⟨_, Heap.get?_push_size _ rfl, rfl, rfl⟩ q)
theorem sql_inj {p : Addr} {vs ws : List V} (e : H p = some (.lst vs)) (h : SqL K H p ws) (no : ¬ KLst K p ws) : ws = vs := by
  rcases h with (h | ⟨o, h⟩) | h
  · rw [e] at h; cases h; rfl
  · rw [e] at h; cases h
  · exact absurd h no
/-- a list's items at a turn: what the walk yields is what stands there -/
theorem walks_lst {p : Addr} {xs : List SD} : Walks K H1 (Itl K p) xs (fun h' => h' p = some (.lst xs)) := by
  intro i H h kp fz rh ok
  obtain ⟨vs, e, r⟩ := rh p _ ok
  have ln := r.length
  refine ⟨fun hi => ⟨vs, vs[i]'(by omega), SqL.of e, by simp⟩, fun hi => ⟨vs, SqL.of e, by omega⟩, ?_⟩
  rintro x H' ⟨rfl, y⟩ d hd
  obtain ⟨v, h1, h2⟩ := r.get hd
  have := y vs (SqL.of e)
  rw [h1] at this
  cases this
  exact ⟨h2, .refl, rh⟩
theorem walks_rol {p : Addr} {xs : List SD} {vs : List V} (t : (∃ o, H1 p = some (.frz o (.lst vs))) ∨ KLst K p vs) (r : Reps K H1 xs vs) : Walks K H1 (Itl K p) xs (fun _ => True) := by
  intro i H h kp fz rh ok
  have ln := r.length
  have hs : SqL K H p vs := rol_sql (t.imp (fun ⟨o, e⟩ => ⟨o, kp.2 _ _ _ e⟩) id)
  refine ⟨fun hi => ⟨vs, vs[i]'(by omega), hs, by simp⟩, fun hi => ⟨vs, hs, by omega⟩, ?_⟩
  rintro x H' ⟨rfl, y⟩ d hd
  obtain ⟨v, h1, h2⟩ := (r.kp kp).get hd
  have := y vs hs
  rw [h1] at this
  cases this
  exact ⟨h2, .refl, rh⟩
theorem walks_tup {p : Addr} {xs : List SD} {vs : List V} (t : H1 p = some (.tup vs) ∨ KTup K p vs) (r : Reps K H1 xs vs) : Walks K H1 (Itt K p) xs (fun _ => True) := by
  intro i H h kp fz rh ok
  have ln := r.length
  have hs : SqT K H p vs := (t.imp (kp.1 _ _) id).imp .inl id
  refine ⟨fun hi => ⟨vs, vs[i]'(by omega), hs, by simp⟩, fun hi => ⟨vs, hs, by omega⟩, ?_⟩
  rintro x H' ⟨rfl, y⟩ d hd
  obtain ⟨v, h1, h2⟩ := (r.kp kp).get hd
  have := y vs hs
  rw [h1] at this
  cases this
  exact ⟨h2, .refl, rh⟩
theorem walks_str {s : M.Sx} (ok : sOk s) : Walks K H1 (Its (sV s)) (s.map fun c => .str [c]) (fun _ => True) := by
  intro i H h kp fz rh _
  have sz : (sV s).cps.size = s.length := by simp [sV]
  refine ⟨fun hi => by show i < (sV s).cps.size; rw [sz]; simpa using hi, fun hi => by show (sV s).cps.size ≤ i; rw [sz]; simpa using hi, ?_⟩
  rintro x H' ⟨rfl, c, hc, rfl⟩ d hd
  rw [List.getElem?_map] at hd
  have e : s[i]? = some c := by
    rw [← Array.getElem?_toList, sV_cps] at hc
    exact hc
  rw [e] at hd
  simp only [Option.map_some, Option.some.injEq] at hd
  subst hd
  exact ⟨⟨rfl, fun z hz => by
    have : z = c := by simpa using hz
    subst this
    exact ok _ (List.mem_of_getElem? e)⟩, .refl, rh⟩
theorem walks_rng (lo hi : Int) (n : Nat) (hn : n = (hi - lo).toNat) : Walks K H1 (Itr lo n) (M.rangeL lo hi) (fun _ => True) := by
  intro i H h kp fz rh _
  have ln : (M.rangeL lo hi).length = n := by simp [M.rangeL, hn]
  refine ⟨fun q => by show i < n; omega, fun q => by show n ≤ i; omega, ?_⟩
  rintro x H' ⟨rfl, rfl⟩ d hd
  have hi : i < n := by rw [← ln]; exact (List.getElem?_eq_some_iff.mp hd).1
  simp only [M.rangeL, List.getElem?_map] at hd
  rw [List.getElem?_range (by omega)] at hd
  simp only [Option.map_some, Option.some.injEq] at hd
  subst hd
  exact ⟨rfl, .refl, rh⟩
theorem enumL_get : ∀ (xs : List SD) (k i : Nat) (d : SD), (M.enumL k xs)[i]? = some d → ∃ x, xs[i]? = some x ∧ d = .tup [.int ((k + i : Nat) : Int), x]
  | [], k, i, d, e => by simp [M.enumL] at e
  | x :: xs, k, 0, d, e => by
    simp only [M.enumL, List.getElem?_cons_zero, Option.some.injEq] at e
    exact ⟨x, rfl, e.symm⟩
  | x :: xs, k, i + 1, d, e => by
    simp only [M.enumL, List.getElem?_cons_succ] at e
    obtain ⟨y, h1, h2⟩ := enumL_get xs (k + 1) i d e
    refine ⟨y, by simpa using h1, ?_⟩
    rw [h2]
    have : k + 1 + i = k + (i + 1) := by omega
    rw [this]
theorem enumL_len : ∀ (xs : List SD) (k : Nat), (M.enumL k xs).length = xs.length
  | [], _ => rfl
  | x :: xs, k => by simp [M.enumL, enumL_len xs (k + 1)]
theorem walks_enum {p : Addr} {xs : List SD} : Walks K H1 (Ite K p) (M.enumL 0 xs) (fun h' => h' p = some (.lst xs)) := by
  intro i H h kp fz rh ok
  obtain ⟨vs, e, r⟩ := rh p _ ok
  have ln := r.length
  have ln2 := enumL_len xs 0
  refine ⟨fun hi => ⟨vs, vs[i]'(by omega), SqL.of e, by simp⟩, fun hi => ⟨vs, SqL.of e, by omega⟩, ?_⟩
  rintro x H' ⟨T, y, rfl, hn, rfl, hy⟩ d hd
  obtain ⟨z, h1, rfl⟩ := enumL_get xs 0 i d hd
  obtain ⟨v, h2, h3⟩ := r.get h1
  have := hy vs (SqL.of e)
  rw [h2] at this
  cases this
  refine ⟨⟨T, _, rfl, .inl upd_same, Reps.cons (by simp [Rep]) (.one (h3.kp (kp_new hn)))⟩, frm_hid hn, rh_hid rh hn⟩

theorem i_seq (hl : PE X e (lift X.F w)) : PI X tg e (liftI X.F .seq fun σ h Q => w σ h fun d h1 => Q [d] h1) := by
  refine PI.imp' (pi_seq hl) fun σ H R ⟨σa, h, Qd, rs, rh, q, k⟩ => ?_
  refine lift_go rs rh q fun d h1 v H1 q1 f1 r1 rh1 _ => ?_
  obtain ⟨QW, hw, kk⟩ := k _ _ q1
  cases d with
  | tup xs =>
    obtain ⟨ad, vs, ev, t, rr⟩ := r1
    exact .inr (.inl ⟨ad, ev, ⟨vs, t.imp .inl id⟩, kk _ _ _ _ hw f1 rh1 (walks_tup t rr)⟩)
  | rol xs =>
    obtain ⟨ad, vs, ev, t, rr⟩ := r1
    exact .inl ⟨ad, ev, ⟨vs, rol_sql t⟩, kk _ _ _ _ hw f1 rh1 (walks_rol t rr)⟩
  | str s => exact .inr (.inr ⟨sV s, r1.1, kk _ _ _ _ hw f1 rh1 (walks_str r1.2)⟩)
  | ref p =>
    simp only [M.walk] at hw
    cases e1 : h1 p with
    | none => rw [e1] at hw; exact hw.elim
    | some o => rw [e1] at hw; cases o with
      | lst xs =>
        obtain ⟨vs, e2, rr⟩ := rh1 p _ e1
        exact .inl ⟨p, r1, ⟨vs, SqL.of e2⟩, kk _ _ _ _ hw f1 rh1 walks_lst⟩
      | _ => exact hw.elim
  | _ => exact hw.elim
theorem walk_rng_inv {ds : List SD} {QW : List SD → (M.AH → Prop) → Prop} (q : M.walk .rng ds h QW) : (∃ n, ds = [.int n] ∧ -(2 ^ 62) ≤ n ∧ n < 2 ^ 62 ∧ QW (M.rangeL 0 n) fun _ => True) ∨
    ∃ a b, ds = [.int a, .int b] ∧ (-(2 ^ 62) ≤ a ∧ a < 2 ^ 62 ∧ -(2 ^ 62) ≤ b ∧ b < 2 ^ 62) ∧ QW (M.rangeL a b) fun _ => True := by
  match ds with
  | [] => exact False.elim q
  | [d] => cases d with
    | int n => exact .inl ⟨n, rfl, q⟩
    | _ => exact False.elim q
  | [d, e] => cases d with
    | int a => cases e with
      | int b => exact .inr ⟨a, b, rfl, q⟩
      | _ => exact False.elim q
    | _ => cases e <;> exact False.elim q
  | d :: e :: f :: r => cases d <;> cases e <;> exact False.elim q
theorem i_rng1 {p : Pos} (hg : Gl X "range") (hm : X.mg "range" = none) (hs : starEach [a] X.env = [(false, eval a X.env)]) (ha : PE X a (lift X.F wa)) :
    PI X tg (.Call (.Name "range" p) [a] [] pos) (liftI X.F .rng fun σ h Q => wa σ h fun d h1 => Q [d] h1) := by
  refine PI.imp' (pi_range1 hg hm (pa_cons ha pa_nil hs) hs) fun σ H R ⟨σa, h, Qd, rs, rh, q, k⟩ => ?_
  refine lift_go rs rh q fun d h1 v H1 q1 f1 r1 rh1 _ => ?_
  obtain ⟨QW, hw, kk⟩ := k _ _ q1
  rcases walk_rng_inv hw with ⟨n, e, h1, h2, hw2⟩ | ⟨x, y, e, _⟩
  · cases e
    cases (show v = _ from r1)
    exact ⟨n, rfl, h1, h2, kk _ _ _ _ hw2 f1 rh1 (walks_rng 0 n _ (by simp))⟩
  · cases e
theorem i_rng2 {p : Pos} (hg : Gl X "range") (hm : X.mg "range" = none) (hs : starEach [a, b] X.env = [(false, eval a X.env), (false, eval b X.env)]) (hs2 : starEach [b] X.env = [(false, eval b X.env)]) (ha : PE X a (lift X.F wa)) (hb : PE X b (lift X.F wb)) :
    PI X tg (.Call (.Name "range" p) [a, b] [] pos) (liftI X.F .rng fun σ h Q => wa σ h fun d h1 => wb σ h1 fun d2 h2 => Q [d, d2] h2) := by
  refine PI.imp' (pi_range2 hg hm (pa_cons ha (pa_cons hb pa_nil hs2) (by rw [hs, hs2])) hs hs2) fun σ H R ⟨σa, h, Qd, rs, rh, q, k⟩ => ?_
  refine lift_go rs rh q fun d h1 v H1 q1 f1 r1 rh1 rs1 => lift_go rs1 rh1 q1 fun d2 h2 v2 H2 q2 f2 r2 rh2 rs2 => ?_
  obtain ⟨QW, hw, kk⟩ := k _ _ q2
  rcases walk_rng_inv hw with ⟨n, e, h1, h2, hw2⟩ | ⟨x, y, e, hb, hw2⟩
  · cases e
  · cases e
    cases (show v = _ from r1); cases (show v2 = _ from r2)
    exact ⟨x, y, rfl, hb, kk _ _ _ _ hw2 (f1.trans f2) rh2 (walks_rng x y _ rfl)⟩
theorem walk_enum_inv {ds : List SD} {QW : List SD → (M.AH → Prop) → Prop} (q : M.walk .enum ds h QW) : ∃ p xs, ds = [.ref p] ∧ h p = some (.lst xs) ∧ QW (M.enumL 0 xs) fun h' => h' p = some (.lst xs) := by
  match ds with
  | [] => exact False.elim q
  | [d] => cases d with
    | ref p =>
      simp only [M.walk] at q
      cases e : h p with
      | none => rw [e] at q; exact q.elim
      | some o => rw [e] at q; cases o with
        | lst xs => exact ⟨p, xs, rfl, e, q⟩
        | _ => exact q.elim
    | _ => exact False.elim q
  | d :: e :: r => cases d <;> exact False.elim q
theorem i_enum {p tpos : Pos} {elts : List Expr} {kk : Nat} (hg : Gl X "enumerate") (hm : X.mg "enumerate" = none) (hs : starEach [a] X.env = [(false, eval a X.env)]) (ha : PE X a (lift X.F wa)) :
    PI X (.Tuple elts kk tpos) (.Call (.Name "enumerate" p) [a] [] pos) (liftI X.F .enum fun σ h Q => wa σ h fun d h1 => Q [d] h1) := by
  refine PI.imp' (pi_enum hg hm (pa_cons ha pa_nil hs) hs) fun σ H R ⟨σa, h, Qd, rs, rh, q, k⟩ => ?_
  refine lift_go rs rh q fun d h1 v H1 q1 f1 r1 rh1 _ => ?_
  obtain ⟨QW, hw, kk⟩ := k _ _ q1
  obtain ⟨p, xs, e, e1, hw2⟩ := walk_enum_inv hw
  cases e
  cases (show v = _ from r1)
  obtain ⟨vs, e2, rr⟩ := rh1 p _ e1
  exact ⟨p, vs, rfl, SqL.of e2, kk _ _ _ _ hw2 f1 rh1 walks_enum⟩

/-! ### targets -/
def gNames : List Nat → TGs
  | [] => gNil
  | i :: is => gCons (gName i) (gNames is)
def gOf (K : Fr) : M.Tgt → TG
  | .nm i => gName i
  | .tp ts => gTup K ts.length (gNames ts)
theorem rs_set {i : Nat} {d : SD} {v : V} (rs : RS K H σ σa) (r : Rep K H d v) : RS K H (σ.set i (some v)) (σa.set i (some d)) := by
  refine ⟨by simpa using rs.1, fun j e q => ?_⟩
  by_cases z : i = j
  · subst z
    by_cases hl : i < σa.length
    · rw [List.getElem?_set_self hl] at q
      cases q
      exact ⟨v, by rw [List.getElem?_set_self (by rw [rs.1]; exact hl)], r⟩
    · rw [List.getElem?_eq_none (by simpa using hl)] at q; cases q
  · rw [List.getElem?_set_ne z] at q
    obtain ⟨u, e1, e2⟩ := rs.2 j e q
    exact ⟨u, by rw [List.getElem?_set_ne z]; exact e1, e2⟩
theorem setTs_ok : ∀ {is : List Nat} {ds : List SD} {vs : List V} {σ : L2.St} {σa σb : M.St} {Q : L2.St → Hp → Prop}, M.setT.setTs is ds σa = some σb → RS K H σ σa → Reps K H ds vs → (∀ σ', RS K H σ' σb → Q σ' H) → gNames is vs σ H Q
  | [], [], vs, σ, σa, σb, Q, e, rs, r, k => by
    simp only [M.setT.setTs, Option.some.injEq] at e
    subst e
    exact ⟨r, k σ rs⟩
  | [], _ :: _, vs, σ, σa, σb, Q, e, _, _, _ => by simp [M.setT.setTs] at e
  | _ :: _, [], vs, σ, σa, σb, Q, e, _, _, _ => by simp [M.setT.setTs] at e
  | i :: is, d :: ds, vs, σ, σa, σb, Q, e, rs, ⟨v, r, ev, r1, r2⟩, k => by
    simp only [M.setT.setTs] at e
    exact ⟨v, r, ev, setTs_ok e (rs_set rs r1) r2 k⟩
theorem setTs_len : ∀ {is : List Nat} {ds : List SD} {σa σb : M.St}, M.setT.setTs is ds σa = some σb → is.length = ds.length
  | [], [], _, _, _ => rfl
  | [], _ :: _, _, _, e => by simp [M.setT.setTs] at e
  | _ :: _, [], _, _, e => by simp [M.setT.setTs] at e
  | i :: is, d :: ds, _, _, e => by simp only [M.setT.setTs] at e; simp [setTs_len e]
theorem setT_ok {t : M.Tgt} {d : SD} {v : V} {σb : M.St} {Q : L2.St → Hp → Prop} (e : M.setT t d σa = some σb) (rs : RS K H σ σa) (r : Rep K H d v) (k : ∀ σ', RS K H σ' σb → Q σ' H) : gOf K t v σ H Q := by
  cases t with
  | nm i =>
    simp only [M.setT, Option.some.injEq] at e
    subst e
    exact k _ (rs_set rs r)
  | tp ts =>
    cases d with
    | tup ds =>
      obtain ⟨ad, vs, ev, t, rr⟩ := r
      exact ⟨ad, vs, ev, t.imp .inl id, by rw [rr.length, setTs_len e], setTs_ok e rs rr k⟩
    | _ => simp [M.setT] at e
theorem wipe_rs (rs : RS K H σ σa) : ∀ vs : List Nat, RS K H (wipe σ vs) (M.forget σa vs)
  | [] => rs
  | v :: vs => by
    have ih := wipe_rs rs vs
    unfold wipe M.forget
    refine ⟨by simpa using ih.1, fun j e q => ?_⟩
    by_cases z : v = j
    · subst z
      by_cases hl : v < (M.forget σa vs).length
      · rw [List.getElem?_set_self hl] at q; cases q
      · rw [List.getElem?_eq_none (by simpa using hl)] at q; cases q
    · rw [List.getElem?_set_ne z] at q
      obtain ⟨u, e1, e2⟩ := ih.2 j e q
      exact ⟨u, by rw [List.getElem?_set_ne z]; exact e1, e2⟩
/-- storing to a comprehension's own names, then forgetting them -/
theorem wipe_set {i : Nat} {v : Option V} : ∀ {vs : List Nat} {σ : L2.St}, i ∈ vs → wipe (σ.set i v) vs = wipe σ vs
  | j :: vs, σ, hm => by
    unfold wipe
    by_cases z : i ∈ vs
    · rw [wipe_set z]
    · have e : j = i := by
        rcases List.mem_cons.mp hm with e | e
        · exact e.symm
        · exact absurd e z
      subst e
      have : ∀ {ws : List Nat} {τ : L2.St}, j ∉ ws → wipe (τ.set j v) ws = (wipe τ ws).set j v := by
        intro ws
        induction ws with
        | nil => intro τ _; rfl
        | cons k ws ih =>
          intro τ hk
          unfold wipe
          rw [ih (fun q => hk (List.mem_cons_of_mem _ q)), List.set_comm]
          exact fun q => hk (by rw [← q]; exact List.mem_cons_self)
      rw [this z, List.set_set]
theorem wipe_wipe : ∀ {vs : List Nat} {σ : L2.St}, wipe (wipe σ vs) vs = wipe σ vs := by
  have gen : ∀ {ws vs : List Nat} {σ : L2.St}, (∀ i ∈ ws, i ∈ vs) → wipe (wipe σ ws) vs = wipe σ vs := by
    intro ws
    induction ws with
    | nil => intro vs σ _; rfl
    | cons k ws ih =>
      intro vs σ hk
      show wipe ((wipe σ ws).set k none) vs = _
      rw [wipe_set (hk k List.mem_cons_self), ih (fun i hi => hk i (List.mem_cons_of_mem _ hi))]
  intro vs σ
  exact gen fun i hi => hi
def tgtIn (own : List Nat) : M.Tgt → Bool
  | .nm i => own.contains i
  | .tp ts => ts.all fun i => own.contains i
theorem gNames_wipe {own : List Nat} : ∀ {is : List Nat} {vs : List V} {σ : L2.St} {Q : L2.St → Hp → Prop}, (is.all fun i => own.contains i) = true → gNames is vs σ H Q → gNames is vs σ H fun σ' H' => wipe σ' own = wipe σ own ∧ Q σ' H'
  | [], _, _, _, _, ⟨e, q⟩ => ⟨e, rfl, q⟩
  | i :: is, vs, σ, Q, hi, ⟨v, r, e, q⟩ => by
    rw [List.all_cons] at hi
    obtain ⟨h1, h2⟩ := ba hi
    refine ⟨v, r, e, ?_⟩
    have q' := gNames_wipe h2 (show gNames is r (σ.set i (some v)) H Q from q)
    have e2 : wipe (σ.set i (some v)) own = wipe σ own := wipe_set (by simpa using h1)
    rw [e2] at q'
    exact q'
theorem gOf_wipe {own : List Nat} {t : M.Tgt} {v : V} {Q : L2.St → Hp → Prop} (ht : tgtIn own t = true) (q : gOf K t v σ H Q) : gOf K t v σ H fun σ' H' => wipe σ' own = wipe σ own ∧ Q σ' H' := by
  cases t with
  | nm i => exact ⟨wipe_set (by simpa [tgtIn] using ht), q⟩
  | tp ts =>
    obtain ⟨ad, xs, e, s, hl, q⟩ := q
    exact ⟨ad, xs, e, s, hl, gNames_wipe ht q⟩

/-! ### a comprehension -/
def tWith (K : Fr) (w : WE) : TT := liftT K w
theorem lc_ok {k : M.Itk} {wsrc : WA} {wif : WE} {welt : WE} {t : M.Tgt} {own : List Nat} {Q : VK} (ht : tgtIn own t = true)
    (q : lift K (fun σ h Q => wsrc σ h fun ds h1 => M.walk k ds h1 fun xs ok =>
      M.compW xs ok (fun x h2 yes no => match M.setT t x (M.forget σ own) with
        | some σ' => wif σ' h2 fun c h3 => match c with
          | .bl true => welt σ' h3 yes
          | .bl false => no h3
          | _ => False
        | none => False) (fun acc h2 => ∀ r, h2 r = none → Q (.ref r) (M.up h2 r (.lst acc))) h1) σ H Q) :
    tLc (liftI K k wsrc) (gOf K t) (liftT K wif) (lift K welt) own σ H Q := by
  obtain ⟨σa, h, Qa, rs, rh, q, kk⟩ := q
  have hl := line_eq
  refine ⟨σa, h, _, rs, rh, q, fun ds h1 q1 => ⟨_, q1, fun xs ok J H1 cw f1 rh1 wk => ?_⟩⟩
  intro D hD
  obtain ⟨P, p0, pok, hz, step, done⟩ := cw
  have rs1 := rs.kp (f1.kp rh)
  have kp0 : Kp H1 (upd H1 D (.lst [])) := kp_new hD
  have hD1 : h1 D = none := rh1.none hD
  -- the invariant: the new list is hidden
  let W : Nat → Nat → Hp → Prop := fun i m H' => m = xs.length - i ∧ i ≤ xs.length ∧ ∃ h' acc av, RH K H' h' ∧ Frm (upd H1 D (.lst [])) h1 (upd H' D (.lst [])) h' ∧ H' D = some (.lst av) ∧ h' D = none ∧ Reps K H' acc av ∧ P i acc h'
  have kpW : ∀ {H' : Hp} {h' : M.AH} {av : List V}, Frm (upd H1 D (.lst [])) h1 (upd H' D (.lst [])) h' → RH K (upd H1 D (.lst [])) h1 → Kp H1 H' := fun {H' h' av} f r => by
    refine ⟨fun ad vs e => ?_, fun ad ob u e => ?_⟩
    · have ne := ne_of_none e hD
      have := (f.kp r).1 ad vs (by rw [upd_ne ne]; exact e)
      rw [upd_ne ne] at this; exact this
    · have ne := ne_of_none e hD
      have := (f.kp r).2 ad ob u (by rw [upd_ne ne]; exact e)
      rw [upd_ne ne] at this; exact this
  have rh1' : RH K (upd H1 D (.lst [])) h1 := rh_hid rh1 hD
  refine ⟨W, ⟨xs.length, by simp, Nat.zero_le _, h1, [], [], rh1', by rw [upd_upd]; exact .refl, upd_same, hD1, rfl, p0⟩, ?_⟩
  rintro i m H' ⟨rfl, hi, h', acc, av, rh', f', hDv, hDn, ra, p⟩
  obtain ⟨hok, hacc⟩ := pok i acc h' p
  have kp' : Kp H1 H' := kpW (av := av) f' rh1'
  have fz' : Fz H1 H' := fun ad ob u e => by
    have ne := ne_of_none e hD
    have := (f'.fz rh1') ad ob u (by rw [upd_ne ne]; exact e)
    rw [upd_ne ne] at this; exact this
  obtain ⟨wg, ws, wy⟩ := wk i H' h' kp' fz' rh' hok
  have frmBack : ∀ {H2 : Hp} {h2 : M.AH}, Frm H' h' H2 h2 → Frm (upd H1 D (.lst [])) h1 (upd H2 D (.lst [])) h2 := fun {H2 h2} f2 ad o e n => by
    obtain ⟨e1, n1⟩ := f' ad o e n
    by_cases z : ad = D
    · subst z
      obtain ⟨_, n2⟩ := f2 ad _ hDv (.none hDn)
      rw [upd_same] at e1
      exact ⟨by rw [upd_same]; exact e1, n2.trans n1⟩
    · rw [upd_ne z] at e1 ⊢
      obtain ⟨e2, n2⟩ := f2 ad o e1 (n.eq n1)
      exact ⟨e2, n2.trans n1⟩
  by_cases hlt : i < xs.length
  · refine .inr ⟨wg hlt, fun H2 => W (i + 1) (xs.length - (i + 1)) H2, fun H2 hw => ⟨_, by omega, hw⟩, fun x H2 y => ?_⟩
    obtain ⟨rx, f2, rh2⟩ := wy x H2 y _ (List.getElem?_eq_getElem hlt)
    have sp := step i _ acc h' (List.getElem?_eq_getElem hlt) p
    dsimp only at sp
    cases e : M.setT t xs[i] (M.forget σa own) with
    | none => rw [e] at sp; exact sp.elim
    | some σb =>
      rw [e] at sp
      have rsw : RS K H2 (wipe σ own) (M.forget σa own) := wipe_rs ((rs1.kp kp').kp (f2.kp rh')) own
      have g := setT_ok (Q := fun σ2 H3 => H3 = H2 ∧ RS K H2 σ2 σb) e rsw rx fun σ' r' => ⟨rfl, r'⟩
      have g2 := gOf_wipe ht g
      have gmono : ∀ {Q1 Q2 : L2.St → Hp → Prop} {τ : L2.St} {v : V}, (∀ s Hh, Q1 s Hh → Q2 s Hh) → gOf K t v τ H2 Q1 → gOf K t v τ H2 Q2 := by
        intro Q1 Q2 τ v imp g
        have gn : ∀ {is : List Nat} {vs : List V} {τ : L2.St}, gNames is vs τ H2 Q1 → gNames is vs τ H2 Q2 := by
          intro is
          induction is with
          | nil => intro vs τ ⟨e, q⟩; exact ⟨e, imp _ _ q⟩
          | cons j js ih => intro vs τ ⟨v, r, e, q⟩; exact ⟨v, r, e, ih q⟩
        cases t with
        | nm j => exact imp _ _ g
        | tp ts => obtain ⟨ad, ys, e1, e2, e3, g⟩ := g; exact ⟨ad, ys, e1, e2, e3, gn g⟩
      refine gmono ?_ g2
      rintro σ2 H3 ⟨wp, rfl, rsb⟩
      refine ⟨wp.trans wipe_wipe, ?_⟩
      refine ⟨σb, h', _, rsb, rh2, sp, fun c h3 q3 => ?_⟩
      have fD : ∀ {H4 : Hp} {h4 : M.AH}, Frm H3 h' H4 h4 → Frm H' h' H4 h4 := fun f4 => f2.trans f4
      cases c with
      | bl b =>
        refine ⟨b, rfl, fun H4 f4 rh4 => ?_⟩
        cases b with
        | true =>
          rw [if_pos rfl]
          refine lift_go (rsb.kp (f4.kp rh2)) rh4 q3 fun d h5 v H5 q5 f5 r5 rh5 _ => ?_
          have ft := (fD f4).trans f5
          obtain ⟨e5, n5⟩ := ft D _ hDv (.none hDn)
          rw [hDn] at n5
          have ra5 := ra.kp (ft.kp rh')
          have ln := ra.length
          refine ⟨av, e5, by omega, rfl, by omega, h5, acc ++ [d], av ++ [v], ?_, ?_, upd_same, n5, ?_, q5⟩
          · refine fun ad o ea => (rh5 ad o ea).kp ?_ ?_
            · refine ⟨fun ad vs e => ?_, fun ad ob u e => ?_⟩
              · rw [upd_ne (fun z => by subst z; rw [e5] at e; cases e)]; exact e
              · rw [upd_ne (fun z => by subst z; rw [e5] at e; cases e)]; exact e
            · exact upd_ne (fun z => by subst z; rw [n5] at ea; cases ea)
          · rw [upd_upd]; exact frmBack ft
          · have kp5 : Kp H5 (upd H5 D (.lst (av ++ [v]))) := by
              refine ⟨fun ad vs e => ?_, fun ad ob u e => ?_⟩
              · rw [upd_ne (fun z => by subst z; rw [e5] at e; cases e)]; exact e
              · rw [upd_ne (fun z => by subst z; rw [e5] at e; cases e)]; exact e
            exact (ra5.append (.one r5)).kp kp5
        | false =>
          rw [if_neg Bool.false_ne_true]
          have ft := fD f4
          obtain ⟨e4, n4⟩ := ft D _ hDv (.none hDn)
          rw [hDn] at n4
          exact ⟨rfl, by omega, h3, acc, av, rh4, frmBack ft, e4, n4, ra.kp (ft.kp rh'), q3⟩
      | _ => exact q3.elim
  · have e : i = xs.length := by omega
    subst e
    refine .inl ⟨ws (Nat.le_refl _), ?_⟩
    have dn := done acc h' p D hDn
    refine kk _ _ _ _ dn (fun ad o e n => ?_) rfl (fun ad o e => ?_)
    · obtain ⟨e1, n1⟩ := f1 ad o e n
      have ne := ne_of_none e1 hD
      obtain ⟨e2, n2⟩ := f' ad o (by rw [upd_ne ne]; exact e1) (n.eq n1)
      rw [upd_ne ne] at e2
      exact ⟨e2, by rw [up_ne ne, n2, n1]⟩
    · by_cases z : ad = D
      · subst z
        rw [up_same] at e
        cases e
        exact ⟨av, hDv, ra⟩
      · rw [up_ne z] at e
        exact rh' ad o e

/-! ### statements -/
structure KontS (K : Fr) (H : Hp) (h : M.AH) (R : M.Ends) (D : L2.Ends) : Prop where
  nx : ∀ σa h' σ H', R.nx σa h' → Frm H h H' h' → RS K H' σ σa → RH K H' h' → D.nx σ H'
  rt : Kont K H h R.rt D.rt
  bk : ∀ σa h' σ H', R.bk σa h' → Frm H h H' h' → RS K H' σ σa → RH K H' h' → D.bk σ H'
  ct : ∀ σa h' σ H', R.ct σa h' → Frm H h H' h' → RS K H' σ σa → RH K H' h' → D.ct σ H'
theorem KontS.go {R : M.Ends} {D : L2.Ends} (k : KontS K H h R D) (f : Frm H h H1 h1) : KontS K H1 h1 R D :=
  ⟨fun σa h' σ H' q f' => k.nx σa h' σ H' q (f.trans f'), k.rt.go f, fun σa h' σ H' q f' => k.bk σa h' σ H' q (f.trans f'), fun σa h' σ H' q f' => k.ct σa h' σ H' q (f.trans f')⟩
abbrev WS := M.Ends → M.St → M.AH → Prop
def liftS (K : Fr) (w : WS) : TS := fun D σ H => ∃ σa h R, RS K H σ σa ∧ RH K H h ∧ w R σa h ∧ KontS K H h R D
theorem _root_.L2.PS.imp {X : L2.Cx} {e : Stmt} {t t' : TS} (a : PS X e t) (i : ∀ D σ H, t' D σ H → t D σ H) : PS X e t' := ⟨fun pins s σ H D I h => a.run pins s σ H D I (i D σ H h)⟩
theorem _root_.L2.PSs.imp {X : L2.Cx} {e : List Stmt} {t t' : TS} (a : PSs X e t) (i : ∀ D σ H, t' D σ H → t D σ H) : PSs X e t' := ⟨fun pins s σ H D I h => a.run pins s σ H D I (i D σ H h)⟩
variable {st : Stmt} {ss : List Stmt} {ws ws2 : WS}
theorem liftS_go {R : M.Ends} {D : L2.Ends} (rs : RS K H σ σa) (rh : RH K H h) (q : ws R σa h) (k : KontS K H h R D) : liftS K ws D σ H := ⟨σa, h, R, rs, rh, q, k⟩
theorem ss_nil : PSs X [] (liftS X.F fun R σ h => R.nx σ h) := pss_nil.imp fun D σ H ⟨σa, h, R, rs, rh, q, k⟩ => k.nx _ _ _ _ q .refl rs rh
theorem ss_cons (h1 : PS X st (liftS X.F ws)) (h2 : PSs X ss (liftS X.F ws2)) : PSs X (st :: ss) (liftS X.F fun R σ h => ws { R with nx := fun σ' h' => ws2 R σ' h' } σ h) := by
  refine (pss_cons h1 h2).imp fun D σ H ⟨σa, h, R, rs, rh, q, k⟩ => ?_
  exact liftS_go rs rh q ⟨fun σb h' σ' H' q' f rs' rh' => liftS_go rs' rh' q' (k.go f), k.rt, k.bk, k.ct⟩
theorem ss_pass : PS X (.Pass pos) (liftS X.F fun R σ h => R.nx σ h) := ps_pass.imp fun D σ H ⟨σa, h, R, rs, rh, q, k⟩ => k.nx _ _ _ _ q .refl rs rh
theorem ss_brk : PS X (.Break pos) (liftS X.F fun R σ h => R.bk σ h) := ps_break.imp fun D σ H ⟨σa, h, R, rs, rh, q, k⟩ => k.bk _ _ _ _ q .refl rs rh
theorem ss_cont : PS X (.Continue pos) (liftS X.F fun R σ h => R.ct σ h) := ps_continue.imp fun D σ H ⟨σa, h, R, rs, rh, q, k⟩ => k.ct _ _ _ _ q .refl rs rh
theorem ss_expr (hs : swapsWith e none pos.line X.env = pure false) (he : PE X e (lift X.F w)) : PS X (.Expr e pos) (liftS X.F fun R σ h => w σ h fun _ h1 => R.nx σ h1) := by
  refine (ps_expr he hs).imp fun D σ H ⟨σa, h, R, rs, rh, q, k⟩ => ?_
  exact lift_go rs rh q fun d h1 v H1 q1 f1 r1 rh1 rs1 => k.nx _ _ _ _ q1 f1 rs1 rh1
theorem ss_ret (he : PE X e (lift X.F w)) : PS X (.Return (some e) pos) (liftS X.F fun R σ h => w σ h R.rt) := by
  refine (ps_ret he).imp fun D σ H ⟨σa, h, R, rs, rh, q, k⟩ => ?_
  exact lift_go rs rh q fun d h1 v H1 q1 f1 r1 rh1 rs1 => k.rt _ _ _ _ q1 f1 r1 rh1
theorem ss_retN : PS X (.Return none pos) (liftS X.F fun R σ h => R.rt .non h) := ps_retN.imp fun D σ H ⟨σa, h, R, rs, rh, q, k⟩ => k.rt _ _ _ _ q .refl rfl rh
theorem ss_ife {ls rs' : List Stmt} (hc : PT X c (liftT X.F wc)) (ha : PSs X ls (liftS X.F ws)) (hb : PSs X rs' (liftS X.F ws2)) : PS X (.If c ls rs' pos) (liftS X.F fun R σ h => wc σ h fun d h1 => match d with
    | .bl b => (match b with
      | true => ws R σ h1
      | false => ws2 R σ h1)
    | _ => False) := by
  refine (ps_if hc ha hb).imp fun D σ H ⟨σa, h, R, rs, rh, q, k⟩ => ?_
  refine ⟨σa, h, _, rs, rh, q, fun d h' q1 => ?_⟩
  cases d with
  | bl b =>
    refine ⟨b, rfl, fun H' f rh' => ?_⟩
    cases b with
    | true => exact liftS_go (rs.kp (f.kp rh)) rh' q1 (k.go f)
    | false => exact liftS_go (rs.kp (f.kp rh)) rh' q1 (k.go f)
  | _ => exact q1.elim
theorem ss_whl (hp : PassesOwn (model X.prog X.w) X.A X.env X.xe) (hc : PT X c (liftT X.F wc)) (hb : PSs X ss (liftS X.F ws)) : PS X (.While c ss [] pos) (liftS X.F fun R σ h => ∃ W : Nat → M.St → M.AH → Prop, (∃ m, W m σ h) ∧ ∀ m σ h, W m σ h → wc σ h fun d h1 => match d with
    | .bl b => (match b with
      | true => ws { nx := fun σ' h' => ∃ m', m' < m ∧ W m' σ' h', ct := fun σ' h' => ∃ m', m' < m ∧ W m' σ' h', bk := R.nx, rt := R.rt } σ h1
      | false => R.nx σ h1)
    | _ => False) := by
  refine (ps_while hp hc hb).imp fun D σ H ⟨σa, h, R, rs, rh, ⟨W, ⟨m, w0⟩, step⟩, k⟩ => ?_
  refine ⟨fun m σ H' => ∃ σa h', RS X.F H' σ σa ∧ RH X.F H' h' ∧ Frm H h H' h' ∧ W m σa h', ⟨m, σa, h, rs, rh, .refl, w0⟩, ?_⟩
  rintro m σ H' ⟨σa, h', rs, rh, f, w⟩
  refine ⟨σa, h', _, rs, rh, step m σa h' w, fun d h1 q1 => ?_⟩
  cases d with
  | bl b =>
    refine ⟨b, rfl, fun H1 f1 rh1 => ?_⟩
    have rs1 := rs.kp (f1.kp rh)
    cases b with
    | true =>
      refine iteT ?_
      refine ⟨fun σ2 H2 => ∃ m', m' < m ∧ ∃ σa h', RS X.F H2 σ2 σa ∧ RH X.F H2 h' ∧ Frm H h H2 h' ∧ W m' σa h', fun σ2 H2 z => z, ?_⟩
      refine liftS_go rs1 rh1 q1 ⟨?_, k.rt.go (f.trans f1), ?_, ?_⟩
      · rintro σb h2 σ2 H2 ⟨m', hm, w'⟩ f2 rs2 rh2
        exact ⟨m', hm, σb, h2, rs2, rh2, (f.trans f1).trans f2, w'⟩
      · intro σb h2 σ2 H2 z f2 rs2 rh2
        exact k.nx _ _ _ _ z ((f.trans f1).trans f2) rs2 rh2
      · rintro σb h2 σ2 H2 ⟨m', hm, w'⟩ f2 rs2 rh2
        exact ⟨m', hm, σb, h2, rs2, rh2, (f.trans f1).trans f2, w'⟩
    | false =>
      refine iteF ?_
      exact k.nx _ _ _ _ q1 (f.trans f1) rs1 rh1
  | _ => exact q1.elim
theorem gOf_mono {t : M.Tgt} {Q1 Q2 : L2.St → Hp → Prop} {τ : L2.St} {v : V} (imp : ∀ s, Q1 s H → Q2 s H) (g : gOf K t v τ H Q1) : gOf K t v τ H Q2 := by
  have gn : ∀ {is : List Nat} {vs : List V} {τ : L2.St}, gNames is vs τ H Q1 → gNames is vs τ H Q2 := by
    intro is
    induction is with
    | nil => intro vs τ ⟨e, q⟩; exact ⟨e, imp _ q⟩
    | cons j js ih => intro vs τ ⟨v, r, e, q⟩; exact ⟨v, r, e, ih q⟩
  cases t with
  | nm j => exact imp _ g
  | tp ts => obtain ⟨ad, ys, e1, e2, e3, g⟩ := g; exact ⟨ad, ys, e1, e2, e3, gn g⟩
theorem ss_for {k : M.Itk} {t : M.Tgt} {wsrc : WA} {iter : Expr} (hp : PassesOwn (model X.prog X.w) X.A X.env X.xe) (hcalm : X.calm = true) (hi : PI X tg iter (liftI X.F k wsrc)) (hg : PG X tg (gOf X.F t)) (hb : PSs X ss (liftS X.F ws)) (hs : ∀ x, foldedSetIterable iter X.env x = pure x) :
    PS X (.For tg iter ss [] pos) (liftS X.F fun R σ h => wsrc σ h fun ds h1 => M.walk k ds h1 fun xs ok =>
      M.loopW xs ok (fun x σ h P => match M.setT t x σ with
        | some σ' => ws { nx := P, ct := P, bk := R.nx, rt := R.rt } σ' h
        | none => False) R.nx σ h1) := by
  refine (ps_for hp hcalm hi hg hb hs).imp fun D σ H ⟨σa, h, R, rs, rh, q, kk⟩ => ?_
  refine ⟨σa, h, _, rs, rh, q, fun ds h1 q1 => ⟨_, q1, fun xs ok J H1 lw f1 rh1 wk => ?_⟩⟩
  obtain ⟨P, p0, pok, step, done⟩ := lw
  let W : Nat → Nat → L2.St → Hp → Prop := fun i m σ2 H' => m = xs.length - i ∧ i ≤ xs.length ∧ ∃ σb h', RS X.F H' σ2 σb ∧ RH X.F H' h' ∧ Frm H1 h1 H' h' ∧ P i σb h'
  refine ⟨W, ⟨xs.length, by simp, Nat.zero_le _, σa, h1, rs.kp (f1.kp rh), rh1, .refl, p0⟩, ?_⟩
  rintro i m σ2 H' ⟨rfl, hi, σb, h', rs2, rh2, f2, p⟩
  have hok := pok i σb h' p
  obtain ⟨wg, wst, wy⟩ := wk i H' h' (f2.kp rh1) (f2.fz rh1) rh2 hok
  by_cases hlt : i < xs.length
  · refine .inr ⟨wg hlt, fun σ3 H3 => W (i + 1) (xs.length - (i + 1)) σ3 H3, fun σ3 H3 z => ⟨_, by omega, z⟩, fun x H3 y => ?_⟩
    obtain ⟨rx, f3, rh3⟩ := wy x H3 y _ (List.getElem?_eq_getElem hlt)
    have sp := step i _ σb h' (List.getElem?_eq_getElem hlt) p
    dsimp only at sp
    cases e : M.setT t xs[i] σb with
    | none => rw [e] at sp; exact sp.elim
    | some σc =>
      rw [e] at sp
      have rs3 := rs2.kp (f3.kp rh2)
      refine setT_ok e rs3 rx fun σ4 rs4 => ?_
      have ft := (f1.trans f2).trans f3
      refine liftS_go rs4 rh3 sp ⟨?_, kk.rt.go ft, ?_, ?_⟩
      · intro σd h4 σ5 H5 z f5 rs5 rh5
        exact ⟨rfl, by omega, σd, h4, rs5, rh5, (f2.trans f3).trans f5, z⟩
      · intro σd h4 σ5 H5 z f5 rs5 rh5
        exact kk.nx _ _ _ _ z (ft.trans f5) rs5 rh5
      · intro σd h4 σ5 H5 z f5 rs5 rh5
        exact ⟨rfl, by omega, σd, h4, rs5, rh5, (f2.trans f3).trans f5, z⟩
  · have e : i = xs.length := by omega
    subst e
    exact .inl ⟨wst (Nat.le_refl _), kk.nx _ _ _ _ (done _ _ p) (f1.trans f2) rs2 rh2⟩
theorem ss_asg {t : M.Tgt} (he : PE X e (lift X.F w)) (hg : PG X tg (gOf X.F t)) (hs : swapsWithSole [tg] e pos.line X.env = pure false) (hw : swappedStores [tg] e X.env = pure none) (h1 : (assignEach [tg] X.env).map (·.2) = [assign tg X.env]) :
    PS X (.Assign [tg] e pos) (liftS X.F fun R σ h => w σ h fun d h1 => match M.setT t d σ with | some σ' => R.nx σ' h1 | none => False) := by
  refine (ps_asg he hg hs hw h1).imp fun D σ H ⟨σa, h, R, rs, rh, q, k⟩ => ?_
  refine lift_go rs rh q fun d h1 v H1 q1 f1 r1 rh1 rs1 => ?_
  cases e1 : M.setT t d σa with
  | none => rw [e1] at q1; exact q1.elim
  | some σb =>
    rw [e1] at q1
    exact setT_ok e1 rs1 r1 fun σ' rs' => k.nx _ _ _ _ q1 f1 rs' rh1
theorem ss_six {o i : Expr} {wo wi : WE} {p' : Pos} (hu : X.A.units + 200 < cLine) (he : PE X e (lift X.F w)) (ho : PE X o (lift X.F wo)) (hi : PE X i (lift X.F wi))
    (ha : ∀ v, assign (.Subscript o i p') X.env v = (do
      let ov ← holding [v] (eval o X.env)
      let iv ← holding [v, ov] (eval i X.env)
      standAt p'
      holding [v, ov, iv] (setItem ov iv v)
      release [v, ov, iv] [])) (hs : swapsWithSole [.Subscript o i p'] e pos.line X.env = pure false) (hw : swappedStores [.Subscript o i p'] e X.env = pure none) (h1 : (assignEach [.Subscript o i p'] X.env).map (·.2) = [assign (.Subscript o i p') X.env]) :
    PS X (.Assign [.Subscript o i p'] e pos) (liftS X.F fun R σ h => w σ h fun v h1 => wo σ h1 fun x h2 => wi σ h2 fun y h3 => M.opSet x y v h3 fun h4 => R.nx σ h4) := by
  refine (ps_asg he (pg_sub ho hi (set_all (by omega)) ha) hs hw h1).imp fun D σ H ⟨σa, h, R, rs, rh, q, k⟩ => ?_
  refine lift_go rs rh q fun dv h1 v H1 q1 f1 r1 rh1 rs1 => lift_go rs1 rh1 q1 fun dx h2 x H2 q2 f2 r2 rh2 rs2 => lift_go rs2 rh2 q2 fun dy h3 y H3 q3 f3 r3 rh3 rs3 => ?_
  refine set_ok rh3 (r2.kp (f3.kp rh2)) r3 ((r1.kp (f2.kp rh1)).kp (f3.kp rh2)) q3 fun h4 H4 q4 f4 rh4 => ?_
  exact k.nx _ _ _ _ q4 (((f1.trans f2).trans f3).trans f4) (rs3.kp (f4.kp rh3)) rh4
def iop : M.Bop → Operator := bop
theorem op_iadd : OpR X (inplaceOp .Add) (fun x y H Q => (rI0 fun i j => .int (i + j)) x y H Q ∨ rAddS x y H Q) := iop_add.or iop_add_str
end
end Snd
end
section
/-! Sound6b: locked dicts and their walks; reversed; zip. -/
namespace Snd
open PySem L2 PySem.Spec PyProof.Rows
section
variable {X : L2.Cx} {K : Fr} {σ : L2.St} {σa : M.St} {H H1 : Hp} {h h1 : M.AH} {w wa wb wc : WE} {Qa : M.VQ} {a b c e : Expr} {pos : Pos} {tg : Expr}
theorem walks_rev {p : Addr} {xs : List SD} {vs : List V} (e0 : H1 p = some (.lst vs)) (r0 : Reps K H1 xs vs) : Walks K H1 (Itv K p vs.length) xs.reverse (fun h' => h' p = some (.lst xs)) := by
  intro i H h kp fz rh ok
  obtain ⟨ws, e, r⟩ := rh p _ ok
  have ln := r.length
  have ln0 := r0.length
  refine ⟨fun hi => ⟨by simp at hi; omega, ws, ws[vs.length - 1 - i]'(by simp at hi; omega), SqL.of e, by simp⟩, fun hi => by simp at hi; show vs.length ≤ i; omega, ?_⟩
  rintro x H' ⟨rfl, y⟩ d hd
  have hi : i < xs.length := by have := (List.getElem?_eq_some_iff.mp hd).1; simpa using this
  rw [List.getElem?_reverse hi] at hd
  obtain ⟨v, h1, h2⟩ := r.get hd
  have := y ws (SqL.of e)
  rw [show vs.length - 1 - i = xs.length - 1 - i by omega, h1] at this
  cases this
  exact ⟨h2, .refl, rh⟩
theorem walks_revT {p : Addr} {xs : List SD} {vs : List V} (t : H1 p = some (.tup vs) ∨ KTup K p vs) (r : Reps K H1 xs vs) : Walks K H1 (RT.ItvT K p vs.length) xs.reverse (fun _ => True) := by
  intro i H h kp fz rh ok
  have ln := r.length
  have hs : SqT K H p vs := (t.imp (kp.1 _ _) id).imp .inl id
  refine ⟨fun hi => ⟨by simp at hi; omega, vs, vs[vs.length - 1 - i]'(by simp at hi; omega), hs, by simp⟩, fun hi => by simp at hi; show vs.length ≤ i; omega, ?_⟩
  rintro x H' ⟨rfl, y⟩ d hd
  have hi : i < xs.length := by have := (List.getElem?_eq_some_iff.mp hd).1; simpa using this
  rw [List.getElem?_reverse hi] at hd
  obtain ⟨v, h1, h2⟩ := (r.kp kp).get hd
  have := y vs hs
  rw [show vs.length - 1 - i = xs.length - 1 - i by omega, h1] at this
  cases this
  exact ⟨h2, .refl, rh⟩
theorem zipL_get : ∀ (xs ys : List SD) (i : Nat) (d : SD), (M.zipL xs ys)[i]? = some d → ∃ x y, xs[i]? = some x ∧ ys[i]? = some y ∧ d = .tup [x, y]
  | [], _, i, d, e => by simp [M.zipL] at e
  | _ :: _, [], i, d, e => by simp [M.zipL] at e
  | x :: xs, y :: ys, 0, d, e => by simp [M.zipL] at e; exact ⟨x, y, rfl, rfl, e.symm⟩
  | x :: xs, y :: ys, i + 1, d, e => by
    obtain ⟨a, b, h1, h2, h3⟩ := zipL_get xs ys i d (by simpa [M.zipL] using e)
    exact ⟨a, b, by simpa using h1, by simpa using h2, h3⟩
theorem zipL_len : ∀ (xs ys : List SD), (M.zipL xs ys).length = min xs.length ys.length
  | [], _ => by simp [M.zipL]
  | _ :: _, [] => by simp [M.zipL]
  | x :: xs, y :: ys => by simp [M.zipL, zipL_len xs ys]
theorem walks_zipT {p q : Addr} {xs ys : List SD} {vs ws : List V} (t1 : H1 p = some (.tup vs) ∨ KTup K p vs) (t2 : H1 q = some (.tup ws) ∨ KTup K q ws) (r1 : Reps K H1 xs vs) (r2 : Reps K H1 ys ws) : Walks K H1 (RZ.ItzT K p q) (M.zipL xs ys) (fun _ => True) := by
  intro i H h kp fz rh ok
  have ln1 := r1.length
  have ln2 := r2.length
  have lz := zipL_len xs ys
  have hs1 : SqT K H p vs := (t1.imp (kp.1 _ _) id).imp .inl id
  have hs2 : SqT K H q ws := (t2.imp (kp.1 _ _) id).imp .inl id
  refine ⟨fun hi => ⟨vs, ws, vs[i]'(by omega), ws[i]'(by omega), hs1, hs2, by simp, by simp⟩, fun hi => ⟨vs, ws, hs1, hs2, by omega⟩, ?_⟩
  rintro x H' ⟨T, y, z, rfl, hn, rfl, hy, hz⟩ d hd
  obtain ⟨d1, d2, g1, g2, rfl⟩ := zipL_get xs ys i d hd
  obtain ⟨v1, g3, g4⟩ := (r1.kp kp).get g1
  obtain ⟨v2, g5, g6⟩ := (r2.kp kp).get g2
  have e1 := hy vs hs1
  have e2 := hz ws hs2
  rw [g3] at e1; cases e1
  rw [g5] at e2; cases e2
  exact ⟨⟨T, _, rfl, .inl upd_same, Reps.cons (g4.kp (kp_new hn)) (.one (g6.kp (kp_new hn)))⟩, frm_hid hn, rh_hid rh hn⟩
section
variable {p : Addr} {od : Obj} {kvs : List (SD × SD)} {ps : List (Key × V)}
theorem pr_get (pr : Paired (PR K H R0) kvs ps) {i : Nat} {x : SD × SD} (e : kvs[i]? = some x) : ∃ q, ps[i]? = some q ∧ R0 x.1 q.1 ∧ Rep K H x.2 q.2 := by
  obtain ⟨y, h1, h2⟩ := LiI.paired_get pr e
  exact ⟨y, h1, h2.1, h2.2⟩
theorem R0.rep {d : SD} {k : Key} (r : R0 d k) : Rep K H d (kV k) := by
  obtain ⟨e, s⟩ := r
  cases d <;> simp [keyV] at e
  · subst e; exact rfl
  · subst e; exact ⟨rfl, s _ rfl⟩
theorem walks_keys (e0 : H1 p = some (.frz od (.dK ps))) (pr : Paired (PR K H1 R0) kvs ps) : Walks K H1 (Itk p od ps) (kvs.map (·.1)) (fun _ => True) := by
  intro i H h kp fz rh ok
  have ln := Paired.length pr
  have e := fz _ _ _ e0
  refine ⟨fun hi => ⟨e, by simp at hi; omega⟩, fun hi => ⟨e, by simp at hi; omega⟩, ?_⟩
  rintro x H' ⟨rfl, k, v, h1, rfl⟩ d hd
  rw [List.getElem?_map] at hd
  cases hk : kvs[i]? with
  | none => rw [hk] at hd; cases hd
  | some kv =>
    rw [hk] at hd
    cases hd
    obtain ⟨q, g1, g2, g3⟩ := pr_get pr hk
    rw [g1] at h1; cases h1
    exact ⟨g2.rep, .refl, rh⟩
theorem walks_vals (e0 : H1 p = some (.frz od (.dK ps))) (pr : Paired (PR K H1 R0) kvs ps) : Walks K H1 (Itd p od ps) (kvs.map (·.2)) (fun _ => True) := by
  intro i H h kp fz rh ok
  have ln := Paired.length pr
  have e := fz _ _ _ e0
  refine ⟨fun hi => ⟨e, by simp at hi; omega⟩, fun hi => ⟨e, by simp at hi; omega⟩, ?_⟩
  rintro x H' ⟨rfl, k, h1⟩ d hd
  rw [List.getElem?_map] at hd
  cases hk : kvs[i]? with
  | none => rw [hk] at hd; cases hd
  | some kv =>
    rw [hk] at hd
    cases hd
    obtain ⟨q, g1, g2, g3⟩ := pr_get pr hk
    rw [g1] at h1; cases h1
    exact ⟨g3.kp kp, .refl, rh⟩
theorem walks_items (e0 : H1 p = some (.frz od (.dK ps))) (pr : Paired (PR K H1 R0) kvs ps) : Walks K H1 (Iti p od ps) (kvs.map fun kv => .tup [kv.1, kv.2]) (fun _ => True) := by
  intro i H h kp fz rh ok
  have ln := Paired.length pr
  have e := fz _ _ _ e0
  refine ⟨fun hi => ⟨e, by simp at hi; omega⟩, fun hi => ⟨e, by simp at hi; omega⟩, ?_⟩
  rintro x H' ⟨T, k, v, h1, rfl, hn, rfl⟩ d hd
  rw [List.getElem?_map] at hd
  cases hk : kvs[i]? with
  | none => rw [hk] at hd; cases hd
  | some kv =>
    rw [hk] at hd
    cases hd
    obtain ⟨q, g1, g2, g3⟩ := pr_get pr hk
    rw [g1] at h1; cases h1
    exact ⟨⟨T, _, rfl, .inl upd_same, Reps.cons g2.rep (.one ((g3.kp kp).kp (kp_new hn)))⟩, frm_hid hn, rh_hid rh hn⟩
end
theorem walk_dct_inv {k : M.Itk} {ds : List SD} {f : List (SD × SD) → List SD} {QW : List SD → (M.AH → Prop) → Prop} (hk : ∀ d, M.walk k [d] h QW = match d with | .ref p => (match h p with | some (.rdct _ kvs) => QW (f kvs) fun _ => True | _ => False) | _ => False) {d : SD} (q : M.walk k [d] h QW) :
    ∃ p kd kvs, d = .ref p ∧ h p = some (.rdct kd kvs) ∧ QW (f kvs) fun _ => True := by
  rw [hk] at q
  cases d with
  | ref p =>
    simp only at q
    cases e : h p with
    | none => rw [e] at q; exact q.elim
    | some o => rw [e] at q; cases o with
      | rdct kd kvs => exact ⟨p, kd, kvs, rfl, e, q⟩
      | _ => exact q.elim
  | _ => exact False.elim q
theorem rdct_any {p : Addr} {kd : Nat} {kvs : List (SD × SD)} (o : ObRep K H p (.rdct kd kvs)) : ∃ (od : Obj) (ps : List (Key × V)), H p = some (.frz od (.dK ps)) ∧ Paired (PR K H R0) kvs ps := by
  match kd, o with
  | 0, o => exact rdct0.mp o
theorem i_keys (ha : PE X a (lift X.F wa)) : PI X tg a (liftI X.F .keys fun σ h Q => wa σ h fun d h1 => Q [d] h1) := by
  refine PI.imp' (pi_keys ha) fun σ H R ⟨σa, h, Qd, rs, rh, q, k⟩ => ?_
  refine lift_go rs rh q fun d h1 v H1 q1 f1 r1 rh1 _ => ?_
  obtain ⟨QW, hw, kk⟩ := k _ _ q1
  obtain ⟨p, kd, kvs, rfl, e1, hw2⟩ := walk_dct_inv (k := .keys) (ds := []) (f := fun kvs => kvs.map (·.1)) (fun d => by cases d <;> rfl) hw
  cases (show v = _ from r1)
  obtain ⟨od, ps, e2, pr⟩ := rdct_any (rh1 p _ e1)
  exact ⟨p, od, rfl, .inl ⟨ps, e2, kk _ _ _ _ hw2 f1 rh1 (walks_keys e2 pr)⟩⟩
theorem i_vals {apos cpos : Pos} (hbase : attributeBase a "values" X.env (eval a X.env) = eval a X.env) (hline : (apos.endLine == cpos.line) = true) (ha : PE X a (lift X.F wa)) :
    PI X tg (.Call (.Attribute a "values" apos) [] [] cpos) (liftI X.F .values fun σ h Q => wa σ h fun d h1 => Q [d] h1) := by
  refine PI.imp' (pi_values ha hbase hline) fun σ H R ⟨σa, h, Qd, rs, rh, q, k⟩ => ?_
  refine lift_go rs rh q fun d h1 v H1 q1 f1 r1 rh1 _ => ?_
  obtain ⟨QW, hw, kk⟩ := k _ _ q1
  obtain ⟨p, kd, kvs, rfl, e1, hw2⟩ := walk_dct_inv (k := .values) (ds := []) (f := fun kvs => kvs.map (·.2)) (fun d => by cases d <;> rfl) hw
  cases (show v = _ from r1)
  obtain ⟨od, ps, e2, pr⟩ := rdct_any (rh1 p _ e1)
  exact ⟨p, od, ps, rfl, e2, kk _ _ _ _ hw2 f1 rh1 (walks_vals e2 pr)⟩
theorem i_items {apos cpos tpos : Pos} {elts : List Expr} {kn : Nat} (hbase : attributeBase a "items" X.env (eval a X.env) = eval a X.env) (hline : (apos.endLine == cpos.line) = true) (ha : PE X a (lift X.F wa)) :
    PI X (.Tuple elts kn tpos) (.Call (.Attribute a "items" apos) [] [] cpos) (liftI X.F .items fun σ h Q => wa σ h fun d h1 => Q [d] h1) := by
  refine PI.imp' (pi_items ha hbase hline) fun σ H R ⟨σa, h, Qd, rs, rh, q, k⟩ => ?_
  refine lift_go rs rh q fun d h1 v H1 q1 f1 r1 rh1 _ => ?_
  obtain ⟨QW, hw, kk⟩ := k _ _ q1
  obtain ⟨p, kd, kvs, rfl, e1, hw2⟩ := walk_dct_inv (k := .items) (ds := []) (f := fun kvs => kvs.map fun kv => .tup [kv.1, kv.2]) (fun d => by cases d <;> rfl) hw
  cases (show v = _ from r1)
  obtain ⟨od, ps, e2, pr⟩ := rdct_any (rh1 p _ e1)
  exact ⟨p, od, ps, rfl, e2, kk _ _ _ _ hw2 f1 rh1 (walks_items e2 pr)⟩
theorem i_rev {p : Pos} (hg : Gl X "reversed") (hm : X.mg "reversed" = none) (hs : starEach [a] X.env = (false, eval a X.env) :: starEach [] X.env) (ha : PE X a (lift X.F wa)) :
    PI X tg (.Call (.Name "reversed" p) [a] [] pos) (liftI X.F .rev fun σ h Q => wa σ h fun d h1 => Q [d] h1) := by
  refine PI.imp' (RT.pi_revA hg hm ha hs) fun σ H R ⟨σa, h, Qd, rs, rh, q, k⟩ => ?_
  refine lift_go rs rh q fun d h1 v H1 q1 f1 r1 rh1 _ => ?_
  obtain ⟨QW, hw, kk⟩ := k _ _ q1
  cases d with
  | tup xs =>
    obtain ⟨ad, vs, ev, t, rr⟩ := r1
    exact ⟨ad, vs, ev, .inr ⟨t.imp .inl id, kk _ _ _ _ hw f1 rh1 (walks_revT t rr)⟩⟩
  | ref p =>
    simp only [M.walk] at hw
    cases e1 : h1 p with
    | none => rw [e1] at hw; exact hw.elim
    | some o => rw [e1] at hw; cases o with
      | lst xs =>
        obtain ⟨vs, e2, rr⟩ := rh1 p _ e1
        exact ⟨p, vs, r1, .inl ⟨SqL.of e2, kk _ _ _ _ hw f1 rh1 (walks_rev e2 rr)⟩⟩
      | _ => exact hw.elim
  | _ => exact hw.elim
theorem walks_rngR (n : Int) : Walks K H1 (Itc (0 + (((n - 0).toNat : Nat) : Int) - 1) (-1) (n - 0).toNat) (M.rangeL 0 n).reverse (fun _ => True) := by
  intro i H h kp fz rh _
  have ln : (M.rangeL 0 n).reverse.length = (n - 0).toNat := by simp [M.rangeL]
  refine ⟨fun q => by show i < (n - 0).toNat; omega, fun q => by show (n - 0).toNat ≤ i; omega, ?_⟩
  rintro x H' ⟨rfl, rfl⟩ d hd
  have hi : i < (n - 0).toNat := by rw [← ln]; exact (List.getElem?_eq_some_iff.mp hd).1
  have lr : (M.rangeL 0 n).length = (n - 0).toNat := by simp [M.rangeL]
  rw [List.getElem?_reverse (by omega), lr] at hd
  simp only [M.rangeL, List.getElem?_map] at hd
  rw [List.getElem?_range (by omega)] at hd
  simp only [Option.map_some, Option.some.injEq] at hd
  subst hd
  have : (0 : Int) + (((n - 0).toNat : Nat) : Int) - 1 + ((i : Nat) : Int) * (-1) = 0 + (((n - 0).toNat - 1 - i : Nat) : Int) := by omega
  rw [this]
  exact ⟨rfl, .refl, rh⟩
theorem walk_rrng_inv {ds : List SD} {QW : List SD → (M.AH → Prop) → Prop} (q : M.walk .rrng ds h QW) : ∃ n, ds = [.int n] ∧ -(2 ^ 62) ≤ n ∧ n < 2 ^ 62 ∧ QW (M.rangeL 0 n).reverse fun _ => True := by
  match ds with
  | [] => exact False.elim q
  | [d] => cases d with
    | int n => exact ⟨n, rfl, q⟩
    | _ => exact False.elim q
  | d :: e :: r => cases d <;> exact False.elim q
theorem i_rrng {p p2 pos2 : Pos} (hg : Gl X "reversed") (hm : X.mg "reversed" = none) (hg2 : Gl X "range") (hm2 : X.mg "range" = none) (hs : starEach [a] X.env = (false, eval a X.env) :: starEach [] X.env) (ha : PE X a (lift X.F wa)) :
    PI X tg (.Call (.Name "reversed" p) [.Call (.Name "range" p2) [a] [] pos2] [] pos) (liftI X.F .rrng fun σ h Q => wa σ h fun d h1 => Q [d] h1) := by
  refine PI.imp' (pi_revR hg hm (prg_1 hg2 hm2 ha hs)) fun σ H R ⟨σa, h, Qd, rs, rh, q, k⟩ => ?_
  refine lift_go rs rh q fun d h1 v H1 q1 f1 r1 rh1 _ => ?_
  obtain ⟨QW, hw, kk⟩ := k _ _ q1
  obtain ⟨n, e, h1, h2, hw2⟩ := walk_rrng_inv hw
  cases e
  cases (show v = _ from r1)
  exact ⟨n, rfl, by omega, by omega, h1, h2, kk _ _ _ _ hw2 f1 rh1 (walks_rngR n)⟩
theorem walks_zipL {p q : Addr} {xs ys : List SD} : Walks K H1 (Itz K p q) (M.zipL xs ys) (fun h' => h' p = some (.lst xs) ∧ h' q = some (.lst ys)) := by
  intro i H h kp fz rh ⟨ok1, ok2⟩
  obtain ⟨vs, e1, r1⟩ := rh p _ ok1
  obtain ⟨ws, e2, r2⟩ := rh q _ ok2
  have ln1 := r1.length
  have ln2 := r2.length
  have lz := zipL_len xs ys
  have hs1 : SqL K H p vs := SqL.of e1
  have hs2 : SqL K H q ws := SqL.of e2
  refine ⟨fun hi => ⟨vs, ws, vs[i]'(by omega), ws[i]'(by omega), hs1, hs2, by simp, by simp⟩, fun hi => ⟨vs, ws, hs1, hs2, by omega⟩, ?_⟩
  rintro x H' ⟨T, y, z, rfl, hn, rfl, hy, hz⟩ d hd
  obtain ⟨d1, d2, g1, g2, rfl⟩ := zipL_get xs ys i d hd
  obtain ⟨v1, g3, g4⟩ := r1.get g1
  obtain ⟨v2, g5, g6⟩ := r2.get g2
  have f1 := hy vs hs1
  have f2 := hz ws hs2
  rw [g3] at f1; cases f1
  rw [g5] at f2; cases f2
  refine ⟨⟨T, _, rfl, .inl upd_same, Reps.cons (g4.kp (kp_new hn)) (.one (g6.kp (kp_new hn)))⟩, frm_hid hn, rh_hid rh hn⟩
theorem walk_zip_inv {ds : List SD} {QW : List SD → (M.AH → Prop) → Prop} (q : M.walk .zip ds h QW) : (∃ xs ys, ds = [.tup xs, .tup ys] ∧ QW (M.zipL xs ys) fun _ => True) ∨ ∃ p r xs ys, ds = [.ref p, .ref r] ∧ h p = some (.lst xs) ∧ h r = some (.lst ys) ∧ QW (M.zipL xs ys) fun h' => h' p = some (.lst xs) ∧ h' r = some (.lst ys) := by
  match ds with
  | [] => exact False.elim q
  | [d] => cases d <;> exact False.elim q
  | [d, e] =>
    cases d with
    | tup xs => cases e with
      | tup ys => exact .inl ⟨xs, ys, rfl, q⟩
      | _ => exact False.elim q
    | ref p => cases e with
      | ref r =>
        simp only [M.walk] at q
        split at q
        · rename_i xs ys e1 e2
          exact .inr ⟨p, r, xs, ys, rfl, e1, e2, q⟩
        · exact q.elim
      | _ => exact False.elim q
    | _ => exact False.elim q
  | d :: e :: f :: r => cases d <;> first | exact False.elim q | (cases e <;> exact False.elim q)
theorem i_zip {p tpos : Pos} {elts : List Expr} {kn : Nat} {wr : WA} (hg : Gl X "zip") (hm : X.mg "zip" = none) (ha : PA X [a, b] (liftA X.F wr)) (hs : starEach [a, b] X.env = (false, eval a X.env) :: starEach [b] X.env) (hpl : (backTo pos (starEach [b] X.env)).any (·.1) = false) :
    PI X (.Tuple elts kn tpos) (.Call (.Name "zip" p) [a, b] [] pos) (liftI X.F .zip wr) := by
  refine PI.imp' (RZ.pi_zipA hg hm ha hs hpl) fun σ H R ⟨σa, h, Qd, rs, rh, q, k⟩ => ?_
  refine ⟨σa, h, _, rs, rh, q, fun ds h1 vs H1 q1 f1 r1 rh1 => ?_⟩
  obtain ⟨QW, hw, kk⟩ := k _ _ q1
  rcases walk_zip_inv hw with ⟨xs, ys, rfl, hw2⟩ | ⟨p1, p2, xs, ys, rfl, g1, g2, hw2⟩
  case inr =>
    obtain ⟨v, w, rfl, rv, rw'⟩ := reps2 r1
    cases (show v = _ from rv)
    cases (show w = _ from rw')
    obtain ⟨vs, e1, _⟩ := rh1 p1 _ g1
    obtain ⟨ws, e2, _⟩ := rh1 p2 _ g2
    exact ⟨p1, p2, vs, ws, rfl, .inl ⟨SqL.of e1, SqL.of e2, kk _ _ _ _ hw2 f1 rh1 walks_zipL⟩⟩
  obtain ⟨v, w, rfl, ⟨a1, us, rfl, t1, s1⟩, ⟨a2, ws, rfl, t2, s2⟩⟩ := reps2 r1
  exact ⟨a1, a2, us, ws, rfl, .inr ⟨t1.imp .inl id, t2.imp .inl id, kk _ _ _ _ hw2 f1 rh1 (walks_zipT t1 t2 s1 s2)⟩⟩

/-! ### a dict locked for a while -/
theorem lockAt_inv {i : Nat} {f : Nat → Nat → List (SD × SD) → Prop} (q : M.lockAt σa i h f) : ∃ p kd kvs, σa[i]? = some (some (.ref p)) ∧ h p = some (.dct kd kvs) ∧ f p kd kvs := by
  unfold M.lockAt at q
  cases e : σa[i]? with
  | none => rw [e] at q; exact q.elim
  | some o => rw [e] at q; cases o with
    | none => exact q.elim
    | some d => cases d with
      | ref p =>
        simp only at q
        cases e1 : h p with
        | none => rw [e1] at q; exact q.elim
        | some o => rw [e1] at q; cases o with
          | dct kd kvs => exact ⟨p, kd, kvs, rfl, e1, q⟩
          | _ => exact q.elim
      | _ => exact q.elim
structure Lck (K : Fr) (H : Hp) (h : M.AH) (p : Addr) (kd : Nat) (kvs : List (SD × SD)) (ps : List (Key × V)) : Prop where
  e : H p = some (.dK ps)
  kp : ∀ od, Kp H (upd H p (.frz od (.dK ps)))
  rh : ∀ od, RH K (upd H p (.frz od (.dK ps))) (M.up h p (.rdct kd kvs))
  back : ∀ od H' h', Frm (upd H p (.frz od (.dK ps))) (M.up h p (.rdct kd kvs)) H' h' → RH K H' h' → H' p = some (.frz od (.dK ps)) ∧ Frm H h (upd H' p (.dK ps)) (M.up h' p (.dct kd kvs)) ∧ RH K (upd H' p (.dK ps)) (M.up h' p (.dct kd kvs)) ∧ Kp H' (upd H' p (.dK ps))
theorem lck {p : Addr} {kd : Nat} {kvs : List (SD × SD)} (rh : RH K H h) (e : h p = some (.dct kd kvs)) : ∃ ps, Lck K H h p kd kvs ps := by
  have z : kd = 0 := by
    have o := rh p _ e
    match kd, o with
    | 0, _ => rfl
  subst z
  · obtain ⟨ps, e1, pr⟩ := dct0.mp (rh p _ e)
    have kp : ∀ od, Kp H (upd H p (.frz od (.dK ps))) := fun od => kp_put rh e
    have rhl : ∀ od, RH K (upd H p (.frz od (.dK ps))) (M.up h p (.rdct 0 kvs)) := fun od => rh_put rh e (rdct0.mpr ⟨od, ps, upd_same, Paired.mapP pr fun _ _ z => ⟨z.1, z.2.kp (kp od)⟩⟩)
    refine ⟨ps, e1, kp, rhl, fun od H' h' f rh' => ?_⟩
    obtain ⟨f1, f2⟩ := f p _ upd_same (fun o z => by rw [up_same] at z; cases z; rfl)
    rw [up_same] at f2
    have kb : Kp H' (upd H' p (.dK ps)) := kp_put rh' f2
    obtain ⟨od2, ps2, e3, pr2⟩ := rdct0.mp (rh' p _ f2)
    rw [f1] at e3
    cases e3
    exact ⟨f1, frm_lock e rfl f, rh_put rh' f2 (dct0.mpr ⟨ps, upd_same, Paired.mapP pr2 fun _ _ z => ⟨z.1, z.2.kp kb⟩⟩), kb⟩
theorem s_lock {i : Nat} (he : PE X e (lift X.F w)) : PE X e (lift X.F fun σ h Q => M.lockAt σ i h fun p kd kvs => w σ (M.up h p (.rdct kd kvs)) fun d h' => Q d (M.up h' p (.dct kd kvs))) := by
  refine (pe_lock he).imp fun σ H Q ⟨σa, h, Qa, rs, rh, q, k⟩ => ?_
  obtain ⟨p, kd, kvs, e0, e1, q⟩ := lockAt_inv q
  obtain ⟨ps, L⟩ := lck rh e1
  refine ⟨p, _, L.e, trivial, fun od => ?_⟩
  refine ⟨σa, _, _, rs.kp (L.kp od), L.rh od, q, fun d h' v H' q' f r rh' => ?_⟩
  obtain ⟨b1, b2, b3, b4⟩ := L.back od H' h' f rh'
  exact ⟨b1, k _ _ _ _ q' b2 (r.kp b4) b3⟩
theorem ss_lock {i : Nat} {st : Stmt} {ws : WS} (hs : PS X st (liftS X.F ws)) : PS X st (liftS X.F fun R σ h => M.lockAt σ i h fun p kd kvs => ws { nx := fun σ' h' => R.nx σ' (M.up h' p (.dct kd kvs)), rt := fun d h' => R.rt d (M.up h' p (.dct kd kvs)), bk := fun σ' h' => R.bk σ' (M.up h' p (.dct kd kvs)), ct := fun σ' h' => R.ct σ' (M.up h' p (.dct kd kvs)) } σ (M.up h p (.rdct kd kvs))) := by
  refine (ps_lock hs).imp fun D σ H ⟨σa, h, R, rs, rh, q, k⟩ => ?_
  obtain ⟨p, kd, kvs, e0, e1, q⟩ := lockAt_inv q
  obtain ⟨ps, L⟩ := lck rh e1
  refine ⟨p, _, L.e, trivial, fun od => ?_⟩
  refine liftS_go (rs.kp (L.kp od)) (L.rh od) q ⟨?_, ?_, ?_, ?_⟩
  · intro σb h' σ' H' z f rs' rh'
    obtain ⟨b1, b2, b3, b4⟩ := L.back od H' h' f rh'
    exact ⟨b1, k.nx _ _ _ _ z b2 (rs'.kp b4) b3⟩
  · intro d h' v H' z f r rh'
    obtain ⟨b1, b2, b3, b4⟩ := L.back od H' h' f rh'
    exact ⟨b1, k.rt _ _ _ _ z b2 (r.kp b4) b3⟩
  · intro σb h' σ' H' z f rs' rh'
    obtain ⟨b1, b2, b3, b4⟩ := L.back od H' h' f rh'
    exact ⟨b1, k.bk _ _ _ _ z b2 (rs'.kp b4) b3⟩
  · intro σb h' σ' H' z f rs' rh'
    obtain ⟨b1, b2, b3, b4⟩ := L.back od H' h' f rh'
    exact ⟨b1, k.ct _ _ _ _ z b2 (rs'.kp b4) b3⟩
end
end Snd
end
section
/-! Sound6c: min with default, or of a value, the tables of the module. -/
namespace Snd
open PySem L2 PySem.Spec PyProof.Rows
section
variable {X : L2.Cx} {K : Fr} {σ : L2.St} {σa : M.St} {H H1 : Hp} {h h1 : M.AH} {w wa wb wc : WE} {Qa : M.VQ} {a b c e : Expr} {pos : Pos}
/-! ### min(xs, default=None) of numbers -/
def rMinN (K : Fr) : List V → List V → Hp → VK → Prop := fun vs zs H Q => ∃ (a : Addr) (ns : List Int), vs = [V.ref a] ∧ zs = [.non] ∧ SqL K H a (ns.map V.int) ∧ (ns = [] → Q .non H) ∧ ∀ m, m ∈ ns → (∀ y, y ∈ ns → m ≤ y) → Q (.int m) H
theorem ints_all {hp : Heap} : ∀ {us : List Value} {ns : List Int}, IntsAre us ns → ReadsAll hp us (ns.map PyData.int) []
  | _, _, .nil => .nil
  | _, _, .cons n t r => .cons (as := []) (.int n t) (ints_all r)
theorem fold_min : ∀ (ns : List Int) (n : Int), (ns.foldl min n ∈ n :: ns) ∧ ∀ y ∈ n :: ns, ns.foldl min n ≤ y
  | [], n => by simp
  | k :: r, n => by
    rw [List.foldl_cons]
    obtain ⟨h1, h2⟩ := fold_min r (min n k)
    refine ⟨?_, fun y hy => ?_⟩
    · rcases List.mem_cons.mp h1 with e | e
      · rw [e]
        rcases Int.le_total n k with l | l
        · rw [Int.min_eq_left l]; exact List.mem_cons_self
        · rw [Int.min_eq_right l]; exact List.mem_cons_of_mem _ List.mem_cons_self
      · exact List.mem_cons_of_mem _ (List.mem_cons_of_mem _ e)
    · have h3 := h2 _ List.mem_cons_self
      rcases List.mem_cons.mp hy with e | hy
      · subst e; exact Int.le_trans h3 (Int.min_le_left _ _)
      · rcases List.mem_cons.mp hy with e | hy
        · subst e; exact Int.le_trans h3 (Int.min_le_right _ _)
        · exact h2 y (List.mem_cons_of_mem _ hy)
theorem alike_ints (ns : List Int) : PySem.W.AlikeAll (ns.map PyData.int) := by
  refine ⟨fun x hx y hy => ?_, fun x hx => ?_⟩
  · obtain ⟨i, _, rfl⟩ := List.mem_map.mp hx
    obtain ⟨j, _, rfl⟩ := List.mem_map.mp hy
    rfl
  · obtain ⟨i, _, rfl⟩ := List.mem_map.mp hx
    exact fun z => nomatch z
theorem depth_ints : ∀ ns : List Int, PyData.depthAll (ns.map PyData.int) = 0
  | [] => rfl
  | n :: ns => by
    have := depth_ints ns
    rw [List.map_cons]
    simp only [PyData.depthAll, PyData.depth, this]
    rfl
theorem cr_minN (hc : X.calm = true) (hu : X.A.units + 200 < cLine) : CallRK X (.builtin "min") [Str.ofString "default"] (rMinN X.F) := by
  intro pins s σ H vs zs us ws Q I r rz h
  obtain ⟨a, ns, rfl, rfl, hs, q0, q⟩ := h
  obtain rfl := Vals.ref1 r
  obtain ⟨its, rv, hl, _⟩ := I.list hs
  have ez : ws = [Value.none] := by
    cases rz with
    | cons r t => cases t; cases (show _ = Value.none from r); rfl
  subst ez
  have hi := rv.ints
  refine PySem.W.min_list_default (xs := ns.map PyData.int) (as := []) (d := Value.none) (I.ok.hd hc) hl.isList (ints_all hi) (alike_ints ns) (by rw [depth_ints]; omega) (fun e0 h' tk hk => ?_) (fun y ys i v h' tk bs e1 _ rd hk => ?_)
  · exact ⟨.non, H, I.kept hk, rfl, q0 (by simpa using e0)⟩
  · cases ns with
    | nil => cases e1
    | cons n r =>
      rw [List.map_cons, List.cons.injEq] at e1
      obtain ⟨rfl, rfl⟩ := e1
      rw [PySem.W.minD_ints] at rd
      obtain ⟨h1, h2⟩ := fold_min r n
      cases rd
      exact ⟨.int _, H, I.kept hk, ⟨_, rfl⟩, q _ h1 h2⟩
theorem minD_inv {ds : List SD} (q : M.minD ds h Qa) : ∃ p xs ns, ds = [.ref p] ∧ h p = some (.lst xs) ∧ M.intsOf xs = some ns ∧ (ns = [] → Qa .non h) ∧ ∀ m, m ∈ ns → (∀ y, y ∈ ns → m ≤ y) → Qa (.int m) h := by
  obtain ⟨d, rfl, q⟩ := arg1_inv q
  obtain ⟨p, xs, rfl, e, q⟩ := aLst_inv q
  obtain ⟨ns, e2, q⟩ := aSome_inv q
  exact ⟨p, xs, ns, rfl, e, e2, q⟩
theorem s_mnd {p kp np : Pos} {j : Nat} {es : List Expr} {wr : WA} (hcalm : X.calm = true) (hu : X.A.units + 200 < cLine) (hg : Gl X "min") (hm : X.mg "min" = none)
    (he : starEach (e :: es) X.env = (false, eval e X.env) :: starEach es X.env) (hpl : (backTo pos (starEach (e :: es) X.env)).any (·.1) = false) (hr : PA X (e :: es) (liftA X.F wr)) :
    PE X (.Call (.Name "min" p) (e :: es) [⟨some "default", .Constant .none j np, kp⟩] pos) (lift X.F fun σ h Q => wr σ h fun ds h1 => M.minD ds h1 Q) := by
  refine (pe_callBK (ks := [Str.ofString "default"]) (cr_minN hcalm hu) hg hm (by decide +kernel) hr (pk_cons pe_non pk_nil) (by decide +kernel) (by decide +kernel) (by rw [he]; rfl) hpl (by rfl) (by rfl) (by rfl)).imp fun σ H Q ⟨σa, h, Qa, rs, rh, q, k⟩ => ?_
  refine liftA_go rs rh q fun ds h1 vs H1 q1 f1 r1 rh1 _ => ?_
  obtain ⟨pp, xs, ns, rfl, e1, e2, q0, q2⟩ := minD_inv q1
  obtain ⟨v, rfl, rv⟩ := reps1 r1
  cases (show v = _ from rv)
  obtain ⟨us, a1, r2⟩ := rh1 pp _ e1
  have := ints_rep e2 r2
  subst this
  exact ⟨pp, ns, rfl, rfl, SqL.of a1, fun z => (k.go f1).now rh1 (q0 z) rfl, fun m m1 m2 => (k.go f1).now rh1 (q2 m m1 m2) rfl⟩
/-! ### a or b, of None and numbers -/
theorem s_orv (ha : PE X a (lift X.F wa)) (hb : PE X b (lift X.F wb)) : PE X (.BoolOp .Or [a, b] pos) (lift X.F fun σ h Q => wa σ h fun x h1 => match x with
    | .non => wb σ h1 Q
    | .int i => (i ≠ 0 → Q (.int i) h1) ∧ (i = 0 → wb σ h1 Q)
    | _ => False) := by
  have one : PE X (.BoolOp .Or [b] pos) (lift X.F wb) := pe_one hb
  refine (pe_orT ha one).imp fun σ H Q ⟨σa, h, Qa, rs, rh, q, k⟩ => ?_
  refine lift_go rs rh q fun dx h1 x H1 q1 f1 r1 rh1 rs1 => ?_
  cases dx with
  | non =>
    cases (show x = _ from r1)
    exact ⟨false, rfl, ⟨σa, h1, Qa, rs1, rh1, q1, k.go f1⟩⟩
  | int i =>
    cases (show x = _ from r1)
    refine ⟨i != 0, rfl, ?_⟩
    by_cases e : i = 0
    · subst e
      exact ⟨σa, h1, Qa, rs1, rh1, q1.2 rfl, k.go f1⟩
    · rw [if_pos (by simpa using e)]
      exact (k.go f1).now rh1 (q1.1 e) rfl
  | _ => exact q1.elim
/-! ### slices of tuples, whole ones too -/
theorem slw_ok {dx : SD} {x : V} {lo hi : Option Int} {Q : VK} (rh : RH K H h) (rx : Rep K H dx x) (q : M.opSlW dx lo hi h Qa) (k : Kont K H h Qa Q) : rSlA K x lo hi H Q := by
  cases dx with
  | tup ds =>
    obtain ⟨a, vs, e, t, rs⟩ := rx
    subst e
    have ln := rs.length
    have q : Qa (.tup (M.cut ds lo hi)) h := q
    refine ⟨a, vs, rfl, t.imp .inl id, fun hw => ?_, fun _ p hn => k _ _ _ _ q (frm_hid hn) ⟨p, _, rfl, .inl upd_same, (cut_rep rs).kp (kp_new hn)⟩ (rh_hid rh hn)⟩
    have e : M.cut ds lo hi = ds := by
      rw [ln] at hw
      rw [cut_eq, hw.1, hw.2]
      simp
    rw [e] at q
    exact k.now rh q ⟨a, vs, rfl, t, rs⟩
  | _ => exact False.elim q
theorem s_slw {lo hi : Option Expr} {wl wh : WO} {p2 : Pos} (ha : PE X a (lift X.F wa)) (hl : PO X lo (liftO X.F wl)) (hh : PO X hi (liftO X.F wh)) :
    PE X (.Subscript a (.Slice lo hi none p2) pos) (lift X.F fun σ h Q => wa σ h fun x h1 => wl σ h1 fun l h2 => wh σ h2 fun u h3 => M.opSlW x l u h3 Q) := by
  refine (pe_slice sl_tupA ha hl hh).imp fun σ H Q ⟨σa, h, Qa, rs, rh, q, k⟩ => ?_
  refine lift_go rs rh q fun dx h1 x H1 q1 f1 r1 rh1 rs1 => ⟨σa, h1, _, rs1, rh1, q1, fun l h2 H2 q2 f2 rh2 => ⟨σa, h2, _, rs1.kp (f2.kp rh1), rh2, q2, fun u h3 H3 q3 f3 rh3 => ?_⟩⟩
  exact slw_ok rh3 ((r1.kp (f2.kp rh1)).kp (f3.kp rh2)) q3 (k.go ((f1.trans f2).trans f3))
/-! ### t[:0:-1] of tuples: the tail turned about -/
section
open PySem.Calls
variable {prog : Program} {w : World} {A : Around} {E : Value → Shared → Prop} {s : Shared}
theorem places_tl (n : Nat) : Builtin.Slice.slicePlaces ((n : Int) - 1) (min 0 ((n : Int) - 1)) (-1) = n - 1 := by
  unfold Builtin.Slice.slicePlaces
  have h1 : ¬ ((-1 : Int) > 0) := by omega
  simp only [h1, if_false]
  have e : (- -1 : Int) = 1 := by decide
  rw [e, Int.ediv_one]
  split <;> omega
theorem pick_all (ys : List Value) : (List.range ys.length).filterMap (fun m => ys[m]?) = ys := by
  have := PySem.W.krv_all ys.toArray
  simpa using this
theorem filt_congr {α β : Type} {f g : α → Option β} : ∀ {l : List α}, (∀ x ∈ l, f x = g x) → l.filterMap f = l.filterMap g
  | [], _ => rfl
  | x :: r, h => by
    rw [List.filterMap_cons, List.filterMap_cons, h x List.mem_cons_self, filt_congr fun y hy => h y (List.mem_cons_of_mem _ hy)]
theorem pick_tl (xs : Array Value) : ((List.range (xs.size - 1)).filterMap fun (m : Nat) => xs[(((xs.size : Int) - 1) + (m : Int) * -1).toNat]?).toArray = xs.toList.tail.reverse.toArray := by
  congr 1
  have l2 : xs.toList.tail.reverse.length = xs.size - 1 := by simp
  conv => rhs; rw [← pick_all xs.toList.tail.reverse, l2]
  refine filt_congr fun m hm => ?_
  have hm := List.mem_range.mp hm
  have l1 : xs.toList.tail.length = xs.size - 1 := by simp
  rw [List.getElem?_reverse (by omega), l1]
  have : (((xs.size : Int) - 1) + (m : Int) * -1).toNat = xs.size - 1 - m := by omega
  rw [this, List.getElem?_tail, ← Array.getElem?_toList]
  congr 1
  omega
theorem getItem_tuple_tl {t sl : Addr} {items : Array Value} {vl vu vs : Value} {Q : Value → Shared → Prop} (ht : IsTup s.heap t items) (hs : s.heap.IsSliceOf sl vl vu vs) (pl : IsPart vl none) (pu : IsPart vu (some 0)) (ps : IsPart vs (some (-1)))
    (h : Q (.ref s.heap.objs.size) { s with heap := s.heap.push { cls := .type "tuple", data := .seq items.toList.tail.reverse.toArray } })
    (hsz : items.size ≤ sizeLine) : wpAny (model prog w) A (getItem (.ref t) (.ref sl)) Q E s := by
  have htake : sizeOk (.seq items.toList.tail.reverse.toArray) := by
    show items.toList.tail.reverse.toArray.size ≤ sizeLine
    simp
    omega
  obtain ⟨os, hos, hcs, hds⟩ := id hs
  have hTs : s.TypeIs (.ref sl) "slice" := ⟨os, hos, hcs⟩
  unfold getItem
  try with_reducible refine wpAny_holding ?_
  first | refine wpAny_bind (wpAny_pure ?_) | skip
  refine wpAny_bind (wpAny_sequenceKey ht.typeIs (by decide) ?_)
  refine wpAny_bind (wpAny_callSpecial?_slot (name := Str.ofString "__getitem__") ht.typeIs PyProof.Rows.slot_tuple_getitem
    (wpAny_call_entry PyProof.Rows.slot_tuple_getitem ht.typeIs entry_tuple_getitem ?_ (args_tuple_getitem _ _)))
  show wpAny _ _ (Builtin.Tuple.tupleItemsOf (.ref t) >>= _) _ _ s
  refine wpAny_bind (tupleItemsOf_ ht ?_)
  refine wpAny_bind (wpAny_typeOf hTs ?_)
  rw [if_pos (by decide)]
  refine wpAny_bind ?_
  unfold Builtin.Slice.sliceApplied Builtin.Slice.sliceFields
  refine wpAny_bind (wpAny_bind (wpAny_field hos hds (x := vl) rfl (wpAny_bind (wpAny_field hos hds (x := vu) rfl (wpAny_bind (wpAny_field hos hds (x := vs) rfl (wpAny_pure ?_)))))))
  refine wpAny_bind (HT.slicePart_ ps ?_)
  show wpAny _ _ (if ((-1 : Int) == 0) = true then _ else _) _ _ s
  rw [if_neg (by decide)]
  refine wpAny_bind (HT.slicePart_ pl (wpAny_bind (HT.slicePart_ pu (wpAny_bind (wpAny_pure ?_)))))
  show wpAny _ _ (pure (((items.size : Int) - 1), (-1 : Int), Builtin.Slice.slicePlaces ((items.size : Int) - 1) (min 0 ((items.size : Int) - 1)) (-1))) _ _ s
  rw [places_tl]
  refine wpAny_pure ?_
  have hno : ¬ (((((items.size : Int) - 1)) == 0 && (-1 : Int) == 1 && (items.size - 1) == items.size) = true) := by
    simp
  show wpAny _ _ (if ((((items.size : Int) - 1)) == 0 && (-1 : Int) == 1 && (items.size - 1) == items.size) = true then _ else _) _ _ s
  rw [if_neg hno, pick_tl]
  first
    | exact wpAny_bind (m := Builtin.Tuple.tupleExact _) (wpAny_newObj_type (wpAny_pure ⟨_, rfl, wpAny_pure h⟩) htake)
    | exact wpAny_bind (m := Builtin.Tuple.tupleExact _) (wpAny_newObj_type (wpAny_bind (wpAny_pure (wpAny_pure ⟨_, rfl, wpAny_pure h⟩))) htake)
    | exact wpAny_bind (wpAny_bind (m := Builtin.Tuple.tupleExact _) (wpAny_newObj_type (wpAny_pure (wpAny_pure ⟨_, rfl, wpAny_pure h⟩)) htake))
    | exact wpAny_bind (wpAny_bind (m := Builtin.Tuple.tupleExact _) (wpAny_newObj_type (wpAny_pure ⟨_, rfl, wpAny_pure h⟩) htake))
end
theorem pe_tlr {k0 k1 : Nat} {te : TE} {p0 p1 p2 p3 pos : Pos} (he : PE X a te) : PE X (.Subscript a (.Slice none (some (.Constant (.int 0) k0 p0)) (some (.UnaryOp .USub (.Constant (.int 1) k1 p1) p2)) p3) pos) (fun σ H Q => te σ H fun x H1 => ∃ a xs, x = .ref a ∧ SqT X.F H1 a xs ∧ ∀ p, H1 p = none → Q (.ref p) (upd H1 p (.tup xs.tail.reverse))) := by
  refine ⟨fun pins s σ H Q I h => ?_⟩
  refine Subscript_ (thn (he.run pins s σ H _ I h) fun v s1 ⟨x, H1, I1, r1, q1⟩ => ?_)
  obtain ⟨a, xs, ex, hx, q⟩ := q1
  subst ex
  cases r1
  have hst : PO X (some (.UnaryOp .USub (.Constant (.int 1) k1 p1) p2)) (tPart (tUn (rU fun i => .int (-i)) (tC (.int 1)))) := po_some (pe_un un_neg pe_int)
  have hup : PO X (some (.Constant (.int 0) k0 p0)) (tPart (tC (.int 0))) := po_some pe_int
  refine wpAny_Slice (thn (po_none.run pins s1 σ H1 (fun o H2 => o = none ∧ H2 = H1) I1 ⟨rfl, rfl⟩) fun vl s2 ⟨l, H2, I2, pl, el, e2⟩ => ?_)
  subst el e2
  refine thn (hup.run pins s2 σ H2 (fun o H3 => o = some 0 ∧ H3 = H2) I2 ⟨0, rfl, rfl, rfl⟩) fun vu s3 ⟨u, H3, I3, pu, eu, e3⟩ => ?_
  subst eu e3
  refine thn (hst.run pins s3 σ H3 (fun o H4 => o = some (-1) ∧ H4 = H3) I3 ⟨1, rfl, -1, rfl, rfl, rfl⟩) fun vs s4 ⟨o, H4, I4, ps, eo, e4⟩ => ?_
  subst eo e4
  have I5 : Inv X pins σ H4 { s4 with heap := s4.heap.push { cls := .type "slice", data := .fields #[vl, vu, vs] } } := I4.kept (t' := s4.toks) fun b ob q => Heap.get?_push_of_some _ q
  obtain ⟨its, r, ht, hz⟩ := I5.tuple hx
  have hlen := r.length
  show wpAny (model X.prog X.w) X.A (subscriptTail _ (.Slice none (some (.Constant (.int 0) k0 p0)) (some (.UnaryOp .USub (.Constant (.int 1) k1 p1) p2)) p3) (.ref a) (.ref s4.heap.objs.size)) (EP X pins σ Q) X.xe { s4 with heap := s4.heap.push { cls := .type "slice", data := .fields #[vl, vu, vs] } }
  refine tail_any (ops := [.ref a, .ref s4.heap.objs.size]) ht.typeIs PyProof.Rows.slot_tuple_getitem.lookup ?_ (by with_unfolding_all rfl)
  refine getItem_tuple_tl ht (Heap.IsSliceOf.new _ vl vu vs) pl pu ps ?_ (by rw [List.size_toArray]; omega)
  refine ⟨.ref _, _, I5.laid (t' := s4.toks) (o := .tup xs.tail.reverse) (fun b ob q => Heap.get?_push_of_some _ q) (Nat.le_refl _) ?_, rfl, q _ (I5.hok.fresh (Nat.le_refl _))⟩
  have lt : xs.tail.reverse.length ≤ sizeLine := by simp; omega
  have vt : Vals xs.tail.reverse its.tail.reverse := by
    refine Vals.reverse ?_
    cases r with
    | nil => exact .nil
    | cons _ r => exact r
  exact ⟨lt, _, vt, IsTup.new _ _⟩
theorem Reps.tail : ∀ {ds : List SD} {vs : List V}, Reps K H ds vs → Reps K H ds.tail vs.tail
  | [], _, e => by subst e; rfl
  | _ :: _, _, ⟨w, r, e, _, b⟩ => by subst e; exact b
theorem s_tlr {k0 k1 : Nat} {p0 p1 p2 p3 : Pos} (ha : PE X a (lift X.F wa)) : PE X (.Subscript a (.Slice none (some (.Constant (.int 0) k0 p0)) (some (.UnaryOp .USub (.Constant (.int 1) k1 p1) p2)) p3) pos) (lift X.F fun σ h Q => wa σ h fun x h1 => M.aTup x fun xs => Q (.tup xs.tail.reverse) h1) := by
  refine (pe_tlr ha).imp fun σ H Q ⟨σa, h, Qa, rs, rh, q, k⟩ => ?_
  refine lift_go rs rh q fun dx h1 x H1 q1 f1 r1 rh1 rs1 => ?_
  cases dx with
  | tup ds =>
    obtain ⟨a, vs, e, t, r2⟩ := r1
    subst e
    have q1 : Qa (.tup ds.tail.reverse) h1 := q1
    refine ⟨a, vs, rfl, t.imp .inl id, fun p hn => ?_⟩
    exact k _ _ _ _ q1 (f1.trans (frm_hid hn)) ⟨p, _, rfl, .inl upd_same, (r2.tail.rev).kp (kp_new hn)⟩ (rh_hid rh1 hn)
  | _ => exact False.elim q1
/-! ### the tables of the module -/
theorem s_tix {x : Str} {p : Pos} {ad : Addr} {tab : List (M.Sx × M.Sx)} (hs : PlainIx b) (hg : Gl X x) (hm : X.mg x = some (.ref ad)) (hd : (x == ("__debug__" : Str)) = false) (ht : ∀ s t, tab.lookup s = some t → KDct X.F X.w ad (sV s) (.str (sV t)) ∧ sOk t) (hb : PE X b (lift X.F wb)) :
    PE X (.Subscript (.Name x p) b pos) (lift X.F fun σ h Q => wb σ h fun x h1 => match x with
    | .str s => (match tab.lookup s with
      | some t => Q (.str t) h1
      | none => False)
    | _ => False) := by
  refine (pe_ix ix_kdict (pe_glob (v := .ref ad) hg hm rfl hd) hb hs).imp fun σ H Q ⟨σa, h, Qa, rs, rh, q, k⟩ => ?_
  refine lift_go rs rh q fun dx h1 x H1 q1 f1 r1 rh1 rs1 => ?_
  cases dx with
  | str s =>
    cases (show x = _ from r1.1)
    dsimp only at q1
    cases e : tab.lookup s with
    | none => rw [e] at q1; exact q1.elim
    | some t =>
      rw [e] at q1
      obtain ⟨k1, k2⟩ := ht s t e
      exact ⟨ad, sV s, .str (sV t), rfl, rfl, k1, (k.go f1).now rh1 q1 ⟨rfl, k2⟩⟩
  | _ => exact q1.elim
theorem s_gint {x : Str} {p : Pos} {i : Int} (hg : Gl X x) (hm : ∃ t, X.mg x = some (.int i t)) (hd : (x == ("__debug__" : Str)) = false) : PE X (.Name x p) (lift X.F fun _ h Q => Q (.int i) h) := by
  obtain ⟨t, e⟩ := hm
  exact s_const (d := .int i) (pe_glob (v := .int i) hg e ⟨t, rfl⟩ hd) fun H => rfl
end
end Snd
end
section
/-! Sound6d: instances of the program's classes. -/
namespace Snd
open PySem L2 PySem.Spec PyProof.Rows
section
variable {X : L2.Cx} {K : Fr} {σ : L2.St} {σa : M.St} {H H1 : Hp} {h h1 : M.AH} {w wa wo : WE} {wr : WA} {Qa : M.VQ} {a e o : Expr} {es : List Expr} {pos apos : Pos}
abbrev PI1 (K : Fr) (H : Hp) (C : Addr) := fun (x : M.Sx × SD) (p : Str × V) => p.1 = sV x.1 ∧ NoAttr K.K C p.1 ∧ Rep K H x.2 p.2
theorem ins_inv {d : SD} {f : Nat → M.Sx → List (M.Sx × SD) → Prop} (q : M.aIns d h f) : ∃ p c fs, d = .ref p ∧ h p = some (.ins c fs) ∧ f p c fs := by
  cases d with
  | ref p =>
    simp only [M.aIns] at q
    cases e : h p with
    | none => rw [e] at q; exact q.elim
    | some o =>
      rw [e] at q
      cases o with
      | ins c fs => exact ⟨p, c, fs, rfl, e, q⟩
      | _ => exact q.elim
  | _ => exact False.elim q
theorem pi_lookup {C : Addr} {fs : List (M.Sx × SD)} {ps : List (Str × V)} (r : Paired (PI1 K H C) fs ps) (f : M.Sx) :
    (fs.lookup f = none ∧ ps.lookup (sV f) = none) ∨ ∃ d v, fs.lookup f = some d ∧ ps.lookup (sV f) = some v ∧ NoAttr K.K C (sV f) ∧ Rep K H d v := by
  induction r with
  | nil => exact .inl ⟨rfl, rfl⟩
  | @cons x p xs ps hx t ih =>
    obtain ⟨g, d⟩ := x
    obtain ⟨g', v⟩ := p
    obtain ⟨e1, e2, e3⟩ := hx
    dsimp only at e1 e2 e3
    subst e1
    rw [List.lookup_cons, List.lookup_cons]
    by_cases z : f = g
    · subst z
      rw [beq_self_eq_true, beq_self_eq_true]
      exact .inr ⟨d, v, rfl, rfl, e2, e3⟩
    · have z1 : (f == g) = false := beq_eq_false_iff_ne.mpr z
      have z2 : (sV f == sV g) = false := beq_eq_false_iff_ne.mpr fun y => z (sV_inj y)
      rw [z1, z2]
      exact ih
theorem pi_put {C : Addr} {fs : List (M.Sx × SD)} {ps : List (Str × V)} (r : Paired (PI1 K H C) fs ps) {f : M.Sx} {d : SD} {v : V} (na : NoAttr K.K C (sV f)) (rd : Rep K H d v) : Paired (PI1 K H C) (M.putA f d fs) (putF (sV f) v ps) := by
  induction r with
  | nil => exact .cons ⟨rfl, na, rd⟩ .nil
  | @cons x p xs ps hx t ih =>
    obtain ⟨g, d'⟩ := x
    obtain ⟨g', v'⟩ := p
    obtain ⟨e1, e2, e3⟩ := hx
    dsimp only at e1 e2 e3
    subst e1
    unfold M.putA putF
    by_cases z : g = f
    · subst z
      rw [if_pos rfl, if_pos rfl]
      exact .cons ⟨rfl, e2, rd⟩ t
    · rw [if_neg z, if_neg fun y => z (sV_inj y)]
      exact .cons ⟨rfl, e2, e3⟩ ih
/-- e.f -/
theorem s_fld {f : M.Sx} {nm : Str} (hn : nm = sV f) (hb : attributeBase e nm X.env (eval e X.env) = eval e X.env) (ha : PE X e (lift X.F w)) :
    PE X (.Attribute e nm pos) (lift X.F fun σ h Q => w σ h fun x h1 => M.aIns x h1 fun _ _ fs => M.aSome (fs.lookup f) fun v => Q v h1) := by
  subst hn
  refine (pe_fld ha hb).imp fun σ H Q ⟨σa, h, Qa, rs, rh, q, k⟩ => ?_
  refine lift_go rs rh q fun dx h1 x H1 q1 f1 r1 rh1 rs1 => ?_
  obtain ⟨p, c, fs, rfl, e, q2⟩ := ins_inv q1
  cases (show x = _ from r1)
  obtain ⟨C, dx, ps, eH, mg, cl, pr⟩ := rh1 p _ e
  rcases pi_lookup pr f with ⟨l, _⟩ | ⟨d, v, l, l2, na, rv⟩
  · rw [l] at q2; exact q2.elim
  · rw [l] at q2
    exact ⟨p, C, dx, ps, v, rfl, eH, cl, na, l2, (k.go f1).now rh1 q2 rv⟩
/-- o.f = e -/
theorem s_sfld {c f : M.Sx} {nm : Str} {C : Addr} {p' : Pos} (hn : nm = sV f) (hm : X.mg (sV c) = some (.ref C)) (na : NoAttr X.K C (sV f)) (he : PE X e (lift X.F w)) (ho : PE X o (lift X.F wo)) (hs : swapsWith e (some (.Attribute o nm p')) pos.line X.env = pure false) :
    PS X (.Assign [.Attribute o nm p'] e pos) (liftS X.F fun R σ h => w σ h fun v h1 => wo σ h1 fun x h2 => M.aIns x h2 fun p c' fs => c' = c ∧ fs.length < 1000 ∧ R.nx σ (M.up h2 p (.ins c (M.putA f v fs)))) := by
  subst hn
  refine (ps_fld ho he hs).imp fun D σ H ⟨σa, h, R, rs, rh, q, k⟩ => ?_
  refine lift_go rs rh q fun dv h1 v H1 q1 f1 r1 rh1 rs1 => lift_go rs1 rh1 q1 fun dx h2 x H2 q2 f2 r2 rh2 rs2 => ?_
  obtain ⟨p, c', fs, rfl, e, rfl, hl, q3⟩ := ins_inv q2
  cases (show x = _ from r2)
  obtain ⟨C', dx, ps, eH, mg, cl, pr⟩ := rh2 p _ e
  rw [show X.F.mg = X.mg from rfl, hm] at mg
  cases mg
  have kp : Kp H2 (upd H2 p (.ins C dx (putF (sV f) v ps))) := kp_put rh2 e
  have n1 := Paired.length pr
  refine ⟨p, C, dx, ps, rfl, eH, cl, na, by omega, k.nx _ _ _ _ q3 ((f1.trans f2).trans (frm_put e)) (rs2.kp kp) (rh_put rh2 e ⟨C, dx, _, upd_same, hm, cl, Paired.mapP (pi_put pr na (r1.kp (f2.kp rh1))) fun _ _ z => ⟨z.1, z.2.1, z.2.2.kp kp⟩⟩)⟩
theorem meth_ht {env : Env} {nm : Str} {args : List Expr} (hbase : attributeBase o nm env (eval o env) = eval o env)
    (hfew : ((backTo pos (starEach args env)).all (fun x => !x.1) && (backToKw pos (keywordEach [] env)).all (fun x => x.1.isSome)
      && decide (args.length + ([] : List Keyword).length + (if ([] : List Keyword).isEmpty then 0 else 1) < 30)) = true) (hline : (apos.endLine == pos.line) = true) :
    ∃ pl, eval (.Call (.Attribute o nm apos) args [] pos) env = (do
      let ov ← eval o env
      standAt apos.atName
      let (f, first) ← holding [ov] (getMethod ov nm pl)
      callWith pos f first (backTo pos (starEach args env)) (backToKw pos (keywordEach [] env))) := by
  rw [arm_eval_Call, hbase]
  have hform : methodCallForm (args.length + ([] : List Keyword).length) (backTo pos (starEach args env)) (backToKw pos (keywordEach [] env)) = true := hfew
  have hpos : methodCallPos true o env apos pos = pure pos := by unfold methodCallPos; simp [hline]
  unfold methodCall
  rw [hform, hpos]
  exact ⟨_, rfl⟩
/-- o.m(..) -/
theorem s_mcall {P : M.Prog} {n : Nat} {c m : M.Sx} {nm : Str} {C fa : Addr} {fd : FuncData} {ps : List Str} {xx : M.XP} (hn : nm = sV m) (hm : X.mg (sV c) = some (.ref C)) (cl : Cls X.K C) (me : Meth X.K C (sV m) fa)
    (F : FnOk X.prog X.w X.F X.mg X.base CX0 n fa fd ps (spC X.F P n (M.metN c m))) (hr : Room n X.A) (hb : Binds X.F fd ps [])
    (hbase : attributeBase o nm X.env (eval o X.env) = eval o X.env)
    (hfew : ((backTo pos (starEach (e :: es) X.env)).all (fun x => !x.1) && (backToKw pos (keywordEach [] X.env)).all (fun x => x.1.isSome)
      && decide ((e :: es).length + ([] : List Keyword).length + (if ([] : List Keyword).isEmpty then 0 else 1) < 30)) = true) (hline : (apos.endLine == pos.line) = true)
    (he : starEach (e :: es) X.env = (false, eval e X.env) :: starEach es X.env) (hpl : (backTo pos (starEach es X.env)).any (·.1) = false) (ho : PE X o (lift X.F wo)) (ha : PA X (e :: es) (liftA X.F wr)) :
    PE X (.Call (.Attribute o nm apos) (e :: es) [] pos) (lift X.F fun σ h Q => wo σ h fun x h1 => M.aIns x h1 fun p c' fs => c' = c ∧ fs.lookup m = none ∧ wr σ h1 fun ds h2 => M.run P n (M.metN c m) (.ref p :: ds) h2 Q xx) := by
  subst hn
  obtain ⟨pl, ht⟩ := meth_ht hbase hfew hline
  refine (pe_meth (pl := pl) ho cl me F hr hb .nil pass0 ha he hpl ht).imp fun σ H Q ⟨σa, h, Qa, rs, rh, q, k⟩ => ?_
  refine lift_go rs rh q fun dx h1 x H1 q1 f1 r1 rh1 rs1 => ?_
  obtain ⟨p, c', fs, rfl, e, rfl, l, q3⟩ := ins_inv q1
  cases (show x = _ from r1)
  obtain ⟨C', dx, ps', eH, mg, _, pr⟩ := rh1 p _ e
  rw [show X.F.mg = X.mg from rfl, hm] at mg
  cases mg
  rcases pi_lookup pr m with ⟨_, l2⟩ | ⟨_, _, l', _⟩
  · refine ⟨p, dx, ps', rfl, eH, l2, liftA_go rs1 rh1 q3 fun ds h2 vs H2 q4 f2 r2 rh2 _ => ?_⟩
    exact ⟨.ref p :: ds, h2, Qa, xx, ⟨_, _, rfl, rfl, by rw [List.append_nil]; exact r2⟩, rh2, q4, k.go (f1.trans f2)⟩
  · rw [l] at l'; cases l'
theorem s_mcall0 {P : M.Prog} {n : Nat} {c m : M.Sx} {nm : Str} {C fa : Addr} {fd : FuncData} {ps : List Str} {xx : M.XP} (hn : nm = sV m) (hm : X.mg (sV c) = some (.ref C)) (cl : Cls X.K C) (me : Meth X.K C (sV m) fa)
    (F : FnOk X.prog X.w X.F X.mg X.base CX0 n fa fd ps (spC X.F P n (M.metN c m))) (hr : Room n X.A) (hb : Binds X.F fd ps []) (hbase : attributeBase o nm X.env (eval o X.env) = eval o X.env) (hline : (apos.endLine == pos.line) = true) (ho : PE X o (lift X.F wo)) :
    PE X (.Call (.Attribute o nm apos) [] [] pos) (lift X.F fun σ h Q => wo σ h fun x h1 => M.aIns x h1 fun p c' fs => c' = c ∧ fs.lookup m = none ∧ M.run P n (M.metN c m) [.ref p] h1 Q xx) := by
  subst hn
  obtain ⟨pl, ht⟩ := meth_ht (args := []) hbase rfl hline
  refine (pe_meth0 (pl := pl) ho cl me F hr hb .nil pass0 ht).imp fun σ H Q ⟨σa, h, Qa, rs, rh, q, k⟩ => ?_
  refine lift_go rs rh q fun dx h1 x H1 q1 f1 r1 rh1 rs1 => ?_
  obtain ⟨p, c', fs, rfl, e, rfl, l, q3⟩ := ins_inv q1
  cases (show x = _ from r1)
  obtain ⟨C', dx, ps', eH, mg, _, pr⟩ := rh1 p _ e
  rw [show X.F.mg = X.mg from rfl, hm] at mg
  cases mg
  rcases pi_lookup pr m with ⟨_, l2⟩ | ⟨_, _, l', _⟩
  · exact ⟨p, dx, ps', rfl, eH, l2, ⟨[.ref p], h1, Qa, xx, ⟨_, _, rfl, rfl, rfl⟩, rh1, q3, k.go f1⟩⟩
  · rw [l] at l'; cases l'
/-- what a new instance is -/
theorem new_spec {P : M.Prog} {m : Nat} {c : M.Sx} {C : Addr} {xx : M.XP} {Q : VK} {ds : List SD} {vs : List V} {x dx : Addr} (hP : P (M.mkN c) = none) (hm : K.mg (sV c) = some (.ref C)) (cl : Cls K.K C) (rh : RH K H h) (r : Reps K H ds vs) (q : M.run P (m + 1) (M.mkN c) ds h Qa xx) (k : Kont K H h Qa Q)
    (nx : H x = none) (nd : H dx = none) (ne : dx ≠ x) : spC K P m (M.metN c M.sInit) (.ref x :: (vs ++ [])) (upd (upd H dx (.own x)) x (.ins C dx [])) (fun v H2 => v = .non ∧ Q (.ref x) H2) (fun _ _ _ => False) := by
  simp only [M.run] at q
  rw [hP] at q
  have n2 : (upd H dx (.own x)) x = none := by rw [upd_ne ne.symm]; exact nx
  have f1 : Frm H h (upd H dx (.own x)) h := frm_hid nd
  have rh1 : RH K (upd H dx (.own x)) h := rh_hid rh nd
  have rh2 : RH K (upd (upd H dx (.own x)) x (.ins C dx [])) (M.up h x (.ins c [])) := rh_new rh1 n2 ⟨C, dx, [], upd_same, hm, cl, .nil⟩
  refine ⟨.ref x :: ds, _, _, xx, ⟨_, _, rfl, rfl, ?_⟩, rh2, q x (rh.none nx), fun d h' v H' ⟨ed, q'⟩ f rv rh' => ⟨?_, k _ h' _ H' q' ((f1.trans (frm_new n2)).trans f) rfl rh'⟩⟩
  · rw [List.append_nil]
    exact (r.kp (kp_new nd)).kp (kp_new n2)
  · subst ed; exact rv
theorem s_new {P : M.Prog} {m : Nat} {c : M.Sx} {x : Str} {C fa : Addr} {fd : FuncData} {ps : List Str} {xx : M.XP} {p : Pos} (hP : P (M.mkN c) = none) (hx : x = sV c) (hm : X.mg (sV c) = some (.ref C)) (cl : Cls X.K C) (mk : Mk X.K C fa)
    (F : FnOk X.prog X.w X.F X.mg X.base CX0 m fa fd ps (spC X.F P m (M.metN c M.sInit))) (hr : Room (m + 1) X.A) (hb : Binds X.F fd ps []) (hg : Gl X x) (hdb : (x == ("__debug__" : Str)) = false)
    (he : starEach (e :: es) X.env = (false, eval e X.env) :: starEach es X.env) (hpl : (backTo pos (starEach es X.env)).any (·.1) = false) (ha : PA X (e :: es) (liftA X.F wr)) :
    PE X (.Call (.Name x p) (e :: es) [] pos) (lift X.F fun σ h Q => wr σ h fun ds h1 => M.run P (m + 1) (M.mkN c) ds h1 Q xx) := by
  subst hx
  refine (pe_make mk F hr hg hm hb .nil pass0 ha hdb he hpl).imp fun σ H Q ⟨σa, h, Qa, rs, rh, q, k⟩ => ?_
  refine liftA_go rs rh q fun ds h1 vs H1 q1 f1 r1 rh1 _ => ?_
  exact fun x dx nx nd ne => new_spec (K := X.F) hP hm cl rh1 r1 q1 (k.go f1) nx nd ne
theorem s_new0 {P : M.Prog} {m : Nat} {c : M.Sx} {x : Str} {C fa : Addr} {fd : FuncData} {ps : List Str} {xx : M.XP} {p : Pos} (hP : P (M.mkN c) = none) (hx : x = sV c) (hm : X.mg (sV c) = some (.ref C)) (cl : Cls X.K C) (mk : Mk X.K C fa)
    (F : FnOk X.prog X.w X.F X.mg X.base CX0 m fa fd ps (spC X.F P m (M.metN c M.sInit))) (hr : Room (m + 1) X.A) (hb : Binds X.F fd ps []) (hg : Gl X x) (hdb : (x == ("__debug__" : Str)) = false) :
    PE X (.Call (.Name x p) [] [] pos) (lift X.F fun σ h Q => M.run P (m + 1) (M.mkN c) [] h Q xx) := by
  subst hx
  refine (pe_make0 mk F hr hg hm hb .nil pass0 hdb).imp fun σ H Q ⟨σa, h, Qa, rs, rh, q, k⟩ => ?_
  exact fun x dx nx nd ne => new_spec (K := X.F) (ds := []) (vs := []) hP hm cl rh rfl q k nx nd ne
end
end Snd
end
section
/-! Sound6e: the sum of a dict's values. -/
namespace Snd
open PySem L2 PySem.Spec PyProof.Rows
def valO (p d : Addr) : HO := .ext fun h => h.IsValuesView p d
theorem valO_ok {P : Program} {w : World} {H : Hp} {h : Heap} {p d : Addr} (e : h.get? p = some { cls := .type "dict_values", data := .fields #[.ref d] }) : ObjOk P w H h p (valO p d) :=
  ⟨⟨_, e, rfl, rfl⟩, ⟨_, e⟩, fun h1 h2 x k => let ⟨o, ho, r⟩ := x; ⟨o, k o ho, r⟩⟩
section
variable {X : L2.Cx}
def rValsK : V → List V → Hp → VK → Prop := fun x xs H Q => ∃ (a : Addr) (kvs : List (Key × V)), x = .ref a ∧ xs = [] ∧ H a = some (.dK kvs) ∧ ∀ p, H p = none → Q (.ref p) (upd H p (valO p a))
theorem mt_valsK : MtR X "dict.values" rValsK := by
  intro pins s σ H x xs v us Q I rx rxs h
  obtain ⟨a, kvs, rfl, rfl, ha, q⟩ := h
  cases rx
  cases rxs
  obtain ⟨z, hd, vs, rel, dd⟩ := dk_of I.hok ha
  refine call_meetsIn PySem.F.slot_dict_values dd.mapOf.typeIs PySem.F.entry_dict_values (PySem.F.args_dict_values_1 _) (meets_dict_values (mixKind X.prog X.w) a hd) ⟨⟨vs, dd⟩, ?_⟩
  have hf : H s.heap.objs.size = none := I.hok.fresh (Nat.le_refl _)
  exact ⟨.ref s.heap.objs.size, upd H s.heap.objs.size (valO s.heap.objs.size a), I.laid (t' := s.toks) (fun b u e => Heap.get?_push_of_some _ e) (Nat.le_refl _) (valO_ok (Heap.get?_push_size _ rfl)), rfl, q _ hf⟩
theorem kdu_sum0 {prog : Program} {w : World} {A : Around} {E : Value → Shared → Prop} {s : Shared} {T : String} {r d : Addr} {n : Nat} {P : Nat → Value → Prop} {OK : Heap → Prop} {Q : Value → Shared → Prop} (K : PySem.W.KdlSrc prog w T r d n P OK) (hh : A.handled = none) (hok : OK s.heap) (val : Nat → Int) (hval : ∀ (i : Nat) (v : Value), P i v → ∃ t : Tok, v = Value.int (val i) t)
    (h : ∀ (h' : Heap) (tk : Nat) (t' : Tok), (∀ b o, s.heap.get? b = some o → h'.get? b = some o) → Q (.int (preSum val n) t') { s with heap := h', toks := tk }) :
    wpAny (model prog w) A (call (.builtin "sum") [.ref r]) Q E s := by
  refine call_sum_walkAnyS ?_
  obtain ⟨oI, St, hit, W, st⟩ := K.iter A.in1 s hh hok
  refine hit _ _ ⟨s.heap.objs.size, _, _, _, n, P, _, val, rfl, W.toS, st, fun b hb => ?_, hval, fun s' t' hm => ?_⟩
  · show b < (s.heap.push oI).objs.size
    rw [size_push']
    rcases List.mem_cons.mp hb with e | hb
    · rw [e]; exact Nat.lt_succ_self _
    · rw [List.mem_singleton.mp hb]; exact Nat.lt_succ_of_lt (K.there _ hok).2
  · have hk : ∀ b o, s.heap.get? b = some o → s'.heap.get? b = some o := fun b o e =>
      hm.heap b o (fun hI => absurd (Heap.lt_size e) (by rw [List.mem_singleton.mp hI]; exact Nat.lt_irrefl _)) (Heap.get?_push_of_some _ e)
    rw [Moved.eq_with hm]
    exact h s'.heap s'.toks t' hk
theorem pre_sum : ∀ ns : List Int, preSum (fun i => (ns[i]?).getD 0) ns.length = ns.sum := by
  have key : ∀ (ns : List Int) (j : Nat), j ≤ ns.length → preSum (fun i => (ns[i]?).getD 0) j = (ns.take j).sum := by
    intro ns j
    induction j with
    | zero => intro _; simp [preSum]
    | succ j ih =>
      intro hj
      have lj : j < ns.length := by omega
      rw [preSum, ih (by omega), List.take_add_one, List.getElem?_eq_getElem lj, List.sum_append]
      simp
  intro ns
  rw [key ns _ (Nat.le_refl _), List.take_length]
theorem kv_at : ∀ {kvs : List (Key × V)} {vs : List (Key × Value)} {ns : List Int} {i : Nat} {k : Key} {v : Value}, KV kvs vs → kvs.map (·.2) = ns.map V.int → vs[i]? = some (k, v) → ∃ t, v = Value.int ((ns[i]?).getD 0) t
  | _, _, _, i, k, v, .nil, _, e => by simp at e
  | _, _, [], _, _, _, .cons _ _, h, _ => by simp at h
  | _, _, n :: ns, 0, k, v, .cons a b, h, e => by
    simp at e h
    subst e
    have := a.2
    rw [h.1] at this
    exact this
  | _, _, n :: ns, i + 1, k, v, .cons a b, h, e => by
    simp only [List.map_cons, List.cons.injEq] at h
    obtain ⟨t, ht⟩ := kv_at (i := i) b h.2 (by simpa using e)
    exact ⟨t, by simpa using ht⟩
def rSumV : List V → Hp → VK → Prop := fun xs H Q => ∃ (p a : Addr) (kvs : List (Key × V)) (ns : List Int), xs = [.ref p] ∧ H p = some (valO p a) ∧ H a = some (.dK kvs) ∧ kvs.map (·.2) = ns.map V.int ∧ Q (.int ns.sum) H
theorem cr_sumV (hc : X.calm = true) : CallR X (.builtin "sum") rSumV := by
  intro pins s σ H xs us Q I r h
  obtain ⟨p, a, kvs, ns, rfl, hv, ha, hn, q⟩ := h
  obtain ⟨hview, _⟩ := I.hok p _ hv
  obtain ⟨z, hd, vs, rel, dd⟩ := dk_of I.hok ha
  obtain ⟨ep, hat⟩ := dd.dictAt
  rw [Vals.ref1 r]
  have l1 : kvs.length = vs.length := Paired.length rel
  have l2 : kvs.length = ns.length := by simpa using congrArg List.length hn
  refine kdu_sum0 (PySem.W.kdl_values (knd := mixKind X.prog X.w) (kvs := vs) (ep := ep)) (I.ok.hd hc) ⟨hview, hat⟩ (fun i => (ns[i]?).getD 0) (fun i v ⟨k, e⟩ => kv_at rel hn e) fun h' tk t' hk => ?_
  rw [← l1, l2, pre_sum]
  exact ⟨.int _, H, I.kept hk, ⟨_, rfl⟩, q⟩
end
section
variable {X : L2.Cx} {wa : WE} {y : Expr} {p pos apos cpos : Pos}
theorem ints_vals {K : Fr} {H : Hp} : ∀ {kvs : List (SD × SD)} {ps : List (Key × V)} {ns : List Int}, Paired (PR K H R0) kvs ps → M.intsOf (kvs.map (·.2)) = some ns → ps.map (·.2) = ns.map V.int
  | _, _, ns, .nil, h => by
    simp [M.intsOf] at h
    subst h
    rfl
  | _, _, ns, .cons (a := x) (b := q) a b, h => by
    simp only [List.map_cons] at h ⊢
    obtain ⟨k, d⟩ := x
    cases d <;> simp [M.intsOf] at h
    obtain ⟨ms, e1, rfl⟩ := h
    have := ints_vals b e1
    rw [this, show q.2 = _ from a.2]
    rfl
/-- sum(y.values()) -/
theorem s_smv {x : Str} (hx : x = ("sum" : Str)) (hcalm : X.calm = true) (hg : Gl X x) (hm : X.mg x = none) (hbase : attributeBase y "values" X.env (eval y X.env) = eval y X.env) (hline : (apos.endLine == cpos.line) = true) (ha : PE X y (lift X.F wa)) :
    PE X (.Call (.Name x p) [.Call (.Attribute y "values" apos) [] [] cpos] [] pos) (lift X.F fun σ h Q => wa σ h fun d h1 => M.aVals d h1 fun kvs => M.aSome (M.intsOf (kvs.map (·.2))) fun ns => Q (.int ns.sum) h1) := by
  subst hx
  refine (pe_callB (cr_sumV hcalm) hg hm PyProof.Rows.boot_sum (pa_cons (pe_bm0 PySem.F.plainAttrs_dict PySem.F.slot_dict_values PySem.F.type_dict_values mt_valsK ha hbase hline) pa_nil) (by decide +kernel) (by decide +kernel) rfl rfl).imp fun σ H Q ⟨σa, h, Qa, rs, rh, q, k⟩ => ?_
  refine lift_go rs rh q fun d h1 v H1 q1 f1 r1 rh1 rs1 => ?_
  cases d with
  | ref r =>
    cases (show v = _ from r1)
    simp only [M.aVals] at q1
    cases e : h1 r with
    | none => rw [e] at q1; exact q1.elim
    | some o =>
      rw [e] at q1
      match o, e, q1 with
      | .dct 0 kvs, e, q1 =>
        obtain ⟨ps, eH, pr⟩ := dct0.mp (rh1 r _ e)
        cases en : M.intsOf (kvs.map (·.2)) with
        | none => simp only [en] at q1; exact q1.elim
        | some ns =>
          simp only [en] at q1
          refine ⟨.inr (.inr (.inl ⟨rfl, .inl ⟨_, eH⟩⟩)), r, ps, rfl, rfl, eH, fun p hp => ?_⟩
          have np : r ≠ p := ne_of_none eH hp
          exact ⟨p, r, ps, ns, rfl, upd_same, by rw [upd_ne np]; exact eH, ints_vals pr en, k _ h1 _ _ q1 (f1.trans (frm_hid hp)) rfl (rh_hid rh1 hp)⟩
  | _ => exact False.elim q1
end
end Snd
end
section
/-! Sound7: the IR against the text, and the whole. -/
namespace Snd
open PySem L2 PySem.Spec PyProof.Rows

def visB (sc : Scope) (x : Str) : Bool := match sc.names.lookup x with
  | some .local => true | some .cell => true | some .free => true | _ => false
def locB (s0 : Scope) (x : Str) : Bool := match s0.names.lookup x with
  | some .local => true | some .cell => true | _ => false
def glB (sc : Scope) (x : Str) : Bool := match sc.names.lookup x with
  | some .globalImplicit => true | _ => false
def plainN (x : Str) : Bool := !(x == ("__debug__" : Str)) && !(x == ("__classdict__" : Str))
def opB (o : M.Bop) : Operator → Bool
  | .Add => (match o with | .add => true | _ => false)
  | .Sub => (match o with | .sub => true | _ => false)
  | .Mult => (match o with | .mul => true | _ => false)
  | .Mod => (match o with | .mod => true | _ => false)
  | .FloorDiv => (match o with | .fdiv => true | _ => false)
  | .Pow => (match o with | .pow => true | _ => false)
  | _ => false
theorem opB_eq {o : M.Bop} {p : Operator} (h : opB o p = true) : p = bop o := by cases p <;> cases o <;> first | rfl | cases h
def copB (o : M.Cop) : CmpOp → Bool
  | .Eq => (match o with | .eq => true | _ => false)
  | .NotEq => (match o with | .ne => true | .nes => true | _ => false)
  | .Lt => (match o with | .lt => true | _ => false)
  | .LtE => (match o with | .le => true | _ => false)
  | .Gt => (match o with | .gt => true | _ => false)
  | .GtE => (match o with | .ge => true | _ => false)
  | .In => (match o with | .isin => true | _ => false)
  | .NotIn => (match o with | .notin => true | _ => false)
  | .Is => (match o with | .is_ => true | _ => false)
  | .IsNot => (match o with | .isnt => true | _ => false)
theorem copB_eq {o : M.Cop} {p : CmpOp} (h : copB o p = true) : p = cop o := by cases p <;> cases o <;> first | rfl | cases h
def bltB (bn : List Str) (sc : Scope) (b : M.Blt) (x : Str) : Bool := match bltK b with
  | some bk => decide (x = bk.name) && bn.contains x && glB sc x
  | none => false
def mthB (m : M.Mth) (x : Str) : Bool := match mthT m with
  | some (_, _, nm) => decide (x = nm)
  | none => false
/-- not a call without arguments: super() is one -/
def recvB : Expr → Bool
  | .Call _ [] _ _ => false
  | _ => true
def ownB (N : List Str) : List Nat → Option (List (Str × Nat))
  | [] => some []
  | i :: is => match N[i]?, ownB N is with
    | some x, some r => some ((x, i) :: r)
    | _, _ => none
theorem ownB_map {N : List Str} : ∀ {is : List Nat} {r : List (Str × Nat)}, ownB N is = some r → r.map (·.2) = is
  | [], r, e => by simp only [ownB, Option.some.injEq] at e; subst e; rfl
  | i :: is, r, e => by
    simp only [ownB] at e
    cases e1 : N[i]? <;> cases e2 : ownB N is <;> simp [e1, e2] at e
    subst e
    simp [ownB_map e2]
def nmB (N : List Str) (s0 : Scope) (i : Nat) : Expr → Bool
  | .Name x _ => decide (N[i]? = some x) && locB s0 x
  | _ => false
def nmsB (N : List Str) (s0 : Scope) : List Nat → List Expr → Bool
  | [], [] => true
  | i :: is, e :: es => nmB N s0 i e && nmsB N s0 is es
  | _, _ => false
def tgB (N : List Str) (s0 : Scope) : M.Tgt → Expr → Bool
  | .nm i, e => nmB N s0 i e
  | .tp ts, .Tuple es _ _ => nmsB N s0 ts es
  | _, _ => false
def chrB (s : M.Sx) : Bool := s.all fun c => decide (c < 0x110000)
def smallB (n : Nat) : Bool := decide (n < 20)

/-- what may stand unread: what is never reached -/
@[simp] def badB : Expr → Bool
  | .Call .. => true
  | .Subscript .. => true
  | .Attribute .. => true
  | .Name .. => true
  | .BinOp .. => true
  | .Dict .. => true
  | _ => false
@[simp] def lockB : Expr → Bool
  | .Call .. => true
  | _ => false
/-- the def's names by slot, the built-in names that stand free, the program's defs -/
structure Tb where
  N : List Str
  bn : List Str
  fs : List M.Sx
  gs : List (M.Sx × Int)
  ts : List (M.Sx × List (M.Sx × M.Sx))
  cs : List M.Sx
  ms : List (M.Sx × M.Sx)
  at_ : List (M.Sx × M.Sx)
  ds : List (M.Sx × Nat)
def revB : Expr → Bool
  | .Slice none none (some (.UnaryOp .USub (.Constant (.int m) _ _) _)) _ => decide (m = 1)
  | _ => false
theorem revB_eq {j : Expr} (h : revB j = true) : ∃ k p1 p2 p3, j = .Slice none none (some (.UnaryOp .USub (.Constant (.int 1) k p1) p2)) p3 := by
  unfold revB at h
  split at h
  · have := of_decide_eq_true h
    subst this
    exact ⟨_, _, _, _, rfl⟩
  · cases h
def tlrB : Expr → Bool
  | .Slice none (some (.Constant (.int z) _ _)) (some (.UnaryOp .USub (.Constant (.int m) _ _) _)) _ => decide (z = 0) && decide (m = 1)
  | _ => false
theorem tlrB_eq {j : Expr} (h : tlrB j = true) : ∃ k0 k p0 p1 p2 p3, j = .Slice none (some (.Constant (.int 0) k0 p0)) (some (.UnaryOp .USub (.Constant (.int 1) k p1) p2)) p3 := by
  unfold tlrB at h
  split at h
  · simp only [Bool.and_eq_true, decide_eq_true_eq] at h
    obtain ⟨rfl, rfl⟩ := h
    exact ⟨_, _, _, _, _, _, rfl⟩
  · cases h
mutual
def mtE (T : Tb) : Scope → Scope → M.E → Expr → Bool
  | sc, s0, .var i, e => (match e with
    | .Name x _ => decide (T.N[i]? = some x) && visB sc x && plainN x
    | _ => false)
  | sc, s0, .int n, e => (match e with
    | .Constant (.int m) _ _ => decide (m = n)
    | _ => false)
  | sc, s0, .str s, e => (match e with
    | .Constant (.str x) _ _ => decide (x = sV s) && chrB s
    | _ => false)
  | sc, s0, .bl b, e => (match e with
    | .Constant (.bool c) _ _ => b == c
    | _ => false)
  | sc, s0, .non, e => (match e with
    | .Constant .none _ _ => true
    | _ => false)
  | sc, s0, .gint x n, e => (match e with
    | .Name y _ => decide (y = sV x) && T.gs.contains (x, n) && glB sc y && plainN y
    | _ => false)
  | sc, s0, .slw a lo hi, e => (match e with
    | .Subscript x (.Slice l u none _) _ => mtE T sc s0 a x && mtO T sc s0 lo l && mtO T sc s0 hi u
    | _ => false)
  | sc, s0, .mnd es, e => (match e with
    | .Call (.Name x _) (y :: l) [⟨kw, .Constant .none _ _, _⟩] _ => decide (x = ("min" : Str)) && decide (kw = some ("default" : Str)) && T.bn.contains x && glB sc x && mtEs T sc s0 es (y :: l)
    | _ => false)
  | sc, s0, .orv a b, e => (match e with
    | .BoolOp .Or [x, .Constant (.int i) j p] _ => mtE T sc s0 a x && mtE T sc s0 b (.Constant (.int i) j p)
    | _ => false)
  | sc, s0, .tix x tab a, e => (match e with
    | .Subscript (.Name y _) j _ => decide (y = sV x) && T.ts.contains (x, tab) && glB sc y && plainN y && mtE T sc s0 a j
    | _ => false)
  | sc, s0, .gstr _ _, e => false
  | sc, s0, .tup es, e => (match e with
    | .Tuple l _ _ => mtEs T sc s0 es l
    | _ => false)
  | sc, s0, .lst es, e => (match e with
    | .List l _ => mtEs T sc s0 es l
    | _ => false)
  | sc, s0, .dct k es, e => (match e with
    | .Dict ks vs _ => (match k, es with
      | 0, .nil => ks.isEmpty && vs.isEmpty
      | 0, .cons a r => mtPs T sc s0 (.cons a r) ks vs && decide (ks.length ≤ 15)
      | _, _ => false)
    | _ => false)
  | sc, s0, .dcn, e => (match e with
    | .Dict ks vs _ => ks.isEmpty && vs.isEmpty
    | _ => false)
  | sc, s0, .bad, e => badB e
  | sc, s0, .lock i a, e => lockB e && mtE T sc s0 a e
  | sc, s0, .lzip es, e => (match e with
    | .Call (.Name x _) [.Call (.Name z _) [a, b] [] _] [] _ => decide (x = ("list" : Str)) && T.bn.contains x && glB sc x && decide (z = ("zip" : Str)) && T.bn.contains z && glB sc z && mtEs T sc s0 es [a, b]
    | _ => false)
  | sc, s0, .lrng es, e => (match e with
    | .Call (.Name x _) [.Call (.Name z _) (y :: l) [] _] [] _ => decide (x = ("list" : Str)) && T.bn.contains x && glB sc x && decide (z = ("range" : Str)) && T.bn.contains z && glB sc z && mtEs T sc s0 es (y :: l) && decide (l.length < 2)
    | _ => false)
  | sc, s0, .rev a, e => (match e with
    | .Subscript x j _ => revB j && mtE T sc s0 a x
    | _ => false)
  | sc, s0, .tlr a, e => (match e with
    | .Subscript x j _ => tlrB j && mtE T sc s0 a x
    | _ => false)
  | sc, s0, .bin o a b, e => (match e with
    | .BinOp l op r _ => opB o op && mtE T sc s0 a l && mtE T sc s0 b r
    | _ => false)
  | sc, s0, .neg a, e => (match e with
    | .UnaryOp .USub x _ => mtE T sc s0 a x
    | _ => false)
  | sc, s0, .cmp o a b, e => (match e with
    | .Compare l [op] [r] _ => copB o op && mtE T sc s0 a l && mtE T sc s0 b r
    | _ => false)
  | sc, s0, .chn o o' a b c, e => (match e with
    | .Compare l [op, op'] [r, r'] _ => copB o op && copB o' op' && mtE T sc s0 a l && mtE T sc s0 b r && mtE T sc s0 c r'
    | _ => false)
  | sc, s0, .bop k es, e => (match e with
    | .BoolOp .And (x :: l) _ => k && mtEs T sc s0 es (x :: l) && testsB (x :: l)
    | .BoolOp .Or (x :: l) _ => !k && mtEs T sc s0 es (x :: l) && testsB (x :: l)
    | _ => false)
  | sc, s0, .not a, e => (match e with
    | .UnaryOp .Not x _ => mtE T sc s0 a x && testB x
    | _ => false)
  | sc, s0, .ite c a b, e => (match e with
    | .IfExp t l r _ => mtE T sc s0 c t && testB t && mtE T sc s0 a l && mtE T sc s0 b r
    | _ => false)
  | sc, s0, .ix a i, e => (match e with
    | .Subscript x j _ => mtE T sc s0 a x && mtE T sc s0 i j
    | _ => false)
  | sc, s0, .sl a lo hi, e => (match e with
    | .Subscript x (.Slice l u none _) _ => mtE T sc s0 a x && mtO T sc s0 lo l && mtO T sc s0 hi u
    | _ => false)
  | sc, s0, .call f es, e => (match e with
    | .Call (.Name x _) l [] _ => decide (x = sV f) && T.fs.contains f && glB sc x && plainN x && mtEs T sc s0 es l
    | _ => false)
  | sc, s0, .callD f k es, e => (match e with
    | .Call (.Name x _) (y :: l) [] _ => decide (x = sV f) && T.ds.contains (f, k) && glB sc x && plainN x && mtEs T sc s0 es (y :: l)
    | _ => false)
  | sc, s0, .smv a, e => (match e with
    | .Call (.Name x _) [.Call (.Attribute y nm apos) [] [] cpos] [] _ => decide (x = ("sum" : Str)) && T.bn.contains x && glB sc x && decide (nm = ("values" : Str)) && (apos.endLine == cpos.line) && recvB y && mtE T sc s0 a y
    | _ => false)
  | sc, s0, .fld a f, e => (match e with
    | .Attribute y nm _ => decide (nm = sV f) && recvB y && mtE T sc s0 a y
    | _ => false)
  | sc, s0, .newo c es, e => (match e with
    | .Call (.Name x _) l [] _ => decide (x = sV c) && T.cs.contains c && glB sc x && plainN x && mtEs T sc s0 es l
    | _ => false)
  | sc, s0, .mcall c m o es, e => (match e with
    | .Call (.Attribute x nm apos) l [] pos => decide (nm = sV m) && T.ms.contains (c, m) && (apos.endLine == pos.line) && recvB x && mtE T sc s0 o x && mtEs T sc s0 es l && smallB l.length
    | _ => false)
  | sc, s0, .blt b es, e => (match e with
    | .Call (.Name x _) (y :: l) [] _ => bltB T.bn sc b x && mtEs T sc s0 es (y :: l)
    | _ => false)
  | sc, s0, .isi a t, e => (match e with
    | .Call (.Name x _) [y, .Name z _] [] _ => decide (x = ("isinstance" : Str)) && T.bn.contains x && glB sc x && decide (z = Str.ofString (tyS t)) && T.bn.contains z && glB sc z && mtE T sc s0 a y
    | _ => false)
  | sc, s0, .mth m o es, e => (match e with
    | .Call (.Attribute x nm apos) l [] pos => mthB m nm && (apos.endLine == pos.line) && recvB x && mtE T sc s0 o x && mtEs T sc s0 es l && smallB l.length
    | _ => false)
  | sc, s0, .lc elt t own k src ifs, e => (match e with
    | .ListComp x [⟨tg, it, cs, a⟩] scope _ => decide (a = 0) && tgtIn own t && tgB T.N scope t tg && mtI T sc s0 k src it && tupK k t && compsB T.N sc scope own &&
        mtEs T (relS scope sc) scope ifs cs && testsB cs && decide (cs.length < 2) && mtE T (relS scope sc) scope elt x
    | _ => false)
def mtEs (T : Tb) : Scope → Scope → M.Es → List Expr → Bool
  | sc, s0, .nil, l => l.isEmpty
  | sc, s0, .cons e es, l => (match l with
    | x :: r => mtE T sc s0 e x && mtEs T sc s0 es r
    | [] => false)
def mtPs (T : Tb) : Scope → Scope → M.Es → List (Option Expr) → List Expr → Bool
  | sc, s0, .nil, ks, vs => ks.isEmpty && vs.isEmpty
  | sc, s0, .cons a .nil, ks, vs => false
  | sc, s0, .cons a (.cons b r), ks, vs => (match ks, vs with
    | some x :: ks, y :: vs => mtE T sc s0 a x && mtE T sc s0 b y && mtPs T sc s0 r ks vs
    | _, _ => false)
def mtO (T : Tb) : Scope → Scope → M.Es → Option Expr → Bool
  | sc, s0, .nil, o => o.isNone
  | sc, s0, .cons e es, o => (match o with
    | some x => mtE T sc s0 e x && (match es with
      | .nil => true
      | _ => false)
    | none => false)
def mtI (T : Tb) : Scope → Scope → M.Itk → M.Es → Expr → Bool
  | sc, s0, k, .nil, e => false
  | sc, s0, k, .cons a r, e => (match k with
    | .seq => mtE T sc s0 a e && (match r with
      | .nil => true
      | _ => false)
    | .rng => (match e with
      | .Call (.Name x _) (y :: l) [] _ => decide (x = ("range" : Str)) && T.bn.contains x && glB sc x && mtE T sc s0 a y && mtEs T sc s0 r l && decide (l.length < 2)
      | _ => false)
    | .enum => (match e with
      | .Call (.Name x _) [y] [] _ => decide (x = ("enumerate" : Str)) && T.bn.contains x && glB sc x && mtE T sc s0 a y && (match r with
        | .nil => true
        | _ => false)
      | _ => false)
    | .keys => mtE T sc s0 a e && (match r with
      | .nil => true
      | _ => false)
    | .rev => (match e with
      | .Call (.Name x _) [y] [] _ => decide (x = ("reversed" : Str)) && T.bn.contains x && glB sc x && mtE T sc s0 a y && (match r with
        | .nil => true
        | _ => false)
      | _ => false)
    | .rrng => (match e with
      | .Call (.Name x _) [.Call (.Name z _) [y] [] _] [] _ => decide (x = ("reversed" : Str)) && T.bn.contains x && glB sc x && decide (z = ("range" : Str)) && T.bn.contains z && glB sc z && mtE T sc s0 a y && (match r with
        | .nil => true
        | _ => false)
      | _ => false)
    | .zip => (match e with
      | .Call (.Name x _) [y, z] [] _ => decide (x = ("zip" : Str)) && T.bn.contains x && glB sc x && mtE T sc s0 a y && mtEs T sc s0 r [z]
      | _ => false)
    | .values => (match e with
      | .Call (.Attribute y nm apos) [] [] cpos => decide (nm = ("values" : Str)) && (apos.endLine == cpos.line) && recvB y && mtE T sc s0 a y && (match r with
        | .nil => true
        | _ => false)
      | _ => false)
    | .items => (match e with
      | .Call (.Attribute y nm apos) [] [] cpos => decide (nm = ("items" : Str)) && (apos.endLine == cpos.line) && recvB y && mtE T sc s0 a y && (match r with
        | .nil => true
        | _ => false)
      | _ => false))
def testB : Expr → Bool
  | .IfExp .. => false
  | .BoolOp .Or [_, .Constant (.int _) _ _] _ => false
  | _ => true
def testsB : List Expr → Bool
  | [] => true
  | e :: es => testB e && testsB es
/-- enumerate and its like give pairs to a pair of names -/
def tupK : M.Itk → M.Tgt → Bool
  | .enum, .tp _ => true
  | .enum, _ => false
  | .zip, .tp _ => true
  | .zip, _ => false
  | .items, .tp _ => true
  | .items, _ => false
  | _, _ => true
/-- what walks give pairs alone -/
def needT : M.Itk → Bool
  | .enum => true
  | .zip => true
  | .items => true
  | _ => false
def compsB (N : List Str) (sc scope : Scope) (own : List Nat) : Bool := match ownB N own with
  | some r => blkC N sc scope r
  | none => false
end

/-! ### what a matched expression is not -/
def okX : Expr → Bool
  | .Starred .. => false
  | .Slice .. => false
  | .Set .. => false
  | _ => true
theorem ok_mt {T : Tb} {sc s0 : Scope} {ir : M.E} {e : Expr} (h : mtE T sc s0 ir e = true) : okX e = true := by
  cases e <;> first | rfl | (cases ir <;> first | (exact absurd h (by simp [mtE, badB, lockB])))
section
variable {e : Expr} {es : List Expr} {env : Env}
theorem ok_star (h : okX e = true) : starEach (e :: es) env = (false, eval e env) :: starEach es env := by cases e <;> first | rfl | cases h
theorem ok_ix (h : okX e = true) : PlainIx e := by intro o i; cases e <;> first | rfl | cases h
theorem ok_behind (h : okX e = true) {op : CmpOp} : behindInMarks op e = false := by cases e <;> first | rfl | cases h
theorem ok_fold (h : okX e = true) {x : Value} : foldedSetIterable e env x = pure x := by cases e <;> first | rfl | cases h
theorem ok_base (h : recvB e = true) {nm : Str} : attributeBase e nm env (eval e env) = eval e env := by
  cases e <;> try rfl
  rename_i f as kw p
  cases as with
  | nil => cases h
  | cons a as => cases f <;> rfl
end
end Snd
end
section
/-! Sound8: what the IR says of a text holds of the model's run of it. -/
namespace Snd
open PySem L2 PySem.Spec PyProof.Rows

/-- the context in which a matched text runs -/
structure XOk (P : M.Prog) (n : Nat) (T : Tb) (sc s0 : Scope) (X : L2.Cx) : Prop where
  eN : X.N = T.N
  nd : X.N.Nodup
  eS : X.env.scope = sc
  st : ∀ x, locB s0 x = true → L2.Loc sc x ∧ (X.fn x = true ∨ sc.names.lookup x = some NameKind.local)
  calm : X.calm = true
  room : Room n X.A
  xe : X.xe = fun _ _ => False
  free : ∀ x ∈ T.bn, X.mg x = none
  fn : ∀ f ∈ T.fs, ∃ fa fdc ps, X.mg (sV f) = some (.ref fa) ∧ PySem.W.keepIn X.F (.ref fa) = true ∧ FnOk X.prog X.w X.F X.mg X.base CX0 n fa fdc ps (spC X.F P n f) ∧ Binds X.F fdc ps []
  gi : ∀ p ∈ T.gs, ∃ t, X.mg (sV p.1) = some (.int p.2 t)
  tb : ∀ p ∈ T.ts, ∃ a, X.mg (sV p.1) = some (.ref a) ∧ ∀ s t, p.2.lookup s = some t → KDct X.F X.w a (sV s) (.str (sV t)) ∧ sOk t
  cs : ∀ c ∈ T.cs, P (M.mkN c) = none ∧ ∃ C, X.mg (sV c) = some (.ref C) ∧ PySem.W.keepIn X.K (.ref C) = true ∧ Cls X.K C ∧ ∀ m, n = m + 1 → ∃ fa fd ps, Mk X.K C fa ∧ FnOk X.prog X.w X.F X.mg X.base CX0 m fa fd ps (spC X.F P m (M.metN c M.sInit)) ∧ Binds X.F fd ps []
  ms : ∀ q ∈ T.ms, ∃ C fa fd ps, X.mg (sV q.1) = some (.ref C) ∧ Cls X.K C ∧ Meth X.K C (sV q.2) fa ∧ FnOk X.prog X.w X.F X.mg X.base CX0 n fa fd ps (spC X.F P n (M.metN q.1 q.2)) ∧ Binds X.F fd ps []
  at_ : ∀ q ∈ T.at_, ∃ C, X.mg (sV q.1) = some (.ref C) ∧ NoAttr X.K C (sV q.2)
  ds : ∀ q ∈ T.ds, ∃ fa fdc ps us, X.mg (sV q.1) = some (.ref fa) ∧ PySem.W.keepIn X.F (.ref fa) = true ∧ FnOk X.prog X.w X.F X.mg X.base CX0 n fa fdc ps (spC X.F P n q.1) ∧ Vals (List.replicate q.2 V.non) us ∧ Binds X.F fdc ps us
section
variable {P : M.Prog} {n : Nat} {T : Tb} {sc s0 : Scope} {X : L2.Cx} {xx : M.XP}
theorem XOk.units (ok : XOk P n T sc s0 X) : X.A.units + 200 < cLine := by have := ok.room.un; have : cLine = 9900 := rfl; omega
theorem ba3 {a b c : Bool} (h : (a && b && c) = true) : a = true ∧ b = true ∧ c = true := by
  obtain ⟨h1, h2⟩ := ba h
  obtain ⟨h3, h4⟩ := ba h1
  exact ⟨h3, h4, h2⟩
theorem visB_ok {x : Str} (h : visB sc x = true) : Vis sc x := by
  unfold visB at h
  split at h
  · exact .inl (by assumption)
  · exact .inr (.inl (by assumption))
  · exact .inr (.inr (by assumption))
  · cases h
theorem glB_ok (ok : XOk P n T sc s0 X) {x : Str} (h : glB sc x = true) : Gl X x := by
  unfold glB at h
  split at h
  · show X.env.scope.names.lookup x = _
    rw [ok.eS]; assumption
  · cases h
theorem nm_ok (ok : XOk P n T sc s0 X) {i : Nat} {e : Expr} (h : nmB T.N s0 i e = true) : PG X e (gName i) := by
  cases e <;> try (cases h)
  rename_i x p
  obtain ⟨h1, h2⟩ := ba h
  have e1 : X.N[i]? = some x := by rw [ok.eN]; exact of_decide_eq_true h1
  obtain ⟨l, f⟩ := ok.st x h2
  exact pg_name ok.nd e1 (by rw [ok.eS]; exact l) (by rw [ok.eS]; exact f)
theorem nm_star {i : Nat} {e : Expr} {es : List Expr} {env : Env} (h : nmB T.N s0 i e = true) : assignEach (e :: es) env = (false, assign e env) :: assignEach es env := by
  cases e <;> first | rfl | cases h
theorem nms_ok (ok : XOk P n T sc s0 X) : ∀ {is : List Nat} {es : List Expr}, nmsB T.N s0 is es = true → PGs X es (gNames is) ∧ (assignEach es X.env).length = is.length ∧ (assignEach es X.env).findIdx? (·.1) = none
  | [], [], _ => ⟨pgs_nil, rfl, rfl⟩
  | [], _ :: _, h => by cases h
  | _ :: _, [], h => by cases h
  | i :: is, e :: es, h => by
    obtain ⟨h1, h2⟩ := ba h
    obtain ⟨a, b, c⟩ := nms_ok ok h2
    have q := nm_star (es := es) (env := X.env) h1
    refine ⟨pgs_cons (nm_ok ok h1) a (by rw [q]; rfl), by rw [q]; simp [b], ?_⟩
    rw [q, List.findIdx?_cons]
    simp [c]
theorem tg_ok (ok : XOk P n T sc s0 X) {t : M.Tgt} {e : Expr} (h : tgB T.N s0 t e = true) : PG X e (gOf X.F t) := by
  cases t with
  | nm i => exact nm_ok ok h
  | tp ts =>
    cases e <;> try (cases h)
    obtain ⟨a, b, c⟩ := nms_ok ok h
    exact pg_tup ok.calm a b c
theorem blk_ok (ok : XOk P n T sc s0 X) {scope : Scope} {own : List (Str × Nat)} (hb : BlkOk T.N sc scope own) (s : Shared) (H : Hp) (C : Addr) (cl : List (Str × Addr)) (fp : List Addr) : XOk P n T (relS scope sc) scope (X.blk s H scope (compEnvC scope cl C X.env) fp) := by
  have e : (compEnvC scope cl C X.env).scope = relS scope sc := by rw [← ok.eS]; rfl
  refine ⟨ok.eN, ok.nd, e, fun x hx => ?_, ok.calm, ok.room, rfl, ok.free, ok.fn, ok.gi, ok.tb, ok.cs, ok.ms, ok.at_, ok.ds⟩
  unfold locB at hx
  have key : ∀ k, k ≠ .free → scope.names.lookup x = some k → (relS scope sc).names.lookup x = some k := fun k hk h => lookup_relS_keep hk h
  split at hx
  · rename_i h
    exact ⟨.inl (key _ (by decide) h), .inr (key _ (by decide) h)⟩
  · rename_i h
    refine ⟨.inr (key _ (by decide) h), .inl ?_⟩
    show (scope.names.lookup x == some NameKind.cell) = true
    rw [h]; rfl
  · cases hx
theorem s_bopA {es : List Expr} {e : Expr} {pos : Pos} {wa : WE} {wb : WE} (ha : PE X e (lift X.F wa)) (hb : PE X (.BoolOp .And es pos) (lift X.F wb)) (hne : es ≠ []) :
    PE X (.BoolOp .And (e :: es) pos) (lift X.F fun σ h Q => wa σ h fun d h1 => match d with
    | .bl b => (match b == true with
      | true => wb σ h1 Q
      | false => Q (.bl b) h1)
    | _ => False) := by
  obtain ⟨e2, es2, rfl⟩ : ∃ e2 es2, es = e2 :: es2 := by cases es with
    | nil => exact absurd rfl hne
    | cons a b => exact ⟨a, b, rfl⟩
  refine (pe_and ha hb).imp fun σ H Q ⟨σa, h, Qa, rs, rh, q, k⟩ => ?_
  refine lift_go rs rh q fun d h1 v H1 q1 f1 r1 rh1 rs1 => ?_
  cases d with
  | bl b =>
    cases (show v = _ from r1)
    refine ⟨b, rfl, ?_⟩
    cases b with
    | true => exact lift_go rs1 rh1 q1 fun d h2 v H2 q2 f2 r2 rh2 _ => k _ _ _ _ q2 (f1.trans f2) r2 rh2
    | false => exact (k.go f1).now rh1 q1 rfl
  | _ => exact q1.elim
theorem s_bopO {es : List Expr} {e : Expr} {pos : Pos} {wa : WE} {wb : WE} (ha : PE X e (lift X.F wa)) (hb : PE X (.BoolOp .Or es pos) (lift X.F wb)) (hne : es ≠ []) :
    PE X (.BoolOp .Or (e :: es) pos) (lift X.F fun σ h Q => wa σ h fun d h1 => match d with
    | .bl b => (match b == false with
      | true => wb σ h1 Q
      | false => Q (.bl b) h1)
    | _ => False) := by
  obtain ⟨e2, es2, rfl⟩ : ∃ e2 es2, es = e2 :: es2 := by cases es with
    | nil => exact absurd rfl hne
    | cons a b => exact ⟨a, b, rfl⟩
  refine (pe_or ha hb).imp fun σ H Q ⟨σa, h, Qa, rs, rh, q, k⟩ => ?_
  refine lift_go rs rh q fun d h1 v H1 q1 f1 r1 rh1 rs1 => ?_
  cases d with
  | bl b =>
    cases (show v = _ from r1)
    refine ⟨b, rfl, ?_⟩
    cases b with
    | false => exact lift_go rs1 rh1 q1 fun d h2 v H2 q2 f2 r2 rh2 _ => k _ _ _ _ q2 (f1.trans f2) r2 rh2
    | true => exact (k.go f1).now rh1 q1 rfl
  | _ => exact q1.elim
/-- the last of and, or -/
theorem s_bop1 {o : BoolOp} {k : Bool} {e : Expr} {pos : Pos} {wa : WE} (ha : PE X e (lift X.F wa)) :
    PE X (.BoolOp o [e] pos) (lift X.F fun σ h Q => wa σ h fun d h1 => match d with
    | .bl b => (match b == k with
      | true => Q (.bl k) h1
      | false => Q (.bl b) h1)
    | _ => False) := by
  refine (pe_one ha).imp fun σ H Q ⟨σa, h, Qa, rs, rh, q, kk⟩ => ?_
  refine lift_go rs rh q fun d h1 v H1 q1 f1 r1 rh1 rs1 => ?_
  cases d with
  | bl b =>
    refine (kk.go f1).now rh1 ?_ r1
    cases b <;> cases k <;> exact q1
  | _ => exact q1.elim
theorem w_bopA {es : List Expr} {e : Expr} {pos : Pos} {wa : WE} {wb : WE} (ha : PT X e (liftT X.F wa)) (hb : PW X (.BoolOp .And es pos) (liftT X.F wb)) (hne : es ≠ []) :
    PW X (.BoolOp .And (e :: es) pos) (liftT X.F fun σ h Q => wa σ h fun d h1 => match d with
    | .bl b => (match b == true with
      | true => wb σ h1 Q
      | false => Q (.bl b) h1)
    | _ => False) := by
  obtain ⟨e2, es2, rfl⟩ : ∃ e2 es2, es = e2 :: es2 := by cases es with
    | nil => exact absurd rfl hne
    | cons a b => exact ⟨a, b, rfl⟩
  refine (pw_and ha hb).imp fun σ H Q ⟨σa, h, Qa, rs, rh, q, k⟩ => ?_
  refine ⟨σa, h, _, rs, rh, q, fun d h1 q1 => ?_⟩
  cases d with
  | bl b =>
    refine ⟨b, rfl, fun H1 f1 rh1 => ?_⟩
    cases b with
    | true => exact iteT ⟨σa, h1, _, rs.kp (f1.kp rh), rh1, q1, fun d h2 q2 => let ⟨b, e, kk⟩ := k d h2 q2; ⟨b, e, fun H2 f2 rh2 => kk H2 (f1.trans f2) rh2⟩⟩
    | false =>
      obtain ⟨b, e, kk⟩ := k _ _ q1
      cases e
      exact iteF (kk H1 f1 rh1)
  | _ => exact q1.elim
theorem w_bopO {es : List Expr} {e : Expr} {pos : Pos} {wa : WE} {wb : WE} (ha : PT X e (liftT X.F wa)) (hb : PW X (.BoolOp .Or es pos) (liftT X.F wb)) (hne : es ≠ []) :
    PW X (.BoolOp .Or (e :: es) pos) (liftT X.F fun σ h Q => wa σ h fun d h1 => match d with
    | .bl b => (match b == false with
      | true => wb σ h1 Q
      | false => Q (.bl b) h1)
    | _ => False) := by
  obtain ⟨e2, es2, rfl⟩ : ∃ e2 es2, es = e2 :: es2 := by cases es with
    | nil => exact absurd rfl hne
    | cons a b => exact ⟨a, b, rfl⟩
  refine (pw_or ha hb).imp fun σ H Q ⟨σa, h, Qa, rs, rh, q, k⟩ => ?_
  refine ⟨σa, h, _, rs, rh, q, fun d h1 q1 => ?_⟩
  cases d with
  | bl b =>
    refine ⟨b, rfl, fun H1 f1 rh1 => ?_⟩
    cases b with
    | false => exact iteF ⟨σa, h1, _, rs.kp (f1.kp rh), rh1, q1, fun d h2 q2 => let ⟨b, e, kk⟩ := k d h2 q2; ⟨b, e, fun H2 f2 rh2 => kk H2 (f1.trans f2) rh2⟩⟩
    | true =>
      obtain ⟨b, e, kk⟩ := k _ _ q1
      cases e
      exact iteT (kk H1 f1 rh1)
  | _ => exact q1.elim
theorem w_bop1A {k : Bool} {e : Expr} {pos : Pos} {wa : WE} (ha : PT X e (liftT X.F wa)) :
    PW X (.BoolOp .And [e] pos) (liftT X.F fun σ h Q => wa σ h fun d h1 => match d with
    | .bl b => (match b == k with
      | true => Q (.bl k) h1
      | false => Q (.bl b) h1)
    | _ => False) := by
  refine (pw_and1 ha).imp fun σ H Q ⟨σa, h, Qa, rs, rh, q, kk⟩ => ?_
  refine ⟨σa, h, _, rs, rh, q, fun d h1 q1 => ?_⟩
  cases d with
  | bl b =>
    have q2 : Qa (.bl b) h1 := by cases b <;> cases k <;> exact q1
    exact kk _ _ q2
  | _ => exact q1.elim
theorem w_bop1O {k : Bool} {e : Expr} {pos : Pos} {wa : WE} (ha : PT X e (liftT X.F wa)) :
    PW X (.BoolOp .Or [e] pos) (liftT X.F fun σ h Q => wa σ h fun d h1 => match d with
    | .bl b => (match b == k with
      | true => Q (.bl k) h1
      | false => Q (.bl b) h1)
    | _ => False) := by
  refine (pw_or1 ha).imp fun σ H Q ⟨σa, h, Qa, rs, rh, q, kk⟩ => ?_
  refine ⟨σa, h, _, rs, rh, q, fun d h1 q1 => ?_⟩
  cases d with
  | bl b =>
    have q2 : Qa (.bl b) h1 := by cases b <;> cases k <;> exact q1
    exact kk _ _ q2
  | _ => exact q1.elim
end

/-- the readings of one expression, as a value and as a test -/
structure EOk (X : L2.Cx) (e : Expr) (w : WE) : Prop where
  v : PE X e (lift X.F w)
  t : testB e = true → PT X e (liftT X.F w)
structure BOk (X : L2.Cx) (k : Bool) (es : List Expr) (w : WE) : Prop where
  v : ∀ pos, PE X (.BoolOp (if k then .And else .Or) es pos) (lift X.F w)
  t : testsB es = true → ∀ pos, PW X (.BoolOp (if k then .And else .Or) es pos) (liftT X.F w)
def C (P : M.Prog) (n : Nat) (xx : M.XP) : M.Cx := ⟨M.run P n, xx⟩
section
variable {P : M.Prog} {n : Nat} {T : Tb} {xx : M.XP}
theorem call_any {sc s0 : Scope} {X : L2.Cx} (ok : XOk P n T sc s0 X) {x : Str} {p pos : Pos} {l : List Expr} {f : M.Sx} {w : WA} (hx : x = sV f) (hf : f ∈ T.fs) (hg : glB sc x = true) (hp : plainN x = true)
    (hl : ∀ e es, l = e :: es → starEach (e :: es) X.env = (false, eval e X.env) :: starEach es X.env ∧ (backTo pos (starEach es X.env)).any (·.1) = false) (ha : PA X l (liftA X.F w)) (h0 : l = [] → ∀ σ h Q, w σ h Q → Q [] h) :
    PE X (.Call (.Name x p) l [] pos) (lift X.F fun σ h Q => w σ h fun ds h1 => M.run P n f ds h1 Q xx) := by
  obtain ⟨fa, fdc, ps, h1, h2, h3, h4⟩ := ok.fn f hf
  have hdb : (x == ("__debug__" : Str)) = false := by
    obtain ⟨a, _⟩ := ba hp
    simpa using a
  have hm : X.mg x = some (.ref fa) := by rw [hx]; exact h1
  cases l with
  | nil => exact (s_call0 (xx := xx) h3 ok.room (glB_ok ok hg) hm h2 h4 hdb).imp fun σ H Q ⟨σa, h, Qa, rs, rh, q, k⟩ => ⟨σa, h, Qa, rs, rh, h0 rfl _ _ _ q, k⟩
  | cons e es =>
    obtain ⟨a, b⟩ := hl e es rfl
    exact s_call h3 ok.room (glB_ok ok hg) hm h2 h4 hdb a b ha
theorem new_any {sc s0 : Scope} {X : L2.Cx} (ok : XOk P n T sc s0 X) {x : Str} {p pos : Pos} {l : List Expr} {c : M.Sx} {w : WA} (hx : x = sV c) (hc : c ∈ T.cs) (hg : glB sc x = true) (hp : plainN x = true)
    (hl : ∀ e es, l = e :: es → starEach (e :: es) X.env = (false, eval e X.env) :: starEach es X.env ∧ (backTo pos (starEach es X.env)).any (·.1) = false) (ha : PA X l (liftA X.F w)) (h0 : l = [] → ∀ σ h Q, w σ h Q → Q [] h) :
    PE X (.Call (.Name x p) l [] pos) (lift X.F fun σ h Q => w σ h fun ds h1 => M.run P n (M.mkN c) ds h1 Q xx) := by
  obtain ⟨hP, C, hm, hk, cl, mk⟩ := ok.cs c hc
  have hdb : (x == ("__debug__" : Str)) = false := by
    obtain ⟨a, _⟩ := ba hp
    simpa using a
  cases n with
  | zero =>
    cases l with
    | nil => exact ⟨fun pins s σ H Q I ⟨σa, h, Qa, rs, rh, q, k⟩ => by
        have := h0 rfl _ _ _ q
        simp only [M.run] at this⟩
    | cons e es =>
      obtain ⟨a, b⟩ := hl e es rfl
      refine ⟨fun pins s σ H Q I ⟨σa, h, Qa, rs, rh, q, k⟩ => ?_⟩
      refine wpAny_Call_Name_kw (ld_glob I (glB_ok ok hg) (by rw [hx]; exact hm) ?_ hdb)
      refine PySem.W.callWith_K (h₀ := X.base) I.ok.mod.kin hk (thn (ha.run pos pins s σ H (fun _ _ => False) I (liftA_go rs rh q fun ds h1 vs H1 q1 _ _ _ _ => by simp only [M.run] at q1)) fun us s1 ⟨vs, H1, I1, r, q⟩ => q.elim) a b
  | succ m =>
    obtain ⟨fa, fd, ps, mk1, F, hb⟩ := mk m rfl
    cases l with
    | nil => exact (s_new0 (xx := xx) hP hx hm cl mk1 F ok.room hb (glB_ok ok hg) hdb).imp fun σ H Q ⟨σa, h, Qa, rs, rh, q, k⟩ => ⟨σa, h, Qa, rs, rh, h0 rfl _ _ _ q, k⟩
    | cons e es =>
      obtain ⟨a, b⟩ := hl e es rfl
      exact s_new hP hx hm cl mk1 F ok.room hb (glB_ok ok hg) hdb a b ha
theorem ok_any : ∀ {l : List Expr} {pos : Pos} {env : Env}, (∀ e ∈ l, okX e = true) → (backTo pos (starEach l env)).any (·.1) = false
  | [], _, _, _ => rfl
  | e :: l, pos, env, h => by
    rw [ok_star (h e List.mem_cons_self)]
    show (false || (backTo pos (starEach l env)).any (·.1)) = false
    rw [ok_any fun e he => h e (List.mem_cons_of_mem _ he)]
    rfl
theorem oks_mt {sc s0 : Scope} : ∀ {ir : M.Es} {l : List Expr}, mtEs T sc s0 ir l = true → ∀ e ∈ l, okX e = true
  | .nil, [], _ => fun e he => nomatch he
  | .nil, _ :: _, h => by simp [mtEs] at h
  | .cons a r, [], h => by simp [mtEs] at h
  | .cons a r, x :: l, h => by
    simp only [mtEs] at h
    obtain ⟨h1, h2⟩ := ba h
    intro e he
    rcases List.mem_cons.mp he with z | he
    · rw [z]; exact ok_mt h1
    · exact oks_mt h2 e he
theorem nil_mt {sc s0 : Scope} {C : M.Cx} {ir : M.Es} {l : List Expr} (h : mtEs T sc s0 ir l = true) (e : l = []) : ∀ σ hh Q, M.wEs C ir σ hh Q → Q [] hh := by
  subst e
  cases ir with
  | nil => intro σ hh Q q; simpa only [M.wEs] using q
  | cons a r => simp [mtEs] at h
theorem opName {b : M.Blt} {bn : List Str} {sc : Scope} {x : Str} (h : bltB bn sc b x = true) : ∃ bk, bltK b = some bk ∧ x = bk.name ∧ x ∈ bn ∧ glB sc x = true := by
  unfold bltB at h
  cases e : bltK b with
  | none => rw [e] at h; cases h
  | some bk =>
    rw [e] at h
    obtain ⟨h1, h2, h3⟩ := ba3 h
    exact ⟨bk, rfl, of_decide_eq_true h1, by simpa using h2, h3⟩
theorem mthName {m : M.Mth} {x : Str} (h : mthB m x = true) : ∃ T id, mthT m = some (T, id, x) := by
  unfold mthB at h
  cases e : mthT m with
  | none => rw [e] at h; cases h
  | some z =>
    rw [e] at h
    obtain ⟨a, b, c⟩ := z
    have : x = c := of_decide_eq_true h
    subst this
    exact ⟨a, b, rfl⟩
theorem few_ok {l : List Expr} {pos : Pos} {env : Env} (h : ∀ e ∈ l, okX e = true) (hs : smallB l.length = true) :
    ((backTo pos (starEach l env)).all (fun x => !x.1) && (backToKw pos (keywordEach [] env)).all (fun x => x.1.isSome) && decide (l.length + ([] : List Keyword).length + (if ([] : List Keyword).isEmpty then 0 else 1) < 30)) = true := by
  have h1 : (backTo pos (starEach l env)).all (fun x => !x.1) = true := by
    have := ok_any (pos := pos) (env := env) h
    rw [List.all_eq_not_any_not]
    simpa using this
  have h2 : l.length < 20 := of_decide_eq_true hs
  rw [h1]
  have h3 : (backToKw pos (keywordEach [] env)).all (fun x => x.1.isSome) = true := rfl
  rw [h3]
  have h4 : decide (l.length + ([] : List Keyword).length + (if ([] : List Keyword).isEmpty then 0 else 1) < 30) = true := decide_eq_true (by simp; omega)
  rw [h4]
  rfl
end
end Snd
end
section
/-! Sound9: expressions, by recursion on the IR. -/
namespace Snd
open PySem L2 PySem.Spec PyProof.Rows
section
variable {P : M.Prog} {n : Nat} {T : Tb} {xx : M.XP}
theorem EOk.plain {X : L2.Cx} {x : Expr} {w : WE} (h : PE X x (lift X.F w)) (he : ∀ whole, isTrue x X.env whole = (do let v ← whole; standAt x.pos; holding [v] (truthy v))) : EOk X x w := ⟨h, fun _ => pt_plain h he⟩
theorem EOk.eq {X : L2.Cx} {x : Expr} {w w' : WE} (h : EOk X x w) (e : w' = w) : EOk X x w' := by rw [e]; exact h
mutual
theorem sndE : ∀ (ir : M.E) (x : Expr) (X : L2.Cx) (sc s0 : Scope), XOk P n T sc s0 X → mtE T sc s0 ir x = true → EOk X x (M.wE (C P n xx) ir)
  | .var i, x, X, sc, s0, ok, h => by
    cases x <;> try (exfalso; revert h; simp [mtE]; done)
    rename_i y p
    simp only [mtE] at h
    obtain ⟨h1, h2, h3⟩ := ba3 h
    obtain ⟨h4, h5⟩ := ba h3
    refine (EOk.plain (s_var (i := i) (by rw [ok.eN]; exact of_decide_eq_true h1) (by rw [ok.eS]; exact visB_ok h2) (by simpa using h4) (by simpa using h5)) (by intro _; rfl)).eq (by funext σ h Q; simp only [M.wE] <;> rfl)
  | .int k, x, X, sc, s0, ok, h => by
    cases x <;> try (exfalso; revert h; simp [mtE]; done)
    rename_i c j p
    cases c <;> try (exfalso; revert h; simp [mtE]; done)
    simp only [mtE] at h
    have e := of_decide_eq_true h
    subst e
    exact (EOk.plain (s_const (d := .int _) pe_int fun H => rfl) (by intro _; rfl)).eq (by funext σ h Q; simp only [M.wE])
  | .str s, x, X, sc, s0, ok, h => by
    cases x <;> try (exfalso; revert h; simp [mtE]; done)
    rename_i c j p
    cases c <;> try (exfalso; revert h; simp [mtE]; done)
    simp only [mtE] at h
    obtain ⟨h1, h2⟩ := ba h
    have e := of_decide_eq_true h1
    subst e
    have os : sOk s := fun c hc => of_decide_eq_true (List.all_eq_true.mp h2 c hc)
    exact (EOk.plain (s_const (d := .str s) pe_str fun H => ⟨rfl, os⟩) (by intro _; rfl)).eq (by funext σ h Q; simp only [M.wE])
  | .bl b, x, X, sc, s0, ok, h => by
    cases x <;> try (exfalso; revert h; simp [mtE]; done)
    rename_i c j p
    cases c <;> try (exfalso; revert h; simp [mtE]; done)
    simp only [mtE, beq_iff_eq] at h
    subst h
    exact (EOk.plain (s_const (d := .bl _) pe_bl fun H => rfl) (by intro _; rfl)).eq (by funext σ h Q; simp only [M.wE])
  | .non, x, X, sc, s0, ok, h => by
    cases x <;> try (exfalso; revert h; simp [mtE]; done)
    rename_i c j p
    cases c <;> try (exfalso; revert h; simp [mtE]; done)
    exact (EOk.plain (s_const (d := .non) pe_non fun H => rfl) (by intro _; rfl)).eq (by funext σ h Q; simp only [M.wE])
  | .gint y i, x, X, sc, s0, ok, h => by
    cases x <;> try (exfalso; revert h; simp [mtE]; done)
    simp only [mtE] at h
    obtain ⟨h, h4⟩ := ba h
    obtain ⟨h1, h2, h3⟩ := ba3 h
    have e := of_decide_eq_true h1
    subst e
    exact (EOk.plain (s_gint (glB_ok ok h3) (ok.gi (y, i) (by simpa using h2)) (by simpa using (ba h4).1)) (by intro _; rfl)).eq (by funext σ h Q; simp only [M.wE])
  | .slw a lo hi, x, X, sc, s0, ok, h => by
    cases x <;> try (exfalso; revert h; simp [mtE]; done)
    rename_i y s p
    cases s <;> try (exfalso; revert h; simp [mtE]; done)
    rename_i l u st p2
    cases st with
    | some _ => exact absurd h (by simp [mtE])
    | none =>
      simp only [mtE] at h
      obtain ⟨h1, h2, h3⟩ := ba3 h
      exact (EOk.plain (s_slw (sndE a _ X sc s0 ok h1).v (sndO lo _ X sc s0 ok h2) (sndO hi _ X sc s0 ok h3)) (by intro _; rfl)).eq (by funext σ h Q; simp only [M.wE])
  | .mnd es, x, X, sc, s0, ok, h => by
    cases x <;> try (exfalso; revert h; simp [mtE]; done)
    rename_i g l kw p
    cases g <;> try (exfalso; revert h; simp [mtE]; done)
    cases l with
    | nil => exact absurd h (by simp [mtE])
    | cons y l =>
      match kw, h with
      | [⟨kn, kv, kp⟩], h =>
        cases kv <;> try (exfalso; revert h; simp [mtE]; done)
        rename_i c j np
        cases c <;> try (exfalso; revert h; simp [mtE]; done)
        simp only [mtE] at h
        obtain ⟨h, h5⟩ := ba h
        obtain ⟨h, h4⟩ := ba h
        obtain ⟨h1, h2, h3⟩ := ba3 h
        have e := of_decide_eq_true h1
        subst e
        have e := of_decide_eq_true h2
        subst e
        have hl := oks_mt h5
        exact (EOk.plain (s_mnd ok.calm ok.units (glB_ok ok h4) (ok.free _ (by simpa using h3)) (ok_star (hl y List.mem_cons_self)) (ok_any hl) (sndEs es _ X sc s0 ok h5)) (by intro _; rfl)).eq (by funext σ h Q; simp only [M.wE])
      | [], h => exact absurd h (by simp [mtE])
      | _ :: _ :: _, h => exact absurd h (by simp [mtE])
  | .orv a b, x, X, sc, s0, ok, h => by
    cases x <;> try (exfalso; revert h; simp [mtE]; done)
    rename_i op l p
    cases op with
    | And => exact absurd h (by simp [mtE])
    | Or =>
      match l, h with
      | [y, z], h =>
        cases z <;> try (exfalso; revert h; simp [mtE]; done)
        rename_i k j q
        cases k <;> try (exfalso; revert h; simp [mtE]; done)
        simp only [mtE] at h
        obtain ⟨h1, h2⟩ := ba h
        exact (EOk.mk (s_orv (sndE a y X sc s0 ok h1).v (sndE b _ X sc s0 ok h2).v) fun z => by cases z).eq (by funext σ h Q; simp only [M.wE] <;> rfl)
      | [], h => exact absurd h (by simp [mtE])
      | [_], h => exact absurd h (by simp [mtE])
      | _ :: _ :: _ :: _, h => exact absurd h (by simp [mtE])
  | .tix y tab a, x, X, sc, s0, ok, h => by
    cases x <;> try (exfalso; revert h; simp [mtE]; done)
    rename_i o j p
    cases o <;> try (exfalso; revert h; simp [mtE]; done)
    simp only [mtE] at h
    obtain ⟨h, h5⟩ := ba h
    obtain ⟨h, h4⟩ := ba h
    obtain ⟨h1, h2, h3⟩ := ba3 h
    have e := of_decide_eq_true h1
    subst e
    obtain ⟨ad, e1, e2⟩ := ok.tb (y, tab) (by simpa using h2)
    exact (EOk.plain (s_tix (ok_ix (ok_mt h5)) (glB_ok ok h3) e1 (by simpa using (ba h4).1) e2 (sndE a _ X sc s0 ok h5).v) (by intro _; rfl)).eq (by funext σ h Q; simp only [M.wE] <;> rfl)
  | .gstr _ _, x, X, sc, s0, ok, h => by simp [mtE] at h
  | .tup es, x, X, sc, s0, ok, h => by
    cases x <;> try (exfalso; revert h; simp [mtE]; done)
    simp only [mtE] at h
    exact (EOk.plain (s_tup (sndEs es _ X sc s0 ok h)) (by intro _; rfl)).eq (by funext σ h Q; simp only [M.wE])
  | .lst es, x, X, sc, s0, ok, h => by
    cases x <;> try (exfalso; revert h; simp [mtE]; done)
    simp only [mtE] at h
    exact (EOk.plain (s_lst (sndEs es _ X sc s0 ok h)) (by intro _; rfl)).eq (by funext σ h Q; simp only [M.wE])
  | .dcn, x, X, sc, s0, ok, h => by
    cases x <;> try (exfalso; revert h; simp [mtE]; done)
    rename_i ks vs p
    cases ks <;> try (exfalso; revert h; simp [mtE]; done)
    cases vs <;> try (exfalso; revert h; simp [mtE]; done)
    exact (EOk.plain s_dcn (by intro _; rfl)).eq (by funext σ h Q; simp only [M.wE])
  | .dct k es, x, X, sc, s0, ok, h => by
    cases x <;> try (exfalso; revert h; simp [mtE]; done)
    rename_i ks vs p
    cases k with
    | succ _ => exact absurd h (by cases es <;> simp [mtE])
    | zero =>
      cases es with
      | nil =>
        cases ks <;> try (exfalso; revert h; simp [mtE]; done)
        cases vs <;> try (exfalso; revert h; simp [mtE]; done)
        exact (EOk.plain s_dct (by intro _; rfl)).eq (by funext σ h Q; simp only [M.wE])
      | cons a r =>
        simp only [mtE] at h
        obtain ⟨h1, h2⟩ := ba h
        obtain ⟨ws, hp, e1, e2, e3, e4⟩ := sndPs (.cons a r) ks vs X sc s0 ok h1
        have h15 := of_decide_eq_true h2
        have hne : ks ≠ [] := by
          rintro rfl
          cases r <;> simp [mtPs] at h1
        refine (EOk.plain (s_dsp (hp p) e2 e3 hne h15 (by omega)) (by intro _; rfl)).eq ?_
        funext σ h Q
        simp only [M.wE, ← e1, M.wEs]
  | .bad, x, X, sc, s0, ok, h => by
    refine ⟨⟨fun pins s σ H Q I ⟨_, _, _, _, _, q, _⟩ => ?_⟩, fun _ => ⟨fun pins s σ H Q I ⟨_, _, _, _, _, q, _⟩ => ?_⟩⟩
    · simp only [M.wE] at q
    · simp only [M.wE] at q
  | .lock i a, x, X, sc, s0, ok, h => by
    simp only [mtE] at h
    obtain ⟨h1, h2⟩ := ba h
    have ia := (sndE a x X sc s0 ok h2).v
    refine (EOk.plain (s_lock (i := i) ia) ?_).eq (by funext σ h Q; simp only [M.wE])
    cases x <;> first | (intro _; rfl) | cases h1
  | .lzip es, x, X, sc, s0, ok, h => by
    cases x <;> try (exfalso; revert h; simp [mtE]; done)
    rename_i g l kw p
    cases g <;> try (exfalso; revert h; simp [mtE]; done)
    match l, kw, h with
    | [y], [], h =>
      cases y <;> try (exfalso; revert h; simp [mtE]; done)
      rename_i g2 l2 kw2 p2
      cases g2 <;> try (exfalso; revert h; simp [mtE]; done)
      match l2, kw2, h with
      | [a, b], [], h =>
        simp only [mtE] at h
        obtain ⟨h, h7⟩ := ba h
        obtain ⟨h, h6⟩ := ba h
        obtain ⟨h, h5⟩ := ba h
        obtain ⟨h, h4⟩ := ba h
        obtain ⟨h1, h2, h3⟩ := ba3 h
        have e := of_decide_eq_true h1
        subst e
        have e := of_decide_eq_true h4
        subst e
        have hl := oks_mt h7
        exact (EOk.plain (s_lzip ok.calm (glB_ok ok h3) (ok.free _ (by simpa using h2)) (glB_ok ok h6) (ok.free _ (by simpa using h5)) (sndEs es _ X sc s0 ok h7) (ok_star (hl a (by simp))) (ok_any fun z hz => hl z (by simp at hz ⊢; exact .inr hz))) (by intro _; rfl)).eq (by funext σ h Q; simp only [M.wE])
      | [], _, h => exact absurd h (by simp [mtE])
      | [_], _, h => exact absurd h (by simp [mtE])
      | _ :: _ :: _ :: _, _, h => exact absurd h (by simp [mtE])
      | [_, _], _ :: _, h => exact absurd h (by simp [mtE])
    | [], _, h => exact absurd h (by simp [mtE])
    | _ :: _ :: _, _, h => exact absurd h (by simp [mtE])
    | [y], _ :: _, h => exact absurd h (by cases y <;> simp [mtE])
  | .rev a, x, X, sc, s0, ok, h => by
    cases x <;> try (exfalso; revert h; simp [mtE]; done)
    rename_i y j p
    simp only [mtE] at h
    obtain ⟨h1, h2⟩ := ba h
    obtain ⟨k, p1, p2, p3, rfl⟩ := revB_eq h1
    exact (EOk.plain (s_rev (sndE a y X sc s0 ok h2).v) (by intro _; rfl)).eq (by funext σ h Q; simp only [M.wE])
  | .tlr a, x, X, sc, s0, ok, h => by
    cases x <;> try (exfalso; revert h; simp [mtE]; done)
    rename_i y j p
    simp only [mtE] at h
    obtain ⟨h1, h2⟩ := ba h
    obtain ⟨k0, k, p0, p1, p2, p3, rfl⟩ := tlrB_eq h1
    exact (EOk.plain (s_tlr (sndE a y X sc s0 ok h2).v) (by intro _; rfl)).eq (by funext σ h Q; simp only [M.wE])
  | .lrng es, x, X, sc, s0, ok, h => by
    cases x <;> try (exfalso; revert h; simp [mtE]; done)
    rename_i g l kw p
    cases g <;> try (exfalso; revert h; simp [mtE]; done)
    match l, kw, h with
    | [y], [], h =>
      cases y <;> try (exfalso; revert h; simp [mtE]; done)
      rename_i g2 l2 kw2 p2
      cases g2 <;> try (exfalso; revert h; simp [mtE]; done)
      match l2, kw2, h with
      | a :: l3, [], h =>
        simp only [mtE] at h
        obtain ⟨h, h8⟩ := ba h
        obtain ⟨h, h7⟩ := ba h
        obtain ⟨h, h6⟩ := ba h
        obtain ⟨h, h5⟩ := ba h
        obtain ⟨h, h4⟩ := ba h
        obtain ⟨h1, h2, h3⟩ := ba3 h
        have e := of_decide_eq_true h1
        subst e
        have e := of_decide_eq_true h4
        subst e
        have hl := oks_mt h7
        have hy := hl a List.mem_cons_self
        match es, l3, h7, h8 with
        | .nil, _, h7, _ => simp [mtEs] at h7
        | .cons ia .nil, [], h7, _ =>
          simp only [mtEs] at h7
          have i1 := (sndE ia _ X sc s0 ok (ba h7).1).v
          exact (EOk.plain (s_lrng1 ok.calm (glB_ok ok h3) (ok.free _ (by simpa using h2)) (glB_ok ok h6) (ok.free _ (by simpa using h5)) i1 (ok_star hy)) (by intro _; rfl)).eq (by funext σ h Q; simp only [M.wE, M.wEs])
        | .cons ia (.cons ib .nil), [b], h7, _ =>
          simp only [mtEs] at h7
          obtain ⟨h71, h72⟩ := ba h7
          obtain ⟨h73, _⟩ := ba h72
          have i1 := (sndE ia _ X sc s0 ok h71).v
          have i2 := (sndE ib _ X sc s0 ok h73).v
          have sb := ok_mt h73
          exact (EOk.plain (s_lrng2 ok.calm (glB_ok ok h3) (ok.free _ (by simpa using h2)) (glB_ok ok h6) (ok.free _ (by simpa using h5)) i1 i2 (ok_star hy) (ok_star sb) (by rw [ok_star sb]; rfl)) (by intro _; rfl)).eq (by funext σ h Q; simp only [M.wE, M.wEs])
        | .cons _ .nil, _ :: _, h7, _ => simp [mtEs] at h7
        | .cons _ (.cons _ _), [], h7, _ => simp [mtEs] at h7
        | .cons _ (.cons _ (.cons _ _)), [_], h7, _ => simp [mtEs] at h7
        | .cons _ (.cons _ _), _ :: _ :: _, _, h8 =>
          have h8 := of_decide_eq_true h8
          simp only [List.length_cons] at h8
          omega
      | [], _, h => exact absurd h (by simp [mtE])
      | _ :: _, _ :: _, h => exact absurd h (by simp [mtE])
    | [], _, h => exact absurd h (by simp [mtE])
    | _ :: _ :: _, _, h => exact absurd h (by simp [mtE])
    | [y], _ :: _, h => exact absurd h (by cases y <;> simp [mtE])
  | .bin o a b, x, X, sc, s0, ok, h => by
    cases x <;> try (exfalso; revert h; simp [mtE]; done)
    simp only [mtE] at h
    obtain ⟨h1, h2, h3⟩ := ba3 h
    have e := opB_eq h1
    subst e
    exact (EOk.plain (s_bin (sndE a _ X sc s0 ok h2).v (sndE b _ X sc s0 ok h3).v) (by intro _; rfl)).eq (by funext σ h Q; simp only [M.wE])
  | .neg a, x, X, sc, s0, ok, h => by
    cases x <;> try (exfalso; revert h; simp [mtE]; done)
    rename_i op y p
    cases op <;> try (exfalso; revert h; simp [mtE]; done)
    simp only [mtE] at h
    exact (EOk.plain (s_neg (sndE a _ X sc s0 ok h).v) (by intro _; rfl)).eq (by funext σ h Q; simp only [M.wE] <;> rfl)
  | .not a, x, X, sc, s0, ok, h => by
    cases x <;> try (exfalso; revert h; simp [mtE]; done)
    rename_i op y p
    cases op <;> try (exfalso; revert h; simp [mtE]; done)
    simp only [mtE] at h
    obtain ⟨h1, h2⟩ := ba h
    have ih := sndE a _ X sc s0 ok h1
    exact (EOk.mk (s_not ih.v) fun _ => t_not (ih.t h2)).eq (by funext σ h Q; simp only [M.wE] <;> rfl)
  | .cmp o a b, x, X, sc, s0, ok, h => by
    cases x <;> try (exfalso; revert h; simp [mtE]; done)
    rename_i l ops rs p
    cases ops with
    | nil => exact absurd h (by simp [mtE])
    | cons op ops =>
      cases ops with
      | cons _ _ => exact absurd h (by simp [mtE])
      | nil => cases rs with
        | nil => exact absurd h (by simp [mtE])
        | cons r rs => cases rs with
          | cons _ _ => exact absurd h (by simp [mtE])
          | nil =>
            simp only [mtE] at h
            obtain ⟨h1, h2, h3⟩ := ba3 h
            have e := copB_eq h1
            subst e
            have i1 := (sndE a _ X sc s0 ok h2).v
            have i2 := (sndE b _ X sc s0 ok h3).v
            have hb := ok_behind (op := cop o) (ok_mt h3)
            exact (EOk.mk (s_cmp ok.units hb i1 i2) fun _ => t_cmp ok.units hb i1 i2).eq (by funext σ h Q; simp only [M.wE])
  | .chn o o' a b c, x, X, sc, s0, ok, h => by
    cases x <;> try (exfalso; revert h; simp [mtE]; done)
    rename_i l ops rs p
    match ops, rs, h with
    | [op, op'], [r, r'], h =>
      simp only [mtE] at h
      obtain ⟨h, h5⟩ := ba h
      obtain ⟨h, h4⟩ := ba h
      obtain ⟨h1, h2, h3⟩ := ba3 h
      have e := copB_eq h1
      subst e
      have e := copB_eq h2
      subst e
      have i1 := (sndE a _ X sc s0 ok h3).v
      have i2 := (sndE b _ X sc s0 ok h4).v
      have i3 := (sndE c _ X sc s0 ok h5).v
      have hb : lastMarks [cop o, cop o'] [r, r'] = false := ok_behind (op := cop o') (ok_mt h5)
      exact (EOk.mk (s_chn ok.units hb i1 i2 i3) fun _ => t_chn ok.units hb i1 i2 i3).eq (by funext σ h Q; simp only [M.wE] <;> rfl)
    | [], _, h => exact absurd h (by simp [mtE])
    | [_], _, h => exact absurd h (by simp [mtE])
    | _ :: _ :: _ :: _, _, h => exact absurd h (by simp [mtE])
    | [_, _], [], h => exact absurd h (by simp [mtE])
    | [_, _], [_], h => exact absurd h (by simp [mtE])
    | [_, _], _ :: _ :: _ :: _, h => exact absurd h (by simp [mtE])
  | .bop k es, x, X, sc, s0, ok, h => by
    cases x <;> try (exfalso; revert h; simp [mtE]; done)
    rename_i op l p
    cases l with
    | nil => exact absurd h (by cases op <;> simp [mtE])
    | cons y l =>
      cases op with
      | And =>
        simp only [mtE] at h
        obtain ⟨h1, h2, h3⟩ := ba3 h
        subst h1
        have b := sndB true es (y :: l) X sc s0 ok (by simp) h2
        exact (EOk.mk (b.v p) fun _ => (b.t h3 p).pt).eq (by funext σ h Q; simp only [M.wE])
      | Or =>
        simp only [mtE] at h
        obtain ⟨h1, h2, h3⟩ := ba3 h
        cases k with
        | true => cases h1
        | false =>
          have b := sndB false es (y :: l) X sc s0 ok (by simp) h2
          exact (EOk.mk (b.v p) fun _ => (b.t h3 p).pt).eq (by funext σ h Q; simp only [M.wE])
  | .ite c a b, x, X, sc, s0, ok, h => by
    cases x <;> try (exfalso; revert h; simp [mtE]; done)
    simp only [mtE] at h
    obtain ⟨h, h4⟩ := ba h
    obtain ⟨h1, h2, h3⟩ := ba3 h
    exact (EOk.mk (s_ite ((sndE c _ X sc s0 ok h1).t h2) (sndE a _ X sc s0 ok h3).v (sndE b _ X sc s0 ok h4).v) fun z => by cases z).eq (by funext σ h Q; simp only [M.wE] <;> rfl)
  | .ix a i, x, X, sc, s0, ok, h => by
    cases x <;> try (exfalso; revert h; simp [mtE]; done)
    simp only [mtE] at h
    obtain ⟨h1, h2⟩ := ba h
    exact (EOk.plain (s_ix ok.units (ok_ix (ok_mt h2)) (sndE a _ X sc s0 ok h1).v (sndE i _ X sc s0 ok h2).v) (by intro _; rfl)).eq (by funext σ h Q; simp only [M.wE])
  | .sl a lo hi, x, X, sc, s0, ok, h => by
    cases x <;> try (exfalso; revert h; simp [mtE]; done)
    rename_i y s p
    cases s <;> try (exfalso; revert h; simp [mtE]; done)
    rename_i l u st p2
    cases st with
    | some _ => exact absurd h (by simp [mtE])
    | none =>
      simp only [mtE] at h
      obtain ⟨h1, h2, h3⟩ := ba3 h
      exact (EOk.plain (s_sl (sndE a _ X sc s0 ok h1).v (sndO lo _ X sc s0 ok h2) (sndO hi _ X sc s0 ok h3)) (by intro _; rfl)).eq (by funext σ h Q; simp only [M.wE])
  | .call f es, x, X, sc, s0, ok, h => by
    cases x <;> try (exfalso; revert h; simp [mtE]; done)
    rename_i g l kw p
    cases g <;> try (exfalso; revert h; simp [mtE]; done)
    cases kw <;> try (exfalso; revert h; simp [mtE]; done)
    simp only [mtE] at h
    obtain ⟨h, h5⟩ := ba h
    obtain ⟨h, h4⟩ := ba h
    obtain ⟨h1, h2, h3⟩ := ba3 h
    have hl := oks_mt h5
    refine (EOk.plain (call_any (xx := xx) ok (of_decide_eq_true h1) (by simpa using h2) h3 h4 (fun e r q => ?_) (sndEs es _ X sc s0 ok h5) (fun q => nil_mt h5 q)) (by intro _; rfl)).eq (by funext σ h Q; simp only [M.wE] <;> rfl)
    subst q
    exact ⟨ok_star (hl e List.mem_cons_self), ok_any fun z hz => hl z (List.mem_cons_of_mem _ hz)⟩
  | .callD f k es, x, X, sc, s0, ok, h => by
    cases x <;> try (exfalso; revert h; simp [mtE]; done)
    rename_i g l kw p
    cases g <;> try (exfalso; revert h; simp [mtE]; done)
    rename_i g p3
    cases l with
    | nil => exact absurd h (by simp [mtE])
    | cons y l =>
      cases kw <;> try (exfalso; revert h; simp [mtE]; done)
      simp only [mtE] at h
      obtain ⟨h, h5⟩ := ba h
      obtain ⟨h, h4⟩ := ba h
      obtain ⟨h1, h2, h3⟩ := ba3 h
      have hl := oks_mt h5
      obtain ⟨fa, fdc, ps, us, e1, e2, e3, e4, e5⟩ := ok.ds (f, k) (by simpa using h2)
      have hdb : (g == ("__debug__" : Str)) = false := by
        obtain ⟨a, _⟩ := ba h4
        simpa using a
      have hx := of_decide_eq_true h1
      subst hx
      exact (EOk.plain (s_callD (xx := xx) e3 ok.room (glB_ok ok h3) e1 e2 e4 e5 hdb (ok_star (hl y List.mem_cons_self)) (ok_any fun z hz => hl z (List.mem_cons_of_mem _ hz)) (sndEs es _ X sc s0 ok h5)) (by intro _; rfl)).eq (by funext σ h Q; simp only [M.wE] <;> rfl)
  | .smv a, x, X, sc, s0, ok, h => by
    match x, h with
    | .Call (.Name x p) [.Call (.Attribute y nm apos) [] [] cpos] [] pos, h =>
      simp only [mtE] at h
      obtain ⟨h, h7⟩ := ba h
      obtain ⟨h, h6⟩ := ba h
      obtain ⟨h, h5⟩ := ba h
      obtain ⟨h, h4⟩ := ba h
      obtain ⟨h1, h2, h3⟩ := ba3 h
      have hn := of_decide_eq_true h4
      subst hn
      exact (EOk.plain (s_smv (of_decide_eq_true h1) ok.calm (glB_ok ok h3) (ok.free _ (by simpa using h2)) (ok_base h6) h5 (sndE a _ X sc s0 ok h7).v) (by intro _; rfl)).eq (by funext σ h Q; simp only [M.wE])
  | .fld a f, x, X, sc, s0, ok, h => by
    cases x <;> try (exfalso; revert h; simp [mtE]; done)
    simp only [mtE] at h
    obtain ⟨h1, h2, h3⟩ := ba3 h
    exact (EOk.plain (s_fld (of_decide_eq_true h1) (ok_base h2) (sndE a _ X sc s0 ok h3).v) (by intro _; rfl)).eq (by funext σ h Q; simp only [M.wE])
  | .newo c es, x, X, sc, s0, ok, h => by
    cases x <;> try (exfalso; revert h; simp [mtE]; done)
    rename_i g l kw p
    cases g <;> try (exfalso; revert h; simp [mtE]; done)
    cases kw <;> try (exfalso; revert h; simp [mtE]; done)
    simp only [mtE] at h
    obtain ⟨h, h5⟩ := ba h
    obtain ⟨h, h4⟩ := ba h
    obtain ⟨h1, h2, h3⟩ := ba3 h
    have hl := oks_mt h5
    refine (EOk.plain (new_any (xx := xx) ok (of_decide_eq_true h1) (by simpa using h2) h3 h4 (fun e r q => ?_) (sndEs es _ X sc s0 ok h5) (fun q => nil_mt h5 q)) (by intro _; rfl)).eq (by funext σ h Q; simp only [M.wE] <;> rfl)
    subst q
    exact ⟨ok_star (hl e List.mem_cons_self), ok_any fun z hz => hl z (List.mem_cons_of_mem _ hz)⟩
  | .mcall c m o es, x, X, sc, s0, ok, h => by
    cases x <;> try (exfalso; revert h; simp [mtE]; done)
    rename_i g l kw p
    cases g <;> try (exfalso; revert h; simp [mtE]; done)
    cases kw <;> try (exfalso; revert h; simp [mtE]; done)
    rename_i y nm apos
    simp only [mtE] at h
    obtain ⟨h, h7⟩ := ba h
    obtain ⟨h, h6⟩ := ba h
    obtain ⟨h, h5⟩ := ba h
    obtain ⟨h, h4⟩ := ba h
    obtain ⟨h1, h2, h3⟩ := ba3 h
    obtain ⟨C, fa, fd, ps, hm, cl, me, F, hb⟩ := ok.ms (c, m) (by simpa using h2)
    have hl := oks_mt h6
    have io := (sndE o _ X sc s0 ok h5).v
    cases l with
    | nil =>
      have key : ∀ σ hh Q, M.wEs (Snd.C P n xx) es σ hh Q → Q [] hh := nil_mt h6 rfl
      refine (EOk.plain ((s_mcall0 (xx := xx) (of_decide_eq_true h1) hm cl me F ok.room hb (ok_base h4) h3 io).imp fun σ H Q ⟨σa, hh, Qa, rs, rh, q, k⟩ => ⟨σa, hh, Qa, rs, rh, ?_, k⟩) (by intro _; rfl)).eq (w := M.wE (Snd.C P n xx) (.mcall c m o es)) rfl
      cases es with
      | nil => exact (by simpa only [M.wE, M.wEs] using q : M.wE (Snd.C P n xx) o σa hh fun x h1 => M.aIns x h1 fun p c' fs => c' = c ∧ List.lookup m fs = none ∧ (Snd.C P n xx).call (M.metN c m) [M.D.ref p] h1 Qa (Snd.C P n xx).ex)
      | cons _ _ => simp [mtEs] at h6
    | cons e r =>
      exact (EOk.plain (s_mcall (xx := xx) (of_decide_eq_true h1) hm cl me F ok.room hb (ok_base h4) (few_ok hl h7) h3 (ok_star (hl e List.mem_cons_self)) (ok_any fun z hz => hl z (List.mem_cons_of_mem _ hz)) io (sndEs es _ X sc s0 ok h6)) (by intro _; rfl)).eq (by funext σ h Q; simp only [M.wE] <;> rfl)
  | .blt b es, x, X, sc, s0, ok, h => by
    cases x <;> try (exfalso; revert h; simp [mtE]; done)
    rename_i g l kw p
    cases g <;> try (exfalso; revert h; simp [mtE]; done)
    cases l with
    | nil => exact absurd h (by simp [mtE])
    | cons y l =>
      cases kw <;> try (exfalso; revert h; simp [mtE]; done)
      simp only [mtE] at h
      obtain ⟨h1, h2⟩ := ba h
      obtain ⟨bk, e1, e2, e3, e4⟩ := opName h1
      have hl := oks_mt h2
      exact (EOk.plain (s_blt ok.calm ok.units e1 e2 (glB_ok ok e4) (ok.free _ e3) (ok_star (hl y List.mem_cons_self)) (ok_any fun z hz => hl z (List.mem_cons_of_mem _ hz)) (sndEs es _ X sc s0 ok h2)) (by intro _; rfl)).eq (by funext σ h Q; simp only [M.wE])
  | .isi a t, x, X, sc, s0, ok, h => by
    cases x <;> try (exfalso; revert h; simp [mtE]; done)
    rename_i g l kw p
    cases g <;> try (exfalso; revert h; simp [mtE]; done)
    rename_i nm np
    match l, kw, h with
    | [y, w], [], h =>
      cases w <;> try (exfalso; revert h; simp [mtE]; done)
      simp only [mtE] at h
      obtain ⟨h, h7⟩ := ba h
      obtain ⟨h, h6⟩ := ba h
      obtain ⟨h, h5⟩ := ba h
      obtain ⟨h, h4⟩ := ba h
      obtain ⟨h1, h2, h3⟩ := ba3 h
      have e := of_decide_eq_true h1
      subst e
      exact (EOk.plain (s_isi (glB_ok ok h3) (ok.free _ (by simpa using h2)) (of_decide_eq_true h4) (glB_ok ok h6) (ok.free _ (by simpa using h5)) (ok_star (ok_mt h7)) (sndE a _ X sc s0 ok h7).v) (by intro _; rfl)).eq (by funext σ h Q; simp only [M.wE] <;> rfl)
    | [], _, h => exact absurd h (by simp [mtE])
    | [_], _, h => exact absurd h (by simp [mtE])
    | _ :: _ :: _ :: _, _, h => exact absurd h (by simp [mtE])
    | [_, w], _ :: _, h => exact absurd h (by cases w <;> simp [mtE])
  | .mth m o es, x, X, sc, s0, ok, h => by
    cases x <;> try (exfalso; revert h; simp [mtE]; done)
    rename_i g l kw p
    cases g <;> try (exfalso; revert h; simp [mtE]; done)
    cases kw <;> try (exfalso; revert h; simp [mtE]; done)
    rename_i y nm apos
    simp only [mtE] at h
    obtain ⟨h, h6⟩ := ba h
    obtain ⟨h, h5⟩ := ba h
    obtain ⟨h, h4⟩ := ba h
    obtain ⟨h1, h2, h3⟩ := ba3 h
    obtain ⟨Ty, id, em⟩ := mthName h1
    have hl := oks_mt h5
    have io := (sndE o _ X sc s0 ok h4).v
    cases l with
    | nil =>
      have key : ∀ σ hh Q, M.wEs (C P n xx) es σ hh Q → Q [] hh := nil_mt h5 rfl
      refine (EOk.plain ((s_mth0 ok.units em rfl (ok_base h3) h2 io).imp fun σ H Q ⟨σa, hh, Qa, rs, rh, q, k⟩ => ⟨σa, hh, Qa, rs, rh, ?_, k⟩) (by intro _; rfl)).eq (w := M.wE (C P n xx) (.mth m o es)) rfl
      cases es with
      | nil => simpa only [M.wE, M.wEs] using q
      | cons _ _ => simp [mtEs] at h5
    | cons e r =>
      refine (EOk.plain (s_mth ok.units em rfl (ok_base h3) (few_ok hl h6) h2 (ok_star (hl e List.mem_cons_self)) (ok_any fun z hz => hl z (List.mem_cons_of_mem _ hz)) io (sndEs es _ X sc s0 ok h5)) (by intro _; rfl)).eq (by funext σ h Q; simp only [M.wE])
  | .lc elt t own k src ifs, x, X, sc, s0, ok, h => by
    cases x <;> try (exfalso; revert h; simp [mtE]; done)
    rename_i y gs scope p
    match gs, h with
    | [⟨tg, it, cs, a⟩], h =>
      simp only [mtE] at h
      obtain ⟨h, h10⟩ := ba h
      obtain ⟨h, h9⟩ := ba h
      obtain ⟨h, h8⟩ := ba h
      obtain ⟨h, h7⟩ := ba h
      obtain ⟨h, h6⟩ := ba h
      obtain ⟨h, h5⟩ := ba h
      obtain ⟨h, h4⟩ := ba h
      obtain ⟨h1, h2, h3⟩ := ba3 h
      have ea := of_decide_eq_true h1
      subst ea
      unfold compsB at h6
      cases eo : ownB T.N own with
      | none => rw [eo] at h6; cases h6
      | some ow =>
        rw [eo] at h6
        have blk := blkOk_by h6
        have em := ownB_map eo
        have iI := sndI k src it tg X sc s0 ok h4 (by
          intro e
          cases t with
          | nm _ => cases k <;> first | exact absurd e (by decide) | exact absurd h5 (by simp [tupK])
          | tp ts => cases tg <;> first | exact ⟨_, _, _, rfl⟩ | cases h3)
        have gT : ∀ (s : Shared) (H : Hp) (D : Addr) (cl : List (Str × Addr)) (fp : List Addr), PG (X.blk s H scope (compEnvC scope cl D X.env) fp) tg (gOf X.F t) := fun s H D cl fp => tg_ok (blk_ok ok blk s H D cl fp) h3
        have iE : ∀ (s : Shared) (H : Hp) (D : Addr) (cl : List (Str × Addr)) (fp : List Addr), PE (X.blk s H scope (compEnvC scope cl D X.env) fp) y (lift X.F (M.wE (C P n xx) elt)) := fun s H D cl fp => (sndE elt _ _ _ _ (blk_ok ok blk s H D cl fp) h10).v
        have iT : ∀ (s : Shared) (H : Hp) (D : Addr) (cl : List (Str × Addr)) (fp : List Addr), PTs (X.blk s H scope (compEnvC scope cl D X.env) fp) cs (liftT X.F (M.wB (C P n xx) true ifs)) := fun s H D cl fp => by
          have okb := blk_ok ok blk s H D cl fp
          match cs, ifs, h7, h8, h9 with
          | [], .nil, _, _, _ =>
            refine ⟨fun pins s σ H Q I ⟨σa, hh, Qa, rs, rh, q, kk⟩ => pts_nil.run pins s σ H Q I ?_⟩
            simp only [M.wB] at q
            obtain ⟨b, e, kk⟩ := kk _ _ q
            cases e
            exact kk H .refl rh
          | [], .cons _ _, h7, _, _ => simp [mtEs] at h7
          | [c], .nil, h7, _, _ => simp [mtEs] at h7
          | [c], .cons i r, h7, h8, _ =>
            simp only [mtEs] at h7
            obtain ⟨h71, h72⟩ := ba h7
            cases r with
            | cons _ _ => simp [mtEs] at h72
            | nil =>
              have ht := (sndE i c _ _ _ okb h71).t (ba h8).1
              refine pts_one (ht.imp fun σ H Q ⟨σa, hh, Qa, rs, rh, q, kk⟩ => ⟨σa, hh, _, rs, rh, (by simpa only [M.wB] using q), fun d h' q1 => ?_⟩)
              cases d with
              | bl b =>
                have q2 : Qa (.bl b) h' := by cases b <;> exact q1
                exact kk _ _ q2
              | _ => exact q1.elim
          | _ :: _ :: _, _, _, _, h9 =>
            have h9 := of_decide_eq_true h9
            simp only [List.length_cons] at h9
            omega
        have hfold : ∀ z, foldedSetIterable it X.env z = pure z := by
          intro z
          cases k with
          | seq =>
            cases src with
            | nil => simp [mtI] at h4
            | cons a r =>
              simp only [mtI] at h4
              exact ok_fold (ok_mt (ba h4).1)
          | keys =>
            cases src with
            | nil => simp [mtI] at h4
            | cons a r =>
              simp only [mtI] at h4
              exact ok_fold (ok_mt (ba h4).1)
          | _ =>
            cases src with
            | nil => simp [mtI] at h4
            | cons a r => cases it <;> first | rfl | (simp [mtI] at h4)
        have key := pe_lc (pos := p) (elt := y) ok.calm ok.nd iI (by rw [ok.eN, ok.eS]; exact blk) gT iT iE hfold
        rw [em] at key
        refine (EOk.plain (key.imp fun σ H Q q => lc_ok h2 q) (by intro _; rfl)).eq (by funext σ h Q; simp only [M.wE] <;> rfl)
    | [], h => exact absurd h (by simp [mtE])
    | _ :: _ :: _, h => exact absurd h (by simp [mtE])
theorem sndEs : ∀ (ir : M.Es) (l : List Expr) (X : L2.Cx) (sc s0 : Scope), XOk P n T sc s0 X → mtEs T sc s0 ir l = true → PA X l (liftA X.F (M.wEs (C P n xx) ir))
  | .nil, l, X, sc, s0, ok, h => by
    cases l with
    | cons _ _ => simp [mtEs] at h
    | nil =>
      have e : M.wEs (C P n xx) .nil = fun _ h Q => Q [] h := by funext σ h Q; simp only [M.wEs]
      rw [e]
      exact s_nil
  | .cons a r, l, X, sc, s0, ok, h => by
    cases l with
    | nil => simp [mtEs] at h
    | cons x l =>
      simp only [mtEs] at h
      obtain ⟨h1, h2⟩ := ba h
      have e : M.wEs (C P n xx) (.cons a r) = fun σ h Q => M.wE (C P n xx) a σ h fun d h1 => M.wEs (C P n xx) r σ h1 fun ds h2 => Q (d :: ds) h2 := by funext σ h Q; simp only [M.wEs]
      rw [e]
      exact s_cons (ok_star (ok_mt h1)) (sndE a _ X sc s0 ok h1).v (sndEs r _ X sc s0 ok h2)
theorem sndPs : ∀ (ir : M.Es) (ks : List (Option Expr)) (vs : List Expr) (X : L2.Cx) (sc s0 : Scope), XOk P n T sc s0 X → mtPs T sc s0 ir ks vs = true →
    ∃ ws : List (WE × WE), (∀ pos, PPs X pos ks vs (ws.map fun w => (lift X.F w.1, lift X.F w.2))) ∧ M.wEs (C P n xx) ir = wPs ws ∧ ks.all (·.isSome) = true ∧ ks.length = vs.length ∧ ws.length = ks.length
  | .nil, ks, vs, X, sc, s0, ok, h => by
    cases ks with
    | cons _ _ => simp [mtPs] at h
    | nil =>
      cases vs with
      | cons _ _ => simp [mtPs] at h
      | nil => exact ⟨[], fun pos => pps_nil, by funext σ h Q; simp only [M.wEs, wPs], rfl, rfl, rfl⟩
  | .cons a .nil, ks, vs, X, sc, s0, ok, h => by simp [mtPs] at h
  | .cons a (.cons b r), ks, vs, X, sc, s0, ok, h => by
    match ks, vs, h with
    | some x :: ks, y :: vs, h =>
      simp only [mtPs] at h
      obtain ⟨h1, h2, h3⟩ := ba3 h
      obtain ⟨ws, hp, e1, e2, e3, e4⟩ := sndPs r ks vs X sc s0 ok h3
      refine ⟨(M.wE (C P n xx) a, M.wE (C P n xx) b) :: ws, fun pos => pps_cons (sndE a x X sc s0 ok h1).v (sndE b y X sc s0 ok h2).v (hp pos), ?_, ?_, ?_, ?_⟩
      · funext σ h Q; simp only [M.wEs, wPs, e1]
      · simpa using e2
      · simp [e3]
      · simp [e4]
    | [], _, h => simp [mtPs] at h
    | none :: _, [], h => simp [mtPs] at h
    | none :: _, _ :: _, h => simp [mtPs] at h
    | some _ :: _, [], h => simp [mtPs] at h
theorem sndB : ∀ (k : Bool) (ir : M.Es) (l : List Expr) (X : L2.Cx) (sc s0 : Scope), XOk P n T sc s0 X → l ≠ [] → mtEs T sc s0 ir l = true → BOk X k l (M.wB (C P n xx) k ir)
  | k, .nil, l, X, sc, s0, ok, hne, h => by
    cases l with
    | cons _ _ => simp [mtEs] at h
    | nil => exact absurd rfl hne
  | k, .cons a r, l, X, sc, s0, ok, hne, h => by
    cases l with
    | nil => simp [mtEs] at h
    | cons x l =>
      simp only [mtEs] at h
      obtain ⟨h1, h2⟩ := ba h
      have ia := sndE a x X sc s0 ok h1
      cases l with
      | nil =>
        cases r with
        | cons _ _ => simp [mtEs] at h2
        | nil =>
          have e : M.wB (C P n xx) k (.cons a .nil) = fun σ h Q => M.wE (C P n xx) a σ h fun d h1 => match d with
            | .bl b => (match b == k with
              | true => Q (.bl k) h1
              | false => Q (.bl b) h1)
            | _ => False := by funext σ h Q; simp only [M.wB] <;> rfl
          rw [e]
          refine ⟨fun pos => ?_, fun ht pos => ?_⟩
          · exact s_bop1 ia.v
          · have ht := (ba ht).1
            cases k with
            | true => exact w_bop1A (ia.t ht)
            | false => exact w_bop1O (ia.t ht)
      | cons x2 l2 =>
        have ib := sndB k r (x2 :: l2) X sc s0 ok (by simp) h2
        have e : M.wB (C P n xx) k (.cons a r) = fun σ h Q => M.wE (C P n xx) a σ h fun d h1 => match d with
          | .bl b => (match b == k with
            | true => M.wB (C P n xx) k r σ h1 Q
            | false => Q (.bl b) h1)
          | _ => False := by funext σ h Q; simp only [M.wB] <;> rfl
        rw [e]
        cases k with
        | true => exact ⟨fun pos => s_bopA ia.v (ib.v pos) (by simp), fun ht pos => w_bopA (ia.t (ba ht).1) (ib.t (ba ht).2 pos) (by simp)⟩
        | false => exact ⟨fun pos => s_bopO ia.v (ib.v pos) (by simp), fun ht pos => w_bopO (ia.t (ba ht).1) (ib.t (ba ht).2 pos) (by simp)⟩
theorem sndO : ∀ (ir : M.Es) (o : Option Expr) (X : L2.Cx) (sc s0 : Scope), XOk P n T sc s0 X → mtO T sc s0 ir o = true → PO X o (liftO X.F (M.wO (C P n xx) ir))
  | .nil, o, X, sc, s0, ok, h => by
    cases o with
    | some _ => simp [mtO] at h
    | none =>
      have e : M.wO (C P n xx) .nil = fun _ h Q => Q none h := by funext σ h Q; simp only [M.wO]
      rw [e]
      exact s_nopart
  | .cons a r, o, X, sc, s0, ok, h => by
    cases o with
    | none => simp [mtO] at h
    | some x =>
      cases r with
      | cons _ _ => simp [mtO] at h
      | nil =>
        simp only [mtO] at h
        have e : M.wO (C P n xx) (.cons a .nil) = fun σ h Q => M.wE (C P n xx) a σ h fun d h1 => match d with | .int n => Q (some n) h1 | _ => False := by funext σ h Q; simp only [M.wO] <;> rfl
        rw [e]
        exact s_part (sndE a _ X sc s0 ok (ba h).1).v
theorem sndI : ∀ (k : M.Itk) (ir : M.Es) (e tg : Expr) (X : L2.Cx) (sc s0 : Scope), XOk P n T sc s0 X → mtI T sc s0 k ir e = true → (needT k = true → ∃ es kk p, tg = .Tuple es kk p) → PI X tg e (liftI X.F k (M.wEs (C P n xx) ir))
  | k, .nil, e, tg, X, sc, s0, ok, h, ht => by simp [mtI] at h
  | k, .cons a r, e, tg, X, sc, s0, ok, h, ht => by
    have w1 : M.wEs (C P n xx) (.cons a .nil) = fun σ h Q => M.wE (C P n xx) a σ h fun d h1 => Q [d] h1 := by funext σ h Q; simp only [M.wEs]
    cases k <;> try (exfalso; revert h; simp [mtI]; done)
    · simp only [mtI] at h
      obtain ⟨h1, h2⟩ := ba h
      cases r with
      | cons _ _ => cases h2
      | nil =>
        rw [w1]
        exact i_seq (sndE a _ X sc s0 ok h1).v
    · cases e <;> try (exfalso; revert h; simp [mtI]; done)
      rename_i g l kw p
      cases g <;> try (exfalso; revert h; simp [mtI]; done)
      cases l with
      | nil => exact absurd h (by simp [mtI])
      | cons y l =>
        cases kw <;> try (exfalso; revert h; simp [mtI]; done)
        simp only [mtI] at h
        obtain ⟨h, h6⟩ := ba h
        obtain ⟨h, h5⟩ := ba h
        obtain ⟨h, h4⟩ := ba h
        obtain ⟨h1, h2, h3⟩ := ba3 h
        have e := of_decide_eq_true h1
        subst e
        have ia := (sndE a _ X sc s0 ok h4).v
        have sy := ok_mt h4
        match l, r, h5, h6 with
        | [], .nil, _, _ =>
          rw [w1]
          exact i_rng1 (glB_ok ok h3) (ok.free _ (by simpa using h2)) (ok_star (es := []) sy) ia
        | [], .cons _ _, h5, _ => simp [mtEs] at h5
        | [z], .nil, h5, _ => simp [mtEs] at h5
        | [z], .cons b r, h5, _ =>
          simp only [mtEs] at h5
          obtain ⟨h51, h52⟩ := ba h5
          cases r with
          | cons _ _ => simp [mtEs] at h52
          | nil =>
            have w2 : M.wEs (C P n xx) (.cons a (.cons b .nil)) = fun σ h Q => M.wE (C P n xx) a σ h fun d h1 => M.wE (C P n xx) b σ h1 fun d2 h2 => Q [d, d2] h2 := by funext σ h Q; simp only [M.wEs]
            rw [w2]
            have sz := ok_mt h51
            exact i_rng2 (glB_ok ok h3) (ok.free _ (by simpa using h2)) (by rw [ok_star sy, ok_star sz]; rfl) (ok_star (es := []) sz) ia (sndE b _ X sc s0 ok h51).v
        | _ :: _ :: _, _, _, h6 =>
          have h6 := of_decide_eq_true h6
          simp only [List.length_cons] at h6
          omega
    · obtain ⟨es, kk, tp, rfl⟩ := ht rfl
      cases e <;> try (exfalso; revert h; simp [mtI]; done)
      rename_i g l kw p
      cases g <;> try (exfalso; revert h; simp [mtI]; done)
      match l, kw, h with
      | [y, z], [], h =>
        simp only [mtI] at h
        obtain ⟨h, h5⟩ := ba h
        obtain ⟨h, h4⟩ := ba h
        obtain ⟨h1, h2, h3⟩ := ba3 h
        have e := of_decide_eq_true h1
        subst e
        have w3 : M.wEs (C P n xx) (.cons a r) = fun σ h Q => M.wE (C P n xx) a σ h fun d h1 => M.wEs (C P n xx) r σ h1 fun ds h2 => Q (d :: ds) h2 := by funext σ h Q; simp only [M.wEs]
        rw [w3]
        have sy := ok_mt h4
        have sz := oks_mt h5 z (by simp)
        have hs : starEach [y, z] X.env = (false, eval y X.env) :: starEach [z] X.env := ok_star sy
        exact i_zip (glB_ok ok h3) (ok.free _ (by simpa using h2)) (s_cons hs (sndE a _ X sc s0 ok h4).v (sndEs r _ X sc s0 ok h5)) hs (by rw [ok_star (es := []) sz]; rfl)
      | [], _, h => exact absurd h (by simp [mtI])
      | [_], _, h => exact absurd h (by simp [mtI])
      | _ :: _ :: _ :: _, _, h => exact absurd h (by simp [mtI])
      | [_, _], _ :: _, h => exact absurd h (by simp [mtI])
    · obtain ⟨es, kk, tp, rfl⟩ := ht rfl
      cases e <;> try (exfalso; revert h; simp [mtI]; done)
      rename_i g l kw p
      cases g <;> try (exfalso; revert h; simp [mtI]; done)
      match l, kw, h with
      | [y], [], h =>
        simp only [mtI] at h
        obtain ⟨h, h5⟩ := ba h
        obtain ⟨h, h4⟩ := ba h
        obtain ⟨h1, h2, h3⟩ := ba3 h
        have e := of_decide_eq_true h1
        subst e
        cases r with
        | cons _ _ => cases h5
        | nil =>
          rw [w1]
          exact i_enum (glB_ok ok h3) (ok.free _ (by simpa using h2)) (ok_star (es := []) (ok_mt h4)) (sndE a _ X sc s0 ok h4).v
      | [], _, h => exact absurd h (by simp [mtI])
      | _ :: _ :: _, _, h => exact absurd h (by simp [mtI])
      | [_], _ :: _, h => exact absurd h (by simp [mtI])
    · obtain ⟨es, kk, tp, rfl⟩ := ht rfl
      cases e <;> try (exfalso; revert h; simp [mtI]; done)
      rename_i g l kw p
      cases g <;> try (exfalso; revert h; simp [mtI]; done)
      match l, kw, h with
      | [], [], h =>
        simp only [mtI] at h
        obtain ⟨h, h5⟩ := ba h
        obtain ⟨h, h4⟩ := ba h
        obtain ⟨h1, h2, h3⟩ := ba3 h
        have e := of_decide_eq_true h1
        subst e
        cases r with
        | cons _ _ => cases h5
        | nil =>
          rw [w1]
          exact i_items (ok_base h3) h2 (sndE a _ X sc s0 ok h4).v
      | _ :: _, _, h => exact absurd h (by simp [mtI])
      | [], _ :: _, h => exact absurd h (by simp [mtI])
    · cases e <;> try (exfalso; revert h; simp [mtI]; done)
      rename_i g l kw p
      cases g <;> try (exfalso; revert h; simp [mtI]; done)
      match l, kw, h with
      | [], [], h =>
        simp only [mtI] at h
        obtain ⟨h, h5⟩ := ba h
        obtain ⟨h, h4⟩ := ba h
        obtain ⟨h1, h2, h3⟩ := ba3 h
        have e := of_decide_eq_true h1
        subst e
        cases r with
        | cons _ _ => cases h5
        | nil =>
          rw [w1]
          exact i_vals (ok_base h3) h2 (sndE a _ X sc s0 ok h4).v
      | _ :: _, _, h => exact absurd h (by simp [mtI])
      | [], _ :: _, h => exact absurd h (by simp [mtI])
    · cases e <;> try (exfalso; revert h; simp [mtI]; done)
      rename_i g l kw p
      cases g <;> try (exfalso; revert h; simp [mtI]; done)
      match l, kw, h with
      | [y], [], h =>
        simp only [mtI] at h
        obtain ⟨h, h5⟩ := ba h
        obtain ⟨h, h4⟩ := ba h
        obtain ⟨h1, h2, h3⟩ := ba3 h
        have e := of_decide_eq_true h1
        subst e
        cases r with
        | cons _ _ => cases h5
        | nil =>
          rw [w1]
          exact i_rev (glB_ok ok h3) (ok.free _ (by simpa using h2)) (ok_star (es := []) (ok_mt h4)) (sndE a _ X sc s0 ok h4).v
      | [], _, h => exact absurd h (by simp [mtI])
      | _ :: _ :: _, _, h => exact absurd h (by simp [mtI])
      | [_], _ :: _, h => exact absurd h (by simp [mtI])
    · simp only [mtI] at h
      obtain ⟨h1, h2⟩ := ba h
      cases r with
      | cons _ _ => cases h2
      | nil =>
        rw [w1]
        exact i_keys (sndE a _ X sc s0 ok h1).v
    · cases e <;> try (exfalso; revert h; simp [mtI]; done)
      rename_i g l kw p
      cases g <;> try (exfalso; revert h; simp [mtI]; done)
      match l, kw, h with
      | [y], [], h =>
        cases y <;> try (exfalso; revert h; simp [mtI]; done)
        rename_i g2 l2 kw2 p2
        cases g2 <;> try (exfalso; revert h; simp [mtI]; done)
        match l2, kw2, h with
        | [b], [], h =>
          simp only [mtI] at h
          obtain ⟨h, h8⟩ := ba h
          obtain ⟨h, h7⟩ := ba h
          obtain ⟨h, h6⟩ := ba h
          obtain ⟨h, h5⟩ := ba h
          obtain ⟨h, h4⟩ := ba h
          obtain ⟨h1, h2, h3⟩ := ba3 h
          have e := of_decide_eq_true h1
          subst e
          have e := of_decide_eq_true h4
          subst e
          cases r with
          | cons _ _ => cases h8
          | nil =>
            rw [w1]
            exact i_rrng (glB_ok ok h3) (ok.free _ (by simpa using h2)) (glB_ok ok h6) (ok.free _ (by simpa using h5)) (ok_star (es := []) (ok_mt h7)) (sndE a _ X sc s0 ok h7).v
        | [], _, h => exact absurd h (by simp [mtI])
        | _ :: _ :: _, _, h => exact absurd h (by simp [mtI])
        | [_], _ :: _, h => exact absurd h (by simp [mtI])
      | [], _, h => exact absurd h (by simp [mtI])
      | _ :: _ :: _, _, h => exact absurd h (by simp [mtI])
      | [z], _ :: _, h => exact absurd h (by cases z <;> simp [mtI])
end
end
end Snd
end
section
/-! Sound10: statements, defs. -/
namespace Snd
open PySem L2 PySem.Spec PyProof.Rows

def swV (sc : Scope) (t : Str) (p : Pos) (scope : Scope) (vp : Pos) : Bool := (if sc.kind.isAnnotationScope then ScopeKind.function else sc.kind) == .function && sc.names.lookup t == some .local && p.line == vp.line && !(scope.names.any fun (n, k) => n == t && (k == .local || k == .cell))
theorem sw_eq {elt : Expr} {gs : List Comprehension} {scope : Scope} {vp p : Pos} {t : Str} {l : Nat} {env : Env} : swapsWith (.ListComp elt gs scope vp) (some (.Name t p)) l env = pure (swV env.scope t p scope vp) := rfl
theorem sw_sole {elt : Expr} {gs : List Comprehension} {scope : Scope} {vp p : Pos} {t : Str} {l : Nat} {env : Env} : swapsWithSole [.Name t p] (.ListComp elt gs scope vp) l env = pure (swV env.scope t p scope vp) := rfl
def compX : Expr → Bool
  | .ListComp .. => true
  | .SetComp .. => true
  | .DictComp .. => true
  | _ => false
def tupX : Expr → Bool
  | .Tuple .. => true
  | _ => false
theorem sw_plain {e : Expr} (h : compX e = false) {o : Option Expr} {l : Nat} {env : Env} : swapsWith e o l env = pure false := by cases e <;> first | rfl | cases h
/-- a target and a value whose stores are in order -/
def asgB (tg e : Expr) : Bool := match tg with
  | .Name _ _ => true
  | .Tuple .. => !(tupX e) && !(compX e)
  | _ => false
def augB : M.Bop → Bool
  | .add => true
  | .sub => true
  | _ => false
mutual
def mtS (T : Tb) : Scope → M.S → Stmt → Bool
  | sc, .asg t e, s => (match s with
    | .Assign [tg] x _ => tgB T.N sc t tg && mtE T sc sc e x && asgB tg x
    | _ => false)
  | sc, .sfld c o f e, s => (match s with
    | .Assign [.Attribute a nm _] x _ => decide (nm = sV f) && T.at_.contains (c, f) && mtE T sc sc o a && mtE T sc sc e x
    | _ => false)
  | sc, .six o i e, s => (match s with
    | .Assign [.Subscript a j _] x _ => mtE T sc sc o a && mtE T sc sc i j && mtE T sc sc e x
    | _ => false)
  | sc, .aug i o e, s => (match s with
    | .AugAssign (.Name x _) op y _ => nmB T.N sc i (.Name x ⟨0, 0, 0, 0⟩) && opB o op && mtE T sc sc e y && augB o
    | _ => false)
  | sc, .ex e, s => (match s with
    | .Expr x _ => mtE T sc sc e x && !(compX x)
    | _ => false)
  | sc, .ret e, s => (match s with
    | .Return (some x) _ => mtE T sc sc e x
    | _ => false)
  | sc, .retN, s => (match s with
    | .Return none _ => true
    | _ => false)
  | sc, .ife c a b, s => (match s with
    | .If x l r _ => mtE T sc sc c x && testB x && mtSs T sc a l && mtSs T sc b r
    | _ => false)
  | sc, .whl c b, s => (match s with
    | .While x l [] _ => mtE T sc sc c x && testB x && mtSs T sc b l
    | _ => false)
  | sc, .for_ t k src b, s => (match s with
    | .For tg it l [] _ => tgB T.N sc t tg && tupK k t && mtI T sc sc k src it && mtSs T sc b l
    | _ => false)
  | sc, .pass, s => (match s with
    | .Pass _ => true
    | _ => false)
  | sc, .brk, s => (match s with
    | .Break _ => true
    | _ => false)
  | sc, .cont, s => (match s with
    | .Continue _ => true
    | _ => false)
  | sc, .bad, s => true
  | sc, .lock i s, x => mtS T sc s x
  | sc, .lock2 i s, x => mtS T sc s x
def mtSs (T : Tb) : Scope → M.Ss → List Stmt → Bool
  | sc, .nil, l => l.isEmpty
  | sc, .cons s r, l => (match l with
    | x :: y => mtS T sc s x && mtSs T sc r y
    | [] => false)
end
section
variable {P : M.Prog} {n : Nat} {T : Tb} {xx : M.XP}
theorem fold_mt {sc s0 : Scope} {k : M.Itk} {src : M.Es} {it : Expr} (h4 : mtI T sc s0 k src it = true) {env : Env} : ∀ z, foldedSetIterable it env z = pure z := by
  intro z
  cases k with
  | seq =>
    cases src with
    | nil => simp [mtI] at h4
    | cons a r =>
      simp only [mtI] at h4
      exact ok_fold (ok_mt (ba h4).1)
  | keys =>
    cases src with
    | nil => simp [mtI] at h4
    | cons a r =>
      simp only [mtI] at h4
      exact ok_fold (ok_mt (ba h4).1)
  | _ =>
    cases src with
    | nil => simp [mtI] at h4
    | cons a r => cases it <;> first | rfl | (simp [mtI] at h4)
theorem ifs_ok {sc s0 : Scope} {Y : L2.Cx} (okb : XOk P n T sc s0 Y) {cs : List Expr} {ifs : M.Es} (h7 : mtEs T sc s0 ifs cs = true) (h8 : testsB cs = true) (h9 : decide (cs.length < 2) = true) : PTs Y cs (liftT Y.F (M.wB (C P n xx) true ifs)) := by
  match cs, ifs, h7, h8, h9 with
  | [], .nil, _, _, _ =>
    refine ⟨fun pins s σ H Q I ⟨σa, hh, Qa, rs, rh, q, kk⟩ => pts_nil.run pins s σ H Q I ?_⟩
    simp only [M.wB] at q
    obtain ⟨b, e, kk⟩ := kk _ _ q
    cases e
    exact kk H .refl rh
  | [], .cons _ _, h7, _, _ => simp [mtEs] at h7
  | [c], .nil, h7, _, _ => simp [mtEs] at h7
  | [c], .cons i r, h7, h8, _ =>
    simp only [mtEs] at h7
    obtain ⟨h71, h72⟩ := ba h7
    cases r with
    | cons _ _ => simp [mtEs] at h72
    | nil =>
      have ht := (sndE (xx := xx) i c _ _ _ okb h71).t (ba h8).1
      refine pts_one (ht.imp fun σ H Q ⟨σa, hh, Qa, rs, rh, q, kk⟩ => ⟨σa, hh, _, rs, rh, (by simpa only [M.wB] using q), fun d h' q1 => ?_⟩)
      cases d with
      | bl b =>
        have q2 : Qa (.bl b) h' := by cases b <;> exact q1
        exact kk _ _ q2
      | _ => exact q1.elim
  | _ :: _ :: _, _, _, _, h9 =>
    have h9 := of_decide_eq_true h9
    simp only [List.length_cons] at h9
    omega
/-- name = [..], the list laid and stored at once -/
theorem ss_lc {sc : Scope} {X : L2.Cx} (ok : XOk P n T sc sc X) {elt : M.E} {t : M.Tgt} {own : List Nat} {k : M.Itk} {src ifs : M.Es} {y : Expr} {gs : List Comprehension} {scope : Scope} {vp : Pos} {i : Nat} {v : Str} {pv sp : Pos}
    (h : mtE T sc sc (.lc elt t own k src ifs) (.ListComp y gs scope vp) = true) (hn : nmB T.N sc i (.Name v pv) = true) (hs : swV sc v pv scope vp = true) :
    PS X (.Assign [.Name v pv] (.ListComp y gs scope vp) sp) (liftS X.F fun R σ h => M.wE (C P n xx) (.lc elt t own k src ifs) σ h fun d h1 => R.nx (σ.set i (some d)) h1) := by
  match gs, h with
  | [⟨tg, it, cs, a⟩], h =>
    simp only [mtE] at h
    obtain ⟨h, h10⟩ := ba h
    obtain ⟨h, h9⟩ := ba h
    obtain ⟨h, h8⟩ := ba h
    obtain ⟨h, h7⟩ := ba h
    obtain ⟨h, h6⟩ := ba h
    obtain ⟨h, h5⟩ := ba h
    obtain ⟨h, h4⟩ := ba h
    obtain ⟨h1, h2, h3⟩ := ba3 h
    have ea := of_decide_eq_true h1
    subst ea
    unfold compsB at h6
    cases eo : ownB T.N own with
    | none => rw [eo] at h6; cases h6
    | some ow =>
      rw [eo] at h6
      have blk := blkOk_by h6
      have em := ownB_map eo
      have iI := sndI (xx := xx) k src it tg X sc sc ok h4 (by
        intro e
        cases t with
        | nm _ => cases k <;> first | exact absurd e (by decide) | exact absurd h5 (by simp [tupK])
        | tp ts => cases tg <;> first | exact ⟨_, _, _, rfl⟩ | cases h3)
      have gT : ∀ (s : Shared) (H : Hp) (D : Addr) (cl : List (Str × Addr)) (fp : List Addr), PG (X.blk s H scope (compEnvC scope cl D X.env) fp) tg (gOf X.F t) := fun s H D cl fp => tg_ok (blk_ok ok blk s H D cl fp) h3
      have iE : ∀ (s : Shared) (H : Hp) (D : Addr) (cl : List (Str × Addr)) (fp : List Addr), PE (X.blk s H scope (compEnvC scope cl D X.env) fp) y (lift X.F (M.wE (C P n xx) elt)) := fun s H D cl fp => (sndE elt _ _ _ _ (blk_ok ok blk s H D cl fp) h10).v
      have iT : ∀ (s : Shared) (H : Hp) (D : Addr) (cl : List (Str × Addr)) (fp : List Addr), PTs (X.blk s H scope (compEnvC scope cl D X.env) fp) cs (liftT X.F (M.wB (C P n xx) true ifs)) := fun s H D cl fp => ifs_ok (xx := xx) (blk_ok ok blk s H D cl fp) h7 h8 h9
      have hl : sc.names.lookup v = some .local := by
        unfold swV at hs
        simp only [Bool.and_eq_true, beq_iff_eq] at hs
        exact hs.1.1.2
      obtain ⟨hn1, _⟩ := ba hn
      have key := ps_setLc (i := i) (y := v) (py := pv) (spos := sp) (pos := vp) (elt := y) ok.calm ok.nd (by rw [ok.eN]; exact of_decide_eq_true hn1) (by rw [ok.eS]; exact hl) (by rw [sw_eq, ok.eS, hs]) iI (by rw [ok.eN, ok.eS]; exact blk) gT iT iE (fold_mt h4)
      rw [em] at key
      refine key.imp fun D σ H ⟨σa, h, R, rs, rh, q, k⟩ => ?_
      refine lc_ok h2 (lift_go (w := _) (Qa := fun d h1 => R.nx (σa.set i (some d)) h1) rs rh (by simp only [M.wE] at q; exact q) fun d h1 v H1 q1 f1 r1 rh1 rs1 => ?_)
      exact k.nx _ _ _ _ q1 f1 (rs_set rs1 r1) rh1
  | [], h => exact absurd h (by simp [mtE])
  | _ :: _ :: _, h => exact absurd h (by simp [mtE])
theorem nm_each {e : Expr} {env : Env} {N : List Str} {s0 : Scope} {t : M.Tgt} (h : tgB N s0 t e = true) : (assignEach [e] env).map (·.2) = [assign e env] := by
  cases t with
  | nm i => rw [nm_star (T := ⟨N, [], [], [], [], [], [], [], []⟩) (es := []) (show nmB N s0 i e = true from h)]; rfl
  | tp ts => cases e <;> first | rfl | cases h
theorem ss_aug {X : L2.Cx} {i : Nat} {x : Str} {e : Expr} {w : WE} {o : M.Bop} {p pos : Pos} (hN : X.N.Nodup) (hi : X.N[i]? = some x) (hx : L2.Loc X.env.scope x) (hf : X.fn x = true ∨ X.env.scope.names.lookup x = some .local) (ho : o = .add ∨ o = .sub) (he : PE X e (lift X.F w)) :
    PS X (.AugAssign (.Name x p) (bop o) e pos) (liftS X.F fun R σ h => match σ[i]? with
      | some (some x) => w σ h fun y h1 => M.opAug o x y fun z => R.nx (σ.set i (some z)) h1
      | _ => False) := by
  have fin : ∀ {D : L2.Ends} {σ : L2.St} {H : Hp}, liftS X.F (fun R σ h => match σ[i]? with
      | some (some x) => w σ h fun y h1 => M.opAug o x y fun z => R.nx (σ.set i (some z)) h1
      | _ => False) D σ H → ∃ v, σ[i]? = some (some v) ∧ lift X.F w σ H fun u H1 => (o = .add ∧ ((∃ a b, v = .int a ∧ u = .int b ∧ D.nx (σ.set i (some (.int (a + b)))) H1) ∨ ∃ a b, v = .str a ∧ u = .str b ∧ a.length + b.length ≤ sizeLine ∧ D.nx (σ.set i (some (.str (a ++ b)))) H1)) ∨ (o = .sub ∧ ∃ a b, v = .int a ∧ u = .int b ∧ D.nx (σ.set i (some (.int (a - b)))) H1) := by
    rintro D σ H ⟨σa, h, R, rs, rh, q, k⟩
    cases e1 : σa[i]? with
    | none => rw [e1] at q; exact q.elim
    | some z => cases z with
      | none => rw [e1] at q; exact q.elim
      | some d =>
        rw [e1] at q
        obtain ⟨v, e2, r⟩ := rs.2 i d e1
        refine ⟨v, e2, lift_go rs rh q fun dy h1 u H1 q1 f1 r1 rh1 rs1 => ?_⟩
        have r := r.kp (f1.kp rh)
        have go : ∀ {dz : SD} {z : V}, R.nx (σa.set i (some dz)) h1 → Rep X.F H1 dz z → D.nx (σ.set i (some z)) H1 := fun q rz => k.nx _ _ _ _ q f1 (rs_set rs1 rz) rh1
        cases o <;> try (exact False.elim q1)
        · cases d <;> try (exact False.elim q1)
          · cases dy <;> try (exact False.elim q1)
            cases (show v = _ from r); cases (show u = _ from r1)
            exact .inl ⟨rfl, .inl ⟨_, _, rfl, rfl, go q1 rfl⟩⟩
          · cases dy <;> try (exact False.elim q1)
            cases (show v = _ from r.1); cases (show u = _ from r1.1)
            refine .inl ⟨rfl, .inr ⟨_, _, rfl, rfl, by rw [sV_len, sV_len, line_eq]; exact q1.1, ?_⟩⟩
            rw [sV_app]
            exact go q1.2 ⟨rfl, sOk_app r.2 r1.2⟩
        · cases d <;> try (exact False.elim q1)
          cases dy <;> try (exact False.elim q1)
          cases (show v = _ from r); cases (show u = _ from r1)
          exact .inr ⟨rfl, _, _, rfl, rfl, go q1 rfl⟩
  cases o
  case add =>
    have ip : PIp X .Add (fun x y H Q => (rI0 fun i j => .int (i + j)) x y H Q ∨ rAddS x y H Q) := fun pins s σ H x y v u Q I r1 r2 h => op_iadd pins s σ H x y v u Q I r1 r2 h
    refine (ps_aug hN hi hx he ip hf).imp fun D σ H z => ?_
    obtain ⟨v, e, σa, h, Qa, rs, rh, q, k⟩ := fin z
    refine ⟨v, e, σa, h, Qa, rs, rh, q, fun d h' u H' q' f r rh' => ?_⟩
    rcases k d h' u H' q' f r rh' with ⟨_, ⟨a, b, e1, e2, q⟩ | ⟨a, b, e1, e2, hz, q⟩⟩ | ⟨w, _⟩
    · exact .inl ⟨a, b, e1, e2, q⟩
    · exact .inr ⟨a, b, e1, e2, hz, q⟩
    · cases w
  case sub =>
    refine (ps_aug hN hi hx he ip_sub hf).imp fun D σ H z => ?_
    obtain ⟨v, e, σa, h, Qa, rs, rh, q, k⟩ := fin z
    refine ⟨v, e, σa, h, Qa, rs, rh, q, fun d h' u H' q' f r rh' => ?_⟩
    rcases k d h' u H' q' f r rh' with ⟨w, _⟩ | ⟨_, a, b, e1, e2, q⟩
    · cases w
    · exact ⟨a, b, e1, e2, q⟩
  all_goals (rcases ho with ho | ho <;> cases ho)

theorem six_ok {o i : Expr} {p : Pos} {env : Env} (h : okX i = true) : ∀ v, assign (.Subscript o i p) env v = (do
      let ov ← holding [v] (eval o env)
      let iv ← holding [v, ov] (eval i env)
      standAt p
      holding [v, ov, iv] (setItem ov iv v)
      release [v, ov, iv] []) := by intro v; cases i <;> first | rfl | cases h
theorem never_ok {sc s0 : Scope} {X : L2.Cx} (ok : XOk P n T sc s0 X) : PassesOwn (model X.prog X.w) X.A X.env X.xe := by rw [ok.xe]; exact .never
mutual
theorem sndS : ∀ (ir : M.S) (x : Stmt) (X : L2.Cx) (sc : Scope), XOk P n T sc sc X → mtS T sc ir x = true → PS X x (liftS X.F (M.wS (C P n xx) ir))
  | .asg t e, x, X, sc, ok, h => by
    cases x <;> try (exfalso; revert h; simp [mtS]; done)
    rename_i ts v p
    match ts, h with
    | [tg], h =>
      simp only [mtS] at h
      obtain ⟨h1, h2, h3⟩ := ba3 h
      have w1 : M.wS (C P n xx) (.asg t e) = fun R σ h => M.wE (C P n xx) e σ h fun d h1 => match M.setT t d σ with | some σ' => R.nx σ' h1 | none => False := by funext R σ h; simp only [M.wS] <;> rfl
      rw [w1]
      have ie := (sndE (xx := xx) e v X sc sc ok h2).v
      have it := tg_ok ok h1
      by_cases hc : compX v = true
      · cases tg <;> try (exfalso; revert h3; simp [asgB]; done)
        · rename_i nm np
          cases t with
          | tp _ => cases h1
          | nm i =>
            cases e <;> cases v <;> try (exfalso; revert h2; simp [mtE]; done)
            all_goals try (exfalso; revert hc; simp [compX]; done)
            rename_i elt t own k src ifs y gs scope vp _
            cases hs : swV sc nm np scope vp with
            | true => exact (ss_lc (xx := xx) ok h2 h1 hs).imp fun D σ H z => z
            | false => exact ss_asg ie it (by rw [sw_sole, ok.eS, hs]) rfl (nm_each h1)
        · exfalso
          revert h3
          simp only [asgB, hc]
          simp
      · have hc : compX v = false := by simpa using hc
        refine ss_asg ie it (sw_plain hc) ?_ (nm_each h1)
        cases tg <;> try (exfalso; revert h3; simp [asgB]; done)
        · rfl
        · have ht : tupX v = false := by
            simp only [asgB] at h3
            have := (ba h3).1
            simpa using this
          cases v <;> first | rfl | cases ht
    | [], h => exact absurd h (by simp [mtS])
    | _ :: _ :: _, h => exact absurd h (by simp [mtS])
  | .sfld c o f e, x, X, sc, ok, h => by
    cases x <;> try (exfalso; revert h; simp [mtS]; done)
    rename_i ts v p
    match ts, h with
    | [tg], h =>
      cases tg <;> try (exfalso; revert h; simp [mtS]; done)
      simp only [mtS] at h
      obtain ⟨h, h4⟩ := ba h
      obtain ⟨h1, h2, h3⟩ := ba3 h
      obtain ⟨C', hm, na⟩ := ok.at_ (c, f) (by simpa using h2)
      have w1 : M.wS (C P n xx) (.sfld c o f e) = fun R σ h => M.wE (C P n xx) e σ h fun v h1 => M.wE (C P n xx) o σ h1 fun x h2 => M.aIns x h2 fun p c' fs => c' = c ∧ fs.length < 1000 ∧ R.nx σ (M.up h2 p (.ins c (M.putA f v fs))) := by funext R σ h; simp only [M.wS]
      rw [w1]
      refine s_sfld (of_decide_eq_true h1) hm na (sndE (xx := xx) e v X sc sc ok h4).v (sndE (xx := xx) o _ X sc sc ok h3).v ?_
      cases v <;> rfl
    | [], h => exact absurd h (by simp [mtS])
    | _ :: _ :: _, h => exact absurd h (by simp [mtS])
  | .six o i e, x, X, sc, ok, h => by
    cases x <;> try (exfalso; revert h; simp [mtS]; done)
    rename_i ts v p
    match ts, h with
    | [tg], h =>
      cases tg <;> try (exfalso; revert h; simp [mtS]; done)
      simp only [mtS] at h
      obtain ⟨h1, h2, h3⟩ := ba3 h
      have w1 : M.wS (C P n xx) (.six o i e) = fun R σ h => M.wE (C P n xx) e σ h fun v h1 => M.wE (C P n xx) o σ h1 fun x h2 => M.wE (C P n xx) i σ h2 fun y h3 => M.opSet x y v h3 fun h4 => R.nx σ h4 := by funext R σ h; simp only [M.wS]
      rw [w1]
      refine ss_six ok.units (sndE (xx := xx) e v X sc sc ok h3).v (sndE (xx := xx) o _ X sc sc ok h1).v (sndE (xx := xx) i _ X sc sc ok h2).v (six_ok (ok_mt h2)) ?_ rfl rfl
      cases v <;> rfl
    | [], h => exact absurd h (by simp [mtS])
    | _ :: _ :: _, h => exact absurd h (by simp [mtS])
  | .aug i o e, x, X, sc, ok, h => by
    cases x <;> try (exfalso; revert h; simp [mtS]; done)
    rename_i tg op v p
    cases tg <;> try (exfalso; revert h; simp [mtS]; done)
    simp only [mtS] at h
    obtain ⟨h, h4⟩ := ba h
    obtain ⟨h1, h2, h3⟩ := ba3 h
    obtain ⟨h5, h6⟩ := ba h1
    obtain ⟨l, f⟩ := ok.st _ h6
    have eo := opB_eq h2
    subst eo
    have w1 : M.wS (C P n xx) (.aug i o e) = fun R σ h => match σ[i]? with
      | some (some x) => M.wE (C P n xx) e σ h fun y h1 => M.opAug o x y fun z => R.nx (σ.set i (some z)) h1
      | _ => False := by funext R σ h; simp only [M.wS] <;> rfl
    rw [w1]
    exact ss_aug ok.nd (by rw [ok.eN]; exact of_decide_eq_true h5) (by rw [ok.eS]; exact l) (by rw [ok.eS]; exact f) (by cases o <;> first | exact .inl rfl | exact .inr rfl | cases h4) (sndE (xx := xx) e v X sc sc ok h3).v
  | .ex e, x, X, sc, ok, h => by
    cases x <;> try (exfalso; revert h; simp [mtS]; done)
    simp only [mtS] at h
    obtain ⟨h1, h2⟩ := ba h
    have w1 : M.wS (C P n xx) (.ex e) = fun R σ h => M.wE (C P n xx) e σ h fun _ h1 => R.nx σ h1 := by funext R σ h; simp only [M.wS]
    rw [w1]
    exact ss_expr (sw_plain (by simpa using h2)) (sndE (xx := xx) e _ X sc sc ok h1).v
  | .ret e, x, X, sc, ok, h => by
    cases x <;> try (exfalso; revert h; simp [mtS]; done)
    rename_i v p
    cases v with
    | none => exact absurd h (by simp [mtS])
    | some v =>
      simp only [mtS] at h
      have w1 : M.wS (C P n xx) (.ret e) = fun R σ h => M.wE (C P n xx) e σ h R.rt := by funext R σ h; simp only [M.wS]
      rw [w1]
      exact ss_ret (sndE (xx := xx) e _ X sc sc ok h).v
  | .retN, x, X, sc, ok, h => by
    cases x <;> try (exfalso; revert h; simp [mtS]; done)
    rename_i v p
    cases v with
    | some _ => exact absurd h (by simp [mtS])
    | none =>
      have w1 : M.wS (C P n xx) .retN = fun R σ h => R.rt .non h := by funext R σ h; simp only [M.wS]
      rw [w1]
      exact ss_retN
  | .ife c a b, x, X, sc, ok, h => by
    cases x <;> try (exfalso; revert h; simp [mtS]; done)
    simp only [mtS] at h
    obtain ⟨h, h4⟩ := ba h
    obtain ⟨h1, h2, h3⟩ := ba3 h
    have w1 : M.wS (C P n xx) (.ife c a b) = fun R σ h => M.wE (C P n xx) c σ h fun d h1 => match d with
      | .bl k => (match k with
        | true => M.wSs (C P n xx) a R σ h1
        | false => M.wSs (C P n xx) b R σ h1)
      | _ => False := by funext R σ h; simp only [M.wS, M.wT] <;> rfl
    rw [w1]
    exact ss_ife ((sndE (xx := xx) c _ X sc sc ok h1).t h2) (sndSs a _ X sc ok h3) (sndSs b _ X sc ok h4)
  | .whl c b, x, X, sc, ok, h => by
    cases x <;> try (exfalso; revert h; simp [mtS]; done)
    rename_i v l els p
    cases els with
    | cons _ _ => exact absurd h (by simp [mtS])
    | nil =>
      simp only [mtS] at h
      obtain ⟨h1, h2, h3⟩ := ba3 h
      have w1 : M.wS (C P n xx) (.whl c b) = fun R σ h => ∃ W : Nat → M.St → M.AH → Prop, (∃ m, W m σ h) ∧ ∀ m σ h, W m σ h → M.wE (C P n xx) c σ h fun d h1 => match d with
        | .bl k => (match k with
          | true => M.wSs (C P n xx) b { nx := fun σ' h' => ∃ m', m' < m ∧ W m' σ' h', ct := fun σ' h' => ∃ m', m' < m ∧ W m' σ' h', bk := R.nx, rt := R.rt } σ h1
          | false => R.nx σ h1)
        | _ => False := by funext R σ h; simp only [M.wS, M.wT] <;> rfl
      rw [w1]
      exact ss_whl (never_ok ok) ((sndE (xx := xx) c _ X sc sc ok h1).t h2) (sndSs b _ X sc ok h3)
  | .for_ t k src b, x, X, sc, ok, h => by
    cases x <;> try (exfalso; revert h; simp [mtS]; done)
    rename_i tg it l els p
    cases els with
    | cons _ _ => exact absurd h (by simp [mtS])
    | nil =>
      simp only [mtS] at h
      obtain ⟨h, h4⟩ := ba h
      obtain ⟨h1, h2, h3⟩ := ba3 h
      have w1 : M.wS (C P n xx) (.for_ t k src b) = fun R σ h => M.wEs (C P n xx) src σ h fun ds h1 => M.walk k ds h1 fun xs ok =>
          M.loopW xs ok (fun x σ h P' => match M.setT t x σ with
            | some σ' => M.wSs (C P n xx) b { nx := P', ct := P', bk := R.nx, rt := R.rt } σ' h
            | none => False) R.nx σ h1 := by funext R σ h; simp only [M.wS] <;> rfl
      rw [w1]
      refine ss_for (never_ok ok) ok.calm (sndI (xx := xx) k src it tg X sc sc ok h3 (by
        intro e
        cases t with
        | nm _ => cases k <;> first | exact absurd e (by decide) | exact absurd h2 (by simp [tupK])
        | tp ts => cases tg <;> first | exact ⟨_, _, _, rfl⟩ | cases h1)) (tg_ok ok h1) (sndSs b _ X sc ok h4) (fold_mt h3)
  | .pass, x, X, sc, ok, h => by
    cases x <;> try (exfalso; revert h; simp [mtS]; done)
    have w1 : M.wS (C P n xx) .pass = fun R σ h => R.nx σ h := by funext R σ h; simp only [M.wS]
    rw [w1]
    exact ss_pass
  | .brk, x, X, sc, ok, h => by
    cases x <;> try (exfalso; revert h; simp [mtS]; done)
    have w1 : M.wS (C P n xx) .brk = fun R σ h => R.bk σ h := by funext R σ h; simp only [M.wS]
    rw [w1]
    exact ss_brk
  | .cont, x, X, sc, ok, h => by
    cases x <;> try (exfalso; revert h; simp [mtS]; done)
    have w1 : M.wS (C P n xx) .cont = fun R σ h => R.ct σ h := by funext R σ h; simp only [M.wS]
    rw [w1]
    exact ss_cont
  | .lock i s, x, X, sc, ok, h => by
    simp only [mtS] at h
    have w1 : M.wS (C P n xx) (.lock i s) = fun R σ h => M.lockAt σ i h fun p kd kvs => M.wS (C P n xx) s { nx := fun σ' h' => R.nx σ' (M.up h' p (.dct kd kvs)), rt := fun d h' => R.rt d (M.up h' p (.dct kd kvs)), bk := fun σ' h' => R.bk σ' (M.up h' p (.dct kd kvs)), ct := fun σ' h' => R.ct σ' (M.up h' p (.dct kd kvs)) } σ (M.up h p (.rdct kd kvs)) := by funext R σ h; simp only [M.wS]
    rw [w1]
    exact ss_lock (sndS s x X sc ok h)
  | .lock2 i s, x, X, sc, ok, h => by
    simp only [mtS] at h
    have w1 : M.wS (C P n xx) (.lock2 i s) = fun R σ h => (M.lockAt σ i h fun p kd kvs => M.wS (C P n xx) s { nx := fun σ' h' => R.nx σ' (M.up h' p (.dct kd kvs)), rt := fun d h' => R.rt d (M.up h' p (.dct kd kvs)), bk := fun σ' h' => R.bk σ' (M.up h' p (.dct kd kvs)), ct := fun σ' h' => R.ct σ' (M.up h' p (.dct kd kvs)) } σ (M.up h p (.rdct kd kvs))) ∨ M.wS (C P n xx) s R σ h := by funext R σ h; simp only [M.wS]
    rw [w1]
    have ih := sndS s x X sc ok h
    exact ⟨fun pins s σ H D I ⟨σa, hh, R, rs, rh, q, k⟩ => q.elim (fun q => (ss_lock ih).run pins s σ H D I ⟨σa, hh, R, rs, rh, q, k⟩) (fun q => ih.run pins s σ H D I ⟨σa, hh, R, rs, rh, q, k⟩)⟩
  | .bad, x, X, sc, ok, h => by
    refine ⟨fun pins s σ H D I ⟨_, _, _, _, _, q, _⟩ => ?_⟩
    simp only [M.wS] at q
theorem sndSs : ∀ (ir : M.Ss) (l : List Stmt) (X : L2.Cx) (sc : Scope), XOk P n T sc sc X → mtSs T sc ir l = true → PSs X l (liftS X.F (M.wSs (C P n xx) ir))
  | .nil, l, X, sc, ok, h => by
    cases l with
    | cons _ _ => simp [mtSs] at h
    | nil =>
      have w1 : M.wSs (C P n xx) .nil = fun R σ h => R.nx σ h := by funext R σ h; simp only [M.wSs]
      rw [w1]
      exact ss_nil
  | .cons s r, l, X, sc, ok, h => by
    cases l with
    | nil => simp [mtSs] at h
    | cons x l =>
      simp only [mtSs] at h
      obtain ⟨h1, h2⟩ := ba h
      have w1 : M.wSs (C P n xx) (.cons s r) = fun R σ h => M.wS (C P n xx) s { R with nx := fun σ' h' => M.wSs (C P n xx) r R σ' h' } σ h := by funext R σ h; simp only [M.wSs]
      rw [w1]
      exact ss_cons (sndS s x X sc ok h1) (sndSs r l X sc ok h2)
end

/-! ### defs -/
/-- a def of the program: its name, its names by slot, its row's statement, what it does -/
structure Fn where
  f : M.Sx
  N : List Str
  ps : List Str
  params : Arguments
  body : List Stmt
  scope : Scope
  fd : M.FD
  /-- of a class -/
  cl : Option (M.Sx × M.Sx)
  /-- so many of its last parameters have the default None -/
  df : Nat
def Fn.nm (F : Fn) : Str := match F.cl with
  | none => sV F.f
  | some (_, m) => sV m
/-- what is looked at of a def's text -/
def FnScopeB (N ps : List Str) (sc : Scope) : Bool := (match sc.kind with | .function => true | _ => false) && !sc.isCoroutine && !sc.isGenerator && decide N.Nodup && decide (N.take ps.length = ps) && (ps.all fun x => match sc.names.lookup x with
  | some .local => true | some .cell => true | _ => false) && sc.names.all fun y => match y.2 with
  | .free => false | _ => true
/-- the module's numbers and tables -/
structure Gc where
  gs : List (M.Sx × Int)
  ts : List (M.Sx × List (M.Sx × M.Sx))
  cs : List M.Sx
  ms : List (M.Sx × M.Sx)
  at_ : List (M.Sx × M.Sx)
  ds : List (M.Sx × Nat)
def Fn.ok (bn : List Str) (fs : List M.Sx) (gc : Gc) (F : Fn) : Bool := FnScopeB F.N F.ps F.scope && decide (F.fd.ps = F.ps.length) && decide (F.fd.n = F.N.length) && mtSs ⟨F.N, bn, fs, gc.gs, gc.ts, gc.cs, gc.ms, gc.at_, gc.ds⟩ F.scope F.fd.body F.body
theorem fnScope_of {N ps : List Str} {sc : Scope} (h : FnScopeB N ps sc = true) : FnScope N ps sc := by
  unfold FnScopeB at h
  simp only [Bool.and_eq_true, decide_eq_true_eq, List.all_eq_true, Bool.not_eq_true'] at h
  obtain ⟨⟨⟨⟨⟨⟨h1, h2⟩, h3⟩, h4⟩, h5⟩, h6⟩, h7⟩ := h
  refine ⟨?_, h2, h3, h4, h5, fun x hx => ?_, fun y hy e => ?_⟩
  · split at h1 <;> first | assumption | cases h1
  · have := h6 x hx
    split at this
    · exact .inl (by assumption)
    · exact .inr (by assumption)
    · cases this
  · have := h7 y hy
    rw [e] at this
    cases this
end
end Snd
end
section
/-! Sound11: a whole program, and a law's end. -/
namespace Snd
open PySem L2 PySem.Spec PyProof.Rows
def Fn.Bnd (F : Fn) : Prop := ∀ (kV doc pm : Value) (an : Option Addr) (cdv ct : Value) (us : List Value), us.length = F.ps.length → bindArgs (PySem.W.fnOf F.nm (sV F.f) F.params F.body F.scope .none kV doc pm an cdv ct) ⟨us, []⟩ = pure (F.ps.zip us)
/-- k of its defaults fill up -/
def Fn.BndD (F : Fn) (k : Nat) : Prop := ∀ (T : Addr) (kV doc pm : Value) (an : Option Addr) (cdv ct : Value) (us its : List Value), us.length + k = F.ps.length → its.length = F.df →
  ∃ kk, bindArgs (PySem.W.fnOf F.nm (sV F.f) F.params F.body F.scope (.ref T) kV doc pm an cdv ct) ⟨us, []⟩ = seqItems? (.ref T) >>= kk ∧ kk (some its.toArray) = pure (F.ps.zip (us ++ its.drop (F.df - k)))
def Fn.BOk (F : Fn) : Prop := (F.df = 0 ∧ F.Bnd) ∨ (F.df ≠ 0 ∧ F.df ≤ F.ps.length ∧ ∀ k, k ≤ F.df → F.BndD k)
abbrev Fn.dv (F : Fn) : List V := List.replicate F.df V.non
theorem binds_ok {K : PySem.W.Frag} {F : Fn} {fa : Addr} {fd : FuncData} (hB : F.BOk) (D : FunD K F.nm (sV F.f) F.params F.body F.scope F.dv [] fa fd) {k : Nat} (hk : k ≤ F.df) : ∃ us, Vals (List.replicate k V.non) us ∧ Binds K fd F.ps us := by
  rcases hB with ⟨z, b⟩ | ⟨z, le, b⟩
  · have e : F.dv = [] := by unfold Fn.dv; rw [z]; rfl
    rw [e] at D
    obtain rfl : k = 0 := by omega
    exact ⟨[], .nil, D.bindsN b⟩
  · have e : F.dv ≠ [] := by
      unfold Fn.dv
      intro y
      have := congrArg List.length y
      simp at this
      exact z this
    have ln : F.dv.length = F.df := by unfold Fn.dv; simp
    obtain ⟨us, v, bb⟩ := D.binds1 (F.ps.length - k) (F.df - k) e (by rw [ln]; omega) fun T kV doc pm an cdv ct us its h1 h2 => b k hk T kV doc pm an cdv ct us its (by omega) (by rw [h2, ln])
    refine ⟨us, ?_, bb⟩
    have : F.dv.drop (F.df - k) = List.replicate k V.non := by
      unfold Fn.dv
      rw [List.drop_replicate]
      congr 1
      omega
    rw [this] at v
    exact v
theorem binds_full {K : PySem.W.Frag} {F : Fn} {fa : Addr} {fd : FuncData} (hB : F.BOk) (D : FunD K F.nm (sV F.f) F.params F.body F.scope F.dv [] fa fd) : Binds K fd F.ps [] := by
  obtain ⟨us, v, b⟩ := binds_ok hB D (k := 0) (Nat.zero_le _)
  cases v
  exact b
def AllP (p : Fn → Prop) : List Fn → Prop
  | [] => True
  | F :: r => p F ∧ AllP p r
theorem AllP.get {p : Fn → Prop} : ∀ {l : List Fn}, AllP p l → ∀ F ∈ l, p F
  | F :: r, ⟨a, b⟩, G, h => by
    rcases List.mem_cons.mp h with e | h
    · rw [e]; exact a
    · exact b.get G h
def tabP (tab : List Fn) : M.Prog := M.pOf (tab.map fun F => (F.f, F.fd))
theorem tabP_of : ∀ {tab : List Fn}, (tab.map (·.f)).Nodup → ∀ F ∈ tab, tabP tab F.f = some F.fd
  | G :: r, nd, F, h => by
    rw [List.map_cons, List.nodup_cons] at nd
    rcases List.mem_cons.mp h with e | h
    · subst e
      simp [tabP, M.pOf, List.find?_cons]
    · have ne : G.f ≠ F.f := fun e => nd.1 (by rw [e]; exact List.mem_map.mpr ⟨F, h, rfl⟩)
      have ih := tabP_of nd.2 F h
      unfold tabP M.pOf at ih ⊢
      rw [List.map_cons, List.find?_cons]
      have : (G.f == F.f) = false := by simpa using ne
      simp only [this]
      exact ih
theorem rs_start {K : Fr} {H : Hp} {ds : List SD} {vs : List V} (r : Reps K H ds vs) (N : List Str) (fd : M.FD) (h1 : fd.n = N.length) (h2 : fd.ps = ds.length) : RS K H (L2.start N vs) (M.start fd ds) := by
  have ln := r.length
  unfold L2.start M.start
  refine ⟨by simp [h1, h2, ln], fun i d e => ?_⟩
  by_cases hi : i < ds.length
  · rw [List.getElem?_append_left (by simpa using hi), List.getElem?_map] at e
    cases q : ds[i]? with
    | none => rw [q] at e; cases e
    | some x =>
      rw [q] at e
      simp only [Option.map_some, Option.some.injEq] at e
      subst e
      obtain ⟨v, e1, e2⟩ := r.get q
      exact ⟨v, by rw [List.getElem?_append_left (by simpa [ln] using hi), List.getElem?_map, e1]; rfl, e2⟩
  · rw [List.getElem?_append_right (by simpa using hi)] at e
    have := List.getElem?_replicate (a := (none : Option SD)) (n := fd.n - fd.ps) (i := i - (ds.map some).length)
    rw [this] at e
    split at e <;> cases e
section
variable {P : Program} {w : World} {K : PySem.W.Frag} {mg : Str → Option Value} {base : Heap}
theorem init_eq : sV M.sInit = ("__init__" : Str) := by rfl
theorem tabP_none {tab : List Fn} {f : M.Sx} (h : (tab.any fun F => decide (F.f = f)) = false) : tabP tab f = none := by
  have h := List.any_eq_false.mp h
  have : ((tab.map fun F => (F.f, F.fd)).find? fun p => p.1 == f) = none := by
    rw [List.find?_eq_none]
    intro p hp
    obtain ⟨F, hF, rfl⟩ := List.mem_map.mp hp
    have := h F hF
    simpa using this
  simp only [tabP, M.pOf, this, Option.map_none]
/-- where a def lies -/
def FnAt (K : PySem.W.Frag) (mg : Str → Option Value) (F : Fn) (fa : Addr) : Prop := match F.cl with
  | none => mg (sV F.f) = some (.ref fa)
  | some (c, m) => fa = He.ma K (He.ga K (sV c)) (sV m)
/-- the classes' defs are in the table -/
def Gc.okT (gc : Gc) (tab : List Fn) : Bool := (gc.cs.all fun c => (tab.any fun F => decide (F.cl = some (c, M.sInit)) && decide (F.f = M.metN c M.sInit)) && !(tab.any fun F => decide (F.f = M.mkN c))) &&
  ((gc.ms.all fun q => tab.any fun F => decide (F.cl = some q) && decide (F.f = M.metN q.1 q.2)) &&
  gc.ds.all fun q => tab.any fun F => decide (F.cl = none) && decide (F.f = q.1) && decide (q.2 ≤ F.df))
def glob (tab : List Fn) : List M.Sx := (tab.filter fun F => F.cl.isNone).map (·.f)
/-- what the module's heap says of its numbers and tables -/
structure GcOk (K : PySem.W.Frag) (w : World) (mg : Str → Option Value) (gc : Gc) : Prop where
  gi : ∀ p ∈ gc.gs, ∃ t, mg (sV p.1) = some (.int p.2 t)
  tb : ∀ p ∈ gc.ts, ∃ a, mg (sV p.1) = some (.ref a) ∧ ∀ s t, p.2.lookup s = some t → KDct K w a (sV s) (.str (sV t)) ∧ sOk t
  cs : ∀ c ∈ gc.cs, mg (sV c) = some (.ref (He.ga K (sV c))) ∧ PySem.W.keepIn K (.ref (He.ga K (sV c))) = true ∧ Cls K (He.ga K (sV c)) ∧ Mk K (He.ga K (sV c)) (He.ma K (He.ga K (sV c)) (sV M.sInit))
  ms : ∀ q ∈ gc.ms, mg (sV q.1) = some (.ref (He.ga K (sV q.1))) ∧ Cls K (He.ga K (sV q.1)) ∧ Meth K (He.ga K (sV q.1)) (sV q.2) (He.ma K (He.ga K (sV q.1)) (sV q.2))
  at_ : ∀ q ∈ gc.at_, mg (sV q.1) = some (.ref (He.ga K (sV q.1))) ∧ NoAttr K (He.ga K (sV q.1)) (sV q.2)
theorem all_ok {tab : List Fn} {bn : List Str} {gc : Gc} (hgc : GcOk K w mg gc) (hnd : (tab.map (·.f)).Nodup) (hok : AllP (fun F => F.ok bn (glob tab) gc = true) tab) (hB : AllP Fn.BOk tab)
    (hT : gc.okT tab = true) (hf : ∀ F ∈ tab, ∃ fa fdc, FnAt K mg F fa ∧ FunD K F.nm (sV F.f) F.params F.body F.scope F.dv [] fa fdc) (hfree : ∀ x ∈ bn, mg x = none) :
    ∀ n, ∀ k, k ≤ n → ∀ F ∈ tab, ∀ fa fdc, FunD K F.nm (sV F.f) F.params F.body F.scope F.dv [] fa fdc → FnOk P w K mg base CX0 k fa fdc F.ps (spC ⟨K, P, w, mg⟩ (tabP tab) k F.f) := by
  intro n
  induction n with
  | zero =>
    intro k hk0 F hF fa fdc D
    obtain rfl : k = 0 := by omega
    refine ⟨fun vs H Q E h => ?_, fun A outer s H args us vs Q E hr e0 hb r h => ?_⟩
    · obtain ⟨ds, h, Qa, xx, _, _, q, _⟩ := h
      simp only [M.run] at q
    · obtain ⟨ds, h, Qa, xx, _, _, q, _⟩ := h
      simp only [M.run] at q
  | succ n ih =>
    intro k hkn F hF fa fdc D
    by_cases hle : k ≤ n
    · exact ih k hle F hF fa fdc D
    obtain rfl : k = n + 1 := by omega
    have hk := hok.get F hF
    have hP := tabP_of hnd F hF
    unfold Fn.ok at hk
    obtain ⟨hk, k4⟩ := ba hk
    obtain ⟨hk, k3⟩ := ba hk
    obtain ⟨k1, k2⟩ := ba hk
    have k2 := of_decide_eq_true k2
    have k3 := of_decide_eq_true k3
    have S := fnScope_of k1
    have runE : ∀ {ds : List SD} {h : M.AH} {Qa : M.VQ} {xx : M.XP}, M.run (tabP tab) (n + 1) F.f ds h Qa xx → ds.length = F.fd.ps ∧ M.wSs (C (tabP tab) n xx) F.fd.body { nx := fun _ h' => Qa .non h', rt := Qa, bk := fun _ _ => False, ct := fun _ _ => False } (M.start F.fd ds) h := by
      intro ds h Qa xx q
      simp only [M.run] at q
      rw [hP] at q
      exact q
    refine D.ok S (fun vs H Q E h => ?_) (fun cdv A outer s H vs Q E hr h => ?_)
    · obtain ⟨ds, h, Qa, xx, r, _, q, _⟩ := h
      rw [r.length, (runE q).1, k2]
    · obtain ⟨ds, h, Qa, xx, r, rh, q, k⟩ := h
      obtain ⟨q1, q2⟩ := runE q
      have ok : XOk (tabP tab) n ⟨F.N, bn, glob tab, gc.gs, gc.ts, gc.cs, gc.ms, gc.at_, gc.ds⟩ F.scope F.scope (cxOf CX0 P w K mg base F.N (sV F.f) F.scope fa cdv A outer s H E).nox := by
        refine ⟨rfl, S.nd, rfl, fun x hx => ?_, rfl, hr, rfl, hfree, fun f hf2 => ?_, hgc.gi, hgc.tb, fun c hc => ?_, fun q hq => ?_, fun q hq => ⟨_, hgc.at_ q hq⟩, fun q hq => ?_⟩
        · unfold locB at hx
          split at hx
          · exact ⟨.inl (by assumption), .inl rfl⟩
          · exact ⟨.inr (by assumption), .inl rfl⟩
          · cases hx
        · obtain ⟨G, hG, rfl⟩ := List.mem_map.mp hf2
          obtain ⟨hG, hn⟩ := List.mem_filter.mp hG
          obtain ⟨ga, gdc, e1, e2⟩ := hf G hG
          have e3 : mg (sV G.f) = some (.ref ga) := by
            unfold FnAt at e1
            split at e1
            · exact e1
            · rename_i z; rw [z] at hn; cases hn
          exact ⟨ga, gdc, G.ps, e3, e2.kp, ih n (Nat.le_refl n) G hG ga gdc e2, binds_full (hB.get G hG) e2⟩
        · obtain ⟨e1, e2, e3, e4⟩ := hgc.cs c hc
          obtain ⟨t1, t2⟩ := ba hT
          obtain ⟨u1, u2⟩ := ba (List.all_eq_true.mp t1 c hc)
          obtain ⟨G, hG, g⟩ := List.any_eq_true.mp u1
          obtain ⟨g1, g2⟩ := ba g
          have g1 := of_decide_eq_true g1
          have g2 := of_decide_eq_true g2
          obtain ⟨ga, gdc, a1, a2⟩ := hf G hG
          refine ⟨tabP_none (by simpa using u2), _, e1, e2, e3, fun m hm => ⟨ga, gdc, G.ps, ?_, ?_, binds_full (hB.get G hG) a2⟩⟩
          · unfold FnAt at a1
            rw [g1] at a1
            rw [show ga = _ from a1]
            exact e4
          · have := ih m (by omega) G hG ga gdc a2
            rw [g2] at this
            exact this
        · obtain ⟨e1, e2, e3⟩ := hgc.ms q hq
          obtain ⟨t1, t2⟩ := ba hT
          obtain ⟨t2, t3⟩ := ba t2
          obtain ⟨G, hG, g⟩ := List.any_eq_true.mp (List.all_eq_true.mp t2 q hq)
          obtain ⟨g1, g2⟩ := ba g
          have g1 := of_decide_eq_true g1
          have g2 := of_decide_eq_true g2
          obtain ⟨ga, gdc, a1, a2⟩ := hf G hG
          refine ⟨_, ga, gdc, G.ps, e1, e2, ?_, ?_, binds_full (hB.get G hG) a2⟩
          · unfold FnAt at a1
            rw [g1] at a1
            rw [show ga = _ from a1]
            exact e3
          · have := ih n (Nat.le_refl n) G hG ga gdc a2
            rw [g2] at this
            exact this
        · obtain ⟨t1, t2⟩ := ba hT
          obtain ⟨t2, t3⟩ := ba t2
          obtain ⟨G, hG, g⟩ := List.any_eq_true.mp (List.all_eq_true.mp t3 q hq)
          obtain ⟨g, g3⟩ := ba g
          obtain ⟨g1, g2⟩ := ba g
          have g1 := of_decide_eq_true g1
          have g2 := of_decide_eq_true g2
          have g3 := of_decide_eq_true g3
          obtain ⟨ga, gdc, a1, a2⟩ := hf G hG
          obtain ⟨us, v, b⟩ := binds_ok (hB.get G hG) a2 g3
          refine ⟨ga, gdc, G.ps, us, ?_, a2.kp, ?_, v, b⟩
          · unfold FnAt at a1
            rw [g1] at a1
            rw [← g2]
            exact a1
          · have := ih n (Nat.le_refl n) G hG ga gdc a2
            rw [g2] at this
            exact this
      refine ⟨_, (sndSs (xx := xx) F.fd.body F.body _ F.scope ok k4).nox, ?_⟩
      refine ⟨M.start F.fd ds, h, _, rs_start r F.N F.fd k3 q1.symm, rh, q2, ⟨fun σa h' σ H' z f rs' rh' => ?_, k, fun _ _ _ _ z _ _ _ => z.elim, fun _ _ _ _ z _ _ _ => z.elim⟩⟩
      exact k _ _ _ _ z f rfl rh'

/-- what a law is asked, in the IR -/
def LawOk (prog : M.Prog) (n : Nat) (law : M.Sx) : Prop := ∀ ns : List Int, ns.length ≤ 63 → M.run prog n law [.rol (ns.map .int)] (fun _ => none) (fun d _ => d = .bl true) (fun _ _ _ => False)
theorem reps_ints {K : Fr} {H : Hp} : ∀ ns : List Int, Reps K H (ns.map .int) (ns.map V.int)
  | [] => rfl
  | n :: ns => ⟨_, _, rfl, rfl, reps_ints ns⟩
theorem law_sp {prog : M.Prog} {n : Nat} {law : M.Sx} (h : LawOk prog n law) (H : Hp) (a : Addr) (ns : List Int) (hl : ns.length ≤ 63) (hO : Only H) (hS : SqL K H a (ns.map V.int)) : spC ⟨K, P, w, mg⟩ prog n law [.ref a] H (fun v _ => v = .bl true) fun _ _ _ => False := by
  refine ⟨[.rol (ns.map .int)], fun _ => none, _, _, Reps.one ⟨a, ns.map V.int, rfl, ?_, reps_ints ns⟩, (fun _ _ e => by cases e), h ns hl, fun d h' v H' q f r rh => ?_⟩
  · rcases hS with (e | ⟨o, e⟩) | e
    · rcases hO a with z | ⟨o, xs, z⟩
      · rw [z] at e; cases e
      · rw [z] at e; cases e
    · exact .inl ⟨o, e⟩
    · exact .inr e
  · subst q
    exact r
end
/-! ### the head's data -/
def Fn.dd (F : Fn) : He.DefD := ⟨(match F.cl with | none => (sV F.f, none) | some (c, m) => (sV c, some (sV m))), F.nm, sV F.f, F.params, F.body, F.scope, List.replicate F.df .non, []⟩
def headFa (tab : List Fn) (bn : List Str) (gc : Gc) : List He.Fa := (tab.map fun F => match F.cl with | none => He.Fa.glo (sV F.f) | some (c, _) => He.Fa.glo (sV c)) ++ ((bn.map fun x => He.Fa.free x) ++ ((gc.gs.map fun p => He.Fa.int (sV p.1) p.2) ++ ((gc.ts.map fun p => He.Fa.glo (sV p.1)) ++
  ((gc.cs.flatMap fun c => [He.Fa.glo (sV c), .keep (sV c), .cls (sV c), .mkr (sV c)]) ++ ((gc.ms.flatMap fun q => [He.Fa.glo (sV q.1), .cls (sV q.1), .meth (sV q.1) (sV q.2)]) ++ gc.at_.flatMap fun q => [He.Fa.glo (sV q.1), .noat (sV q.1) (sV q.2)])))))
/-- the tables: where they lie, their keys; and their values -/
def headTs (gc : Gc) : List He.Tab := gc.ts.map fun p => (fun K => He.ga K (sV p.1), p.2.map fun q => sV q.1)
def headEx (gc : Gc) (K : PySem.W.Frag) : Bool := gc.ts.all fun p => He.valsB K (He.ga K (sV p.1)) (p.2.map fun q => (sV q.1, He.Dv.str (sV q.2)))
def Gc.chr (gc : Gc) : Bool := gc.ts.all fun p => p.2.all fun q => chrB q.2
def headFn (tab : List Fn) : List He.DefD := tab.map Fn.dd
theorem fact_mem {fa : List He.Fa} {fn : List He.DefD} {K : PySem.W.Frag} (c : He.SaysD fa fn K) {f : He.Fa} (h : f ∈ fa) : f.ok K = true := by
  obtain ⟨i, hi⟩ := List.getElem?_of_mem h
  exact He.SaysD.fact c i hi
theorem def_mem {fa : List He.Fa} {fn : List He.DefD} {K : PySem.W.Frag} (c : He.SaysD fa fn K) {d : He.DefD} (h : d ∈ fn) : ∃ fd, FunD K d.name d.qual d.params d.body d.scope (d.dvs K) (d.kws K) (He.fAd K d.at_) fd := by
  obtain ⟨i, hi⟩ := List.getElem?_of_mem h
  exact He.SaysD.def_ c i hi
theorem lookup_in {α β : Type} [BEq α] [LawfulBEq α] {s : α} {t : β} : ∀ {l : List (α × β)}, l.lookup s = some t → (s, t) ∈ l
  | (a, b) :: l, h => by
    rw [List.lookup_cons] at h
    by_cases e : (s == a) = true
    · rw [e] at h
      have e2 : s = a := by simpa using e
      subst e2
      cases h
      exact List.mem_cons_self
    · rw [Bool.not_eq_true] at e
      rw [e] at h
      exact List.mem_cons_of_mem _ (lookup_in h)
theorem gc_ok {w : World} {K : PySem.W.Frag} {h : Heap} {mg : Str → Option Value} {tab : List Fn} {bn : List Str} {gc : Gc} (X : K.In h) (G : h.Ns mainGlobals mg) (hm : ∀ f ∈ headFa tab bn gc, f.ok K = true) (hch : gc.chr = true)
    (ht : ∀ t ∈ headTs gc, ∃ es n, KDict K w (t.1 K) es n) (hv : headEx gc K = true) : GcOk K w mg gc := by
  have tail : ∀ f, f ∈ ((gc.cs.flatMap fun c => [He.Fa.glo (sV c), .keep (sV c), .cls (sV c), .mkr (sV c)]) ++ ((gc.ms.flatMap fun q => [He.Fa.glo (sV q.1), .cls (sV q.1), .meth (sV q.1) (sV q.2)]) ++ gc.at_.flatMap fun q => [He.Fa.glo (sV q.1), .noat (sV q.1) (sV q.2)])) → f.ok K = true := fun f hf => hm f (List.mem_append_right _ (List.mem_append_right _ (List.mem_append_right _ (List.mem_append_right _ hf))))
  have fc : ∀ c ∈ gc.cs, ∀ f ∈ [He.Fa.glo (sV c), .keep (sV c), .cls (sV c), .mkr (sV c)], f.ok K = true := fun c hc f hf => tail f (List.mem_append_left _ (List.mem_flatMap.mpr ⟨c, hc, hf⟩))
  have fm : ∀ q ∈ gc.ms, ∀ f ∈ [He.Fa.glo (sV q.1), .cls (sV q.1), .meth (sV q.1) (sV q.2)], f.ok K = true := fun q hq f hf => tail f (List.mem_append_right _ (List.mem_append_left _ (List.mem_flatMap.mpr ⟨q, hq, hf⟩)))
  have fa : ∀ q ∈ gc.at_, ∀ f ∈ [He.Fa.glo (sV q.1), .noat (sV q.1) (sV q.2)], f.ok K = true := fun q hq f hf => tail f (List.mem_append_right _ (List.mem_append_right _ (List.mem_flatMap.mpr ⟨q, hq, hf⟩)))
  refine ⟨fun p hp => ?_, fun p hp => ?_, fun c hc => ⟨He.glo_ok X G (fc c hc _ (by simp)), He.keep_ok (fc c hc (.keep (sV c)) (by simp)), He.cls_ok (fc c hc (.cls (sV c)) (by simp)), by rw [init_eq]; exact He.mkr_ok (fc c hc (.mkr (sV c)) (by simp))⟩,
    fun q hq => ⟨He.glo_ok X G (fm q hq _ (by simp)), He.cls_ok (fm q hq (.cls (sV q.1)) (by simp)), He.meth_ok (fm q hq (.meth (sV q.1) (sV q.2)) (by simp))⟩, fun q hq => ⟨He.glo_ok X G (fa q hq _ (by simp)), He.noat_ok (fa q hq (.noat (sV q.1) (sV q.2)) (by simp))⟩⟩
  · exact He.int_ok X G (hm _ (List.mem_append_right _ (List.mem_append_right _ (List.mem_append_left _ (List.mem_map.mpr ⟨p, hp, rfl⟩)))))
  · refine ⟨_, He.glo_ok X G (hm _ (List.mem_append_right _ (List.mem_append_right _ (List.mem_append_right _ (List.mem_append_left _ (List.mem_map.mpr ⟨p, hp, rfl⟩)))))), fun s t e => ?_⟩
    have hq := lookup_in e
    obtain ⟨es, n, D⟩ := ht _ (List.mem_map.mpr ⟨p, hp, rfl⟩ : _ ∈ headTs gc)
    have hv2 := List.all_eq_true.mp hv p hp
    obtain ⟨u, e1, r⟩ := He.valsB_ok hv2 (List.mem_map.mpr ⟨(s, t), hq, rfl⟩)
    have hc := List.all_eq_true.mp (List.all_eq_true.mp hch p hp) (s, t) hq
    exact ⟨⟨es, n, u, D.at_, D.lit, e1, r⟩, fun c hc2 => of_decide_eq_true (List.all_eq_true.mp hc c hc2)⟩
theorem law_factsG {P : Program} {w : World} {K : PySem.W.Frag} {h : Heap} {mg : Str → Option Value} {f : Addr} {tab : List Fn} {bn : List Str} {gc : Gc} {L : Fn} (hcl : L.cl = none) (hdf : L.df = 0) (hL : L ∈ tab) (hps : L.ps = [("script" : Str)]) (X : K.In h) (G : h.Ns mainGlobals mg) (hfa : mg (sV L.f) = some (.ref f)) (c : He.SaysD (headFa tab bn gc) (headFn tab) K)
    (hgc : GcOk K w mg gc) (hnd : (tab.map (·.f)).Nodup) (hok : AllP (fun F => F.ok bn (glob tab) gc = true) tab) (hB : AllP Fn.BOk tab) (hT : gc.okT tab = true) (n : Nat) :
    ∃ fd : FuncData, (∀ (s : Shared) (v : Value), BindsTo s fd ⟨[v], []⟩ [(("script" : Str), v)]) ∧ ∀ base : Heap, K.In base → base.Ns mainGlobals mg → FnOk P w K mg base CX0 n f fd [("script" : Str)] (spC ⟨K, P, w, mg⟩ (tabP tab) n L.f) := by
  have hf : ∀ F ∈ tab, ∃ fa fdc, FnAt K mg F fa ∧ FunD K F.nm (sV F.f) F.params F.body F.scope F.dv [] fa fdc := fun F hF => by
    have e0 := fact_mem c (List.mem_append_left _ (List.mem_map.mpr ⟨F, hF, rfl⟩))
    obtain ⟨fd, D⟩ := def_mem c (List.mem_map.mpr ⟨F, hF, rfl⟩ : F.dd ∈ headFn tab)
    have D' : FunD K F.nm (sV F.f) F.params F.body F.scope F.dv [] (He.fAd K F.dd.at_) fd := by
      have e : F.dd.dvs K = F.dv := by simp [He.DefD.dvs, Fn.dd, Fn.dv, He.Dv.v]
      rw [← e]
      exact D
    refine ⟨_, fd, ?_, D'⟩
    unfold FnAt Fn.dd
    dsimp only
    split
    · rename_i z
      rw [z] at e0
      exact He.glo_ok X G e0
    · rfl
  have hfree : ∀ x ∈ bn, mg x = none := fun x hx => He.free_ok X G (fact_mem c (List.mem_append_right _ (List.mem_append_left _ (List.mem_map.mpr ⟨x, hx, rfl⟩))))
  obtain ⟨fa, fdc, e1, D⟩ := hf L hL
  unfold FnAt at e1
  rw [hcl] at e1
  dsimp only at e1
  rw [hfa] at e1
  cases e1
  refine ⟨fdc, fun s v => ?_, fun base _ _ => ?_⟩
  · have e : L.dv = [] := by unfold Fn.dv; rw [hdf]; rfl
    rw [e] at D
    have bb : L.Bnd := (hB.get L hL).elim (fun z => z.2) fun z => (z.1 hdf).elim
    have b := D.bindsA bb s [v] (by rw [hps]; rfl)
    rw [hps] at b
    exact b
  · have := all_ok (P := P) (w := w) (base := base) hgc hnd hok hB hT hf hfree n n (Nat.le_refl n) L hL f fdc D
    rw [hps] at this
    exact this
/-- without tables -/
theorem law_facts {P : Program} {w : World} {K : PySem.W.Frag} {h : Heap} {mg : Str → Option Value} {f : Addr} {tab : List Fn} {bn : List Str} {gc : Gc} {L : Fn} (h0 : gc.ts = []) (hcl : L.cl = none) (hdf : L.df = 0) (hL : L ∈ tab) (hps : L.ps = [("script" : Str)]) (X : K.In h) (G : h.Ns mainGlobals mg) (hfa : mg (sV L.f) = some (.ref f)) (c : He.SaysD (headFa tab bn gc) (headFn tab) K)
    (hnd : (tab.map (·.f)).Nodup) (hok : AllP (fun F => F.ok bn (glob tab) gc = true) tab) (hB : AllP Fn.BOk tab) (hT : gc.okT tab = true) (n : Nat) :
    ∃ fd : FuncData, (∀ (s : Shared) (v : Value), BindsTo s fd ⟨[v], []⟩ [(("script" : Str), v)]) ∧ ∀ base : Heap, K.In base → base.Ns mainGlobals mg → FnOk P w K mg base CX0 n f fd [("script" : Str)] (spC ⟨K, P, w, mg⟩ (tabP tab) n L.f) :=
  law_factsG hcl hdf hL hps X G hfa c (gc_ok X G (fun f hf => fact_mem c hf) (by unfold Gc.chr; rw [h0]; rfl) (fun t ht => by unfold headTs at ht; rw [h0] at ht; cases ht) (by unfold headEx; rw [h0]; rfl)) hnd hok hB hT n
/-- with tables -/
theorem law_factsX {P : Program} {w : World} {K : PySem.W.Frag} {h h' : Heap} {mg : Str → Option Value} {f : Addr} {tab : List Fn} {bn : List Str} {gc : Gc} {L : Fn} (h0 : gc.chr = true) (hcl : L.cl = none) (hdf : L.df = 0) (hL : L ∈ tab) (hps : L.ps = [("script" : Str)]) (X : K.In h) (G : h.Ns mainGlobals mg) (hfa : mg (sV L.f) = some (.ref f)) (c : He.SaysX (headFa tab bn gc) (headFn tab) (headTs gc) [] (headEx gc) w h' K)
    (hnd : (tab.map (·.f)).Nodup) (hok : AllP (fun F => F.ok bn (glob tab) gc = true) tab) (hB : AllP Fn.BOk tab) (hT : gc.okT tab = true) (n : Nat) :
    ∃ fd : FuncData, (∀ (s : Shared) (v : Value), BindsTo s fd ⟨[v], []⟩ [(("script" : Str), v)]) ∧ ∀ base : Heap, K.In base → base.Ns mainGlobals mg → FnOk P w K mg base CX0 n f fd [("script" : Str)] (spC ⟨K, P, w, mg⟩ (tabP tab) n L.f) :=
  law_factsG hcl hdf hL hps X G hfa c.t.d (gc_ok X G (fun f hf => fact_mem c.t.d hf) h0 (fun t ht => by
    obtain ⟨i, hi⟩ := List.getElem?_of_mem ht
    exact c.t.tab i hi) c.more) hnd hok hB hT n
end Snd
end
section
/-! Lib: heaps kept, calls, small rules for walking the IR. Pure Lean. -/
namespace M
/-- all that stood stands -/
def Ext (h h' : AH) : Prop := ∀ a o, h a = some o → h' a = some o
/-- .. but for p -/
def Ke (p : Nat) (h h' : AH) : Prop := ∀ a o, a ≠ p → h a = some o → h' a = some o
section
variable {h h1 h2 h' : AH} {p q a : Nat} {o : Ob}
theorem up_same : up h a o a = some o := by simp [up]
theorem up_ne {b : Nat} (e : b ≠ a) : up h a o b = h b := by simp [up, e]
theorem up_up {o' : Ob} : up (up h a o) a o' = up h a o' := by
  funext b; simp only [up]; split <;> rfl
theorem Ext.refl : Ext h h := fun _ _ e => e
theorem Ext.trans (x : Ext h h1) (y : Ext h1 h2) : Ext h h2 := fun a o e => y a o (x a o e)
theorem Ext.ke (x : Ext h h1) : Ke p h h1 := fun a o _ e => x a o e
theorem Ext.new (n : h p = none) : Ext h (up h p o) := fun a u e => by
  rw [up_ne (fun z => by subst z; rw [n] at e; cases e)]; exact e
theorem Ke.refl : Ke p h h := fun _ _ _ e => e
theorem Ke.trans (x : Ke p h h1) (y : Ke p h1 h2) : Ke p h h2 := fun a o n e => y a o n (x a o n e)
theorem Ke.put : Ke p h (up h p o) := fun a u n e => by rw [up_ne n]; exact e
/-- changed at p, which h does not know -/
theorem Ext.mut (x : Ext h h1) (n : h p = none) (y : Ke p h1 h2) : Ext h h2 := fun a u e => y a u (fun z => by subst z; rw [n] at e; cases e) (x a u e)
theorem fresh_back (x : Ext h h1) (n : h1 p = none) : h p = none := by
  cases e : h p with
  | none => rfl
  | some o => rw [x p o e] at n; cases n
theorem ne_new (e : h a = some o) (n : h p = none) : a ≠ p := fun z => by subst z; rw [n] at e; cases e
end
/-- behind a def's body -/
def RT (Q : VQ) : Ends := { nx := fun _ h' => Q .non h', rt := Q, bk := fun _ _ => False, ct := fun _ _ => False }
@[simp] theorem RT_nx {Q : VQ} : (RT Q).nx = fun _ h' => Q .non h' := rfl
@[simp] theorem RT_rt {Q : VQ} : (RT Q).rt = Q := rfl
@[simp] theorem RT_bk {Q : VQ} : (RT Q).bk = fun _ _ => False := rfl
@[simp] theorem RT_ct {Q : VQ} : (RT Q).ct = fun _ _ => False := rfl
theorem run_mk {P : Prog} {n : Nat} {c : Sx} {ds : List D} {h : AH} {Q : VQ} {X : XP} (hP : P (mkN c) = none) (q : ∀ r, h r = none → run P n (metN c sInit) (.ref r :: ds) (up h r (.ins c [])) (fun d h2 => d = .non ∧ Q (.ref r) h2) X) : run P (n + 1) (mkN c) ds h Q X := by
  simp only [run]
  rw [hP]
  exact q
theorem run_of {P : Prog} {n : Nat} {f : Sx} {fd : FD} {ds : List D} {h : AH} {Q : VQ} {X : XP} (hP : P f = some fd) (hl : ds.length = fd.ps)
    (hb : wSs ⟨run P n, X⟩ fd.body (RT Q) (start fd ds) h) : run P (n + 1) f ds h Q X := by
  unfold run
  simp only [hP]
  exact ⟨hl, hb⟩
/-! ### loops -/
/-- over a range -/
theorem loop_rng {lo hi : Int} {ok : AH → Prop} {body : D → St → AH → (St → AH → Prop) → Prop} {done : St → AH → Prop} {σ : St} {h : AH} (P : Nat → St → AH → Prop) (h0 : P 0 σ h) (hok : ∀ i σ h, P i σ h → ok h)
    (hs : ∀ (i : Nat) σ h, (i : Int) < hi - lo → P i σ h → body (.int (lo + i)) σ h (P (i + 1))) (hd : ∀ σ h, P (hi - lo).toNat σ h → done σ h) : loopW (rangeL lo hi) ok body done σ h := by
  have ln : (rangeL lo hi).length = (hi - lo).toNat := by simp [rangeL]
  refine ⟨P, h0, hok, fun i x σ h e p => ?_, fun σ h p => hd σ h (by rw [ln] at p; exact p)⟩
  have hlt : i < (rangeL lo hi).length := (List.getElem?_eq_some_iff.mp e).1
  rw [ln] at hlt
  simp only [rangeL, List.getElem?_map] at e
  rw [List.getElem?_range hlt] at e
  simp only [Option.map_some, Option.some.injEq] at e
  subst e
  exact hs i σ h (by omega) p
theorem comp_rng {lo hi : Int} {ok : AH → Prop} {body : D → AH → (D → AH → Prop) → (AH → Prop) → Prop} {done : List D → AH → Prop} {h : AH} (P : Nat → List D → AH → Prop) (h0 : P 0 [] h) (hok : ∀ i acc h, P i acc h → ok h ∧ acc.length ≤ i) (hz : (hi - lo).toNat ≤ LINE)
    (hs : ∀ (i : Nat) acc h, (i : Int) < hi - lo → P i acc h → body (.int (lo + i)) h (fun y h' => P (i + 1) (acc ++ [y]) h') (fun h' => P (i + 1) acc h')) (hd : ∀ acc h, P (hi - lo).toNat acc h → done acc h) : compW (rangeL lo hi) ok body done h := by
  have ln : (rangeL lo hi).length = (hi - lo).toNat := by simp [rangeL]
  refine ⟨P, h0, hok, by rw [ln]; exact hz, fun i x acc h e p => ?_, fun acc h p => hd acc h (by rw [ln] at p; exact p)⟩
  have hlt : i < (rangeL lo hi).length := (List.getElem?_eq_some_iff.mp e).1
  rw [ln] at hlt
  simp only [rangeL, List.getElem?_map] at e
  rw [List.getElem?_range hlt] at e
  simp only [Option.map_some, Option.some.injEq] at e
  subst e
  exact hs i acc h (by omega) p
/-- a while by an invariant and a measure -/
theorem whl_of {C : Cx} {c : E} {b : Ss} {R : Ends} {σ : St} {h : AH} (I : St → AH → Prop) (μ : St → AH → Nat) (h0 : I σ h)
    (hs : ∀ σ h, I σ h → wT C c σ h fun k h1 => match k with
      | true => wSs C b { nx := fun σ' h' => I σ' h' ∧ μ σ' h' < μ σ h, ct := fun σ' h' => I σ' h' ∧ μ σ' h' < μ σ h, bk := R.nx, rt := R.rt } σ h1
      | false => R.nx σ h1) (mono : ∀ (σ : St) (h : AH) (Q Q' : Bool → AH → Prop), (∀ b h1, Q b h1 → Q' b h1) → wT C c σ h Q → wT C c σ h Q')
    (bmono : ∀ (σ : St) (h : AH) (N N' : St → AH → Prop), (∀ s h, N s h → N' s h) → wSs C b { nx := N, ct := N, bk := R.nx, rt := R.rt } σ h → wSs C b { nx := N', ct := N', bk := R.nx, rt := R.rt } σ h) : wS C (.whl c b) R σ h := by
  simp only [wS]
  refine ⟨fun m σ h => m = μ σ h ∧ I σ h, ⟨_, rfl, h0⟩, ?_⟩
  rintro m σ h ⟨rfl, i⟩
  refine mono σ h _ _ (fun k h1 q => ?_) (hs σ h i)
  cases k with
  | true => exact bmono σ h1 _ _ (fun s h' ⟨a, b⟩ => ⟨_, b, rfl, a⟩) q
  | false => exact q

/-! ### one step at a time -/
section
variable {C : Cx} {σ : St} {h h1 : AH} {Q : VQ} {R : Ends}
@[simp] theorem wE_var {i : Nat} : wE C (.var i) σ h Q = match σ[i]? with
    | some (some d) => Q d h
    | _ => False := by simp only [wE] <;> rfl
@[simp] theorem wE_int {n : Int} : wE C (.int n) σ h Q = Q (.int n) h := by simp only [wE]
@[simp] theorem wE_str {s : Sx} : wE C (.str s) σ h Q = Q (.str s) h := by simp only [wE]
@[simp] theorem wE_bl {s : Bool} : wE C (.bl s) σ h Q = Q (.bl s) h := by simp only [wE]
@[simp] theorem wE_non : wE C .non σ h Q = Q .non h := by simp only [wE]
@[simp] theorem wE_tup {es : Es} : wE C (.tup es) σ h Q = wEs C es σ h fun ds h1 => ds.length ≤ LINE ∧ Q (.tup ds) h1 := by simp only [wE]
@[simp] theorem wE_lst {es : Es} : wE C (.lst es) σ h Q = wEs C es σ h fun ds h1 => ds.length ≤ LINE ∧ ∀ r, h1 r = none → Q (.ref r) (up h1 r (.lst ds)) := by simp only [wE]
@[simp] theorem wE_dsp {k : Nat} {e : E} {es : Es} : wE C (.dct k (.cons e es)) σ h Q = ∀ r, h r = none → wE C e σ (up h r (.dct k [])) fun d h1 => wEs C es σ h1 fun ds h2 => h2 r = some (.dct k []) ∧ aSome (pairUp (d :: ds)) fun kvs => keysOk k kvs = true ∧ Q (.ref r) (up h2 r (.dct k (mergeL [] kvs))) := by simp only [wE]
@[simp] theorem wE_lzip {es : Es} : wE C (.lzip es) σ h Q = wEs C es σ h fun ds h2 => arg2 ds fun x y => aTup x fun xs => aTup y fun ys => ∀ r, h2 r = none → Q (.ref r) (up h2 r (.lst (zipL xs ys))) := by simp only [wE]
@[simp] theorem wE_lrng {es : Es} : wE C (.lrng es) σ h Q = wEs C es σ h fun ds h1 => aRng ds fun lo hi => ∀ r, h1 r = none → Q (.ref r) (up h1 r (.lst (rangeL lo hi))) := by simp only [wE]
@[simp] theorem wE_rev {a : E} : wE C (.rev a) σ h Q = wE C a σ h fun x h1 => aLst x h1 fun _ xs => ∀ r, h1 r = none → Q (.ref r) (up h1 r (.lst xs.reverse)) := by simp only [wE]
@[simp] theorem wE_dct {k : Nat} : wE C (.dct k .nil) σ h Q = ∀ r, h r = none → Q (.ref r) (up h r (.dct k [])) := by simp only [wE]
@[simp] theorem wE_bin {o : Bop} {a b : E} : wE C (.bin o a b) σ h Q = wE C a σ h fun x h1 => wE C b σ h1 fun y h2 => opBin o x y h2 Q := by simp only [wE]
@[simp] theorem wE_neg {a : E} : wE C (.neg a) σ h Q = wE C a σ h fun x h1 => match x with
    | .int i => Q (.int (-i)) h1
    | _ => False := by simp only [wE] <;> rfl
@[simp] theorem wE_cmp {o : Cop} {a b : E} : wE C (.cmp o a b) σ h Q = wE C a σ h fun x h1 => wE C b σ h1 fun y h2 => opCmp o x y h2 fun c => Q (.bl c) h2 := by simp only [wE]
@[simp] theorem wE_chn {o o' : Cop} {a b c : E} : wE C (.chn o o' a b c) σ h Q = wE C a σ h fun x h1 => wE C b σ h1 fun y h2 => opCmp o x y h2 fun k => match k with
    | true => wE C c σ h2 fun z h3 => opCmp o' y z h3 fun k' => Q (.bl k') h3
    | false => Q (.bl false) h2 := by simp only [wE] <;> rfl
@[simp] theorem wE_bop {k : Bool} {es : Es} : wE C (.bop k es) σ h Q = wB C k es σ h Q := by simp only [wE]
@[simp] theorem wE_not {a : E} : wE C (.not a) σ h Q = wE C a σ h fun x h1 => match x with
    | .bl b => Q (.bl (!b)) h1
    | _ => False := by simp only [wE] <;> rfl
@[simp] theorem wE_ite {c a b : E} : wE C (.ite c a b) σ h Q = wE C c σ h fun x h1 => match x with
    | .bl true => wE C a σ h1 Q
    | .bl false => wE C b σ h1 Q
    | _ => False := by simp only [wE] <;> rfl
@[simp] theorem wE_ix {a i : E} : wE C (.ix a i) σ h Q = wE C a σ h fun x h1 => wE C i σ h1 fun y h2 => opIx x y h2 Q := by simp only [wE]
@[simp] theorem wE_sl {a : E} {lo hi : Es} : wE C (.sl a lo hi) σ h Q = wE C a σ h fun x h1 => wO C lo σ h1 fun l h2 => wO C hi σ h2 fun u h3 => opSl x l u h3 Q := by simp only [wE]
@[simp] theorem wE_callD {f : Sx} {k : Nat} {es : Es} : wE C (.callD f k es) σ h Q = wEs C es σ h fun ds h1 => C.call f (ds ++ List.replicate k .non) h1 Q C.ex := by simp only [wE]
@[simp] theorem wE_dcn : wE C .dcn σ h Q = ∀ r, h r = none → Q (.ref r) (up h r (.dcn [])) := by simp only [wE]
@[simp] theorem wE_smv {e : E} : wE C (.smv e) σ h Q = wE C e σ h fun x h1 => aVals x h1 fun kvs => aSome (intsOf (kvs.map (·.2))) fun ns => Q (.int ns.sum) h1 := by simp only [wE]
@[simp] theorem wE_fld {e : E} {f : Sx} : wE C (.fld e f) σ h Q = wE C e σ h fun x h1 => aIns x h1 fun _ _ fs => aSome (fs.lookup f) fun v => Q v h1 := by simp only [wE]
@[simp] theorem wE_newo {c : Sx} {es : Es} : wE C (.newo c es) σ h Q = wEs C es σ h fun ds h1 => C.call (mkN c) ds h1 Q C.ex := by simp only [wE]
@[simp] theorem wE_mcall {c m : Sx} {o : E} {es : Es} : wE C (.mcall c m o es) σ h Q = wE C o σ h fun x h1 => aIns x h1 fun p c' fs => c' = c ∧ fs.lookup m = none ∧ wEs C es σ h1 fun ds h2 => C.call (metN c m) (.ref p :: ds) h2 Q C.ex := by simp only [wE]
@[simp] theorem wE_call {f : Sx} {es : Es} : wE C (.call f es) σ h Q = wEs C es σ h fun ds h1 => C.call f ds h1 Q C.ex := by simp only [wE]
@[simp] theorem wE_blt {b : Blt} {es : Es} : wE C (.blt b es) σ h Q = wEs C es σ h fun ds h1 => opBlt b ds h1 Q := by simp only [wE]
@[simp] theorem wE_isi {a : E} {t : Ty} : wE C (.isi a t) σ h Q = wE C a σ h fun x h1 => match opIsi x t h1 with
    | some b => Q (.bl b) h1
    | none => False := by simp only [wE] <;> rfl
@[simp] theorem wE_mth {m : Mth} {o : E} {es : Es} : wE C (.mth m o es) σ h Q = wE C o σ h fun x h1 => recvOk m x h1 ∧ wEs C es σ h1 fun ds h2 => opMth m x ds h2 Q := by simp only [wE]
@[simp] theorem wE_lc {elt : E} {t : Tgt} {own : List Nat} {k : Itk} {src ifs : Es} : wE C (.lc elt t own k src ifs) σ h Q = wEs C src σ h fun ds h1 => walk k ds h1 fun xs ok =>
      compW xs ok (fun x h2 yes no => match setT t x (forget σ own) with
        | some σ' => wB C true ifs σ' h2 fun c h3 => match c with
          | .bl true => wE C elt σ' h3 yes
          | .bl false => no h3
          | _ => False
        | none => False) (fun acc h2 => ∀ r, h2 r = none → Q (.ref r) (up h2 r (.lst acc))) h1 := by simp only [wE] <;> rfl
@[simp] theorem wE_slw {a : E} {lo hi : Es} : wE C (.slw a lo hi) σ h Q = wE C a σ h fun x h1 => wO C lo σ h1 fun l h2 => wO C hi σ h2 fun u h3 => opSlW x l u h3 Q := by simp only [wE]
@[simp] theorem wE_tlr {a : E} : wE C (.tlr a) σ h Q = wE C a σ h fun x h1 => aTup x fun xs => Q (.tup xs.tail.reverse) h1 := by simp only [wE]
@[simp] theorem wE_gint {x : Sx} {n : Int} : wE C (.gint x n) σ h Q = Q (.int n) h := by simp only [wE]
@[simp] theorem wE_mnd {es : Es} : wE C (.mnd es) σ h Q = wEs C es σ h fun ds h1 => minD ds h1 Q := by simp only [wE]
@[simp] theorem wE_orv {a b : E} : wE C (.orv a b) σ h Q = wE C a σ h fun x h1 => match x with
    | .non => wE C b σ h1 Q
    | .int i => (i ≠ 0 → Q (.int i) h1) ∧ (i = 0 → wE C b σ h1 Q)
    | _ => False := by simp only [wE] <;> rfl
@[simp] theorem wE_tix {x : Sx} {tab : List (Sx × Sx)} {a : E} : wE C (.tix x tab a) σ h Q = wE C a σ h fun x h1 => match x with
    | .str s => (match tab.lookup s with
      | some t => Q (.str t) h1
      | none => False)
    | _ => False := by simp only [wE] <;> rfl
@[simp] theorem wEs_nil {Q : List D → AH → Prop} : wEs C .nil σ h Q = Q [] h := by simp only [wEs]
@[simp] theorem wEs_cons {e : E} {es : Es} {Q : List D → AH → Prop} : wEs C (.cons e es) σ h Q = wE C e σ h fun d h1 => wEs C es σ h1 fun ds h2 => Q (d :: ds) h2 := by simp only [wEs]
@[simp] theorem wB_nil {k : Bool} : wB C k .nil σ h Q = Q (.bl k) h := by simp only [wB]
@[simp] theorem wB_and {e : E} {es : Es} : wB C true (.cons e es) σ h Q = wE C e σ h fun d h1 => match d with
    | .bl true => wB C true es σ h1 Q
    | .bl false => Q (.bl false) h1
    | _ => False := by
  simp only [wB]
  congr
  funext d h1
  cases d with
  | bl b => cases b <;> rfl
  | _ => rfl
@[simp] theorem wB_or {e : E} {es : Es} : wB C false (.cons e es) σ h Q = wE C e σ h fun d h1 => match d with
    | .bl false => wB C false es σ h1 Q
    | .bl true => Q (.bl true) h1
    | _ => False := by
  simp only [wB]
  congr
  funext d h1
  cases d with
  | bl b => cases b <;> rfl
  | _ => rfl
@[simp] theorem wO_nil {Q : Option Int → AH → Prop} : wO C .nil σ h Q = Q none h := by simp only [wO]
@[simp] theorem wO_cons {e : E} {Q : Option Int → AH → Prop} : wO C (.cons e .nil) σ h Q = wE C e σ h fun d h1 => match d with
    | .int n => Q (some n) h1
    | _ => False := by simp only [wO] <;> rfl
@[simp] theorem wT_eq {e : E} {Q : Bool → AH → Prop} : wT C e σ h Q = wE C e σ h fun d h1 => match d with
    | .bl b => Q b h1
    | _ => False := rfl
@[simp] theorem wS_asg {t : Tgt} {e : E} : wS C (.asg t e) R σ h = wE C e σ h fun d h1 => match setT t d σ with
    | some σ' => R.nx σ' h1
    | none => False := by simp only [wS] <;> rfl
@[simp] theorem wS_sfld {c f : Sx} {o e : E} : wS C (.sfld c o f e) R σ h = wE C e σ h fun v h1 => wE C o σ h1 fun x h2 => aIns x h2 fun p c' fs => c' = c ∧ fs.length < 1000 ∧ R.nx σ (up h2 p (.ins c (putA f v fs))) := by simp only [wS]
@[simp] theorem wS_six {o i e : E} : wS C (.six o i e) R σ h = wE C e σ h fun v h1 => wE C o σ h1 fun x h2 => wE C i σ h2 fun y h3 => opSet x y v h3 fun h4 => R.nx σ h4 := by simp only [wS]
@[simp] theorem wS_aug {i : Nat} {o : Bop} {e : E} : wS C (.aug i o e) R σ h = match σ[i]? with
    | some (some x) => wE C e σ h fun y h1 => opAug o x y fun z => R.nx (σ.set i (some z)) h1
    | _ => False := by simp only [wS] <;> rfl
@[simp] theorem wS_ex {e : E} : wS C (.ex e) R σ h = wE C e σ h fun _ h1 => R.nx σ h1 := by simp only [wS]
@[simp] theorem wS_ret {e : E} : wS C (.ret e) R σ h = wE C e σ h R.rt := by simp only [wS]
@[simp] theorem wS_retN : wS C .retN R σ h = R.rt .non h := by simp only [wS]
@[simp] theorem wS_ife {c : E} {a b : Ss} : wS C (.ife c a b) R σ h = wE C c σ h fun d h1 => match d with
    | .bl true => wSs C a R σ h1
    | .bl false => wSs C b R σ h1
    | _ => False := by
  simp only [wS, wT]
  congr
  funext d h1
  cases d with
  | bl b => cases b <;> rfl
  | _ => rfl
@[simp] theorem wS_for {t : Tgt} {k : Itk} {src : Es} {b : Ss} : wS C (.for_ t k src b) R σ h = wEs C src σ h fun ds h1 => walk k ds h1 fun xs ok =>
      loopW xs ok (fun x σ h P => match setT t x σ with
        | some σ' => wSs C b { nx := P, ct := P, bk := R.nx, rt := R.rt } σ' h
        | none => False) R.nx σ h1 := by simp only [wS] <;> rfl
@[simp] theorem wS_pass : wS C .pass R σ h = R.nx σ h := by simp only [wS]
@[simp] theorem wS_brk : wS C .brk R σ h = R.bk σ h := by simp only [wS]
@[simp] theorem wS_cont : wS C .cont R σ h = R.ct σ h := by simp only [wS]
@[simp] theorem wSs_nil : wSs C .nil R σ h = R.nx σ h := by simp only [wSs]
@[simp] theorem wSs_cons {s : S} {ss : Ss} : wSs C (.cons s ss) R σ h = wS C s { R with nx := fun σ' h' => wSs C ss R σ' h' } σ h := by simp only [wSs]
@[simp] theorem setT_nm {i : Nat} {d : D} : setT (.nm i) d σ = some (σ.set i (some d)) := rfl
@[simp] theorem setT_tp {ts : List Nat} {ds : List D} : setT (.tp ts) (.tup ds) σ = setT.setTs ts ds σ := rfl
@[simp] theorem setTs_nil : setT.setTs [] [] σ = some σ := rfl
@[simp] theorem setTs_cons {i : Nat} {is : List Nat} {d : D} {ds : List D} : setT.setTs (i :: is) (d :: ds) σ = setT.setTs is ds (σ.set i (some d)) := rfl
@[simp] theorem forget_nil : forget σ [] = σ := rfl
@[simp] theorem forget_cons {v : Nat} {vs : List Nat} : forget σ (v :: vs) = (forget σ vs).set v none := rfl
end
section
variable {h : AH} {Q : VQ} {q : Bool → Prop} {a b : Int} {s t : Sx} {xs ys : List D} {x y d : D} {p r : Nat}
@[simp] theorem bin_add : opBin .add x y h Q = opAdd x y h Q := rfl
@[simp] theorem bin_mul : opBin .mul x y h Q = opMul x y h Q := rfl
@[simp] theorem bin_sub : opBin .sub (.int a) (.int b) h Q = Q (.int (a - b)) h := rfl
@[simp] theorem bin_mod : opBin .mod (.int a) (.int b) h Q = (0 < b ∧ Q (.int (a % b)) h) := rfl
@[simp] theorem bin_fdiv : opBin .fdiv (.int a) (.int b) h Q = (divOk b ∧ Q (.int (a / b)) h) := rfl
@[simp] theorem bin_pow : opBin .pow (.int a) (.int b) h Q = (powOk a b ∧ Q (.int (a ^ b.toNat)) h) := rfl
@[simp] theorem add_int : opAdd (.int a) (.int b) h Q = Q (.int (a + b)) h := rfl
@[simp] theorem add_str : opAdd (.str s) (.str t) h Q = (s.length + t.length ≤ LINE ∧ Q (.str (s ++ t)) h) := rfl
@[simp] theorem add_tup : opAdd (.tup xs) (.tup ys) h Q = (xs.length + ys.length ≤ LINE ∧ Q (.tup (xs ++ ys)) h) := rfl
@[simp] theorem add_ref : opAdd (.ref p) (.ref r) h Q = ∃ xs ys, h p = some (.lst xs) ∧ h r = some (.lst ys) ∧ xs.length + ys.length ≤ LINE ∧ ∀ r, h r = none → Q (.ref r) (up h r (.lst (xs ++ ys))) := rfl
@[simp] theorem mul_int : opMul (.int a) (.int b) h Q = (mulOk a b ∧ Q (.int (a * b)) h) := rfl
@[simp] theorem cmp_eq : opCmp .eq x y h q = eqOkX x y h q := rfl
@[simp] theorem cmp_ne : opCmp .ne x y h q = eqOk x y h fun c => q (!c) := rfl
@[simp] theorem cmp_lt : opCmp .lt (.int a) (.int b) h q = q (decide (a < b)) := rfl
@[simp] theorem cmp_ltS : opCmp .lt (.str s) (.str t) h q = q (decide (s < t)) := rfl
@[simp] theorem cmp_le : opCmp .le (.int a) (.int b) h q = q (decide (a ≤ b)) := rfl
@[simp] theorem cmp_gt : opCmp .gt (.int a) (.int b) h q = q (decide (b < a)) := rfl
@[simp] theorem cmp_ge : opCmp .ge (.int a) (.int b) h q = q (decide (b ≤ a)) := rfl
@[simp] theorem cmp_in : opCmp .isin x y h q = memOk x y h q := rfl
@[simp] theorem cmp_nin : opCmp .notin x y h q = memOk x y h fun c => q (!c) := rfl
@[simp] theorem cmp_is : opCmp .is_ x .non h q = q (decide (x = .non)) := rfl
@[simp] theorem cmp_isnt : opCmp .isnt x .non h q = q (!decide (x = .non)) := rfl
@[simp] theorem cmp_isB {a b : Bool} : opCmp .is_ (.bl a) (.bl b) h q = q (decide (a = b)) := rfl
@[simp] theorem cmp_isntB {a b : Bool} : opCmp .isnt (.bl a) (.bl b) h q = q (!decide (a = b)) := rfl
@[simp] theorem eq_int : eqOk (.int a) (.int b) h q = q (decide (a = b)) := by simp [eqOk, pureD, plain]
@[simp] theorem eq_str : eqOk (.str s) (.str t) h q = q (decide (s = t)) := by simp [eqOk, pureD, plain]
@[simp] theorem eq_bl {a b : Bool} : eqOk (.bl a) (.bl b) h q = q (decide (a = b)) := rfl
@[simp] theorem eqX_int : eqOkX (.int a) (.int b) h q = q (decide (a = b)) := by simp [eqOkX, EqS]
@[simp] theorem eqX_str : eqOkX (.str s) (.str t) h q = q (decide (s = t)) := by simp [eqOkX, EqS]
@[simp] theorem eqX_bl {a b : Bool} : eqOkX (.bl a) (.bl b) h q = q (decide (a = b)) := by simp [eqOkX, EqS]
@[simp] theorem eq_tup : eqOk (.tup xs) (.tup ys) h q = (pureDs xs = true ∧ pureDs ys = true ∧ (plain 190 (.tup xs) = true ∨ plain 190 (.tup ys) = true) ∧ q (decide (xs = ys))) := by simp [eqOk, pureD]
@[simp] theorem eq_ref : eqOk (.ref p) (.ref r) h q = ∃ xs ys, h p = some (.lst xs) ∧ h r = some (.lst ys) ∧ pureDs xs = true ∧ pureDs ys = true ∧ (plains 190 xs = true ∨ plains 190 ys = true) ∧ q (decide (xs = ys)) := rfl
@[simp] theorem ix_tup {i : Int} : opIx (.tup xs) (.int i) h Q = match atI xs i with
    | some d => Q d h
    | none => False := rfl
@[simp] theorem ix_rol {i : Int} : opIx (.rol xs) (.int i) h Q = match atI xs i with
    | some d => Q d h
    | none => False := rfl
@[simp] theorem ix_str {i : Int} : opIx (.str s) (.int i) h Q = (s.length ≤ LINE ∧ match atI s i with
    | some c => Q (.str [c]) h
    | none => False) := rfl
theorem ix_lst {i : Int} (e : h p = some (.lst xs)) : opIx (.ref p) (.int i) h Q = match atI xs i with
    | some d => Q d h
    | none => False := by simp only [opIx, e] <;> rfl
theorem ix_dct {k : Nat} {kvs : List (D × D)} (e : h p = some (.dct k kvs)) : opIx (.ref p) y h Q = (keyOk k y = true ∧ match kvGet kvs y with
    | some d => Q d h
    | none => False) := by simp only [opIx, e] <;> rfl
@[simp] theorem slw_tup {lo hi : Option Int} : opSlW (.tup xs) lo hi h Q = Q (.tup (cut xs lo hi)) h := rfl
@[simp] theorem sl_rol {lo hi : Option Int} : opSl (.rol xs) lo hi h Q = ∀ r, h r = none → Q (.ref r) (up h r (.lst (cut xs lo hi))) := rfl
@[simp] theorem sl_str {lo hi : Option Int} : opSl (.str s) lo hi h Q = (s.length ≤ LINE ∧ Q (.str (cut s lo hi)) h) := rfl
theorem sl_lst {lo hi : Option Int} (e : h p = some (.lst xs)) : opSl (.ref p) lo hi h Q = ∀ r, h r = none → Q (.ref r) (up h r (.lst (cut xs lo hi))) := by simp only [opSl, e]
@[simp] theorem arg1_eq {f : D → Prop} : arg1 [d] f = f d := rfl
@[simp] theorem arg2_eq {f : D → D → Prop} : arg2 [x, y] f = f x y := rfl
@[simp] theorem anInt_eq {f : Int → Prop} : anInt (.int a) f = f a := rfl
@[simp] theorem aSome_eq {α : Type} {z : α} {f : α → Prop} : aSome (some z) f = f z := rfl
theorem aLst_eq {f : Nat → List D → Prop} (e : h p = some (.lst xs)) : aLst (.ref p) h f = f p xs := by simp only [aLst, e]
theorem aDct_eq {k : Nat} {kvs : List (D × D)} {f : Nat → Nat → List (D × D) → Prop} (e : h p = some (.dct k kvs)) : aDct (.ref p) h f = f p k kvs := by simp only [aDct, e]
@[simp] theorem len_str {f : Nat → Prop} : lenOk (.str s) h f = (s.length ≤ LINE ∧ f s.length) := rfl
@[simp] theorem len_tup {f : Nat → Prop} : lenOk (.tup xs) h f = f xs.length := rfl
@[simp] theorem len_rol {f : Nat → Prop} : lenOk (.rol xs) h f = f xs.length := rfl
theorem len_lst {f : Nat → Prop} (e : h p = some (.lst xs)) : lenOk (.ref p) h f = f xs.length := by simp only [lenOk, e]
@[simp] theorem toInt_int {f : Int → Prop} : toInt (.int a) f = f a := rfl
@[simp] theorem toInt_bl {b : Bool} {f : Int → Prop} : toInt (.bl b) f = f (if b then 1 else 0) := rfl
@[simp] theorem blt_len {ds : List D} : opBlt .len ds h Q = arg1 ds fun d => lenOk d h fun n => Q (.int n) h := rfl
@[simp] theorem blt_min2 {ds : List D} : opBlt .min2 ds h Q = arg2 ds fun x y => anInt x fun a => anInt y fun b => Q (.int (if b < a then b else a)) h := rfl
@[simp] theorem blt_max2 {ds : List D} : opBlt .max2 ds h Q = arg2 ds fun x y => anInt x fun a => anInt y fun b => Q (.int (if b > a then b else a)) h := rfl
@[simp] theorem blt_int1 {ds : List D} : opBlt .int1 ds h Q = arg1 ds fun d => toInt d fun i => Q (.int i) h := rfl
@[simp] theorem blt_sum {ds : List D} : opBlt .sum ds h Q = arg1 ds fun d => aLst d h fun _ xs => aSome (intsOf xs) fun ns => Q (.int ns.sum) h := rfl
@[simp] theorem blt_all {ds : List D} : opBlt .all ds h Q = arg1 ds fun d => aLst d h fun _ xs => aSome (bls xs) fun bs => Q (.bl (bs.all id)) h := rfl
@[simp] theorem blt_any {ds : List D} : opBlt .any ds h Q = arg1 ds fun d => aLst d h fun _ xs => aSome (bls xs) fun bs => Q (.bl (bs.any id)) h := rfl
@[simp] theorem blt_klist {ds : List D} : opBlt .klist ds h Q = arg1 ds fun d => aDctR d h fun _ _ kvs => ∀ r, h r = none → Q (.ref r) (up h r (.lst (kvs.map (·.1)))) := rfl
@[simp] theorem blt_max1 {ds : List D} : opBlt .max1 ds h Q = arg1 ds fun d => aLst d h fun _ xs => aSome (intsOf xs) fun ns => ns ≠ [] ∧ ∀ m, m ∈ ns → (∀ y, y ∈ ns → y ≤ m) → Q (.int m) h := rfl
@[simp] theorem blt_sorted {ds : List D} : opBlt .sorted ds h Q = arg1 ds fun d => aDctR d h fun _ _ kvs => aSome (strsOf (kvs.map (·.1))) fun ss => ss.length < 64 ∧ ∀ ys : List Sx, ys.Perm ss → ∀ r, h r = none → Q (.ref r) (up h r (.lst (ys.map .str))) := rfl
@[simp] theorem blt_sortd {ds : List D} : opBlt .sortd ds h Q = arg1 ds fun d => sortP d h fun xs => ∀ ys : List D, ys.Perm xs → ys.Pairwise (fun a b => ltD b a = false) → ∀ r, h r = none → Q (.ref r) (up h r (.lst ys)) := rfl
theorem sortP_lst {f : List D → Prop} (e : h p = some (.lst xs)) : sortP (.ref p) h f = (sortOk xs ∧ f xs) := by simp only [sortP, e]
theorem sortP_dct {kvs : List (D × D)} {f : List D → Prop} (e : h p = some (.dct 0 kvs)) : sortP (.ref p) h f = ((∃ ss, strsOf (kvs.map (·.1)) = some ss ∧ ss.length < 64) ∧ f (kvs.map (·.1))) := by simp only [sortP, e]
theorem sortP_rdct {kvs : List (D × D)} {f : List D → Prop} (e : h p = some (.rdct 0 kvs)) : sortP (.ref p) h f = ((∃ ss, strsOf (kvs.map (·.1)) = some ss ∧ ss.length < 64) ∧ f (kvs.map (·.1))) := by simp only [sortP, e]
@[simp] theorem cmp_ltT {ys : List D} : opCmp .lt (.tup xs) (.tup ys) h q = (cmpbs xs ys = true ∧ pureDs xs = true ∧ pureDs ys = true ∧ (plains 190 xs = true ∨ plains 190 ys = true) ∧ q (ltDs xs ys)) := rfl
@[simp] theorem blt_list {ds : List D} : opBlt .list ds h Q = arg1 ds fun d => aSome (seqOf d h) fun xs => ∀ r, h r = none → Q (.ref r) (up h r (.lst xs)) := rfl
@[simp] theorem blt_tuple {ds : List D} : opBlt .tuple ds h Q = arg1 ds fun d => aSome (seqOf d h) fun xs => Q (.tup xs) h := rfl
@[simp] theorem seq_tup : seqOf (.tup xs) h = some xs := rfl
@[simp] theorem seq_rol : seqOf (.rol xs) h = some xs := rfl
theorem seq_lst (e : h p = some (.lst xs)) : seqOf (.ref p) h = some xs := by simp only [seqOf, e]
@[simp] theorem recv_lst {m : Mth} {ds : List D} : opMth .append x ds h Q = arg1 ds fun d => aLst x h fun p xs => xs.length < LINE ∧ Q .non (up h p (.lst (xs ++ [d]))) := rfl
@[simp] theorem mth_pop : opMth .pop x [] h Q = aLst x h fun p xs => aSome xs[xs.length - 1]? fun y => Q y (up h p (.lst xs.dropLast)) := by simp [opMth]
@[simp] theorem aTup_eq {f : List D → Prop} : aTup (.tup xs) f = f xs := rfl
@[simp] theorem aStr_eq {f : Sx → Prop} : aStr (.str s) f = f s := rfl
@[simp] theorem aRng1 {f : Int → Int → Prop} : aRng [.int a] f = ((-(2 ^ 62) ≤ a ∧ a ≤ LINE) ∧ f 0 a) := rfl
@[simp] theorem aRng2 {f : Int → Int → Prop} : aRng [.int a, .int b] f = (((-(2 ^ 62) ≤ a ∧ a ≤ LINE) ∧ -(2 ^ 62) ≤ b ∧ b ≤ LINE ∧ (b - a).toNat ≤ LINE) ∧ f a b) := rfl
theorem mth_popI : opMth .popAt x [.int a] h Q = aLst x h fun p xs => (0 ≤ a ∧ a < 2 ^ 62) ∧ aSome xs[a.toNat]? fun y => Q y (up h p (.lst (xs.eraseIdx a.toNat))) := rfl
@[simp] theorem mth_popAt : opMth .popAt x [.int 0] h Q = aLst x h fun p xs => aSome xs[0]? fun y => Q y (up h p (.lst xs.tail)) := by
  rw [mth_popI]
  unfold aLst
  split
  · split
    · rename_i xs _
      have : xs.eraseIdx 0 = xs.tail := by cases xs <;> rfl
      simp [this]
    · rfl
  · rfl
@[simp] theorem mth_update : opMth .update x [d] h Q = aDct x h fun p kd kvs => aDct d h fun r kd' more => p ≠ r ∧ kd = 0 ∧ kd' = 0 ∧ kvs.length + more.length ≤ LINE ∧ Q .non (up h p (.dct 0 (mergeL kvs more))) := rfl
@[simp] theorem mth_insert : opMth .insert x [.int a, d] h Q = aLst x h fun p xs => (0 ≤ a ∧ a < 2 ^ 62) ∧ xs.length < LINE ∧ Q .non (up h p (.lst (xs.take a.toNat ++ [d] ++ xs.drop a.toNat))) := rfl
@[simp] theorem mth_index : opMth .index x [.int a] h Q = aLst x h fun _ xs => aSome (intsOf xs) fun ns => a ∈ ns ∧ Q (.int (ns.idxOf a : Nat)) h := rfl
@[simp] theorem mth_dclear : opMth .dclear x [] h Q = aDct x h fun p kd kvs => kd = 0 ∧ Q .non (up h p (.dct 0 [])) := by simp [opMth]
@[simp] theorem mth_join : opMth .join (.str s) [d] h Q = aSome (seqOf d h) fun xs => aSome (strsOf xs) fun ss => (ss.map (·.length)).sum + ss.length * s.length ≤ LINE ∧ Q (.str (joinS s ss)) h := rfl
@[simp] theorem recv_join : recvOk .join (.str s) h := trivial
@[simp] theorem blt_dict1 {ds : List D} : opBlt .dict1 ds h Q = arg1 ds fun d => aDctR d h fun _ k kvs => ∀ r, h r = none → Q (.ref r) (up h r (.dct k kvs)) := rfl
@[simp] theorem mth_append : opMth .append x [d] h Q = aLst x h fun p xs => xs.length < LINE ∧ Q .non (up h p (.lst (xs ++ [d]))) := rfl
@[simp] theorem mth_extend : opMth .extend x [d] h Q = aLst x h fun p xs => aLst d h fun q ys => xs.length + ys.length ≤ LINE ∧ Q .non (up h p (.lst (xs ++ ys))) := rfl
@[simp] theorem mth_extendT : opMth .extendT x [d] h Q = aLst x h fun p xs => aTup d fun ys => xs.length + ys.length ≤ LINE ∧ Q .non (up h p (.lst (xs ++ ys))) := rfl
@[simp] theorem mth_reverse : opMth .reverse x [] h Q = aLst x h fun p xs => Q .non (up h p (.lst xs.reverse)) := by simp [opMth]
@[simp] theorem mth_get1 : opMth .get1 x [y] h Q = aDct x h fun p kd kvs => keyOk kd y = true ∧ Q ((kvGet kvs y).getD .non) h := rfl
@[simp] theorem mth_get2 : opMth .get2 x [y, d] h Q = aDct x h fun p kd kvs => keyOk kd y = true ∧ Q ((kvGet kvs y).getD d) h := rfl
def lstM : Mth → Bool
  | .append => true
  | .pop => true
  | .popAt => true
  | .extend => true
  | .extendT => true
  | .insert => true
  | .index => true
  | .reverse => true
  | .clear => true
  | _ => false
def dctM : Mth → Bool
  | .get1 => true
  | .get2 => true
  | .update => true
  | .dclear => true
  | _ => false
theorem recv_lstM {m : Mth} (hm : lstM m = true) (e : h p = some (.lst xs)) : recvOk m (.ref p) h := by
  cases m <;> first | exact absurd hm (by decide) | (simp only [recvOk, aLst, e])
theorem recv_ok {m : Mth} (hm : m ≠ .get1) (hm2 : m ≠ .get2) (e : h p = some (.lst xs)) (hm3 : lstM m = true := by rfl) : recvOk m (.ref p) h := recv_lstM hm3 e
theorem recv_dct {m : Mth} {k : Nat} {kvs : List (D × D)} (hm : dctM m = true) (e : h p = some (.dct k kvs)) : recvOk m (.ref p) h := by
  cases m <;> first | exact absurd hm (by decide) | (simp only [recvOk, aDct, e])
theorem set_lst {i : Int} {q : AH → Prop} (e : h p = some (.lst xs)) : opSet (.ref p) (.int i) d h q = ((0 ≤ i ∧ i < xs.length) ∧ q (up h p (.lst (xs.set i.toNat d)))) := by simp only [opSet, e, anInt]
theorem set_dct {k : Nat} {kvs : List (D × D)} {q : AH → Prop} (e : h p = some (.dct k kvs)) : opSet (.ref p) y d h q = (keyOk k y = true ∧ kvs.length < LINE ∧ q (up h p (.dct k (kvPut kvs y d)))) := by simp only [opSet, e]
@[simp] theorem walk_tup {q : List D → (AH → Prop) → Prop} : walk .seq [.tup xs] h q = q xs fun _ => True := rfl
@[simp] theorem walk_rol {q : List D → (AH → Prop) → Prop} : walk .seq [.rol xs] h q = q xs fun _ => True := rfl
@[simp] theorem walk_str {q : List D → (AH → Prop) → Prop} : walk .seq [.str s] h q = q (s.map fun c => .str [c]) fun _ => True := rfl
theorem walk_lst {q : List D → (AH → Prop) → Prop} (e : h p = some (.lst xs)) : walk .seq [.ref p] h q = q xs fun h' => h' p = some (.lst xs) := by simp only [walk, e]
@[simp] theorem walk_rng {q : List D → (AH → Prop) → Prop} : walk .rng [.int a] h q = (-(2 ^ 62) ≤ a ∧ a < 2 ^ 62 ∧ q (rangeL 0 a) fun _ => True) := rfl
@[simp] theorem walk_rrng {q : List D → (AH → Prop) → Prop} : walk .rrng [.int a] h q = (-(2 ^ 62) ≤ a ∧ a < 2 ^ 62 ∧ q (rangeL 0 a).reverse fun _ => True) := rfl
@[simp] theorem walk_rng2 {q : List D → (AH → Prop) → Prop} : walk .rng [.int a, .int b] h q = ((-(2 ^ 62) ≤ a ∧ a < 2 ^ 62 ∧ -(2 ^ 62) ≤ b ∧ b < 2 ^ 62) ∧ q (rangeL a b) fun _ => True) := rfl
theorem walk_enum {q : List D → (AH → Prop) → Prop} (e : h p = some (.lst xs)) : walk .enum [.ref p] h q = q (enumL 0 xs) fun h' => h' p = some (.lst xs) := by simp only [walk, e]
@[simp] theorem isi_int {t : Ty} : opIsi (.int a) t h = match t with | .int => some true | _ => some false := by cases t <;> rfl
@[simp] theorem isi_bl {b : Bool} {t : Ty} : opIsi (.bl b) t h = match t with | .int => some true | .bool => some true | _ => some false := by cases t <;> rfl
@[simp] theorem isi_tup {t : Ty} : opIsi (.tup xs) t h = match t with | .tuple => some true | _ => some false := by cases t <;> rfl
theorem isi_lst {t : Ty} (e : h p = some (.lst xs)) : opIsi (.ref p) t h = some (match t with | .list => true | _ => false) := by unfold opIsi; simp only [e] <;> (cases t <;> rfl)
@[simp] theorem isi_str {t : Ty} : opIsi (.str s) t h = match t with | .str => some true | _ => some false := by cases t <;> rfl
@[simp] theorem aug_int : opAug .add (.int a) (.int b) (fun d => Q d h) = Q (.int (a + b)) h := rfl
@[simp] theorem aug_intP {q : D → Prop} : opAug .add (.int a) (.int b) q = q (.int (a + b)) := rfl
@[simp] theorem aug_subP {q : D → Prop} : opAug .sub (.int a) (.int b) q = q (.int (a - b)) := rfl
@[simp] theorem aug_strP {q : D → Prop} : opAug .add (.str s) (.str t) q = (s.length + t.length ≤ LINE ∧ q (.str (s ++ t))) := rfl
end
/-! ### dicts, pairs of places and items, plain data -/
theorem Ke.mut {p q : Nat} {h h1 h2 : AH} (x : Ke p h h1) (n : h q = none) (y : Ke q h1 h2) : Ke p h h2 := fun a u e z => y a u (fun w => by subst w; rw [n] at z; cases z) (x a u e z)
theorem Ke.new {p q : Nat} {h h1 : AH} {o : Ob} (x : Ke p h h1) (n : h1 q = none) : Ke p h (up h1 q o) := x.trans (Ext.new n).ke
theorem kvGet_nil {k : D} : kvGet [] k = none := rfl
theorem kvGet_cons {k k' v : D} {kvs : List (D × D)} : kvGet ((k, v) :: kvs) k' = if k = k' then some v else kvGet kvs k' := by
  unfold kvGet
  by_cases e : k = k' <;> simp [e]
theorem kvGet_put {k v k' : D} : ∀ {kvs : List (D × D)}, kvGet (kvPut kvs k v) k' = if k = k' then some v else kvGet kvs k'
  | [] => by
    unfold kvPut
    simp [kvGet_cons, kvGet_nil]
  | (a, w) :: r => by
    have ih := kvGet_put (k := k) (v := v) (k' := k') (kvs := r)
    unfold kvPut at ih ⊢
    by_cases e : a = k
    · subst e
      simp only [List.any_cons, decide_true, Bool.true_or, if_true, List.map_cons, kvGet_cons]
      by_cases e2 : a = k'
      · simp [e2]
      · simp only [if_neg e2]
        by_cases e3 : (r.any fun kv => decide (kv.1 = a)) = true
        · rw [if_pos e3] at ih
          rw [ih, if_neg e2]
        · have : r.map (fun kv => if kv.1 = a then (kv.1, v) else kv) = r := by
            conv => rhs; rw [← List.map_id r]
            refine List.map_congr_left fun kv hkv => ?_
            rw [if_neg (fun z => e3 (List.any_eq_true.mpr ⟨kv, hkv, decide_eq_true z⟩))]
            rfl
          rw [this]
    · simp only [List.any_cons, decide_eq_false e, Bool.false_or]
      by_cases e3 : (r.any fun kv => decide (kv.1 = k)) = true
      · rw [if_pos e3] at ih
        simp only [e3, if_true, List.map_cons, if_neg e, kvGet_cons]
        by_cases e2 : a = k'
        · simp only [if_pos e2]
          rw [if_neg (fun z => e (e2.trans z.symm))]
        · simp only [if_neg e2]; exact ih
      · rw [if_neg e3] at ih
        rw [if_neg e3, List.cons_append, kvGet_cons, kvGet_cons]
        by_cases e2 : a = k'
        · rw [if_pos e2, if_pos e2, if_neg (fun z => e (e2.trans z.symm))]
        · rw [if_neg e2, if_neg e2]; exact ih
theorem kvPut_len {k v : D} {kvs : List (D × D)} : (kvPut kvs k v).length ≤ kvs.length + 1 := by
  unfold kvPut
  split <;> simp
theorem enumL_at {xs : List D} : ∀ {n i : Nat} {x : D}, (enumL n xs)[i]? = some x → ∃ y, xs[i]? = some y ∧ x = .tup [.int ((n + i : Nat) : Int), y] := by
  induction xs with
  | nil => intro n i x e; simp [enumL] at e
  | cons a r ih =>
    intro n i x e
    cases i with
    | zero => simp [enumL] at e; exact ⟨a, rfl, by simp [e]⟩
    | succ i =>
      simp only [enumL, List.getElem?_cons_succ] at e ⊢
      obtain ⟨y, e1, e2⟩ := ih e
      exact ⟨y, e1, by rw [e2]; congr 3; omega⟩
theorem enumL_len {xs : List D} : ∀ {n : Nat}, (enumL n xs).length = xs.length := by
  induction xs with
  | nil => intro n; rfl
  | cons a r ih => intro n; simp only [enumL, List.length_cons, ih]
theorem map_at {α : Type} {f : α → D} {xs : List α} {i : Nat} {x : D} (e : (xs.map f)[i]? = some x) : ∃ y, xs[i]? = some y ∧ x = f y := by
  rw [List.getElem?_map] at e
  cases e2 : xs[i]? with
  | none => rw [e2] at e; cases e
  | some z => rw [e2] at e; exact ⟨z, rfl, (Option.some.inj e).symm⟩
theorem eq_pure {a b : D} {h : AH} {Q : Bool → Prop} (pa : pureD a = true) (pb : pureD b = true) (l : plain 190 a = true ∨ plain 190 b = true) (k : Q (decide (a = b))) : eqOk a b h Q := by
  cases a with
  | bl _ => simp [pureD] at pa
  | ref _ => simp [pureD] at pa
  | rol _ => simp [pureD] at pa
  | _ => exact ⟨pa, pb, l, k⟩
theorem eq_pureX {a b : D} {h : AH} {Q : Bool → Prop} (pa : pureD a = true) (pb : pureD b = true) (l : plain 190 a = true ∨ plain 190 b = true) (k : Q (decide (a = b))) : eqOkX a b h Q := .inl (eq_pure pa pb l k)
theorem cut_none {α : Type} {xs : List α} {v : Int} (h : 0 ≤ v) : cut xs none (some v) = xs.take v.toNat := by
  have : ¬ v < 0 := by omega
  simp [cut, clip, this]
theorem letters_at {i : Int} (h0 : 0 ≤ i) (h1 : i < 26) : atI [97, 98, 99, 100, 101, 102, 103, 104, 105, 106, 107, 108, 109, 110, 111, 112, 113, 114, 115, 116, 117, 118, 119, 120, 121, 122] i = some (97 + i.toNat) := by
  have key : ∀ n : Fin 26, atI [97, 98, 99, 100, 101, 102, 103, 104, 105, 106, 107, 108, 109, 110, 111, 112, 113, 114, 115, 116, 117, 118, 119, 120, 121, 122] ((n.val : Nat) : Int) = some (97 + n.val) := by decide
  have := key ⟨i.toNat, by omega⟩
  simp only at this
  rw [show ((i.toNat : Nat) : Int) = i by omega] at this
  exact this
theorem RT_mk {Q : VQ} : ({ nx := fun _ h' => Q .non h', rt := Q, bk := fun _ _ => False, ct := fun _ _ => False } : Ends) = RT Q := rfl
theorem nodup_inj {α : Type} {xs : List α} (nd : xs.Nodup) {i j : Nat} {x : α} (a : xs[i]? = some x) (b : xs[j]? = some x) : i = j := by
  obtain ⟨l1, e1⟩ := List.getElem?_eq_some_iff.mp a
  obtain ⟨l2, e2⟩ := List.getElem?_eq_some_iff.mp b
  have key := List.pairwise_iff_getElem.mp nd
  rcases Nat.lt_trichotomy i j with h | h | h
  · exact absurd (e1.trans e2.symm) (key i j l1 l2 h)
  · exact h
  · exact absurd (e2.trans e1.symm) (key j i l2 l1 h)
/-! ### locked dicts -/
section
variable {C : Cx} {σ : St} {h : AH} {Q : VQ} {R : Ends} {p : Nat} {kd : Nat} {kvs : List (D × D)} {xs ys : List D}
theorem lock_at {i : Nat} {f : Nat → Nat → List (D × D) → Prop} (e : σ[i]? = some (some (.ref p))) (e2 : h p = some (.dct kd kvs)) : lockAt σ i h f = f p kd kvs := by unfold lockAt; rw [e]; dsimp only; rw [e2]
@[simp] theorem wE_lock {i : Nat} {e : E} : wE C (.lock i e) σ h Q = lockAt σ i h fun p kd kvs => wE C e σ (up h p (.rdct kd kvs)) fun d h' => Q d (up h' p (.dct kd kvs)) := by simp only [wE]
@[simp] theorem wS_lock {i : Nat} {s : S} : wS C (.lock i s) R σ h = lockAt σ i h fun p kd kvs => wS C s { nx := fun σ' h' => R.nx σ' (up h' p (.dct kd kvs)), rt := fun d h' => R.rt d (up h' p (.dct kd kvs)), bk := fun σ' h' => R.bk σ' (up h' p (.dct kd kvs)), ct := fun σ' h' => R.ct σ' (up h' p (.dct kd kvs)) } σ (up h p (.rdct kd kvs)) := by simp only [wS]
@[simp] theorem wS_lock2 {i : Nat} {s : S} : wS C (.lock2 i s) R σ h = ((lockAt σ i h fun p kd kvs => wS C s { nx := fun σ' h' => R.nx σ' (up h' p (.dct kd kvs)), rt := fun d h' => R.rt d (up h' p (.dct kd kvs)), bk := fun σ' h' => R.bk σ' (up h' p (.dct kd kvs)), ct := fun σ' h' => R.ct σ' (up h' p (.dct kd kvs)) } σ (up h p (.rdct kd kvs))) ∨ wS C s R σ h) := by simp only [wS]
theorem walk_keys {q : List D → (AH → Prop) → Prop} (e : h p = some (.rdct kd kvs)) : walk .keys [.ref p] h q = q (kvs.map (·.1)) fun _ => True := by simp only [walk, e]
theorem walk_values {q : List D → (AH → Prop) → Prop} (e : h p = some (.rdct kd kvs)) : walk .values [.ref p] h q = q (kvs.map (·.2)) fun _ => True := by simp only [walk, e]
theorem walk_items {q : List D → (AH → Prop) → Prop} (e : h p = some (.rdct kd kvs)) : walk .items [.ref p] h q = q (kvs.map fun kv => .tup [kv.1, kv.2]) fun _ => True := by simp only [walk, e]
theorem walk_revL {q : List D → (AH → Prop) → Prop} (e : h p = some (.lst xs)) : walk .rev [.ref p] h q = q xs.reverse fun h' => h' p = some (.lst xs) := by simp only [walk, e]
@[simp] theorem walk_revT {q : List D → (AH → Prop) → Prop} : walk .rev [.tup xs] h q = q xs.reverse fun _ => True := rfl
@[simp] theorem walk_zip {q : List D → (AH → Prop) → Prop} : walk .zip [.tup xs, .tup ys] h q = q (zipL xs ys) fun _ => True := rfl
theorem ix_rdct {y : D} {Q : VQ} (e : h p = some (.rdct kd kvs)) : opIx (.ref p) y h Q = (keyOk kd y = true ∧ match kvGet kvs y with
    | some d => Q d h
    | none => False) := by simp only [opIx, e] <;> rfl
theorem len_dct {f : Nat → Prop} (e : h p = some (.dct kd kvs)) : lenOk (.ref p) h f = f kvs.length := by simp only [lenOk, e]
theorem len_rdct {f : Nat → Prop} (e : h p = some (.rdct kd kvs)) : lenOk (.ref p) h f = f kvs.length := by simp only [lenOk, e]
theorem mem_tup {x : D} {q : Bool → Prop} : memOk x (.tup xs) h q = (flat x = true ∧ xs.all flat = true ∧ q (xs.any fun y => decide (y = x))) := rfl
theorem mem_dcn {x : D} {q : Bool → Prop} {kvs : List (D × D)} (e : h p = some (.dcn kvs)) : memOk x (.ref p) h q = (nkOk x = true ∧ q (kvGet kvs x).isSome) := by simp only [memOk, e]
theorem ix_dcn {y : D} {Q : VQ} {kvs : List (D × D)} (e : h p = some (.dcn kvs)) : opIx (.ref p) y h Q = (nkOk y = true ∧ match kvGet kvs y with
    | some d => Q d h
    | none => False) := by simp only [opIx, e] <;> rfl
theorem set_dcn {y d : D} {q : AH → Prop} {kvs : List (D × D)} (e : h p = some (.dcn kvs)) : opSet (.ref p) y d h q = (nkOk y = true ∧ kvs.length < LINE ∧ q (up h p (.dcn (kvPut kvs y d)))) := by simp only [opSet, e]
theorem aIns_eq {c : Sx} {fs : List (Sx × D)} {f : Nat → Sx → List (Sx × D) → Prop} (e : h p = some (.ins c fs)) : aIns (.ref p) h f = f p c fs := by simp only [aIns, e]
theorem aVals_eq {kvs : List (D × D)} {f : List (D × D) → Prop} (e : h p = some (.dct 0 kvs)) : aVals (.ref p) h f = f kvs := by simp only [aVals, e]
theorem walk_zipL {r : Nat} {xs ys : List D} {q : List D → (AH → Prop) → Prop} (e1 : h p = some (.lst xs)) (e2 : h r = some (.lst ys)) : walk .zip [.ref p, .ref r] h q = q (zipL xs ys) fun h' => h' p = some (.lst xs) ∧ h' r = some (.lst ys) := by simp only [walk, e1, e2]
theorem mem_dct {x : D} {q : Bool → Prop} (e : h p = some (.dct kd kvs)) : memOk x (.ref p) h q = (keyOk kd x = true ∧ q (kvGet kvs x).isSome) := by simp only [memOk, e]
theorem mem_rdct {x : D} {q : Bool → Prop} (e : h p = some (.rdct kd kvs)) : memOk x (.ref p) h q = (keyOk kd x = true ∧ q (kvGet kvs x).isSome) := by simp only [memOk, e]
theorem aDctR_eq {f : Nat → Nat → List (D × D) → Prop} (e : h p = some (.dct kd kvs)) : aDctR (.ref p) h f = f p kd kvs := by simp only [aDctR, e]
theorem aDctR_req {f : Nat → Nat → List (D × D) → Prop} (e : h p = some (.rdct kd kvs)) : aDctR (.ref p) h f = f p kd kvs := by simp only [aDctR, e]
theorem up_lock {o o' : Ob} (e : h p = some o) : up (up h p o') p o = h := by
  funext b; simp only [up]; split
  · rename_i z; rw [z, e]
  · rfl
end
/-! ### loops turn by turn -/
def compU (ok : AH → Prop) (body : D → AH → (D → AH → Prop) → (AH → Prop) → Prop) (done : List D → AH → Prop) : Nat → List D → List D → AH → Prop
  | i, [], acc, h => (ok h ∧ acc.length ≤ i) ∧ done acc h
  | i, x :: xs, acc, h => (ok h ∧ acc.length ≤ i) ∧ body x h (fun y h' => compU ok body done (i + 1) xs (acc ++ [y]) h') (fun h' => compU ok body done (i + 1) xs acc h')
theorem compU_ok {ok : AH → Prop} {body : D → AH → (D → AH → Prop) → (AH → Prop) → Prop} {done : List D → AH → Prop} {i : Nat} {xs acc : List D} {h : AH} (q : compU ok body done i xs acc h) : ok h ∧ acc.length ≤ i := by
  cases xs <;> exact q.1
theorem comp_unroll {xs : List D} {ok : AH → Prop} {body : D → AH → (D → AH → Prop) → (AH → Prop) → Prop} {done : List D → AH → Prop} {h : AH} (hz : xs.length ≤ LINE) (q : compU ok body done 0 xs [] h) : compW xs ok body done h := by
  refine ⟨fun i acc h => compU ok body done i (xs.drop i) acc h, q, fun i acc h q => compU_ok q, hz, fun i x acc h e q => ?_, fun acc h q => ?_⟩
  · have hl := (List.getElem?_eq_some_iff.mp e).1
    have ex := (List.getElem?_eq_some_iff.mp e).2
    dsimp only at q
    rw [List.drop_eq_getElem_cons hl, ex] at q
    exact q.2
  · dsimp only at q
    rw [List.drop_length] at q
    exact q.2
def loopU (ok : AH → Prop) (body : D → St → AH → (St → AH → Prop) → Prop) (done : St → AH → Prop) : List D → St → AH → Prop
  | [], σ, h => ok h ∧ done σ h
  | x :: xs, σ, h => ok h ∧ body x σ h (fun σ' h' => loopU ok body done xs σ' h')
theorem loopU_ok {ok : AH → Prop} {body : D → St → AH → (St → AH → Prop) → Prop} {done : St → AH → Prop} {xs : List D} {σ : St} {h : AH} (q : loopU ok body done xs σ h) : ok h := by
  cases xs <;> exact q.1
theorem loop_unroll {xs : List D} {ok : AH → Prop} {body : D → St → AH → (St → AH → Prop) → Prop} {done : St → AH → Prop} {σ : St} {h : AH} (q : loopU ok body done xs σ h) : loopW xs ok body done σ h := by
  refine ⟨fun i σ h => loopU ok body done (xs.drop i) σ h, q, fun i σ h q => loopU_ok q, fun i x σ h e q => ?_, fun σ h q => ?_⟩
  · have hl := (List.getElem?_eq_some_iff.mp e).1
    have ex := (List.getElem?_eq_some_iff.mp e).2
    dsimp only at q
    rw [List.drop_eq_getElem_cons hl, ex] at q
    exact q.2
  · dsimp only at q
    rw [List.drop_length] at q
    exact q.2
theorem loopU_nil {ok : AH → Prop} {body : D → St → AH → (St → AH → Prop) → Prop} {done : St → AH → Prop} {σ : St} {h : AH} : loopU ok body done [] σ h = (ok h ∧ done σ h) := rfl
theorem loopU_cons {ok : AH → Prop} {body : D → St → AH → (St → AH → Prop) → Prop} {done : St → AH → Prop} {x : D} {xs : List D} {σ : St} {h : AH} : loopU ok body done (x :: xs) σ h = (ok h ∧ body x σ h fun σ' h' => loopU ok body done xs σ' h') := rfl
theorem compU_nil {ok : AH → Prop} {body : D → AH → (D → AH → Prop) → (AH → Prop) → Prop} {done : List D → AH → Prop} {i : Nat} {acc : List D} {h : AH} : compU ok body done i [] acc h = ((ok h ∧ acc.length ≤ i) ∧ done acc h) := rfl
theorem compU_cons {ok : AH → Prop} {body : D → AH → (D → AH → Prop) → (AH → Prop) → Prop} {done : List D → AH → Prop} {i : Nat} {x : D} {xs acc : List D} {h : AH} : compU ok body done i (x :: xs) acc h = ((ok h ∧ acc.length ≤ i) ∧ body x h (fun y h' => compU ok body done (i + 1) xs (acc ++ [y]) h') (fun h' => compU ok body done (i + 1) xs acc h')) := rfl
@[simp] theorem sl_tup {xs : List D} {lo hi : Option Int} {h : AH} {Q : VQ} : opSl (.tup xs) lo hi h Q = (¬ (clip xs.length 0 lo = 0 ∧ clip xs.length xs.length hi = xs.length) ∧ Q (.tup (cut xs lo hi)) h) := rfl
theorem cut_1 {x : D} {xs : List D} : cut (x :: xs) (some 1) none = xs := by simp [cut, clip]
theorem cut_h1 {x : D} {xs : List D} : cut (x :: xs) none (some 1) = [x] := by simp [cut, clip]
/-- a comprehension that makes one item of each, and no more than new objects -/
theorem compU_go {body : D → AH → (D → AH → Prop) → (AH → Prop) → Prop} {done : List D → AH → Prop} {h0 : AH} (R : D → D → Prop) (hb : ∀ d e h2 yes no, Ext h0 h2 → R d e → (∀ h', Ext h2 h' → yes e h') → body d h2 yes no) :
    ∀ (ds es : List D) (i : Nat) (acc : List D) (h : AH), All2 R ds es → acc.length ≤ i → Ext h0 h → (∀ h', Ext h0 h' → done (acc ++ es) h') → compU (fun _ => True) body done i ds acc h
  | [], [], i, acc, h, _, l, x, k => ⟨⟨trivial, l⟩, by simpa using k h x⟩
  | [], _ :: _, _, _, _, q, _, _, _ => q.elim
  | _ :: _, [], _, _, _, q, _, _, _ => q.elim
  | d :: ds, e :: es, i, acc, h, ⟨q1, q2⟩, l, x, k => ⟨⟨trivial, l⟩, hb d e h _ _ x q1 fun h' x' => compU_go R hb ds es (i + 1) (acc ++ [e]) h' q2 (by simp; omega) (x.trans x') fun h2 x2 => by simpa using k h2 x2⟩
theorem All2.len {R : D → D → Prop} : ∀ {ds es : List D}, All2 R ds es → ds.length = es.length
  | [], [], _ => rfl
  | [], _ :: _, q => q.elim
  | _ :: _, [], q => q.elim
  | _ :: _, _ :: _, ⟨_, q⟩ => by simp [All2.len q]
/-! ### dicts of distinct keys -/
theorem kvPut_new {k v : D} {kvs : List (D × D)} (h : ∀ kv, kv ∈ kvs → kv.1 ≠ k) : kvPut kvs k v = kvs ++ [(k, v)] := by
  unfold kvPut
  rw [if_neg]
  intro z
  obtain ⟨kv, hm, e⟩ := List.any_eq_true.mp z
  exact h kv hm (of_decide_eq_true e)
theorem mergeL_new : ∀ {more acc : List (D × D)}, ((acc ++ more).map (·.1)).Nodup → mergeL acc more = acc ++ more
  | [], acc, _ => by simp [mergeL]
  | (k, v) :: more, acc, nd => by
    have h1 : ∀ kv, kv ∈ acc → kv.1 ≠ k := fun kv hm e => by
      rw [List.map_append, List.nodup_append] at nd
      exact nd.2.2 kv.1 (List.mem_map_of_mem hm) k (by simp) e
    show mergeL (kvPut acc k v) more = _
    rw [kvPut_new h1, mergeL_new (by simpa using nd)]
    simp
theorem kvGet_mem {kvs : List (D × D)} (nd : (kvs.map (·.1)).Nodup) {k v : D} (hm : (k, v) ∈ kvs) : kvGet kvs k = some v := by
  induction kvs with
  | nil => cases hm
  | cons kv r ih =>
    obtain ⟨k', v'⟩ := kv
    rw [kvGet_cons]
    rw [List.map_cons, List.nodup_cons] at nd
    rcases List.mem_cons.mp hm with e | hm
    · cases e; simp
    · rw [if_neg (fun z => nd.1 (by rw [z]; exact List.mem_map.mpr ⟨(k, v), hm, rfl⟩))]
      exact ih nd.2 hm
theorem loopU_go {ok : AH → Prop} {body : D → St → AH → (St → AH → Prop) → Prop} {done : St → AH → Prop} (I : List D → St → AH → Prop) (hok : ∀ xs σ h, I xs σ h → ok h) (hs : ∀ x xs σ h, I (x :: xs) σ h → body x σ h (fun σ' h' => loopU ok body done xs σ' h')) (hd : ∀ σ h, I [] σ h → done σ h) : ∀ {xs : List D} {σ : St} {h : AH}, I xs σ h → loopU ok body done xs σ h
  | [], σ, h, q => ⟨hok _ _ _ q, hd _ _ q⟩
  | x :: xs, σ, h, q => ⟨hok _ _ _ q, hs _ _ _ _ q⟩
theorem erase_map {α β : Type} (f : α → β) : ∀ (l : List α) (i : Nat), (l.map f).eraseIdx i = (l.eraseIdx i).map f
  | [], _ => rfl
  | _ :: _, 0 => rfl
  | x :: l, i + 1 => by
    show f x :: (l.map f).eraseIdx i = f x :: (l.eraseIdx i).map f
    rw [erase_map f l i]
theorem erase_perm {α : Type} : ∀ (l : List α) (i : Nat) (h : i < l.length), (l[i] :: l.eraseIdx i).Perm l
  | [], i, h => absurd h (Nat.not_lt_zero i)
  | x :: l, 0, h => .refl _
  | x :: l, i + 1, h => by
    have ih := erase_perm l i (Nat.lt_of_succ_lt_succ h)
    exact (List.Perm.swap x (l[i]'(Nat.lt_of_succ_lt_succ h)) (l.eraseIdx i)).trans (List.Perm.cons x ih)
theorem mul_ref {p : Nat} {k : Int} {h : AH} {Q : VQ} : opMul (.ref p) (.int k) h Q = ∃ xs, h p = some (.lst xs) ∧ -(2 ^ 63) ≤ k ∧ k < 2 ^ 63 ∧ xs.length * k.toNat ≤ LINE ∧ ∀ r, h r = none → Q (.ref r) (up h r (.lst (List.replicate k.toNat xs).flatten)) := rfl
/-! ### plain data; books that are the same -/
theorem pureDs_of : ∀ {ds : List D}, (∀ d, d ∈ ds → pureD d = true) → pureDs ds = true
  | [], _ => by simp [pureDs]
  | d :: ds, a => by
    have ih := pureDs_of (ds := ds) fun x hx => a x (List.mem_cons_of_mem _ hx)
    simp [pureDs, a d (by simp), ih]
theorem plains_of {n : Nat} : ∀ {ds : List D}, (∀ d, d ∈ ds → plain n d = true) → plains n ds = true
  | [], _ => by simp [plains]
  | d :: ds, a => by
    have ih := plains_of (n := n) (ds := ds) fun x hx => a x (List.mem_cons_of_mem _ hx)
    simp [plains, a d (by simp), ih]
mutual
theorem plain_mono : ∀ {n m : Nat} {d : D}, n ≤ m → plain n d = true → plain m d = true
  | _, _, .non, _, _ => by simp [plain]
  | _, _, .int _, _, _ => by simp [plain]
  | _, _, .str _, _, _ => by simp [plain]
  | 0, _, .tup _, _, p => by simp [plain] at p
  | n + 1, 0, .tup _, l, _ => by omega
  | n + 1, m + 1, .tup ds, l, p => by simp only [plain] at p ⊢; exact plains_mono (by omega) p
  | _, _, .bl _, _, p => by simp [plain] at p
  | _, _, .ref _, _, p => by simp [plain] at p
  | _, _, .rol _, _, p => by simp [plain] at p
theorem plains_mono : ∀ {n m : Nat} {ds : List D}, n ≤ m → plains n ds = true → plains m ds = true
  | _, _, [], _, _ => by simp [plains]
  | n, m, d :: ds, l, p => by
    simp only [plains, Bool.and_eq_true] at p ⊢
    exact ⟨plain_mono l p.1, plains_mono l p.2⟩
end
def PP (n : Nat) (d : D) : Prop := pureD d = true ∧ plain n d = true
theorem PP.mono {n m : Nat} {d : D} (l : n ≤ m) (p : PP n d) : PP m d := ⟨p.1, plain_mono l p.2⟩
theorem PP.tup {n : Nat} {ds : List D} (a : ∀ d, d ∈ ds → PP n d) : PP (n + 1) (.tup ds) := ⟨by simp only [pureD]; exact pureDs_of fun d hd => (a d hd).1, by simp only [plain]; exact plains_of fun d hd => (a d hd).2⟩
theorem PP.str {n : Nat} {s : Sx} : PP n (.str s) := ⟨by simp [pureD], by simp [plain]⟩
theorem PP.int {n : Nat} {s : Int} : PP n (.int s) := ⟨by simp [pureD], by simp [plain]⟩
theorem hits_same {R : D → D → Bool → Prop} {kws : List (D × D)} : ∀ {sub : List (D × D)}, (∀ kv, kv ∈ sub → kvGet kws kv.1 = some kv.2 ∧ R kv.2 kv.2 true) → HitsD R kws sub true
  | [], _ => rfl
  | kv :: sub, a => .inr ⟨kv.2, true, true, (a kv (by simp)).1, (a kv (by simp)).2, hits_same fun x hx => a x (by simp [hx]), rfl⟩
theorem dct_same {p q : Nat} {h : AH} {kvs : List (D × D)} {n : Nat} (ne : p ≠ q) (e1 : h p = some (.dct 0 kvs)) (e2 : h q = some (.dct 0 kvs)) (nd : (kvs.map (·.1)).Nodup) (al : ∀ kv, kv ∈ kvs → PP (170 + n) kv.2) : EqD (n + 2) h (.ref p) (.ref q) true := by
  refine .inr (.inr (.inr (.inr ⟨p, q, kvs, kvs, true, rfl, rfl, ne, e1, e2, fun _ => hits_same fun kv hkv => ⟨kvGet_mem nd hkv, ?_⟩, by simp⟩)))
  exact .inl ⟨(al kv hkv).1, (al kv hkv).1, .inl (al kv hkv).2, by simp⟩
theorem cut_some {α : Type} {xs : List α} {v : Int} (h : 0 ≤ v) (g : v ≤ xs.length) : cut xs (some v) none = xs.drop v.toNat := by
  have : ¬ v < 0 := by omega
  simp [cut, clip, this]
  rw [List.take_of_length_le (by simp <;> omega)]
  congr 1
  omega
end M
namespace M
/-! ### sorted -/
theorem sorted_uniq : ∀ {ys zs : List D}, ys.Pairwise (fun a b => ltD b a = false) → zs.Pairwise (fun a b => ltD b a = false) → ys.Perm zs → ys = zs
  | [], zs, _, _, p => (List.nil_perm.mp p).symm ▸ rfl
  | y :: ys, [], _, _, p => (List.cons_ne_nil _ _ (List.perm_nil.mp p)).elim
  | y :: ys, z :: zs, h1, h2, p => by
    obtain ⟨a1, a2⟩ := List.pairwise_cons.mp h1
    obtain ⟨b1, b2⟩ := List.pairwise_cons.mp h2
    have e : y = z := Classical.byContradiction fun ne => by
      have m1 : y ∈ zs := (List.mem_cons.mp (p.mem_iff.mp List.mem_cons_self)).resolve_left ne
      have m2 : z ∈ ys := (List.mem_cons.mp (p.mem_iff.mpr List.mem_cons_self)).resolve_left (fun w => ne w.symm)
      exact ne (ltD_tot y z (b1 y m1) (a1 z m2))
    subst e
    rw [sorted_uniq a2 b2 (List.Perm.cons_inv p)]
theorem perm_of_sub {α : Type} : ∀ {xs ys : List α}, xs.Nodup → (∀ x ∈ xs, x ∈ ys) → ys.length ≤ xs.length → xs.Perm ys
  | [], ys, _, _, l => by
    cases ys with
    | nil => exact .refl _
    | cons y ys => simp at l
  | x :: xs, ys, nd, s, l => by
    rw [List.nodup_cons] at nd
    obtain ⟨as, bs, e⟩ := List.append_of_mem (s x List.mem_cons_self)
    subst e
    have ih : xs.Perm (as ++ bs) := perm_of_sub nd.2 (fun y hy => by
      have := s y (List.mem_cons_of_mem _ hy)
      rcases List.mem_append.mp this with h | h
      · exact List.mem_append_left _ h
      · rcases List.mem_cons.mp h with h | h
        · subst h; exact absurd hy nd.1
        · exact List.mem_append_right _ h) (by simp at l ⊢; omega)
    exact (List.Perm.cons x ih).trans List.perm_middle.symm
theorem mem_lst' {p : Nat} {h : AH} {x : D} {xs : List D} {q : Bool → Prop} (e : h p = some (.lst xs)) : memOk x (.ref p) h q = (pureD x = true ∧ pureDs xs = true ∧ (plain 190 x = true ∨ plains 190 xs = true) ∧ q (xs.any fun y => decide (y = x))) := by simp only [memOk, e]
end M
end
section
/-! The IR of the defs of a linked text: printed by gen.py. -/
namespace K44
open M
abbrev s__law_book : Sx := [95, 108, 97, 119, 95, 98, 111, 111, 107]
abbrev s__law_deck : Sx := [95, 108, 97, 119, 95, 100, 101, 99, 107]
abbrev s__law_flipped : Sx := [95, 108, 97, 119, 95, 102, 108, 105, 112, 112, 101, 100]
abbrev s__law_is_led : Sx := [95, 108, 97, 119, 95, 105, 115, 95, 108, 101, 100]
abbrev s__law_kind : Sx := [95, 108, 97, 119, 95, 107, 105, 110, 100]
abbrev s__law_kind_of : Sx := [95, 108, 97, 119, 95, 107, 105, 110, 100, 95, 111, 102]
abbrev s__law_leafy : Sx := [95, 108, 97, 119, 95, 108, 101, 97, 102, 121]
abbrev s__law_name : Sx := [95, 108, 97, 119, 95, 110, 97, 109, 101]
abbrev s__law_next : Sx := [95, 108, 97, 119, 95, 110, 101, 120, 116]
abbrev s__law_numbered : Sx := [95, 108, 97, 119, 95, 110, 117, 109, 98, 101, 114, 101, 100]
abbrev s__law_order : Sx := [95, 108, 97, 119, 95, 111, 114, 100, 101, 114]
abbrev s__law_pattern : Sx := [95, 108, 97, 119, 95, 112, 97, 116, 116, 101, 114, 110]
abbrev s__law_plain_rows : Sx := [95, 108, 97, 119, 95, 112, 108, 97, 105, 110, 95, 114, 111, 119, 115]
abbrev s__law_rows : Sx := [95, 108, 97, 119, 95, 114, 111, 119, 115]
abbrev s__law_side : Sx := [95, 108, 97, 119, 95, 115, 105, 100, 101]
abbrev s__law_string_right : Sx := [95, 108, 97, 119, 95, 115, 116, 114, 105, 110, 103, 95, 114, 105, 103, 104, 116]
abbrev s__law_tagged : Sx := [95, 108, 97, 119, 95, 116, 97, 103, 103, 101, 100]
abbrev s_a : Sx := [97]
abbrev s_abcdefghijklmnopqrstuvwxyz : Sx := [97, 98, 99, 100, 101, 102, 103, 104, 105, 106, 107, 108, 109, 110, 111, 112, 113, 114, 115, 116, 117, 118, 119, 120, 121, 122]
abbrev s_b : Sx := [98]
abbrev s_back : Sx := [98, 97, 99, 107]
abbrev s_beside : Sx := [98, 101, 115, 105, 100, 101]
abbrev s_by_cases : Sx := [98, 121, 95, 99, 97, 115, 101, 115]
abbrev s_by_off : Sx := [98, 121, 95, 111, 102, 102]
abbrev s_by_two : Sx := [98, 121, 95, 116, 119, 111]
abbrev s_c : Sx := [99]
abbrev s_call : Sx := [99, 97, 108, 108]
abbrev s_cases : Sx := [99, 97, 115, 101, 115]
abbrev s_changed_about : Sx := [99, 104, 97, 110, 103, 101, 100, 95, 97, 98, 111, 117, 116]
abbrev s_copied : Sx := [99, 111, 112, 105, 101, 100]
abbrev s_d : Sx := [100]
abbrev s_emp : Sx := []
abbrev s_forth : Sx := [102, 111, 114, 116, 104]
abbrev s_heads_up : Sx := [104, 101, 97, 100, 115, 95, 117, 112]
abbrev s_is_even : Sx := [105, 115, 95, 101, 118, 101, 110]
abbrev s_l : Sx := [108]
abbrev s_laid_out : Sx := [108, 97, 105, 100, 95, 111, 117, 116]
abbrev s_law : Sx := [108, 97, 119]
abbrev s_led : Sx := [108, 101, 100]
abbrev s_led_back : Sx := [108, 101, 100, 95, 98, 97, 99, 107]
abbrev s_left_of : Sx := [108, 101, 102, 116, 95, 111, 102]
abbrev s_n : Sx := [110]
abbrev s_name : Sx := [110, 97, 109, 101]
abbrev s_next_round : Sx := [110, 101, 120, 116, 95, 114, 111, 117, 110, 100]
abbrev s_node : Sx := [110, 111, 100, 101]
abbrev s_none : Sx := [110, 111, 110, 101]
abbrev s_off : Sx := [111, 102, 102]
abbrev s_one : Sx := [111, 110, 101]
abbrev s_others_home : Sx := [111, 116, 104, 101, 114, 115, 95, 104, 111, 109, 101]
abbrev s_p : Sx := [112]
abbrev s_pair : Sx := [112, 97, 105, 114]
abbrev s_parted : Sx := [112, 97, 114, 116, 101, 100]
abbrev s_placed : Sx := [112, 108, 97, 99, 101, 100]
abbrev s_put : Sx := [112, 117, 116]
abbrev s_r : Sx := [114]
abbrev s_rounds_of : Sx := [114, 111, 117, 110, 100, 115, 95, 111, 102]
abbrev s_rule : Sx := [114, 117, 108, 101]
abbrev s_same : Sx := [115, 97, 109, 101]
abbrev s_sent_by : Sx := [115, 101, 110, 116, 95, 98, 121]
abbrev s_string : Sx := [115, 116, 114, 105, 110, 103]
abbrev s_sum : Sx := [115, 117, 109]
abbrev s_t : Sx := [116]
abbrev s_taken : Sx := [116, 97, 107, 101, 110]
abbrev s_then : Sx := [116, 104, 101, 110]
abbrev s_turned : Sx := [116, 117, 114, 110, 101, 100]
abbrev s_ways_in : Sx := [119, 97, 121, 115, 95, 105, 110]
abbrev s_within : Sx := [119, 105, 116, 104, 105, 110]
abbrev s_x : Sx := [120]
abbrev s_y : Sx := [121]
def b9_taken : Ss := .cons (.ret (.var 2)) .nil
def b8_taken : Ss := .cons (.ex (.mth .extend (.var 3) (.cons (.lzip (.cons (.sl (.var 4) (.cons (.int 1) .nil) .nil) (.cons (.sl (.var 5) (.cons (.int 1) .nil) .nil) .nil))) .nil))) .nil
def b7_taken : Ss := .cons (.ret (.non)) .nil
def b6_taken : Ss := .cons (.ife (.bop false (.cons (.cmp .eq (.var 5) (.tup .nil)) (.cons (.cmp .ne (.ix (.var 5) (.int 0)) (.ix (.var 4) (.int 0))) .nil))) b7_taken b8_taken) .nil
def b5_taken : Ss := .cons (.ret (.non)) .nil
def b4_taken : Ss := .cons (.ife (.cmp .ne (.var 5) (.tup .nil)) b5_taken .nil) .nil
def b3_taken : Ss := .cons (.ife (.cmp .eq (.ix (.var 4) (.int 0)) (.str s_one)) b4_taken b6_taken) .nil
def b2_taken : Ss := .cons (.six (.var 2) (.ix (.var 4) (.int 1)) (.var 5)) .nil
def b1_taken : Ss := .cons (.asg (.tp [4, 5]) (.mth .pop (.var 3) .nil)) (.cons (.ife (.cmp .eq (.ix (.var 4) (.int 0)) (.str s_x)) b2_taken b3_taken) .nil)
def b0_taken : Ss := .cons (.asg (.nm 2) (.dct 0 .nil)) (.cons (.asg (.nm 3) (.lst (.cons (.tup (.cons (.var 0) (.cons (.var 1) .nil))) .nil))) (.cons (.whl (.cmp .gt (.blt .len (.cons (.var 3) .nil)) (.int 0)) b1_taken) b9_taken))
def fd_taken : FD := ⟨2, 6, b0_taken⟩  -- 0:pattern 1:thing 2:found 3:todo 4:one 5:part
def b4_put : Ss := .cons (.ret (.bin .add (.sl (.var 0) .nil (.cons (.int 1) .nil)) (.blt .tuple (.cons (.lc (.call s_put (.cons (.var 2) (.cons (.var 1) .nil))) (.nm 2) [2] .seq (.cons (.sl (.var 0) (.cons (.int 1) .nil) .nil) .nil) .nil) .nil)))) .nil
def b3_put : Ss := .cons (.ret (.tup .nil)) .nil
def b2_put : Ss := .cons (.ife (.cmp .eq (.ix (.var 0) (.int 0)) (.str s_one)) b3_put .nil) b4_put
def b1_put : Ss := .cons (.ret (.ix (.var 1) (.ix (.var 0) (.int 1)))) .nil
def b0_put : Ss := .cons (.ife (.cmp .eq (.ix (.var 0) (.int 0)) (.str s_x)) b1_put .nil) b2_put
def fd_put : FD := ⟨2, 3, b0_put⟩  -- 0:pattern 1:parts 2:inner
def b2_left_of : Ss := .cons (.ret (.bin .add (.tup (.cons (.ix (.var 0) (.int 0)) .nil)) (.blt .tuple (.cons (.lc (.call s_left_of (.cons (.var 1) .nil)) (.nm 1) [1] .seq (.cons (.sl (.var 0) (.cons (.int 1) .nil) .nil) .nil) .nil) .nil)))) .nil
def b1_left_of : Ss := .cons (.ret (.tup (.cons (.str s_x) (.cons (.ix (.var 0) (.int 1)) .nil)))) .nil
def b0_left_of : Ss := .cons (.ife (.cmp .eq (.ix (.var 0) (.int 0)) (.str s_x)) b1_left_of .nil) b2_left_of
def fd_left_of : FD := ⟨1, 2, b0_left_of⟩  -- 0:pattern 1:part
def b4_ways_in : Ss := .cons (.ret (.var 1)) .nil
def b3_ways_in : Ss := .cons (.ex (.mth .update (.var 1) (.cons (.call s_ways_in (.cons (.var 2) .nil)) .nil))) .nil
def b2_ways_in : Ss := .cons (.asg (.nm 1) (.dct 0 .nil)) (.cons (.for_ (.nm 2) .seq (.cons (.sl (.var 0) (.cons (.int 1) .nil) .nil) .nil) b3_ways_in) b4_ways_in)
def b1_ways_in : Ss := .cons (.ret (.dct 0 (.cons (.ix (.var 0) (.int 1)) (.cons (.ix (.var 0) (.int 2)) .nil)))) .nil
def b0_ways_in : Ss := .cons (.ife (.cmp .eq (.ix (.var 0) (.int 0)) (.str s_x)) b1_ways_in .nil) b2_ways_in
def fd_ways_in : FD := ⟨1, 3, b0_ways_in⟩  -- 0:pattern 1:found 2:part
def b9_by_cases : Ss := .cons (.ret (.var 2)) .nil
def b8_by_cases : Ss := .cons (.ret (.call s_put (.cons (.var 6) (.cons (.var 9) .nil)))) .nil
def b7_by_cases : Ss := .cons (.ret (.call s_put (.cons (.var 4) (.cons (.var 9) .nil)))) .nil
def b6_by_cases : Ss := .cons (.ife (.var 3) b7_by_cases .nil) b8_by_cases
def b5_by_cases : Ss := .cons (.six (.var 9) (.var 10) (.call s_sent_by (.cons (.var 0) (.cons (.ix (.var 8) (.var 10)) (.cons (.ix (.var 7) (.var 10)) (.cons (.var 3) .nil)))))) .nil
def b4_by_cases : Ss := .cons (.asg (.nm 8) (.call s_ways_in (.cons (.var 5) .nil))) (.cons (.asg (.nm 9) (.dct 0 .nil)) (.cons (.lock 7 (.for_ (.nm 10) .keys (.cons (.var 7) .nil) b5_by_cases)) b6_by_cases))
def b3_by_cases : Ss := .cons (.ife (.cmp .isnt (.var 7) (.non)) b4_by_cases .nil) .nil
def b2_by_cases : Ss := .cons (.asg (.nm 7) (.call s_taken (.cons (.var 6) (.cons (.var 2) .nil)))) .nil
def b1_by_cases : Ss := .cons (.asg (.nm 6) (.call s_left_of (.cons (.var 5) .nil))) (.cons (.asg (.nm 7) (.call s_taken (.cons (.var 4) (.cons (.var 2) .nil)))) (.cons (.ife (.var 3) b2_by_cases .nil) b3_by_cases))
def b0_by_cases : Ss := .cons (.for_ (.tp [4, 5]) .seq (.cons (.var 1) .nil) b1_by_cases) b9_by_cases
def fd_by_cases : FD := ⟨4, 11, b0_by_cases⟩  -- 0:book 1:rows 2:thing 3:turned 4:one 5:other 6:plain 7:parts 8:ways 9:made 10:name
def b2_by_off : Ss := .cons (.ret (.ix (.var 4) (.int 1))) .nil
def b1_by_off : Ss := .cons (.asg (.nm 5) (.call s_sent_by (.cons (.var 0) (.cons (.ix (.var 1) (.int 4)) (.cons (.ix (.var 4) (.int 1)) (.cons (.not (.var 3)) .nil)))))) (.cons (.asg (.nm 4) (.call s_sent_by (.cons (.var 0) (.cons (.ix (.var 1) (.int 3)) (.cons (.tup (.cons (.str s_r) (.cons (.var 5) .nil))) (.cons (.var 3) .nil)))))) .nil)
def b0_by_off : Ss := .cons (.asg (.nm 4) (.call s_sent_by (.cons (.var 0) (.cons (.ix (.var 1) (.int 3)) (.cons (.tup (.cons (.str s_l) (.cons (.var 2) .nil))) (.cons (.var 3) .nil)))))) (.cons (.whl (.cmp .eq (.ix (.var 4) (.int 0)) (.str s_r)) b1_by_off) b2_by_off)
def fd_by_off : FD := ⟨4, 6, b0_by_off⟩  -- 0:book 1:way 2:thing 3:turned 4:here 5:again
def b8_by_two : Ss := .cons (.ret (.tup (.cons (.str s_r) (.cons (.call s_sent_by (.cons (.var 0) (.cons (.ix (.var 1) (.int 2)) (.cons (.ix (.var 2) (.int 1)) (.cons (.var 3) .nil))))) .nil)))) .nil
def b7_by_two : Ss := .cons (.ret (.tup (.cons (.str s_l) (.cons (.call s_sent_by (.cons (.var 0) (.cons (.ix (.var 1) (.int 1)) (.cons (.ix (.var 2) (.int 1)) (.cons (.var 3) .nil))))) .nil)))) .nil
def b6_by_two : Ss := .cons (.ife (.cmp .eq (.ix (.var 2) (.int 0)) (.str s_l)) b7_by_two .nil) b8_by_two
def b5_by_two : Ss := .cons (.ret (.tup (.cons (.str s_p) (.cons (.call s_sent_by (.cons (.var 0) (.cons (.ix (.var 1) (.int 1)) (.cons (.ix (.var 2) (.int 1)) (.cons (.var 3) .nil))))) (.cons (.call s_sent_by (.cons (.var 0) (.cons (.ix (.var 1) (.int 2)) (.cons (.ix (.var 2) (.int 2)) (.cons (.var 3) .nil))))) .nil))))) .nil
def b4_by_two : Ss := .cons (.ife (.cmp .eq (.var 4) (.str s_beside)) b5_by_two .nil) b6_by_two
def b3_by_two : Ss := .cons (.ret (.call s_sent_by (.cons (.var 0) (.cons (.ix (.var 1) (.int 3)) (.cons (.call s_sent_by (.cons (.var 0) (.cons (.ix (.var 1) (.int 1)) (.cons (.var 2) (.cons (.bl false) .nil))))) (.cons (.bl false) .nil)))))) .nil
def b2_by_two : Ss := .cons (.ret (.call s_sent_by (.cons (.var 0) (.cons (.ix (.var 1) (.int 1)) (.cons (.call s_sent_by (.cons (.var 0) (.cons (.ix (.var 1) (.int 3)) (.cons (.var 2) (.cons (.bl true) .nil))))) (.cons (.bl true) .nil)))))) .nil
def b1_by_two : Ss := .cons (.ife (.var 3) b2_by_two .nil) b3_by_two
def b0_by_two : Ss := .cons (.asg (.nm 4) (.ix (.var 1) (.int 0))) (.cons (.ife (.cmp .eq (.var 4) (.str s_then)) b1_by_two .nil) b4_by_two)
def fd_by_two : FD := ⟨4, 5, b0_by_two⟩  -- 0:book 1:way 2:thing 3:turned 4:word
def b14_sent_by : Ss := .cons (.ret (.call s_by_two (.cons (.var 0) (.cons (.var 1) (.cons (.var 2) (.cons (.var 3) .nil)))))) .nil
def b13_sent_by : Ss := .cons (.ret (.bad)) .nil
def b12_sent_by : Ss := .cons (.ife (.cmp .eq (.var 4) (.str s_parted)) b13_sent_by .nil) b14_sent_by
def b11_sent_by : Ss := .cons (.ret (.call s_by_off (.cons (.var 0) (.cons (.var 1) (.cons (.var 2) (.cons (.var 3) .nil)))))) .nil
def b10_sent_by : Ss := .cons (.ife (.cmp .eq (.var 4) (.str s_off)) b11_sent_by .nil) b12_sent_by
def b9_sent_by : Ss := .cons (.ret (.call s_by_cases (.cons (.var 0) (.cons (.ix (.var 1) (.int 1)) (.cons (.var 2) (.cons (.var 3) .nil)))))) .nil
def b8_sent_by : Ss := .cons (.ife (.cmp .eq (.var 4) (.str s_cases)) b9_sent_by .nil) b10_sent_by
def b7_sent_by : Ss := .cons (.ret (.tup (.cons (.str s_n) (.cons (.call s_sent_by (.cons (.var 0) (.cons (.ix (.var 1) (.int 1)) (.cons (.ix (.var 2) (.int 1)) (.cons (.var 3) .nil))))) .nil)))) .nil
def b6_sent_by : Ss := .cons (.ife (.cmp .eq (.var 4) (.str s_within)) b7_sent_by .nil) b8_sent_by
def b5_sent_by : Ss := .cons (.ret (.call s_sent_by (.cons (.var 0) (.cons (.ix (.var 1) (.int 1)) (.cons (.var 2) (.cons (.not (.var 3)) .nil)))))) .nil
def b4_sent_by : Ss := .cons (.ife (.cmp .eq (.var 4) (.str s_turned)) b5_sent_by .nil) b6_sent_by
def b3_sent_by : Ss := .cons (.ret (.call s_sent_by (.cons (.var 0) (.cons (.ix (.ix (.ix (.var 0) (.int 1)) (.ix (.var 1) (.int 1))) (.int 2)) (.cons (.var 2) (.cons (.var 3) .nil)))))) .nil
def b2_sent_by : Ss := .cons (.ife (.cmp .eq (.var 4) (.str s_call)) b3_sent_by .nil) b4_sent_by
def b1_sent_by : Ss := .cons (.ret (.var 2)) .nil
def b0_sent_by : Ss := .cons (.asg (.nm 4) (.ix (.var 1) (.int 0))) (.cons (.ife (.cmp .eq (.var 4) (.str s_same)) b1_sent_by .nil) b2_sent_by)
def fd_sent_by : FD := ⟨4, 5, b0_sent_by⟩  -- 0:book 1:way 2:thing 3:turned 4:word
def b0_forth : Ss := .cons (.ret (.call s_sent_by (.cons (.var 0) (.cons (.var 1) (.cons (.var 2) (.cons (.bl false) .nil)))))) .nil
def fd_forth : FD := ⟨3, 3, b0_forth⟩  -- 0:book 1:way 2:thing
def b0_back : Ss := .cons (.ret (.call s_sent_by (.cons (.var 0) (.cons (.var 1) (.cons (.var 2) (.cons (.bl true) .nil)))))) .nil
def fd_back : FD := ⟨3, 3, b0_back⟩  -- 0:book 1:way 2:thing
def b2_string : Ss := .cons (.ex (.mth .append (.var 3) (.cons (.tup (.cons (.str s_b) (.cons (.ix (.var 4) (.int 1)) .nil))) .nil))) (.cons (.ret (.var 3)) .nil)
def b1_string : Ss := .cons (.ex (.mth .append (.var 3) (.cons (.tup (.cons (.str s_d) (.cons (.ix (.var 4) (.int 1)) .nil))) .nil))) (.cons (.asg (.nm 5) (.call s_back (.cons (.var 0) (.cons (.ix (.var 1) (.int 4)) (.cons (.ix (.var 4) (.int 1)) .nil))))) (.cons (.ex (.mth .append (.var 3) (.cons (.tup (.cons (.str s_c) (.cons (.var 5) .nil))) .nil))) (.cons (.asg (.nm 4) (.call s_forth (.cons (.var 0) (.cons (.ix (.var 1) (.int 3)) (.cons (.tup (.cons (.str s_r) (.cons (.var 5) .nil))) .nil))))) .nil)))
def b0_string : Ss := .cons (.asg (.nm 3) (.lst (.cons (.tup (.cons (.str s_a) (.cons (.var 2) .nil))) .nil))) (.cons (.asg (.nm 4) (.call s_forth (.cons (.var 0) (.cons (.ix (.var 1) (.int 3)) (.cons (.tup (.cons (.str s_l) (.cons (.var 2) .nil))) .nil))))) (.cons (.whl (.cmp .eq (.ix (.var 4) (.int 0)) (.str s_r)) b1_string) b2_string))
def fd_string : FD := ⟨3, 6, b0_string⟩  -- 0:book 1:off 2:thing 3:beads 4:here 5:again
def b10_law_deck : Ss := .cons (.ret (.var 1)) .nil
def b9_law_deck : Ss := .cons (.asg (.nm 4) (.bin .mod (.bin .add (.bin .add (.bin .mul (.var 3) (.int 48271)) (.bin .mul (.int 7919) (.var 2))) (.int 13)) (.int 2147483629))) (.cons (.asg (.nm 4) (.bin .mod (.bin .add (.bin .mul (.var 4) (.bin .add (.bin .fdiv (.var 4) (.int 5)) (.var 2))) (.bin .mul (.int 16807) (.var 2))) (.int 2147483587))) (.cons (.ex (.mth .append (.var 1) (.cons (.bin .mod (.bin .add (.bin .mul (.var 4) (.int 69621)) (.bin .fdiv (.var 4) (.int 127))) (.int 2147483647)) .nil))) .nil))
def b8_law_deck : Ss := .cons (.asg (.nm 3) (.bin .mod (.ix (.var 0) (.bin .mod (.var 2) (.blt .min2 (.cons (.int 63) (.cons (.blt .len (.cons (.var 0) .nil)) .nil))))) (.int 2147483629))) .nil
def b7_law_deck : Ss := .cons (.asg (.nm 3) (.bin .mul (.int 3) (.var 2))) (.cons (.ife (.cmp .gt (.blt .len (.cons (.var 0) .nil)) (.int 0)) b8_law_deck .nil) b9_law_deck)
def b6_law_deck : Ss := .cons (.for_ (.nm 2) .rng (.cons (.int 150) .nil) b7_law_deck) b10_law_deck
def b5_law_deck : Ss := .cons (.ret (.sl (.var 1) .nil (.cons (.int 150) .nil))) .nil
def b4_law_deck : Ss := .cons (.ex (.mth .append (.var 1) (.cons (.bin .mod (.var 4) (.int 2147483647)) .nil))) (.cons (.asg (.nm 4) (.bin .fdiv (.var 4) (.int 2147483647))) .nil)
def b3_law_deck : Ss := .cons (.ife (.bop false (.cons (.cmp .eq (.var 2) (.int 0)) (.cons (.cmp .gt (.var 4) (.int 0)) .nil))) b4_law_deck .nil) .nil
def b2_law_deck : Ss := .cons (.asg (.nm 4) (.bin .mod (.var 3) (.bin .pow (.int 2147483647) (.int 60)))) (.cons (.for_ (.nm 2) .rng (.cons (.int 60) .nil) b3_law_deck) .nil)
def b1_law_deck : Ss := .cons (.for_ (.nm 3) .seq (.cons (.sl (.var 0) (.cons (.int 1) .nil) (.cons (.int 63) .nil)) .nil) b2_law_deck) b5_law_deck
def b0_law_deck : Ss := .cons (.asg (.nm 1) (.lst .nil)) (.cons (.ife (.bop true (.cons (.cmp .gt (.blt .len (.cons (.var 0) .nil)) (.int 1)) (.cons (.cmp .eq (.bin .mod (.ix (.var 0) (.int 0)) (.int 2)) (.int 1)) .nil))) b1_law_deck .nil) b6_law_deck)
def fd_law_deck : FD := ⟨1, 5, b0_law_deck⟩  -- 0:script 1:deck 2:k 3:cell 4:number
def b2_law_next : Ss := .cons (.ret (.bin .mod (.mth .popAt (.var 0) (.cons (.int 0) .nil)) (.var 1))) .nil
def b1_law_next : Ss := .cons (.ret (.int 0)) .nil
def b0_law_next : Ss := .cons (.ife (.cmp .eq (.blt .len (.cons (.var 0) .nil)) (.int 0)) b1_law_next .nil) b2_law_next
def fd_law_next : FD := ⟨2, 2, b0_law_next⟩  -- 0:deck 1:many
def b2_law_order : Ss := .cons (.ret (.var 3)) .nil
def b1_law_order : Ss := .cons (.ex (.mth .append (.var 3) (.cons (.mth .popAt (.var 2) (.cons (.call s__law_next (.cons (.var 0) (.cons (.blt .len (.cons (.var 2) .nil)) .nil))) .nil)) .nil))) .nil
def b0_law_order : Ss := .cons (.asg (.nm 2) (.lrng (.cons (.var 1) .nil))) (.cons (.asg (.nm 3) (.lst .nil)) (.cons (.for_ (.nm 4) .rng (.cons (.var 1) .nil) b1_law_order) b2_law_order))
def fd_law_order : FD := ⟨2, 5, b0_law_order⟩  -- 0:deck 1:many 2:some 3:order 4:k
def b2_law_kind_of : Ss := .cons (.ret (.var 1)) .nil
def b1_law_kind_of : Ss := .cons (.asg (.nm 1) (.tup (.cons (.str s_sum) (.cons (.tup (.cons (.str s_one) .nil)) (.cons (.var 1) .nil))))) .nil
def b0_law_kind_of : Ss := .cons (.asg (.nm 1) (.tup (.cons (.str s_one) .nil))) (.cons (.for_ (.nm 2) .rng (.cons (.bin .sub (.var 0) (.int 1)) .nil) b1_law_kind_of) b2_law_kind_of)
def fd_law_kind_of : FD := ⟨1, 3, b0_law_kind_of⟩  -- 0:many 1:kind 2:k
def b4_law_tagged : Ss := .cons (.ret (.var 3)) .nil
def b3_law_tagged : Ss := .cons (.asg (.nm 3) (.tup (.cons (.str s_r) (.cons (.var 3) .nil)))) .nil
def b2_law_tagged : Ss := .cons (.for_ (.nm 4) .rng (.cons (.var 0) .nil) b3_law_tagged) b4_law_tagged
def b1_law_tagged : Ss := .cons (.asg (.nm 3) (.tup (.cons (.str s_l) (.cons (.var 2) .nil)))) .nil
def b0_law_tagged : Ss := .cons (.asg (.nm 3) (.var 2)) (.cons (.ife (.cmp .lt (.var 0) (.bin .sub (.var 1) (.int 1))) b1_law_tagged .nil) b2_law_tagged)
def fd_law_tagged : FD := ⟨3, 5, b0_law_tagged⟩  -- 0:k 1:many 2:one 3:thing 4:turn
def b2_law_name : Ss := .cons (.asg (.nm 5) (.bin .mod (.bin .fdiv (.var 0) (.int 156)) (.bin .add (.blt .len (.cons (.var 3) .nil)) (.int 1)))) (.cons (.ret (.bin .add (.bin .add (.sl (.var 3) .nil (.cons (.var 5) .nil)) (.ix (.var 2) (.bin .mod (.bin .add (.var 0) (.bin .mul (.int 3) (.var 1))) (.int 26)))) (.sl (.var 3) (.cons (.var 5) .nil) .nil))) .nil)
def b1_law_name : Ss := .cons (.asg (.nm 3) (.bin .add (.var 3) (.ix (.var 2) (.bin .mod (.bin .fdiv (.var 0) (.bin .add (.int 7) (.bin .mul (.int 5) (.var 4)))) (.int 26))))) .nil
def b0_law_name : Ss := .cons (.asg (.nm 2) (.str s_abcdefghijklmnopqrstuvwxyz)) (.cons (.asg (.nm 3) (.str s_emp)) (.cons (.for_ (.nm 4) .rng (.cons (.bin .mod (.bin .fdiv (.var 0) (.int 26)) (.int 6)) .nil) b1_law_name) b2_law_name))
def fd_law_name : FD := ⟨2, 6, b0_law_name⟩  -- 0:cell 1:e 2:letters 3:word 4:k 5:at
def b2_law_leafy : Ss := .cons (.asg (.nm 2) (.call s__law_leafy (.cons (.var 0) (.cons (.bin .sub (.var 1) (.int 1)) .nil)))) (.cons (.ret (.tup (.cons (.str s_r) (.cons (.tup (.cons (.str s_n) (.cons (.tup (.cons (.str s_p) (.cons (.var 2) (.cons (.call s__law_leafy (.cons (.var 0) (.cons (.bin .sub (.var 1) (.int 1)) .nil))) .nil)))) .nil))) .nil)))) .nil)
def b1_law_leafy : Ss := .cons (.ret (.tup (.cons (.str s_l) (.cons (.tup (.cons (.str s_a) (.cons (.call s__law_next (.cons (.var 0) (.cons (.ix (.lst (.cons (.int 4) (.cons (.bin .pow (.int 10) (.int 9)) .nil))) (.call s__law_next (.cons (.var 0) (.cons (.int 2) .nil)))) .nil))) .nil))) .nil)))) .nil
def b0_law_leafy : Ss := .cons (.ife (.bop false (.cons (.cmp .eq (.var 1) (.int 0)) (.cons (.cmp .eq (.call s__law_next (.cons (.var 0) (.cons (.int 3) .nil))) (.int 0)) .nil))) b1_law_leafy .nil) b2_law_leafy
def fd_law_leafy : FD := ⟨2, 3, b0_law_leafy⟩  -- 0:deck 1:deep 2:one
def b2_law_flipped : Ss := .cons (.ret (.tup (.cons (.str s_r) (.cons (.tup (.cons (.str s_n) (.cons (.tup (.cons (.str s_p) (.cons (.call s__law_flipped (.cons (.ix (.ix (.ix (.var 0) (.int 1)) (.int 1)) (.int 2)) .nil)) (.cons (.call s__law_flipped (.cons (.ix (.ix (.ix (.var 0) (.int 1)) (.int 1)) (.int 1)) .nil)) .nil)))) .nil))) .nil)))) .nil
def b1_law_flipped : Ss := .cons (.ret (.var 0)) .nil
def b0_law_flipped : Ss := .cons (.ife (.cmp .eq (.ix (.var 0) (.int 0)) (.str s_l)) b1_law_flipped .nil) b2_law_flipped
def fd_law_flipped : FD := ⟨1, 1, b0_law_flipped⟩  -- 0:thing
def b0_law_book : Ss := .cons (.asg (.nm 2) (.tup (.cons (.str s_rule) (.cons (.var 0) .nil)))) (.cons (.asg (.nm 3) (.dct 0 (.cons (.var 0) (.cons (.tup (.cons (.str s_sum) (.cons (.tup (.cons (.str s_name) .nil)) (.cons (.tup (.cons (.str s_node) (.cons (.tup (.cons (.str s_pair) (.cons (.var 2) (.cons (.var 2) .nil)))) .nil))) .nil)))) .nil)))) (.cons (.asg (.nm 4) (.tup (.cons (.str s_call) (.cons (.var 1) .nil)))) (.cons (.asg (.nm 5) (.tup (.cons (.tup (.cons (.tup (.cons (.str s_l) (.cons (.tup (.cons (.str s_x) (.cons (.str s_x) .nil))) .nil))) (.cons (.tup (.cons (.str s_l) (.cons (.tup (.cons (.str s_x) (.cons (.str s_x) (.cons (.tup (.cons (.str s_same) .nil)) .nil)))) .nil))) .nil))) (.cons (.tup (.cons (.tup (.cons (.str s_r) (.cons (.tup (.cons (.str s_n) (.cons (.tup (.cons (.str s_p) (.cons (.tup (.cons (.str s_x) (.cons (.str s_x) .nil))) (.cons (.tup (.cons (.str s_x) (.cons (.str s_y) .nil))) .nil)))) .nil))) .nil))) (.cons (.tup (.cons (.str s_r) (.cons (.tup (.cons (.str s_n) (.cons (.tup (.cons (.str s_p) (.cons (.tup (.cons (.str s_x) (.cons (.str s_y) (.cons (.var 4) .nil)))) (.cons (.tup (.cons (.str s_x) (.cons (.str s_x) (.cons (.var 4) .nil)))) .nil)))) .nil))) .nil))) .nil))) .nil)))) (.cons (.ret (.tup (.cons (.var 3) (.cons (.dct 0 (.cons (.var 1) (.cons (.tup (.cons (.var 2) (.cons (.var 2) (.cons (.tup (.cons (.str s_cases) (.cons (.var 5) .nil))) .nil)))) .nil))) .nil)))) .nil))))
def fd_law_book : FD := ⟨2, 6, b0_law_book⟩  -- 0:rule 1:flip 2:here 3:rules 4:again 5:rows
def b0_law_numbered : Ss := .cons (.ret (.tup (.cons (.str s_p) (.cons (.call s__law_tagged (.cons (.var 0) (.cons (.var 1) (.cons (.tup .nil) .nil)))) (.cons (.var 2) .nil))))) .nil
def fd_law_numbered : FD := ⟨3, 3, b0_law_numbered⟩  -- 0:k 1:many 2:tree
def b0_law_pattern : Ss := .cons (.ret (.tup (.cons (.str s_p) (.cons (.call s__law_tagged (.cons (.var 0) (.cons (.var 1) (.cons (.tup (.cons (.str s_one) .nil)) .nil)))) (.cons (.var 2) .nil))))) .nil
def fd_law_pattern : FD := ⟨3, 3, b0_law_pattern⟩  -- 0:k 1:many 2:part
def b2_law_side : Ss := .cons (.ret (.tup (.cons (.str s_r) (.cons (.bin .sub (.var 0) (.var 1)) (.cons (.var 2) .nil))))) .nil
def b1_law_side : Ss := .cons (.ret (.tup (.cons (.str s_l) (.cons (.var 0) (.cons (.var 1) .nil))))) .nil
def b0_law_side : Ss := .cons (.ife (.cmp .lt (.var 0) (.var 1)) b1_law_side .nil) b2_law_side
def fd_law_side : FD := ⟨3, 3, b0_law_side⟩  -- 0:k 1:left 2:right
def b2_law_rows : Ss := .cons (.ret (.tup (.cons (.str s_cases) (.cons (.blt .tuple (.cons (.var 5) .nil)) .nil)))) .nil
def b1_law_rows : Ss := .cons (.asg (.nm 7) (.ix (.lst (.cons (.tup (.cons (.str s_same) .nil)) (.cons (.tup (.cons (.str s_call) (.cons (.var 4) .nil))) .nil))) (.ix (.var 1) (.var 6)))) (.cons (.asg (.nm 8) (.call s__law_side (.cons (.var 6) (.cons (.var 2) (.cons (.var 3) .nil))))) (.cons (.asg (.nm 9) (.call s__law_side (.cons (.ix (.var 0) (.var 6)) (.cons (.var 2) (.cons (.var 3) .nil))))) (.cons (.asg (.nm 10) (.tup (.cons (.ix (.var 8) (.int 0)) (.cons (.call s__law_pattern (.cons (.ix (.var 8) (.int 1)) (.cons (.ix (.var 8) (.int 2)) (.cons (.tup (.cons (.str s_x) (.cons (.str s_t) .nil))) .nil)))) .nil)))) (.cons (.asg (.nm 11) (.tup (.cons (.ix (.var 9) (.int 0)) (.cons (.call s__law_pattern (.cons (.ix (.var 9) (.int 1)) (.cons (.ix (.var 9) (.int 2)) (.cons (.tup (.cons (.str s_x) (.cons (.str s_t) (.cons (.var 7) .nil)))) .nil)))) .nil)))) (.cons (.ex (.mth .append (.var 5) (.cons (.tup (.cons (.var 10) (.cons (.var 11) .nil))) .nil))) .nil)))))
def b0_law_rows : Ss := .cons (.asg (.nm 5) (.lst .nil)) (.cons (.for_ (.nm 6) .rng (.cons (.blt .len (.cons (.var 0) .nil)) .nil) b1_law_rows) b2_law_rows)
def fd_law_rows : FD := ⟨5, 12, b0_law_rows⟩  -- 0:order 1:turned 2:left 3:right 4:flip 5:rows 6:k 7:way 8:here 9:there 10:one 11:other
def b2_law_plain_rows : Ss := .cons (.ret (.tup (.cons (.str s_cases) (.cons (.blt .tuple (.cons (.var 3) .nil)) .nil)))) .nil
def b1_law_plain_rows : Ss := .cons (.asg (.nm 5) (.ix (.lst (.cons (.tup (.cons (.str s_same) .nil)) (.cons (.tup (.cons (.str s_call) (.cons (.var 2) .nil))) .nil))) (.ix (.var 1) (.var 4)))) (.cons (.asg (.nm 6) (.call s__law_pattern (.cons (.var 4) (.cons (.blt .len (.cons (.var 0) .nil)) (.cons (.tup (.cons (.str s_x) (.cons (.str s_t) .nil))) .nil))))) (.cons (.ex (.mth .append (.var 3) (.cons (.tup (.cons (.var 6) (.cons (.call s__law_pattern (.cons (.ix (.var 0) (.var 4)) (.cons (.blt .len (.cons (.var 0) .nil)) (.cons (.tup (.cons (.str s_x) (.cons (.str s_t) (.cons (.var 5) .nil)))) .nil)))) .nil))) .nil))) .nil))
def b0_law_plain_rows : Ss := .cons (.asg (.nm 3) (.lst .nil)) (.cons (.for_ (.nm 4) .rng (.cons (.blt .len (.cons (.var 0) .nil)) .nil) b1_law_plain_rows) b2_law_plain_rows)
def fd_law_plain_rows : FD := ⟨3, 7, b0_law_plain_rows⟩  -- 0:order 1:turned 2:flip 3:rows 4:k 5:way 6:one
def b2_law_kind : Ss := .cons (.ret (.tup (.cons (.str s_pair) (.cons (.call s__law_kind_of (.cons (.var 0) .nil)) (.cons (.tup (.cons (.str s_rule) (.cons (.var 1) .nil))) .nil))))) .nil
def b1_law_kind : Ss := .cons (.ret (.tup (.cons (.str s_none) .nil))) .nil
def b0_law_kind : Ss := .cons (.ife (.cmp .eq (.var 0) (.int 0)) b1_law_kind .nil) b2_law_kind
def fd_law_kind : FD := ⟨2, 2, b0_law_kind⟩  -- 0:right 1:rule
def b2_law_is_led : Ss := .cons (.asg (.nm 4) (.ix (.lst (.cons (.str s_l) (.cons (.str s_r) .nil))) (.blt .int1 (.cons (.cmp .eq (.ix (.var 2) (.int 0)) (.str s_c)) .nil)))) (.cons (.asg (.nm 5) (.tup (.cons (.ix (.lst (.cons (.str s_l) (.cons (.str s_r) .nil))) (.blt .int1 (.cons (.cmp .eq (.ix (.var 3) (.int 0)) (.str s_d)) .nil))) (.cons (.ix (.var 3) (.int 1)) .nil)))) (.cons (.ret (.bop true (.cons (.cmp .isin (.ix (.var 3) (.int 0)) (.tup (.cons (.str s_d) (.cons (.str s_b) .nil)))) (.cons (.cmp .isin (.ix (.var 2) (.int 0)) (.tup (.cons (.str s_a) (.cons (.str s_c) .nil)))) (.cons (.cmp .eq (.call s_forth (.cons (.var 0) (.cons (.ix (.var 1) (.int 3)) (.cons (.tup (.cons (.var 4) (.cons (.ix (.var 2) (.int 1)) .nil))) .nil)))) (.var 5)) .nil))))) .nil))
def b1_law_is_led : Ss := .cons (.ret (.bop true (.cons (.cmp .eq (.ix (.var 3) (.int 0)) (.str s_c)) (.cons (.cmp .eq (.call s_forth (.cons (.var 0) (.cons (.ix (.var 1) (.int 4)) (.cons (.ix (.var 3) (.int 1)) .nil)))) (.ix (.var 2) (.int 1))) .nil)))) .nil
def b0_law_is_led : Ss := .cons (.ife (.cmp .eq (.ix (.var 2) (.int 0)) (.str s_d)) b1_law_is_led .nil) b2_law_is_led
def fd_law_is_led : FD := ⟨4, 6, b0_law_is_led⟩  -- 0:book 1:off 2:one 3:other 4:side 5:due
def b7_law_string_right : Ss := .cons (.ret (.bop true (.cons (.cmp .eq (.call s_forth (.cons (.var 0) (.cons (.var 1) (.cons (.var 2) .nil)))) (.ix (.ix (.var 3) (.neg (.int 1))) (.int 1))) (.cons (.cmp .eq (.call s_back (.cons (.var 0) (.cons (.var 1) (.cons (.ix (.ix (.var 3) (.neg (.int 1))) (.int 1)) .nil)))) (.var 2)) .nil)))) .nil
def b6_law_string_right : Ss := .cons (.ret (.bl false)) .nil
def b5_law_string_right : Ss := .cons (.ife (.cmp .gt (.blt .len (.cons (.lc (.var 6) (.nm 6) [6] .seq (.cons (.var 3) .nil) (.cons (.cmp .eq (.ix (.var 6) (.int 0)) (.str s_c)) .nil)) .nil)) (.var 4)) b6_law_string_right .nil) b7_law_string_right
def b4_law_string_right : Ss := .cons (.ret (.bl false)) .nil
def b3_law_string_right : Ss := .cons (.ife (.not (.call s__law_is_led (.cons (.var 0) (.cons (.var 1) (.cons (.ix (.var 3) (.var 5)) (.cons (.ix (.var 3) (.bin .add (.var 5) (.int 1))) .nil)))))) b4_law_string_right .nil) .nil
def b2_law_string_right : Ss := .cons (.for_ (.nm 5) .rng (.cons (.bin .sub (.blt .len (.cons (.var 3) .nil)) (.int 1)) .nil) b3_law_string_right) b5_law_string_right
def b1_law_string_right : Ss := .cons (.ret (.bl false)) .nil
def b0_law_string_right : Ss := .cons (.ife (.bop false (.cons (.not (.isi (.var 3) .list)) (.cons (.cmp .ne (.ix (.var 3) (.int 0)) (.tup (.cons (.str s_a) (.cons (.var 2) .nil)))) (.cons (.cmp .ne (.ix (.ix (.var 3) (.neg (.int 1))) (.int 0)) (.str s_b)) .nil)))) b1_law_string_right .nil) b2_law_string_right
def fd_law_string_right : FD := ⟨5, 7, b0_law_string_right⟩  -- 0:book 1:off 2:thing 3:beads 4:most 5:k 6:bead
def b12_law : Ss := .cons (.ret (.cmp .eq (.blt .sortd (.cons (.var 17) .nil)) (.blt .sortd (.cons (.var 14) .nil)))) .nil
def b11_law : Ss := .cons (.ex (.mth .append (.var 17) (.cons (.ix (.ix (.var 19) (.neg (.int 1))) (.int 1)) .nil))) .nil
def b10_law : Ss := .cons (.ex (.mth .append (.var 16) (.cons (.var 20) .nil))) .nil
def b9_law : Ss := .cons (.ret (.bl false)) .nil
def b8_law : Ss := .cons (.ife (.cmp .isin (.var 20) (.var 16)) b9_law .nil) b10_law
def b7_law : Ss := .cons (.for_ (.nm 20) .seq (.cons (.var 19) .nil) b8_law) b11_law
def b6_law : Ss := .cons (.ret (.bl false)) .nil
def b5_law : Ss := .cons (.asg (.nm 19) (.call s_string (.cons (.var 4) (.cons (.var 11) (.cons (.var 18) .nil))))) (.cons (.ife (.not (.call s__law_string_right (.cons (.var 4) (.cons (.var 11) (.cons (.var 18) (.cons (.var 19) (.cons (.bin .mul (.var 6) (.blt .len (.cons (.var 13) .nil))) .nil))))))) b6_law .nil) b7_law)
def b4_law : Ss := .cons (.asg (.nm 16) (.lst .nil)) (.cons (.asg (.nm 17) (.lst .nil)) (.cons (.for_ (.nm 18) .seq (.cons (.var 14) .nil) b5_law) b12_law))
def b3_law : Ss := .cons (.ex (.mth .extend (.var 14) (.cons (.lc (.call s__law_numbered (.cons (.var 21) (.cons (.var 5) (.cons (.var 15) .nil)))) (.nm 21) [21] .rng (.cons (.var 5) .nil) .nil) .nil))) .nil
def b2_law : Ss := .cons (.asg (.nm 14) (.lst .nil)) (.cons (.for_ (.nm 15) .seq (.cons (.var 13) .nil) b3_law) b4_law)
def b1_law : Ss := .cons (.ex (.mth .append (.var 13) (.cons (.call s__law_flipped (.cons (.var 12) .nil)) .nil))) .nil
def b0_law : Ss := .cons (.asg (.nm 1) (.call s__law_deck (.cons (.var 0) .nil))) (.cons (.asg (.nm 2) (.call s__law_name (.cons (.call s__law_next (.cons (.var 1) (.cons (.bin .pow (.int 10) (.int 9)) .nil))) (.cons (.int 0) .nil)))) (.cons (.asg (.nm 3) (.call s__law_name (.cons (.call s__law_next (.cons (.var 1) (.cons (.bin .pow (.int 10) (.int 9)) .nil))) (.cons (.int 1) .nil)))) (.cons (.asg (.nm 4) (.call s__law_book (.cons (.var 2) (.cons (.var 3) .nil)))) (.cons (.asg (.nm 5) (.bin .add (.int 1) (.call s__law_next (.cons (.var 1) (.cons (.int 5) .nil))))) (.cons (.asg (.nm 6) (.call s__law_next (.cons (.var 1) (.cons (.int 6) .nil)))) (.cons (.asg (.nm 7) (.call s__law_order (.cons (.var 1) (.cons (.bin .add (.var 5) (.var 6)) .nil)))) (.cons (.asg (.nm 8) (.call s__law_order (.cons (.var 1) (.cons (.var 6) .nil)))) (.cons (.asg (.nm 9) (.call s__law_rows (.cons (.var 7) (.cons (.lc (.call s__law_next (.cons (.var 1) (.cons (.int 2) .nil))) (.nm 21) [21] .rng (.cons (.bin .add (.var 5) (.var 6)) .nil) .nil) (.cons (.var 5) (.cons (.var 6) (.cons (.var 3) .nil))))))) (.cons (.asg (.nm 10) (.call s__law_plain_rows (.cons (.var 8) (.cons (.lc (.call s__law_next (.cons (.var 1) (.cons (.int 2) .nil))) (.nm 21) [21] .rng (.cons (.var 6) .nil) .nil) (.cons (.var 3) .nil))))) (.cons (.asg (.nm 11) (.tup (.cons (.str s_off) (.cons (.call s__law_kind (.cons (.var 6) (.cons (.var 2) .nil))) (.cons (.call s__law_kind (.cons (.var 6) (.cons (.var 2) .nil))) (.cons (.var 9) (.cons (.var 10) .nil))))))) (.cons (.asg (.nm 12) (.call s__law_leafy (.cons (.var 1) (.cons (.int 2) .nil)))) (.cons (.asg (.nm 13) (.lst (.cons (.var 12) .nil))) (.cons (.ife (.cmp .ne (.call s__law_flipped (.cons (.var 12) .nil)) (.var 12)) b1_law .nil) b2_law)))))))))))))
def fd_law : FD := ⟨1, 22, b0_law⟩  -- 0:script 1:deck 2:rule 3:flip 4:book 5:left 6:right 7:order 8:second 9:one 10:other 11:off 12:tree 13:trees 14:things 15:some 16:seen 17:ends 18:thing 19:beads 20:bead 21:k
def prog : List (Sx × FD) := [(s_taken, fd_taken), (s_put, fd_put), (s_left_of, fd_left_of), (s_ways_in, fd_ways_in), (s_by_cases, fd_by_cases), (s_by_off, fd_by_off), (s_by_two, fd_by_two), (s_sent_by, fd_sent_by), (s_forth, fd_forth), (s_back, fd_back), (s_string, fd_string), (s__law_deck, fd_law_deck), (s__law_next, fd_law_next), (s__law_order, fd_law_order), (s__law_kind_of, fd_law_kind_of), (s__law_tagged, fd_law_tagged), (s__law_name, fd_law_name), (s__law_leafy, fd_law_leafy), (s__law_flipped, fd_law_flipped), (s__law_book, fd_law_book), (s__law_numbered, fd_law_numbered), (s__law_pattern, fd_law_pattern), (s__law_side, fd_law_side), (s__law_rows, fd_law_rows), (s__law_plain_rows, fd_law_plain_rows), (s__law_kind, fd_law_kind), (s__law_is_led, fd_law_is_led), (s__law_string_right, fd_law_string_right), (s_law, fd_law)]
end K44
end
section
namespace K44
open M
abbrev P := pOf prog
/-- a deck: a list of whole numbers -/
def IsDeck (p : Nat) (h : AH) : Prop := ∃ ns : List Int, h p = some (.lst (ns.map .int))
theorem IsDeck.ext {p : Nat} {h h' : AH} (d : IsDeck p h) (e : Ext h h') : IsDeck p h' := let ⟨ns, q⟩ := d; ⟨ns, e _ _ q⟩
theorem IsDeck.put {p r : Nat} {o : Ob} {h : AH} (d : IsDeck p h) (n : h r = none) : IsDeck p (up h r o) := d.ext (Ext.new n)
theorem IsDeck.ne {p r : Nat} {h : AH} (d : IsDeck p h) (n : h r = none) : r ≠ p := fun z => by
  subst z
  obtain ⟨ns, e⟩ := d
  rw [n] at e; cases e
theorem fresh_ke {p a : Nat} {h h' : AH} (x : Ke p h h') (d : IsDeck p h') (n : h' a = none) : h a = none := by
  cases e : h a with
  | none => rfl
  | some o =>
    exfalso
    have := x a o (d.ne n) e
    rw [n] at this; cases this
theorem next_ok {n p : Nat} {many : Int} {h : AH} {Q : VQ} {X : XP} (hd : IsDeck p h) (hm : 0 < many)
    (k : ∀ v h', 0 ≤ v → v < many → IsDeck p h' → Ke p h h' → Q (.int v) h') : run P (n + 1) s__law_next [.ref p, .int many] h Q X := by
  obtain ⟨ns, hp⟩ := hd
  refine run_of (fd := fd_law_next) rfl rfl ?_
  simp [fd_law_next, start, b0_law_next, b1_law_next, b2_law_next, len_lst hp]
  by_cases e : ns = []
  · simp only [e, decide_true]
    exact k 0 h (by omega) hm ⟨ns, hp⟩ .refl
  · simp only [e, decide_false]
    obtain ⟨a, r, rfl⟩ : ∃ a r, ns = a :: r := by cases ns with
      | nil => exact absurd rfl e
      | cons a r => exact ⟨a, r, rfl⟩
    refine ⟨recv_ok (by simp) (by simp) hp, ?_⟩
    rw [aLst_eq hp]
    simp
    exact ⟨hm, k _ _ (Int.emod_nonneg _ (by omega)) (Int.emod_lt_of_pos _ hm) ⟨r, up_same⟩ .put⟩
theorem atI_map {ns : List Int} {i : Int} (h0 : 0 ≤ i) (h1 : i < ns.length) : ∃ v, atI (ns.map D.int) i = some (.int v) := by
  refine ⟨ns[i.toNat]'(by omega), ?_⟩
  unfold atI
  rw [if_pos h0, List.getElem?_map, List.getElem?_eq_getElem (by omega)]
  rfl
theorem cut_map {ns : List Int} {lo hi : Option Int} : cut (ns.map D.int) lo hi = (cut ns lo hi).map .int := by
  simp [cut, List.map_take, List.map_drop]
/-- the deck's loops: names, the list so far -/
def DkInv (h : AH) (sc : List Int) (p i : Nat) : St → AH → Prop := fun σ h' => ∃ (ds : List Int) (a b c : Option D), σ = [some (.rol (sc.map .int)), some (.ref p), a, b, c] ∧ h' p = some (.lst (ds.map D.int)) ∧ Ext h h' ∧ ds.length ≤ i
def DkIn (h : AH) (sc : List Int) (p r i : Nat) (cell : Int) (j : Nat) : St → AH → Prop := fun σ h' => ∃ (m : Int) (ds : List Int) (a : Option D), σ = [some (.rol (sc.map .int)), some (.ref p), a, some (.int cell), some (.int m)] ∧ h' p = some (.lst (ds.map D.int)) ∧ Ext h h' ∧ ds.length ≤ 60 * i + j ∧ h' r = some (.lst ((cut sc (some 1) (some 63)).map .int))
theorem app_ok {h0 h : AH} {p : Nat} {ds : List Int} {v : Int} (hp : h p = some (.lst (ds.map D.int))) (hn : h0 p = none) (ex : Ext h0 h) : (up h p (.lst (ds.map D.int ++ [.int v]))) p = some (.lst ((ds ++ [v]).map D.int)) ∧ Ext h0 (up h p (.lst (ds.map D.int ++ [.int v]))) := by
  refine ⟨by rw [up_same]; simp, ?_⟩
  exact ex.mut hn .put
theorem deck_ok {n : Nat} {ns : List Int} {h : AH} {Q : VQ} {X : XP} (k : ∀ p h', h p = none → Ext h h' → IsDeck p h' → Q (.ref p) h') : run P (n + 1) s__law_deck [.rol (ns.map .int)] h Q X := by
  refine run_of (fd := fd_law_deck) rfl rfl ?_
  simp [fd_law_deck, start, b0_law_deck]
  intro p hp
  have tail : ∀ h1 (R : Ends), R.rt = Q → Ext h h1 → IsDeck p h1 → ∀ a b c, h1 p = some (.lst []) → wSs ⟨run P n, X⟩ b6_law_deck R [some (.rol (ns.map .int)), some (.ref p), a, b, c] h1 := by
    intro h1 R hR ex hd a b c h0
    simp [b6_law_deck]
    refine loop_rng (fun i => DkInv h ns p i) ⟨[], a, b, c, rfl, h0, ex, Nat.le_refl _⟩ (fun _ _ _ _ => trivial) ?_ ?_
    · rintro i σ h' hi ⟨ds, a, b, c, rfl, hp', ex', hz⟩
      have cont : ∀ (cell : Int) (B : St → AH → Prop), 0 ≤ cell → cell < 2147483629 * 2 → wSs ⟨run P n, X⟩ b9_law_deck { nx := DkInv h ns p (i + 1), ct := DkInv h ns p (i + 1), bk := B, rt := R.rt } [some (.rol (ns.map .int)), some (.ref p), some (.int i), some (.int cell), c] h' := by
        intro cell B c0 c1
        simp [b9_law_deck]
        refine ⟨.inr (by omega), .inl (by omega), ?_⟩
        have m0 := Int.emod_nonneg (cell * 48271 + 7919 * ↑i + 13) (show (2147483629 : Int) ≠ 0 by decide)
        have m1 := Int.emod_lt_of_pos (cell * 48271 + 7919 * ↑i + 13) (show (0 : Int) < 2147483629 by decide)
        generalize (cell * 48271 + 7919 * ↑i + 13) % 2147483629 = m at m0 m1 ⊢
        refine ⟨by unfold divOk; omega, .inl (by omega), .inl (by omega), recv_ok (by simp) (by simp) hp', ?_⟩
        generalize (m * (m / 5 + ↑i) + 16807 * ↑i) % 2147483587 = m2
        refine ⟨.inr (by omega), by unfold divOk; omega, ?_⟩
        rw [aLst_eq hp']
        refine ⟨by simp [LINE]; omega, _, _, _, _, rfl, (app_ok hp' hp ex').1, (app_ok hp' hp ex').2, by simp; omega⟩
      simp [b7_law_deck, b8_law_deck]
      refine ⟨.inr (by omega), ?_⟩
      by_cases hn : ns = []
      · subst hn
        exact cont _ _ (by omega) (by omega)
      · have hpos : 0 < ns.length := List.length_pos_iff.mpr hn
        rw [decide_eq_true hpos]
        dsimp only
        have hm : 0 < (if (ns.length : Int) < 63 then (ns.length : Int) else 63) := by split <;> omega
        have hm2 : (if (ns.length : Int) < 63 then (ns.length : Int) else 63) ≤ ns.length := by split <;> omega
        refine ⟨hm, ?_⟩
        obtain ⟨v, hv⟩ := atI_map (ns := ns) (i := (i : Int) % if (ns.length : Int) < 63 then (ns.length : Int) else 63) (Int.emod_nonneg _ (by omega)) (Int.lt_of_lt_of_le (Int.emod_lt_of_pos _ hm) hm2)
        rw [hv]
        simp
        have m0 := Int.emod_nonneg v (show (2147483629 : Int) ≠ 0 by decide)
        have m1 := Int.emod_lt_of_pos v (show (0 : Int) < 2147483629 by decide)
        exact cont _ _ (by omega) (by omega)
    · rintro σ h' ⟨ds, a, b, c, rfl, hp', ex', hz⟩
      simp [b10_law_deck, hR]
      exact k p h' hp ex' ⟨ds, hp'⟩
  have odd : ∀ h1, Ext h h1 → h1 p = some (.lst []) → wSs ⟨run P n, X⟩ b1_law_deck { nx := fun σ' h' => wSs ⟨run P n, X⟩ b6_law_deck (RT Q) σ' h', rt := Q, bk := fun _ _ => False, ct := fun _ _ => False } [some (.rol (ns.map .int)), some (.ref p), none, none, none] h1 := by
    intro h1 ex h0
    simp [b1_law_deck]
    intro r hr
    have pr : p ≠ r := ne_new h0 hr
    rw [walk_lst up_same, cut_map]
    refine ⟨fun i σ h' => DkInv h ns p (60 * i) σ h' ∧ h' r = some (.lst ((cut ns (some 1) (some 63)).map .int)), ⟨⟨[], none, none, none, rfl, by rw [up_ne pr]; exact h0, ex.trans (Ext.new hr), Nat.le_refl _⟩, up_same⟩, fun i σ h' z => z.2, ?_, ?_⟩
    · rintro i x σ h' hx ⟨⟨ds, a, b, c, rfl, hp', ex', hz⟩, hr'⟩
      obtain ⟨cell, rfl⟩ : ∃ cell, x = .int cell := by
        rw [List.getElem?_map] at hx
        cases e : (cut ns (some 1) (some 63))[i]? with
        | none => rw [e] at hx; cases hx
        | some z => rw [e] at hx; exact ⟨z, (Option.some.inj hx).symm⟩
      have hi : i < 63 := by
        have := (List.getElem?_eq_some_iff.mp hx).1
        simp [cut, clip] at this
        omega
      simp [b2_law_deck]
      refine ⟨by unfold powOk; decide, ?_⟩
      refine loop_rng (fun j => DkIn h ns p r i cell j) ⟨_, ds, a, rfl, hp', ex', hz, hr'⟩ (fun _ _ _ _ => trivial) ?_ ?_
      · rintro j σ h2 hj ⟨m, ds, a, rfl, hp2, ex2, hz2, hr2⟩
        have done : ∀ B, wSs ⟨run P n, X⟩ b4_law_deck { nx := DkIn h ns p r i cell (j + 1), ct := DkIn h ns p r i cell (j + 1), rt := Q, bk := B } [some (.rol (ns.map .int)), some (.ref p), some (.int j), some (.int cell), some (.int m)] h2 := by
          intro B
          simp [b4_law_deck]
          refine ⟨recv_ok (by simp) (by simp) hp2, ?_⟩
          rw [aLst_eq hp2]
          refine ⟨by simp [LINE]; omega, by unfold divOk; omega, _, _, _, rfl, (app_ok hp2 hp ex2).1, (app_ok hp2 hp ex2).2, by simp; omega, ?_⟩
          rw [up_ne pr.symm]
          exact hr2
        have skip : DkIn h ns p r i cell (j + 1) [some (.rol (ns.map .int)), some (.ref p), some (.int j), some (.int cell), some (.int m)] h2 := ⟨m, ds, _, rfl, hp2, ex2, by omega, hr2⟩
        simp [b3_law_deck]
        by_cases e1 : j = 0
        · rw [decide_eq_true e1]
          exact done _
        · rw [decide_eq_false e1]
          by_cases e2 : 0 < m
          · rw [decide_eq_true e2]
            exact done _
          · rw [decide_eq_false e2]
            exact skip
      · rintro σ h2 ⟨m, ds, a, rfl, hp2, ex2, hz2, hr2⟩
        refine ⟨⟨ds, a, _, _, rfl, hp2, ex2, ?_⟩, hr2⟩
        simp at hz2
        omega
    · rintro σ h' ⟨⟨ds, a, b, c, rfl, hp', ex', hz⟩, hr'⟩
      simp [b5_law_deck]
      rw [sl_lst hp']
      intro q hq
      rw [cut_map]
      exact k q _ (fresh_back ex' hq) (ex'.trans (Ext.new hq)) ⟨_, up_same⟩
  have ex1 : Ext h (up h p (.lst [])) := Ext.new hp
  by_cases e1 : 1 < (ns.length : Int)
  · rw [decide_eq_true e1]
    dsimp only
    obtain ⟨v, hv⟩ := atI_map (ns := ns) (i := 0) (by omega) (by omega)
    rw [hv]
    simp
    by_cases e2 : v % 2 = 1
    · rw [decide_eq_true e2]
      exact odd _ ex1 up_same
    · rw [decide_eq_false e2]
      exact tail _ _ rfl ex1 ⟨[], up_same⟩ _ _ _ up_same
  · rw [decide_eq_false e1]
    exact tail _ _ rfl ex1 ⟨[], up_same⟩ _ _ _ up_same
/-! ### patterns and things -/
/-- a pattern; at an open place its name, and the way that stands there on the right -/
inductive Pat where
  | hole (nm : Sx) (w : D) | one | n (a : Pat) | l (a : Pat) | r (a : Pat) | p (a b : Pat)
inductive Th where
  | one | a (i : Int) | n (t : Th) | l (t : Th) | r (t : Th) | p (t u : Th)
abbrev qx : Sx := [120]
abbrev qone : Sx := [111, 110, 101]
abbrev qa : Sx := [97]
abbrev qn : Sx := [110]
abbrev ql : Sx := [108]
abbrev qr : Sx := [114]
abbrev qp : Sx := [112]
def encL : Pat → D
  | .hole nm _ => .tup [.str qx, .str nm]
  | .one => .tup [.str qone]
  | .n a => .tup [.str qn, encL a]
  | .l a => .tup [.str ql, encL a]
  | .r a => .tup [.str qr, encL a]
  | .p a b => .tup [.str qp, encL a, encL b]
def encR : Pat → D
  | .hole nm w => .tup [.str qx, .str nm, w]
  | .one => .tup [.str qone]
  | .n a => .tup [.str qn, encR a]
  | .l a => .tup [.str ql, encR a]
  | .r a => .tup [.str qr, encR a]
  | .p a b => .tup [.str qp, encR a, encR b]
def encT : Th → D
  | .one => .tup []
  | .a i => .tup [.str qa, .int i]
  | .n t => .tup [.str qn, encT t]
  | .l t => .tup [.str ql, encT t]
  | .r t => .tup [.str qr, encT t]
  | .p t u => .tup [.str qp, encT t, encT u]
def Pat.dp : Pat → Nat
  | .hole _ _ => 0
  | .one => 0
  | .n a => a.dp + 1
  | .l a => a.dp + 1
  | .r a => a.dp + 1
  | .p a b => max a.dp b.dp + 1
/-- what stands at the open places -/
def holes : Pat → List (Sx × D)
  | .hole nm w => [(nm, w)]
  | .one => []
  | .n a => holes a
  | .l a => holes a
  | .r a => holes a
  | .p a b => holes a ++ holes b
/-- whether a thing has a pattern's forms, and what stands at its open places -/
def tk : Pat → Th → Option (List (Sx × Th))
  | .hole nm _, t => some [(nm, t)]
  | .one, .one => some []
  | .n a, .n t => tk a t
  | .l a, .l t => tk a t
  | .r a, .r t => tk a t
  | .p a b, .p t u => (tk a t).bind fun x => (tk b u).map fun y => x ++ y
  | _, _ => none
def pt : Pat → (Sx → Th) → Th
  | .hole nm _, f => f nm
  | .one, _ => .one
  | .n a, f => .n (pt a f)
  | .l a, f => .l (pt a f)
  | .r a, f => .r (pt a f)
  | .p a b, f => .p (pt a f) (pt b f)
theorem at0 {x : D} {xs : List D} : atI (x :: xs) 0 = some x := rfl
theorem at1 {x y : D} {xs : List D} : atI (x :: y :: xs) 1 = some y := rfl
theorem at2' {x y z : D} {xs : List D} : atI (x :: y :: z :: xs) 2 = some z := rfl
theorem clipT {x : D} {xs : List D} : ¬ (clip (x :: xs).length 0 (some 1) = 0 ∧ clip (x :: xs).length (x :: xs).length none = (x :: xs).length) := by
  simp [clip]
theorem left_step {n : Nat} {X : XP} {s : Sx} (ns : s ≠ qx) {ds es : List D} (hl : ds.length ≤ 2) (al : All2 (fun d e => ∀ (h : AH) (Q : VQ), (∀ h', Ext h h' → Q e h') → run P n s_left_of [d] h Q X) ds es) {h : AH} {Q : VQ} (k : ∀ h', Ext h h' → Q (.tup (.str s :: es)) h') :
    run P (n + 1) s_left_of [.tup (.str s :: ds)] h Q X := by
  have ns2 : ¬ s = [120] := ns
  refine run_of (fd := fd_left_of) rfl rfl ?_
  simp [fd_left_of, start, b0_left_of, at0, ns2, b2_left_of, cut_1]
  refine ⟨by simp [LINE], by simp [clip], comp_unroll (by simp only [LINE]; omega) ?_⟩
  refine compU_go (h0 := h) _ (fun d e h2 yes no x R k => ?_) ds es 0 [] h al (Nat.le_refl _) .refl fun h' x r hr => ?_
  · exact R h2 _ k
  · rw [seq_lst up_same]
    have l := al.len
    refine ⟨by simp [LINE]; omega, ?_⟩
    exact k _ (x.trans (Ext.new hr))
theorem left_of_ok : ∀ (q : Pat) {m n : Nat} {h : AH} {Q : VQ} {X : XP}, q.dp < n → (∀ h', Ext h h' → Q (encL q) h') → run P n s_left_of [encR q] h Q X := by
  intro q
  induction q with
  | hole nm w =>
    intro m n h Q X hn k
    obtain ⟨n, rfl⟩ : ∃ j, n = j + 1 := ⟨n - 1, by omega⟩
    refine run_of (fd := fd_left_of) rfl rfl ?_
    simp [fd_left_of, start, b0_left_of, encR, at0, at1, b1_left_of]
    exact ⟨by simp [LINE], k h .refl⟩
  | one =>
    intro m n h Q X hn k
    obtain ⟨n, rfl⟩ : ∃ j, n = j + 1 := ⟨n - 1, by omega⟩
    exact left_step (by decide) (by simp) (ds := []) (es := []) trivial k
  | n a ih =>
    intro m n h Q X hn k
    obtain ⟨n, rfl⟩ : ∃ j, n = j + 1 := ⟨n - 1, by omega⟩
    exact left_step (by decide) (by simp) (ds := [encR a]) (es := [encL a]) ⟨fun h Q k => ih (m := 0) (by simp only [Pat.dp] at hn; omega) k, trivial⟩ k
  | l a ih =>
    intro m n h Q X hn k
    obtain ⟨n, rfl⟩ : ∃ j, n = j + 1 := ⟨n - 1, by omega⟩
    exact left_step (by decide) (by simp) (ds := [encR a]) (es := [encL a]) ⟨fun h Q k => ih (m := 0) (by simp only [Pat.dp] at hn; omega) k, trivial⟩ k
  | r a ih =>
    intro m n h Q X hn k
    obtain ⟨n, rfl⟩ : ∃ j, n = j + 1 := ⟨n - 1, by omega⟩
    exact left_step (by decide) (by simp) (ds := [encR a]) (es := [encL a]) ⟨fun h Q k => ih (m := 0) (by simp only [Pat.dp] at hn; omega) k, trivial⟩ k
  | p a b iha ihb =>
    intro m n h Q X hn k
    obtain ⟨n, rfl⟩ : ∃ j, n = j + 1 := ⟨n - 1, by omega⟩
    exact left_step (by decide) (by simp) (ds := [encR a, encR b]) (es := [encL a, encL b]) ⟨fun h Q k => iha (m := 0) (by simp only [Pat.dp] at hn; omega) k, fun h Q k => ihb (m := 0) (by simp only [Pat.dp] at hn; omega) k, trivial⟩ k
theorem put_step {n : Nat} {X : XP} {s : Sx} (ns : s ≠ qx) (no : s ≠ qone) {ds es : List D} {q : Nat} {o : Ob} (hl : ds.length ≤ 2) (h0 : ds ≠ []) (al : All2 (fun d e => ∀ (h : AH) (Q : VQ), h q = some o → (∀ h', Ext h h' → Q e h') → run P n s_put [d, .ref q] h Q X) ds es) {h : AH} {Q : VQ} (hq : h q = some o) (k : ∀ h', Ext h h' → Q (.tup (.str s :: es)) h') :
    run P (n + 1) s_put [.tup (.str s :: ds), .ref q] h Q X := by
  have ns2 : ¬ s = [120] := ns
  have no2 : ¬ s = [111, 110, 101] := no
  have hl0 : 0 < ds.length := List.length_pos_iff.mpr h0
  refine run_of (fd := fd_put) rfl rfl ?_
  simp [fd_put, start, b0_put, at0, ns2, b2_put, no2, b4_put, cut_1, cut_h1]
  refine ⟨by simp [clip]; omega, by simp [clip], comp_unroll (by simp only [LINE]; omega) ?_⟩
  refine compU_go (h0 := h) _ (fun d e h2 yes no x R k => ?_) ds es 0 [] h al (Nat.le_refl _) .refl fun h' x r hr => ?_
  · exact R h2 _ (x _ _ hq) k
  · rw [seq_lst up_same]
    have l := al.len
    refine ⟨by simp [LINE]; omega, ?_⟩
    exact k _ (x.trans (Ext.new hr))
theorem put_ok {kvs : List (D × D)} {f : Sx → Th} {r : Nat} : ∀ (q : Pat) {n : Nat} {h : AH} {Q : VQ} {X : XP}, q.dp < n → h r = some (.dct 0 kvs) → (∀ nm w, (nm, w) ∈ holes q → kvGet kvs (.str nm) = some (encT (f nm))) → (∀ h', Ext h h' → Q (encT (pt q f)) h') → run P n s_put [encL q, .ref r] h Q X := by
  intro q
  induction q with
  | hole nm w =>
    intro n h Q X hn hr hkW k
    obtain ⟨n, rfl⟩ : ∃ j, n = j + 1 := ⟨n - 1, by omega⟩
    refine run_of (fd := fd_put) rfl rfl ?_
    simp [fd_put, start, b0_put, encL, at0, at1, b1_put]
    rw [ix_dct hr, hkW nm w (by simp [holes])]
    exact ⟨rfl, k h .refl⟩
  | one =>
    intro n h Q X hn hr hkW k
    obtain ⟨n, rfl⟩ : ∃ j, n = j + 1 := ⟨n - 1, by omega⟩
    refine run_of (fd := fd_put) rfl rfl ?_
    simp [fd_put, start, b0_put, encL, at0, at1, b2_put, b3_put]
    exact k h .refl
  | n a ih =>
    intro n h Q X hn hr hkW k
    obtain ⟨n, rfl⟩ : ∃ j, n = j + 1 := ⟨n - 1, by omega⟩
    exact put_step (by decide) (by decide) (ds := [encL a]) (es := [encT (pt a f)]) (by simp) (by simp) ⟨fun h Q hr k => ih (by simp only [Pat.dp] at hn; omega) hr (fun nm w z => hkW nm w (by simpa only [holes] using z)) k, trivial⟩ hr k
  | l a ih =>
    intro n h Q X hn hr hkW k
    obtain ⟨n, rfl⟩ : ∃ j, n = j + 1 := ⟨n - 1, by omega⟩
    exact put_step (by decide) (by decide) (ds := [encL a]) (es := [encT (pt a f)]) (by simp) (by simp) ⟨fun h Q hr k => ih (by simp only [Pat.dp] at hn; omega) hr (fun nm w z => hkW nm w (by simpa only [holes] using z)) k, trivial⟩ hr k
  | r a ih =>
    intro n h Q X hn hr hkW k
    obtain ⟨n, rfl⟩ : ∃ j, n = j + 1 := ⟨n - 1, by omega⟩
    exact put_step (by decide) (by decide) (ds := [encL a]) (es := [encT (pt a f)]) (by simp) (by simp) ⟨fun h Q hr k => ih (by simp only [Pat.dp] at hn; omega) hr (fun nm w z => hkW nm w (by simpa only [holes] using z)) k, trivial⟩ hr k
  | p a b iha ihb =>
    intro n h Q X hn hr hkW k
    obtain ⟨n, rfl⟩ : ∃ j, n = j + 1 := ⟨n - 1, by omega⟩
    exact put_step (by decide) (by decide) (ds := [encL a, encL b]) (es := [encT (pt a f), encT (pt b f)]) (by simp) (by simp) ⟨fun h Q hr k => iha (by simp only [Pat.dp] at hn; omega) hr (fun nm w z => hkW nm w (by simp only [holes, List.mem_append]; exact .inl z)) k, fun h Q hr k => ihb (by simp only [Pat.dp] at hn; omega) hr (fun nm w z => hkW nm w (by simp only [holes, List.mem_append]; exact .inr z)) k, trivial⟩ hr k
/-! ### the ways of a pattern -/
def hkW (l : List (Sx × D)) : List (D × D) := l.map fun x => (.str x.1, x.2)
theorem hkW_nodup {l : List (Sx × D)} (nd : (l.map (·.1)).Nodup) : ((hkW l).map (·.1)).Nodup := by
  unfold hkW
  rw [List.map_map, show ((fun x : D × D => x.1) ∘ fun x : Sx × D => (D.str x.1, x.2)) = (D.str ∘ fun x : Sx × D => x.1) from rfl, ← List.map_map]
  exact List.pairwise_map.mpr (List.Pairwise.imp (fun {a b} h e => h (by injection e)) nd)
def WaysSpec (n : Nat) (q : Pat) : Prop := ∀ ⦃h : AH⦄ ⦃Q : VQ⦄ ⦃X : XP⦄, (∀ r h', h r = none → Ext h h' → h' r = some (.dct 0 (hkW (holes q))) → Q (.ref r) h') → run P n s_ways_in [encR q] h Q X
theorem ways_step {n : Nat} {s : Sx} (ns : s ≠ qx) {qs : List Pat} (al : ∀ q, q ∈ qs → WaysSpec n q) (nd : ((qs.flatMap holes).map (·.1)).Nodup) (hz : (qs.flatMap holes).length ≤ 1000) {h : AH} {Q : VQ} {X : XP}
    (k : ∀ r h', h r = none → Ext h h' → h' r = some (.dct 0 (hkW (qs.flatMap holes))) → Q (.ref r) h') : run P (n + 1) s_ways_in [.tup (.str s :: qs.map encR)] h Q X := by
  have ns2 : ¬ s = [120] := ns
  refine run_of (fd := fd_ways_in) rfl rfl ?_
  simp [fd_ways_in, start, b0_ways_in, at0, ns2, b2_ways_in, cut_1]
  intro r hr
  refine ⟨by simp [clip], loop_unroll ?_⟩
  have stepL : ∀ (N B : St → AH → Prop) (done rest : List Pat) (q : Pat) (x : Option D) (h' : AH), done ++ q :: rest = qs → Ext h h' → h' r = some (.dct 0 (hkW (done.flatMap holes))) →
      (∀ h2, Ext h h2 → h2 r = some (.dct 0 (hkW ((done ++ [q]).flatMap holes))) → N [some (.tup (.str s :: qs.map encR)), some (.ref r), some (encR q)] h2) →
      wSs ⟨run P n, X⟩ b3_ways_in { nx := N, rt := Q, bk := B, ct := N } [some (.tup (.str s :: qs.map encR)), some (.ref r), some (encR q)] h' := by
    intro N B done rest q x h' e ex hr' kN
    simp [b3_ways_in]
    refine ⟨recv_dct rfl hr', al q (by rw [← e]; simp) fun r2 h2 hn2 ex2 hr2 => ?_⟩
    have hr3 := ex2 _ _ hr'
    rw [aDct_eq hr3, aDct_eq hr2]
    have sub : ((done ++ [q]).flatMap holes).Sublist (qs.flatMap holes) := by
      rw [← e]
      simp
    have nd2 : (((done ++ [q]).flatMap holes).map (·.1)).Nodup := List.Nodup.sublist (sub.map _) nd
    have eq : mergeL (hkW (done.flatMap holes)) (hkW (holes q)) = hkW ((done ++ [q]).flatMap holes) := by
      rw [mergeL_new]
      · simp [hkW]
      · have := hkW_nodup nd2
        simpa [hkW] using this
    have l2 : ((done ++ [q]).flatMap holes).length ≤ 1000 := Nat.le_trans sub.length_le hz
    refine ⟨ne_new hr' hn2, rfl, rfl, by simp [hkW, LINE] at l2 ⊢; omega, ?_⟩
    rw [eq]
    exact kN _ ((ex.trans ex2).mut hr Ke.put) up_same
  have key : ∀ (rest done : List Pat) (x : Option D) (h' : AH), done ++ rest = qs → Ext h h' → h' r = some (.dct 0 (hkW (done.flatMap holes))) →
      loopU (fun _ => True) (fun x σ h P' => wSs ⟨run P n, X⟩ b3_ways_in { nx := P', rt := Q, bk := fun σ' h' => wSs ⟨run P n, X⟩ b4_ways_in (RT Q) σ' h', ct := P' } (σ.set 2 (some x)) h) (fun σ' h' => wSs ⟨run P n, X⟩ b4_ways_in (RT Q) σ' h') (rest.map encR) [some (.tup (.str s :: qs.map encR)), some (.ref r), x] h' := by
    intro rest
    induction rest with
    | nil =>
      intro done x h' e ex hr'
      refine ⟨trivial, ?_⟩
      simp [b4_ways_in]
      rw [List.append_nil] at e
      subst e
      exact k r h' hr ex hr'
    | cons q rest ih =>
      intro done x h' e ex hr'
      exact ⟨trivial, stepL _ _ done rest q x h' e ex hr' fun h2 ex2 hr2 => ih (done ++ [q]) _ h2 (by rw [← e]; simp) ex2 hr2⟩
  exact key qs [] none _ rfl (Ext.new hr) up_same
theorem ways_ok : ∀ (q : Pat) {n : Nat}, q.dp < n → ((holes q).map (·.1)).Nodup → (holes q).length ≤ 1000 → WaysSpec n q := by
  intro q
  induction q with
  | hole nm w =>
    intro n hn nd hz h Q X k
    obtain ⟨n, rfl⟩ : ∃ j, n = j + 1 := ⟨n - 1, by omega⟩
    refine run_of (fd := fd_ways_in) rfl rfl ?_
    simp [fd_ways_in, start, b0_ways_in, encR, at0, at1, at2', b1_ways_in]
    intro r hr
    refine ⟨up_same, ?_⟩
    simp [pairUp, keysOk, keyOk, mergeL, up_up]
    exact k r _ hr (Ext.new hr) (by rw [up_same]; rfl)
  | one =>
    intro n hn nd hz h Q X k
    obtain ⟨n, rfl⟩ : ∃ j, n = j + 1 := ⟨n - 1, by omega⟩
    exact ways_step (s := qone) (by decide) (qs := []) (fun q hq => nomatch hq) nd hz k
  | n a ih =>
    intro n hn nd hz h Q X k
    obtain ⟨n, rfl⟩ : ∃ j, n = j + 1 := ⟨n - 1, by omega⟩
    have e : [a].flatMap holes = holes a := by simp
    exact ways_step (s := qn) (by decide) (qs := [a]) (fun q hq => by simp at hq; subst hq; exact ih (by simp only [Pat.dp] at hn; omega) nd hz) (by rw [e]; exact nd) (by rw [e]; exact hz) (by rw [e]; exact k)
  | l a ih =>
    intro n hn nd hz h Q X k
    obtain ⟨n, rfl⟩ : ∃ j, n = j + 1 := ⟨n - 1, by omega⟩
    have e : [a].flatMap holes = holes a := by simp
    exact ways_step (s := ql) (by decide) (qs := [a]) (fun q hq => by simp at hq; subst hq; exact ih (by simp only [Pat.dp] at hn; omega) nd hz) (by rw [e]; exact nd) (by rw [e]; exact hz) (by rw [e]; exact k)
  | r a ih =>
    intro n hn nd hz h Q X k
    obtain ⟨n, rfl⟩ : ∃ j, n = j + 1 := ⟨n - 1, by omega⟩
    have e : [a].flatMap holes = holes a := by simp
    exact ways_step (s := qr) (by decide) (qs := [a]) (fun q hq => by simp at hq; subst hq; exact ih (by simp only [Pat.dp] at hn; omega) nd hz) (by rw [e]; exact nd) (by rw [e]; exact hz) (by rw [e]; exact k)
  | p a b iha ihb =>
    intro n hn nd hz h Q X k
    obtain ⟨n, rfl⟩ : ∃ j, n = j + 1 := ⟨n - 1, by omega⟩
    have e : [a, b].flatMap holes = holes a ++ holes b := by simp
    have nd1 : ((holes a ++ holes b).map (·.1)).Nodup := nd
    have nda := List.Nodup.sublist ((List.sublist_append_left (holes a) (holes b)).map _) nd1
    have ndb := List.Nodup.sublist ((List.sublist_append_right (holes a) (holes b)).map _) nd1
    have hz1 : (holes a ++ holes b).length ≤ 1000 := hz
    simp only [List.length_append] at hz1
    refine ways_step (s := qp) (by decide) (qs := [a, b]) (fun q hq => ?_) (by rw [e]; exact nd) (by rw [e]; exact hz) (by rw [e]; exact k)
    simp only [List.mem_cons, List.not_mem_nil, or_false] at hq
    rcases hq with rfl | rfl
    · exact iha (by simp only [Pat.dp] at hn; omega) nda (by omega)
    · exact ihb (by simp only [Pat.dp] at hn; omega) ndb (by omega)
/-! ### a thing taken by a pattern -/
def tkB : Pat → Th → Option (List (Sx × Th))
  | .hole nm _, t => some [(nm, t)]
  | .one, .one => some []
  | .n a, .n t => tkB a t
  | .l a, .l t => tkB a t
  | .r a, .r t => tkB a t
  | .p a b, .p t u => (tkB b u).bind fun y => (tkB a t).bind fun x => some (y ++ x)
  | _, _ => none
def tkL : List (Pat × Th) → List (Sx × Th) → Option (List (Sx × Th))
  | [], acc => some acc
  | (q, t) :: s, acc => (tkB q t).bind fun l => tkL s (acc ++ l)
def szP : Pat → Nat
  | .hole _ _ => 1
  | .one => 1
  | .n a => szP a + 1
  | .l a => szP a + 1
  | .r a => szP a + 1
  | .p a b => szP a + szP b + 1
theorem szP_pos (q : Pat) : 0 < szP q := by cases q <;> simp [szP]
theorem encT_pure : ∀ t : Th, pureD (encT t) = true
  | .one => by simp [encT, pureD, pureDs]
  | .a i => by simp [encT, pureD, pureDs]
  | .n t => by simp [encT, pureD, pureDs, encT_pure t]
  | .l t => by simp [encT, pureD, pureDs, encT_pure t]
  | .r t => by simp [encT, pureD, pureDs, encT_pure t]
  | .p t u => by simp [encT, pureD, pureDs, encT_pure t, encT_pure u]
def hkT (l : List (Sx × Th)) : List (D × D) := l.map fun x => (.str x.1, encT x.2)
def prD (x : Pat × Th) : D := .tup [encL x.1, encT x.2]
def stkSz (s : List (Pat × Th)) : Nat := (s.map fun x => szP x.1).sum
theorem stkSz_len (s : List (Pat × Th)) : s.length ≤ stkSz s := by
  induction s with
  | nil => exact Nat.le_refl _
  | cons x s ih =>
    have := szP_pos x.1
    simp only [stkSz, List.map_cons, List.sum_cons, List.length_cons] at ih ⊢
    omega
def stkNm (s : List (Pat × Th)) : List Sx := s.flatMap fun x => (holes x.1).map (·.1)
structure TkI (h0 : AH) (f p : Nat) (res : Option (List (Sx × Th))) (stk : List (Pat × Th)) (acc : List (Sx × Th)) (h : AH) : Prop where
  fd : h f = some (.dct 0 (hkT acc))
  pd : h p = some (.lst (stk.reverse.map prD))
  ne : f ≠ p
  sz : acc.length + stkSz stk ≤ 1000
  rs : tkL stk acc = res
  nd : (acc.map (·.1) ++ stkNm stk).Nodup
  ex : Ext h0 h
  f0 : h0 f = none
  p0 : h0 p = none
def TkW (h0 : AH) (f p : Nat) (q0 t0 : D) (res : Option (List (Sx × Th))) (m : Nat) : St → AH → Prop := fun σ h => ∃ stk acc x y, σ = [some q0, some t0, some (.ref f), some (.ref p), x, y] ∧ m = stkSz stk ∧ TkI h0 f p res stk acc h
theorem TkI.push {h0 : AH} {f p : Nat} {res : Option (List (Sx × Th))} {q : Pat} {t : Th} {s new : List (Pat × Th)} {acc : List (Sx × Th)} {h h2 : AH} (i : TkI h0 f p res ((q, t) :: s) acc h) (e : tkL (new ++ s) acc = tkL ((q, t) :: s) acc) (z : stkSz new + 1 ≤ szP q) (pm : (stkNm new).Perm ((holes q).map (·.1)))
    (h2f : h2 f = some (.dct 0 (hkT acc))) (h2p : h2 p = some (.lst ((new ++ s).reverse.map prD))) (ex : Ext h0 h2) : TkI h0 f p res (new ++ s) acc h2 ∧ stkSz (new ++ s) < stkSz ((q, t) :: s) := by
  have s1 : stkSz (new ++ s) = stkSz new + stkSz s := by simp [stkSz]
  have s2 : stkSz ((q, t) :: s) = szP q + stkSz s := by simp [stkSz]
  have sz := i.sz
  refine ⟨⟨h2f, h2p, i.ne, by omega, e.trans i.rs, ?_, ex, i.f0, i.p0⟩, by omega⟩
  have nd := i.nd
  have e1 : stkNm ((q, t) :: s) = (holes q).map (·.1) ++ stkNm s := by simp [stkNm]
  have e2 : stkNm (new ++ s) = stkNm new ++ stkNm s := by simp [stkNm]
  rw [e1] at nd
  rw [e2]
  exact (List.Perm.nodup_iff (List.Perm.append_left _ (List.Perm.append_right _ pm))).mpr nd
theorem TkI.drop {h0 : AH} {f p : Nat} {res : Option (List (Sx × Th))} {q : Pat} {t : Th} {s : List (Pat × Th)} {acc : List (Sx × Th)} {h : AH} (i : TkI h0 f p res ((q, t) :: s) acc h) : Ext h0 (up h p (.lst (s.reverse.map prD))) := i.ex.mut i.p0 Ke.put
/-- a form of a pattern against a thing -/
theorem taken_form {n : Nat} {X : XP} {h0 : AH} {f p : Nat} {res : Option (List (Sx × Th))} {q : Pat} {t : Th} {s : List (Pat × Th)} {acc : List (Sx × Th)} {h1 : AH} {Q : VQ} {N B : St → AH → Prop} {q0 t0 : D} (i : TkI h0 f p res ((q, t) :: s) acc h1)
    (kn : res = none → ∀ h', Ext h0 h' → Q .non h') (k : ∀ stk acc x y h2, TkI h0 f p res stk acc h2 → stkSz stk < stkSz ((q, t) :: s) → N [some q0, some t0, some (.ref f), some (.ref p), x, y] h2)
    {g : Sx} {ds : List D} (eq : encL q = .tup (.str g :: ds)) (gx : g ≠ qx) (go : g ≠ qone)
    (no : (t = .one ∨ ∃ g' es, encT t = .tup (.str g' :: es) ∧ g' ≠ g) ∧ tkB q t = none ∨ ∃ es new, encT t = .tup (.str g :: es) ∧ zipL ds es = new.reverse.map prD ∧ new.length ≤ 2 ∧ tkL (new ++ s) acc = tkL ((q, t) :: s) acc ∧ stkSz new + 1 ≤ szP q ∧ (stkNm new).Perm ((holes q).map (·.1))) :
    wSs ⟨run P n, X⟩ b3_taken { nx := N, ct := N, bk := B, rt := Q } [some q0, some t0, some (.ref f), some (.ref p), some (encL q), some (encT t)] (up h1 p (.lst (s.reverse.map prD))) := by
  have go2 : ¬ g = [111, 110, 101] := go
  have pu := encT_pure t
  rw [eq]
  simp [b3_taken, at0, go2, b6_taken]
  have nil : pureD (.tup []) = true ∧ plain 190 (.tup []) = true := ⟨by simp [pureD, pureDs], by simp [plain, plains]⟩
  refine eq_pureX pu nil.1 (.inr nil.2) ?_
  rcases no with ⟨no, tn⟩ | ⟨es, new, e1, e2, e3, e4, e5, e6⟩
  · have rn : res = none := by rw [← i.rs]; simp [tkL, tn]
    rcases no with rfl | ⟨g', es, e1, ne⟩
    · simp [encT, b7_taken]
      exact kn rn _ (by simpa using i.drop)
    · rw [e1]
      simp [at0, ne, b7_taken]
      exact kn rn _ (by simpa using i.drop)
  · rw [e1]
    simp [at0, b8_taken]
    have rc : recvOk .extend (.ref p) (up h1 p (.lst (s.reverse.map prD))) := recv_lstM rfl up_same
    simp only [List.map_reverse] at rc
    refine ⟨rc, by simp [clip], by simp [clip], fun z hz => ?_⟩
    rw [cut_1, cut_1, e2]
    have zp : p ≠ z := ne_new up_same hz
    rw [aLst_eq (by rw [up_ne zp]; exact up_same), aLst_eq up_same]
    have sz := i.sz
    have sl := stkSz_len ((q, t) :: s)
    simp only [List.length_cons] at sl
    refine ⟨by simp [LINE]; omega, ?_⟩
    have zf : f ≠ z := by
      refine ne_new (h := up h1 p (.lst (s.reverse.map prD))) (o := .dct 0 (hkT acc)) ?_ (by simpa using hz)
      rw [up_ne i.ne]; exact i.fd
    have fin := i.push (new := new) (h2 := up (up (up h1 p (.lst (s.reverse.map prD))) z (.lst (new.reverse.map prD))) p (.lst (s.reverse.map prD ++ new.reverse.map prD))) e4 e5 e6 (by rw [up_ne i.ne, up_ne zf, up_ne i.ne]; exact i.fd) (by rw [up_same]; simp) ((i.drop.trans (Ext.new (by simpa using hz))).mut i.p0 Ke.put)
    have := k _ _ (some (.tup (.str g :: ds))) (some (.tup (.str g :: es))) _ fin.1 fin.2
    simpa using this
theorem taken_body {n : Nat} {X : XP} {h0 : AH} {f p : Nat} {res : Option (List (Sx × Th))} {q : Pat} {t : Th} {s : List (Pat × Th)} {acc : List (Sx × Th)} {h1 : AH} {Q : VQ} {N B : St → AH → Prop} {q0 t0 : D} {x y : Option D} (i : TkI h0 f p res ((q, t) :: s) acc h1)
    (kn : res = none → ∀ h', Ext h0 h' → Q .non h') (k : ∀ stk acc x y h2, TkI h0 f p res stk acc h2 → stkSz stk < stkSz ((q, t) :: s) → N [some q0, some t0, some (.ref f), some (.ref p), x, y] h2) :
    wSs ⟨run P n, X⟩ b1_taken { nx := N, ct := N, bk := B, rt := Q } [some q0, some t0, some (.ref f), some (.ref p), x, y] h1 := by
  have xs : ((q, t) :: s).reverse.map prD = s.reverse.map prD ++ [prD (q, t)] := by simp
  have pd : h1 p = some (.lst (s.reverse.map prD ++ [prD (q, t)])) := by rw [← xs]; exact i.pd
  have last : (s.reverse.map prD ++ [prD (q, t)])[(s.reverse.map prD ++ [prD (q, t)]).length - 1]? = some (prD (q, t)) := by simp
  have dl : (s.reverse.map prD ++ [prD (q, t)]).dropLast = s.reverse.map prD := by simp
  have szd : stkSz ((q, t) :: s) = szP q + stkSz s := by simp [stkSz]
  have qpos := szP_pos q
  have fdp : up h1 p (.lst (s.reverse.map prD)) f = some (.dct 0 (hkT acc)) := by rw [up_ne i.ne]; exact i.fd
  have form : ∀ {g : Sx} {ds : List D}, encL q = .tup (.str g :: ds) → g ≠ qx → wSs ⟨run P n, X⟩ b3_taken { nx := N, ct := N, bk := B, rt := Q } [some q0, some t0, some (.ref f), some (.ref p), some (encL q), some (encT t)] (up h1 p (.lst (s.reverse.map prD))) → wSs ⟨run P n, X⟩ b1_taken { nx := N, ct := N, bk := B, rt := Q } [some q0, some t0, some (.ref f), some (.ref p), x, y] h1 := by
    intro g ds eq gx kk
    have gx2 : ¬ g = [120] := gx
    simp only [b1_taken, wSs_cons, wS_asg, wE_mth, wE_var, wEs_nil, mth_pop, List.getElem?_cons_succ, List.getElem?_cons_zero]
    refine ⟨recv_lstM rfl pd, ?_⟩
    rw [aLst_eq pd, last, dl]
    simp only [aSome_eq, prD, setT_tp, setTs_cons, setTs_nil, List.set_cons_succ, List.set_cons_zero]
    rw [eq] at kk ⊢
    simp only [wS_ife, wE_cmp, wE_ix, wE_var, wE_int, wE_str, List.getElem?_cons_succ, List.getElem?_cons_zero, ix_tup, at0, cmp_eq, eqX_str]
    rw [decide_eq_false gx]
    exact kk
  have pick : ∀ {new : List (Pat × Th)}, tkL (new ++ s) acc = tkL ((q, t) :: s) acc → stkSz new + 1 ≤ szP q → (stkNm new).Perm ((holes q).map (·.1)) → True := fun _ _ _ => trivial
  cases q with
  | hole nm w =>
    simp only [b1_taken, wSs_cons, wS_asg, wE_mth, wE_var, wEs_nil, mth_pop, List.getElem?_cons_succ, List.getElem?_cons_zero]
    refine ⟨recv_lstM rfl pd, ?_⟩
    rw [aLst_eq pd, last, dl]
    simp only [aSome_eq, prD, setT_tp, setTs_cons, setTs_nil, List.set_cons_succ, List.set_cons_zero, encL]
    simp only [wS_ife, wE_cmp, wE_ix, wE_var, wE_int, wE_str, List.getElem?_cons_succ, List.getElem?_cons_zero, ix_tup, at0, cmp_eq, eqX_str]
    rw [decide_eq_true trivial]
    simp only [b2_taken, wSs_cons, wS_six, wE_var, wE_ix, wE_int, List.getElem?_cons_succ, List.getElem?_cons_zero, ix_tup, at1, wSs_nil]
    rw [set_dct fdp]
    have sz := i.sz
    have nd := i.nd
    have e1 : stkNm ((Pat.hole nm w, t) :: s) = nm :: stkNm s := by simp [stkNm, holes]
    rw [e1] at nd
    have new : ∀ kv, kv ∈ hkT acc → kv.1 ≠ .str nm := by
      intro kv hm e
      obtain ⟨⟨a, b⟩, hm2, rfl⟩ := List.mem_map.mp hm
      have ea : a = nm := by injection e
      rw [List.nodup_append] at nd
      exact nd.2.2 a (List.mem_map.mpr ⟨(a, b), hm2, rfl⟩) nm (by simp) ea
    rw [szd] at sz
    simp only [szP] at sz szd
    refine ⟨rfl, by simp [hkT, LINE]; omega, ?_⟩
    rw [kvPut_new new]
    refine k s (acc ++ [(nm, t)]) _ _ _ ⟨by rw [up_same]; simp [hkT], by rw [up_ne i.ne.symm, up_same], i.ne, by simp; omega, ?_, ?_, i.drop.mut i.f0 Ke.put, i.f0, i.p0⟩ (by rw [szd]; omega)
    · rw [← i.rs]; simp [tkL, tkB]
    · simpa using nd
  | one =>
    refine form rfl (by decide) ?_
    simp [b3_taken, encL, at0, b4_taken]
    refine eq_pure (encT_pure t) (by simp [pureD, pureDs]) (.inr (by simp [plain, plains])) ?_
    cases t with
    | one =>
      simp [encT]
      have fin := i.push (new := []) (h2 := up h1 p (.lst (s.reverse.map prD))) (by simp [tkL, tkB]) (by simp [stkSz, szP]) (by simp [stkNm, holes]) fdp (by rw [up_same]; simp) i.drop
      simpa using k _ _ _ _ _ fin.1 fin.2
    | _ =>
      simp [encT, b5_taken]
      exact kn (by rw [← i.rs]; simp [tkL, tkB]) _ (by simpa using i.drop)
  | n a =>
    refine form rfl (by decide) (taken_form i kn k rfl (by decide) (by decide) ?_)
    cases t with
    | n t => exact .inr ⟨_, [(a, t)], rfl, rfl, by simp, by simp [tkL, tkB], by simp [stkSz, szP], by simp [stkNm, holes]⟩
    | one => exact .inl ⟨.inl rfl, rfl⟩
    | _ => exact .inl ⟨.inr ⟨_, _, rfl, by decide⟩, rfl⟩
  | l a =>
    refine form rfl (by decide) (taken_form i kn k rfl (by decide) (by decide) ?_)
    cases t with
    | l t => exact .inr ⟨_, [(a, t)], rfl, rfl, by simp, by simp [tkL, tkB], by simp [stkSz, szP], by simp [stkNm, holes]⟩
    | one => exact .inl ⟨.inl rfl, rfl⟩
    | _ => exact .inl ⟨.inr ⟨_, _, rfl, by decide⟩, rfl⟩
  | r a =>
    refine form rfl (by decide) (taken_form i kn k rfl (by decide) (by decide) ?_)
    cases t with
    | r t => exact .inr ⟨_, [(a, t)], rfl, rfl, by simp, by simp [tkL, tkB], by simp [stkSz, szP], by simp [stkNm, holes]⟩
    | one => exact .inl ⟨.inl rfl, rfl⟩
    | _ => exact .inl ⟨.inr ⟨_, _, rfl, by decide⟩, rfl⟩
  | p a b =>
    refine form rfl (by decide) (taken_form i kn k rfl (by decide) (by decide) ?_)
    cases t with
    | p t u =>
      refine .inr ⟨_, [(b, u), (a, t)], rfl, rfl, by simp, ?_, by simp [stkSz, szP]; omega, ?_⟩
      · simp [tkL, tkB, Option.bind_assoc]
      · simp only [stkNm, holes, List.flatMap_cons, List.flatMap_nil, List.append_nil, List.map_append]
        exact List.perm_append_comm
    | one => exact .inl ⟨.inl rfl, rfl⟩
    | _ => exact .inl ⟨.inr ⟨_, _, rfl, by decide⟩, rfl⟩
theorem taken_ok {n : Nat} {q : Pat} {t : Th} {h : AH} {Q : VQ} {X : XP} (nd : ((holes q).map (·.1)).Nodup) (hz : szP q ≤ 1000) (kn : tkB q t = none → ∀ h', Ext h h' → Q .non h') (ks : ∀ l, tkB q t = some l → ∀ r h', h r = none → Ext h h' → h' r = some (.dct 0 (hkT l)) → Q (.ref r) h') :
    run P (n + 1) s_taken [encL q, encT t] h Q X := by
  refine run_of (fd := fd_taken) rfl rfl ?_
  simp [fd_taken, start, b0_taken]
  intro f hf
  refine ⟨by simp [LINE], by simp [LINE], fun p hp => ?_⟩
  have hf0 : h f = none := hf
  have hp0 : h p = none := by
    have fp : f ≠ p := ne_new up_same hp
    rw [up_ne fp.symm] at hp
    exact hp
  have fp : f ≠ p := ne_new up_same hp
  simp only [wS]
  refine ⟨TkW h f p (encL q) (encT t) (tkB q t), ⟨_, [(q, t)], [], none, none, rfl, rfl, ⟨by rw [up_ne fp, up_same]; rfl, by rw [up_same]; rfl, fp, by simp [stkSz]; exact hz, by simp [tkL], by simpa [stkNm] using nd, (Ext.new hf).trans (Ext.new hp), hf0, hp0⟩⟩, ?_⟩
  rintro m σ h1 ⟨stk, acc, x, y, rfl, rfl, i⟩
  simp
  rw [len_lst i.pd]
  cases stk with
  | nil =>
    simp [b9_taken]
    have e := i.rs
    simp only [tkL] at e
    exact ks acc e.symm f h1 hf0 i.ex i.fd
  | cons qt s =>
    obtain ⟨q1, t1⟩ := qt
    have hpos : 0 < (((q1, t1) :: s).reverse.map prD).length := by simp
    rw [decide_eq_true hpos]
    refine taken_body i kn fun stk acc x y h2 i2 lt => ⟨stkSz stk, lt, stk, acc, x, y, rfl, rfl, i2⟩
/-! ### rows -/
def rowD (x : Pat × Pat) : D := .tup [encL x.1, encR x.2]
def sideP (b : Bool) (x : Pat × Pat) : Pat := if b then x.2 else x.1
def otherP (b : Bool) (x : Pat × Pat) : Pat := if b then x.1 else x.2
structure RowOk (m : Nat) (x : Pat × Pat) : Prop where
  n1 : ((holes x.1).map (·.1)).Nodup
  n2 : ((holes x.2).map (·.1)).Nodup
  z1 : szP x.1 ≤ 1000
  z2 : szP x.2 ≤ 1000
  d1 : x.1.dp < m
  d2 : x.2.dp < m
  nm : ∀ a, a ∈ (holes x.1).map (·.1) ↔ a ∈ (holes x.2).map (·.1)
/-- the row that takes a thing, and what it makes of it -/
def Rw (R : D → Bool → Th → Th → Prop) (m : Nat) : List (Pat × Pat) → Bool → Th → Th → Prop
  | [], _, t, u => u = t
  | x :: rows, b, t, u => RowOk m x ∧ ((tkB (sideP b x) t = none ∧ Rw R m rows b t u) ∨ ∃ (l : List (Sx × Th)) (f : Sx → Th) (g : Sx → D), tkB (sideP b x) t = some l ∧ u = pt (otherP b x) f ∧ ∀ nm t', (nm, t') ∈ l → (nm, g nm) ∈ holes x.2 ∧ R (g nm) b t' (f nm))
theorem holes_len (q : Pat) : (holes q).length ≤ szP q := by
  induction q with
  | hole nm w => simp [holes, szP]
  | one => simp [holes]
  | n a ih => simp only [holes, szP]; omega
  | l a ih => simp only [holes, szP]; omega
  | r a ih => simp only [holes, szP]; omega
  | p a b iha ihb => simp only [holes, szP, List.length_append]; omega
theorem tkB_names : ∀ {q : Pat} {t : Th} {l : List (Sx × Th)}, tkB q t = some l → (l.map (·.1)).Perm ((holes q).map (·.1)) := by
  intro q
  induction q with
  | hole nm w => intro t l e; simp [tkB] at e; subst e; simp [holes]
  | one => intro t l e; cases t <;> simp [tkB] at e; subst e; simp [holes]
  | n a ih => intro t l e; cases t <;> simp [tkB] at e; exact ih e
  | l a ih => intro t l e; cases t <;> simp [tkB] at e; exact ih e
  | r a ih => intro t l e; cases t <;> simp [tkB] at e; exact ih e
  | p a b iha ihb =>
    intro t l e
    cases t with
    | p t u =>
      simp only [tkB, Option.bind_eq_some_iff] at e
      obtain ⟨y, hy, x, hx, e⟩ := e
      cases e
      simp only [holes, List.map_append]
      exact (List.Perm.append (ihb hy) (iha hx)).trans List.perm_append_comm
    | _ => simp [tkB] at e
def mkD (f : Sx → Th) (l : List (Sx × Th)) : List (D × D) := l.map fun x => (.str x.1, encT (f x.1))
theorem keys_nodup {l : List (Sx × Th)} {g : Sx × Th → D} (nd : (l.map (·.1)).Nodup) : ((l.map fun x => (D.str x.1, g x)).map (·.1)).Nodup := by
  rw [List.map_map, show ((fun x : D × D => x.1) ∘ fun x : Sx × Th => (D.str x.1, g x)) = (D.str ∘ fun x : Sx × Th => x.1) from rfl, ← List.map_map]
  exact List.pairwise_map.mpr (List.Pairwise.imp (fun {a b} h e => h (by injection e)) nd)
structure MdI (h0 : AH) (q wq mq : Nat) (l l1 : List (Sx × Th)) (hs : List (Sx × D)) (f : Sx → Th) (h : AH) : Prop where
  pq : h q = some (.rdct 0 (hkT l))
  pw : h wq = some (.dct 0 (hkW hs))
  pm : h mq = some (.dct 0 (mkD f l1))
  ex : Ext h0 h
  ne1 : q ≠ wq
  ne2 : q ≠ mq
  ne3 : wq ≠ mq
theorem made_ok {m : Nat} {X : XP} {book w1 w2 w4 w5 w6 : D} {b : Bool} {h0 : AH} {q wq mq : Nat} {l : List (Sx × Th)} {hs : List (Sx × D)} {f : Sx → Th} {g : Sx → D} {N : St → AH → Prop} {R0 : Ends}
    (hR : ∀ nm t', (nm, t') ∈ l → (nm, g nm) ∈ hs ∧ ∀ (h : AH) (Q : VQ), Ext h0 h → (∀ h', Ext h h' → Q (encT (f nm)) h') → run P m s_sent_by [book, g nm, encT t', .bl b] h Q X)
    (nl : (l.map (·.1)).Nodup) (nh : (hs.map (·.1)).Nodup) (hz : l.length ≤ 1000) (hm0 : h0 mq = none) (hN : R0.nx = N) :
    ∀ (rest done : List (Sx × Th)) (x : Option D) (h : AH), done ++ rest = l → MdI h0 q wq mq l done hs f h → (∀ x h', MdI h0 q wq mq l l hs f h' → N [some book, some w1, some w2, some (.bl b), some w4, some w5, some w6, some (.ref q), some (.ref wq), some (.ref mq), x] h') →
      loopU (fun _ => True) (fun x σ h P' => match setT (.nm 10) x σ with
        | some σ' => wSs ⟨run P m, X⟩ b5_by_cases { nx := P', rt := R0.rt, bk := R0.nx, ct := P' } σ' h
        | none => False) R0.nx (rest.map fun x => .str x.1) [some book, some w1, some w2, some (.bl b), some w4, some w5, some w6, some (.ref q), some (.ref wq), some (.ref mq), x] h := by
  intro rest
  induction rest with
  | nil =>
    intro done x h e i k
    rw [List.append_nil] at e
    subst e
    exact ⟨trivial, by rw [hN]; exact k x h i⟩
  | cons kv rest ih =>
    intro done x h e i k
    obtain ⟨nm, t'⟩ := kv
    have hm : (nm, t') ∈ l := by rw [← e]; simp
    obtain ⟨hh, run1⟩ := hR nm t' hm
    refine ⟨trivial, ?_⟩
    have step : ∀ P' : St → AH → Prop, (∀ h', MdI h0 q wq mq l (done ++ [(nm, t')]) hs f h' → P' [some book, some w1, some w2, some (.bl b), some w4, some w5, some w6, some (.ref q), some (.ref wq), some (.ref mq), some (.str nm)] h') →
        wSs ⟨run P m, X⟩ b5_by_cases { nx := P', rt := R0.rt, bk := R0.nx, ct := P' } [some book, some w1, some w2, some (.bl b), some w4, some w5, some w6, some (.ref q), some (.ref wq), some (.ref mq), some (.str nm)] h := by
      intro P' kP
      simp [b5_by_cases]
      rw [ix_dct i.pw, kvGet_mem (hkW_nodup nh) (v := g nm) (List.mem_map.mpr ⟨(nm, g nm), hh, rfl⟩)]
      refine ⟨rfl, ?_⟩
      simp only
      have pk : kvGet (hkT l) (.str nm) = some (encT t') := kvGet_mem (keys_nodup (g := fun x => encT x.2) nl) (List.mem_map.mpr ⟨(nm, t'), hm, rfl⟩)
      rw [ix_rdct i.pq, pk]
      refine ⟨rfl, run1 h _ i.ex fun h' x => ?_⟩
      have pm := x _ _ i.pm
      rw [set_dct pm]
      have ld : (done ++ [(nm, t')]).length ≤ l.length := by rw [← e]; simp
      have nd2 : ((mkD f done ++ [(D.str nm, encT (f nm))]).map (·.1)).Nodup := by
        have s : (done ++ [(nm, t')]).Sublist l := by rw [← e]; simp
        have := keys_nodup (g := fun x => encT (f x.1)) (List.Nodup.sublist (s.map (fun x : Sx × Th => x.1)) nl)
        simpa [mkD] using this
      have new : ∀ kv, kv ∈ mkD f done → kv.1 ≠ .str nm := fun kv hkv e => by
        rw [List.map_append, List.nodup_append] at nd2
        exact nd2.2.2 kv.1 (List.mem_map_of_mem hkv) (.str nm) (by simp) e
      refine ⟨rfl, by simp at ld; simp [mkD, LINE]; omega, ?_⟩
      rw [kvPut_new new]
      exact kP _ ⟨by rw [up_ne i.ne2]; exact x _ _ i.pq, by rw [up_ne i.ne3]; exact x _ _ i.pw, by rw [up_same]; simp [mkD], (i.ex.trans x).mut hm0 Ke.put, i.ne1, i.ne2, i.ne3⟩
    exact step _ fun h' i' => ih (done ++ [(nm, t')]) _ h' (by rw [← e]; simp) i' k
theorem cases_row {m : Nat} {X : XP} {book : D} {b : Bool} {rowsD : D} {x : Pat × Pat} {t : Th} {h0 h : AH} {Q : VQ} {N B : St → AH → Prop} {w6 w7 w8 w9 w10 : Option D} (ok : RowOk m x) (ex : Ext h0 h)
    (hN : tkB (sideP b x) t = none → ∀ p7 p6 h', Ext h0 h' → N [some book, some rowsD, some (encT t), some (.bl b), some (encL x.1), some (encR x.2), p6, p7, w8, w9, w10] h')
    (hS : ∀ l, tkB (sideP b x) t = some l → ∃ (f : Sx → Th) (g : Sx → D), (∀ nm t', (nm, t') ∈ l → (nm, g nm) ∈ holes x.2 ∧ ∀ (h : AH) (Q : VQ), Ext h0 h → (∀ h', Ext h h' → Q (encT (f nm)) h') → run P m s_sent_by [book, g nm, encT t', .bl b] h Q X) ∧ ∀ h', Ext h0 h' → Q (encT (pt (otherP b x) f)) h') :
    wSs ⟨run P m, X⟩ b1_by_cases { nx := N, ct := N, bk := B, rt := Q } [some book, some rowsD, some (encT t), some (.bl b), some (encL x.1), some (encR x.2), w6, w7, w8, w9, w10] h := by
  obtain ⟨m, rfl⟩ : ∃ j, m = j + 1 := ⟨m - 1, by have := ok.d1; omega⟩
  -- behind the taking
  have none_ : ∀ h', Ext h0 h' → tkB (sideP b x) t = none → wSs ⟨run P (m + 1), X⟩ b3_by_cases { nx := N, ct := N, bk := B, rt := Q } [some book, some rowsD, some (encT t), some (.bl b), some (encL x.1), some (encR x.2), some (encL x.2), some .non, w8, w9, w10] h' := by
    intro h' ex' e
    simp [b3_by_cases]
    exact hN e _ _ h' ex'
  have some_ : ∀ l r h', tkB (sideP b x) t = some l → h0 r = none → Ext h0 h' → h' r = some (.dct 0 (hkT l)) → wSs ⟨run P (m + 1), X⟩ b3_by_cases { nx := N, ct := N, bk := B, rt := Q } [some book, some rowsD, some (encT t), some (.bl b), some (encL x.1), some (encR x.2), some (encL x.2), some (.ref r), w8, w9, w10] h' := by
    intro l r h' e hr0 ex' hr
    obtain ⟨f, g, hR, hQ⟩ := hS l e
    have hl := tkB_names e
    have nl : (l.map (·.1)).Nodup := by
      refine (List.Perm.nodup_iff hl).mpr ?_
      unfold sideP
      split
      · exact ok.n2
      · exact ok.n1
    have zl : l.length ≤ 1000 := by
      have := hl.length_eq
      simp only [List.length_map] at this
      rw [this]
      unfold sideP
      split
      · exact Nat.le_trans (holes_len _) ok.z2
      · exact Nat.le_trans (holes_len _) ok.z1
    simp [b3_by_cases, b4_by_cases]
    refine ways_ok x.2 ok.d2 ok.n2 (Nat.le_trans (holes_len _) ok.z2) fun wq h2 hw0 ex2 hw => ?_
    intro mq hm
    have r2 := ex2 _ _ hr
    have rw_ : r ≠ wq := ne_new hr hw0
    have rm : r ≠ mq := ne_new r2 hm
    have wm : wq ≠ mq := ne_new hw hm
    have ex3 : Ext h0 h2 := ex'.trans ex2
    have hm0 : h0 mq = none := fresh_back ex3 hm
    have r3 : up h2 mq (.dct 0 []) r = some (.dct 0 (hkT l)) := by rw [up_ne rm]; exact r2
    rw [lock_at (by rfl) r3]
    rw [walk_keys up_same]
    refine loop_unroll ?_
    have i0 : MdI h0 r wq mq l [] (holes x.2) f (up (up h2 mq (.dct 0 [])) r (.rdct 0 (hkT l))) := ⟨up_same, by rw [up_ne rw_.symm, up_ne wm]; exact hw, by rw [up_ne rm.symm, up_same]; rfl, (ex3.trans (Ext.new hm)).mut hr0 Ke.put, rw_, rm, wm⟩
    have keys : (hkT l).map (·.1) = l.map fun x => D.str x.1 := by simp [hkT]
    rw [keys]
    refine made_ok (R0 := { nx := fun σ' h' => wSs ⟨run P (m + 1), X⟩ b6_by_cases { nx := N, rt := Q, bk := B, ct := N } σ' (up h' r (.dct 0 (hkT l))), rt := fun d h' => Q d (up h' r (.dct 0 (hkT l))), bk := B, ct := N }) (book := book) hR nl ok.n2 zl hm0 rfl l [] w10 _ rfl i0 fun x' h4 i4 => ?_
    have ex5 : Ext h0 (up h4 r (.dct 0 (hkT l))) := i4.ex.mut hr0 Ke.put
    have pm5 : up h4 r (.dct 0 (hkT l)) mq = some (.dct 0 (mkD f l)) := by rw [up_ne rm.symm]; exact i4.pm
    have got : ∀ a, a ∈ l.map (·.1) → kvGet (mkD f l) (.str a) = some (encT (f a)) := by
      intro a ha
      obtain ⟨⟨a', t'⟩, hm, rfl⟩ := List.mem_map.mp ha
      exact kvGet_mem (keys_nodup (g := fun x => encT (f x.1)) nl) (List.mem_map.mpr ⟨(a', t'), hm, rfl⟩)
    have got2 : ∀ y : Pat, (y = x.1 ∨ y = x.2) → ∀ nm w, (nm, w) ∈ holes y → kvGet (mkD f l) (.str nm) = some (encT (f nm)) := by
      intro y hy nm w hw'
      refine got nm ?_
      have mem : nm ∈ (holes y).map (·.1) := List.mem_map.mpr ⟨(nm, w), hw', rfl⟩
      have both : nm ∈ (holes (sideP b x)).map (·.1) := by
        unfold sideP
        rcases hy with rfl | rfl
        · split
          · exact (ok.nm nm).mp mem
          · exact mem
        · split
          · exact mem
          · exact (ok.nm nm).mpr mem
      exact (List.Perm.mem_iff hl).mpr both
    cases b with
    | true =>
      simp [b6_by_cases, b7_by_cases]
      exact put_ok x.1 (f := f) (by have := ok.d1; omega) pm5 (got2 _ (.inl rfl)) fun h6 ex6 => hQ h6 (ex5.trans ex6)
    | false =>
      simp [b6_by_cases, b8_by_cases]
      exact put_ok x.2 (f := f) (by have := ok.d2; omega) pm5 (got2 _ (.inr rfl)) fun h6 ex6 => hQ h6 (ex5.trans ex6)
  simp only [b1_by_cases, wSs_cons, wS_asg, wE_call, wEs_cons, wEs_nil, wE_var, List.getElem?_cons_succ, List.getElem?_cons_zero, setT_nm, List.set_cons_succ, List.set_cons_zero]
  refine left_of_ok x.2 (m := 0) ok.d2 fun h1 ex1 => ?_
  have ex01 := ex.trans ex1
  cases b with
  | false =>
    refine taken_ok ok.n1 ok.z1 (fun e h2 ex2 => ?_) (fun l e r h2 hr ex2 hr2 => ?_)
    · simp
      exact none_ h2 (ex01.trans ex2) e
    · simp
      exact some_ l r h2 e (fresh_back ex01 hr) (ex01.trans ex2) hr2
  | true =>
    have second : ∀ h2 (w7 : Option D), Ext h0 h2 → wSs ⟨run P (m + 1), X⟩ b2_by_cases { nx := fun σ' h' => wSs ⟨run P (m + 1), X⟩ b3_by_cases { nx := N, ct := N, bk := B, rt := Q } σ' h', ct := N, bk := B, rt := Q } [some book, some rowsD, some (encT t), some (.bl true), some (encL x.1), some (encR x.2), some (encL x.2), w7, w8, w9, w10] h2 := by
      intro h2 w7 ex2
      simp [b2_by_cases]
      refine taken_ok ok.n2 ok.z2 (fun e h3 ex3 => ?_) (fun l e r h3 hr ex3 hr3 => ?_)
      · exact none_ h3 (ex2.trans ex3) e
      · exact some_ l r h3 e (fresh_back ex2 hr) (ex2.trans ex3) hr3
    refine taken_ok ok.n1 ok.z1 (fun e h2 ex2 => ?_) (fun l e r h2 hr ex2 hr2 => ?_)
    · simp
      exact second h2 _ (ex01.trans ex2)
    · simp
      exact second h2 _ (ex01.trans ex2)
theorem cases_ok {m : Nat} {X : XP} {book : D} {b : Bool} {R : D → Bool → Th → Th → Prop} {rows : List (Pat × Pat)} {t u : Th} {h0 : AH} {Q : VQ}
    (hR : ∀ w t' u', R w b t' u' → ∀ (h : AH) (Q : VQ), Ext h0 h → (∀ h', Ext h h' → Q (encT u') h') → run P m s_sent_by [book, w, encT t', .bl b] h Q X) (rw_ : Rw R m rows b t u) (k : ∀ h', Ext h0 h' → Q (encT u) h') :
    run P (m + 1) s_by_cases [book, .tup (rows.map rowD), encT t, .bl b] h0 Q X := by
  refine run_of (fd := fd_by_cases) rfl rfl ?_
  simp only [fd_by_cases, start, b0_by_cases, wSs_cons, wS_for, wEs_cons, wEs_nil, wE_var]
  simp only [List.map_cons, List.map_nil, List.replicate, List.cons_append, List.nil_append, List.getElem?_cons_succ, List.getElem?_cons_zero, walk_tup]
  refine loop_unroll ?_
  have key : ∀ (rest : List (Pat × Pat)) (w4 w5 w6 w7 w8 w9 w10 : Option D) (h : AH), Rw R m rest b t u → Ext h0 h →
      loopU (fun _ => True) (fun x σ h P' => match setT (.tp [4, 5]) x σ with
        | some σ' => wSs ⟨run P m, X⟩ b1_by_cases { nx := P', ct := P', bk := fun σ' h' => wSs ⟨run P m, X⟩ b9_by_cases (RT Q) σ' h', rt := Q } σ' h
        | none => False) (fun σ' h' => wSs ⟨run P m, X⟩ b9_by_cases (RT Q) σ' h') (rest.map rowD) [some book, some (.tup (rows.map rowD)), some (encT t), some (.bl b), w4, w5, w6, w7, w8, w9, w10] h := by
    intro rest
    induction rest with
    | nil =>
      intro w4 w5 w6 w7 w8 w9 w10 h r ex
      refine ⟨trivial, ?_⟩
      simp [b9_by_cases]
      rw [← show u = t from r]
      exact k h ex
    | cons x rest ih =>
      intro w4 w5 w6 w7 w8 w9 w10 h r ex
      obtain ⟨ok, r⟩ := r
      refine ⟨trivial, ?_⟩
      refine cases_row (rowsD := .tup (rows.map rowD)) ok ex (fun e p7 p6 h' ex' => ?_) (fun l e => ?_)
      · rcases r with ⟨_, r⟩ | ⟨l, f, g, e2, _⟩
        · exact ih _ _ _ _ _ _ _ h' r ex'
        · rw [e] at e2; cases e2
      · rcases r with ⟨e2, r⟩ | ⟨l2, f, g, e2, rfl, hl⟩
        · rw [e] at e2; cases e2
        · rw [e] at e2; cases e2
          exact ⟨f, g, fun nm t' hm => ⟨(hl nm t' hm).1, fun h Q ex kk => hR _ _ _ (hl nm t' hm).2 h Q ex kk⟩, fun h' ex' => k h' ex'⟩
  exact key rows none none none none none none none h0 rw_ .refl
/-! ### ways run -/
abbrev qsame : Sx := [115, 97, 109, 101]
abbrev qcall : Sx := [99, 97, 108, 108]
abbrev qturned : Sx := [116, 117, 114, 110, 101, 100]
abbrev qwithin : Sx := [119, 105, 116, 104, 105, 110]
abbrev qcases : Sx := [99, 97, 115, 101, 115]
abbrev qthen : Sx := [116, 104, 101, 110]
abbrev qbeside : Sx := [98, 101, 115, 105, 100, 101]
abbrev qeither : Sx := [101, 105, 116, 104, 101, 114]
abbrev qoff : Sx := [111, 102, 102]
/-- then, beside, either -/
def SnTwo (R : D → Bool → Th → Th → Prop) (w : D) (b : Bool) (t u : Th) : Prop :=
  (∃ w1 k w3 v, w = .tup [.str qthen, w1, k, w3] ∧ ((b = false ∧ R w1 false t v ∧ R w3 false v u) ∨ (b = true ∧ R w3 true t v ∧ R w1 true v u))) ∨
  (∃ w1 w2 t1 t2 u1 u2, w = .tup [.str qbeside, w1, w2] ∧ t = .p t1 t2 ∧ u = .p u1 u2 ∧ R w1 b t1 u1 ∧ R w2 b t2 u2) ∨
  ∃ w1 w2 t' u', w = .tup [.str qeither, w1, w2] ∧ ((t = .l t' ∧ u = .l u' ∧ R w1 b t' u') ∨ (t = .r t' ∧ u = .r u' ∧ R w2 b t' u'))
/-- to and fro until it lands on the left -/
def OffR (R : D → Bool → Th → Th → Prop) (w3 w4 : D) (b : Bool) : Nat → Th → Th → Prop
  | 0, here, u => here = .l u
  | j + 1, here, u => ∃ x y here', here = .r x ∧ R w4 (!b) x y ∧ R w3 b (.r y) here' ∧ OffR R w3 w4 b j here' u
def SnOff (R : D → Bool → Th → Th → Prop) (w : D) (b : Bool) (t u : Th) : Prop :=
  ∃ k1 k2 w3 w4 j here, w = .tup [.str qoff, k1, k2, w3, w4] ∧ R w3 b (.l t) here ∧ OffR R w3 w4 b j here u
/-- a way sends t to u: n bounds how deep it is -/
def Sn (wk : List (D × D)) : Nat → D → Bool → Th → Th → Prop
  | 0, _, _, _, _ => False
  | n + 1, w, b, t, u => (w = .tup [.str qsame] ∧ u = t) ∨
    (∃ nm k1 k2 w', w = .tup [.str qcall, .str nm] ∧ kvGet wk (.str nm) = some (.tup [k1, k2, w']) ∧ Sn wk n w' b t u) ∨
    (∃ w', w = .tup [.str qturned, w'] ∧ Sn wk n w' (!b) t u) ∨
    (∃ w' t' u', w = .tup [.str qwithin, w'] ∧ t = .n t' ∧ u = .n u' ∧ Sn wk n w' b t' u') ∨
    (∃ rows, w = .tup [.str qcases, .tup (rows.map rowD)] ∧ Rw (Sn wk n) (2 * n) rows b t u) ∨
    SnTwo (Sn wk n) w b t u ∨ SnOff (Sn wk n) w b t u
section
variable {wk : List (D × D)} {n : Nat} {b : Bool} {t u : Th}
theorem Sn.same : Sn wk (n + 1) (.tup [.str qsame]) b t t := .inl ⟨rfl, rfl⟩
theorem Sn.call {nm : Sx} {k1 k2 w' : D} (e : kvGet wk (.str nm) = some (.tup [k1, k2, w'])) (s : Sn wk n w' b t u) : Sn wk (n + 1) (.tup [.str qcall, .str nm]) b t u := .inr (.inl ⟨nm, k1, k2, w', rfl, e, s⟩)
theorem Sn.turned {w' : D} (s : Sn wk n w' (!b) t u) : Sn wk (n + 1) (.tup [.str qturned, w']) b t u := .inr (.inr (.inl ⟨w', rfl, s⟩))
theorem Sn.within {w' : D} (s : Sn wk n w' b t u) : Sn wk (n + 1) (.tup [.str qwithin, w']) b (.n t) (.n u) := .inr (.inr (.inr (.inl ⟨w', t, u, rfl, rfl, rfl, s⟩)))
theorem Sn.cases_ {rows : List (Pat × Pat)} (s : Rw (Sn wk n) (2 * n) rows b t u) : Sn wk (n + 1) (.tup [.str qcases, .tup (rows.map rowD)]) b t u := .inr (.inr (.inr (.inr (.inl ⟨rows, rfl, s⟩))))
theorem Sn.two {w : D} (s : SnTwo (Sn wk n) w b t u) : Sn wk (n + 1) w b t u := .inr (.inr (.inr (.inr (.inr (.inl s)))))
theorem Sn.off {w : D} (s : SnOff (Sn wk n) w b t u) : Sn wk (n + 1) w b t u := .inr (.inr (.inr (.inr (.inr (.inr s)))))
theorem Sn.thenF {w1 k w3 : D} {v : Th} (a : Sn wk n w1 false t v) (c : Sn wk n w3 false v u) : Sn wk (n + 1) (.tup [.str qthen, w1, k, w3]) false t u := .two (.inl ⟨w1, k, w3, v, rfl, .inl ⟨rfl, a, c⟩⟩)
theorem Sn.thenT {w1 k w3 : D} {v : Th} (a : Sn wk n w3 true t v) (c : Sn wk n w1 true v u) : Sn wk (n + 1) (.tup [.str qthen, w1, k, w3]) true t u := .two (.inl ⟨w1, k, w3, v, rfl, .inr ⟨rfl, a, c⟩⟩)
theorem Sn.beside {w1 w2 : D} {t1 t2 u1 u2 : Th} (a : Sn wk n w1 b t1 u1) (c : Sn wk n w2 b t2 u2) : Sn wk (n + 1) (.tup [.str qbeside, w1, w2]) b (.p t1 t2) (.p u1 u2) := .two (.inr (.inl ⟨w1, w2, t1, t2, u1, u2, rfl, rfl, rfl, a, c⟩))
theorem Sn.eitherL {w1 w2 : D} (a : Sn wk n w1 b t u) : Sn wk (n + 1) (.tup [.str qeither, w1, w2]) b (.l t) (.l u) := .two (.inr (.inr ⟨w1, w2, t, u, rfl, .inl ⟨rfl, rfl, a⟩⟩))
theorem Sn.eitherR {w1 w2 : D} (a : Sn wk n w2 b t u) : Sn wk (n + 1) (.tup [.str qeither, w1, w2]) b (.r t) (.r u) := .two (.inr (.inr ⟨w1, w2, t, u, rfl, .inr ⟨rfl, rfl, a⟩⟩))
end
theorem Rw.mono {R : D → Bool → Th → Th → Prop} {m m' : Nat} (hm : m ≤ m') : ∀ {rows : List (Pat × Pat)} {b : Bool} {t u : Th}, Rw R m rows b t u → Rw R m' rows b t u
  | [], _, _, _, r => r
  | x :: rows, b, t, u, ⟨ok, r⟩ => ⟨⟨ok.n1, ok.n2, ok.z1, ok.z2, Nat.lt_of_lt_of_le ok.d1 hm, Nat.lt_of_lt_of_le ok.d2 hm, ok.nm⟩, r.imp (fun ⟨e, r⟩ => ⟨e, Rw.mono hm r⟩) id⟩
theorem Rw.imp {R R' : D → Bool → Th → Th → Prop} (m : ∀ w b t u, R w b t u → R' w b t u) {k : Nat} : ∀ {rows : List (Pat × Pat)} {b : Bool} {t u : Th}, Rw R k rows b t u → Rw R' k rows b t u
  | [], _, _, _, r => r
  | x :: rows, b, t, u, ⟨ok, r⟩ => ⟨ok, r.imp (fun ⟨e, r⟩ => ⟨e, Rw.imp m r⟩) fun ⟨l, f, g, a, c, d⟩ => ⟨l, f, g, a, c, fun nm t' h => ⟨(d nm t' h).1, m _ _ _ _ (d nm t' h).2⟩⟩⟩
theorem OffR.imp {R R' : D → Bool → Th → Th → Prop} (m : ∀ w b t u, R w b t u → R' w b t u) {w3 w4 : D} {b : Bool} : ∀ {j : Nat} {here u : Th}, OffR R w3 w4 b j here u → OffR R' w3 w4 b j here u
  | 0, _, _, r => r
  | _ + 1, _, _, ⟨x, y, h, a, c, d, e⟩ => ⟨x, y, h, a, m _ _ _ _ c, m _ _ _ _ d, OffR.imp m e⟩
theorem SnTwo.imp {R R' : D → Bool → Th → Th → Prop} (m : ∀ w b t u, R w b t u → R' w b t u) {w : D} {b : Bool} {t u : Th} (s : SnTwo R w b t u) : SnTwo R' w b t u := by
  rcases s with ⟨w1, k, w3, v, e, ⟨b0, x, y⟩ | ⟨b0, x, y⟩⟩ | ⟨w1, w2, t1, t2, u1, u2, e, et, eu, x, y⟩ | ⟨w1, w2, t', u', e, ⟨et, eu, x⟩ | ⟨et, eu, x⟩⟩
  · exact .inl ⟨w1, k, w3, v, e, .inl ⟨b0, m _ _ _ _ x, m _ _ _ _ y⟩⟩
  · exact .inl ⟨w1, k, w3, v, e, .inr ⟨b0, m _ _ _ _ x, m _ _ _ _ y⟩⟩
  · exact .inr (.inl ⟨w1, w2, t1, t2, u1, u2, e, et, eu, m _ _ _ _ x, m _ _ _ _ y⟩)
  · exact .inr (.inr ⟨w1, w2, t', u', e, .inl ⟨et, eu, m _ _ _ _ x⟩⟩)
  · exact .inr (.inr ⟨w1, w2, t', u', e, .inr ⟨et, eu, m _ _ _ _ x⟩⟩)
theorem Sn.up1 {wk : List (D × D)} : ∀ {n : Nat} {w : D} {b : Bool} {t u : Th}, Sn wk n w b t u → Sn wk (n + 1) w b t u := by
  intro n
  induction n with
  | zero => intro w b t u s; exact s.elim
  | succ n ih =>
    intro w b t u s
    rcases s with s | ⟨nm, k1, k2, w', e, e2, s⟩ | ⟨w', e, s⟩ | ⟨w', t', u', e, e2, e3, s⟩ | ⟨rows, e, s⟩ | s | ⟨k1, k2, w3, w4, j, here, e, a, c⟩
    · exact .inl s
    · exact .inr (.inl ⟨nm, k1, k2, w', e, e2, ih s⟩)
    · exact .inr (.inr (.inl ⟨w', e, ih s⟩))
    · exact .inr (.inr (.inr (.inl ⟨w', t', u', e, e2, e3, ih s⟩)))
    · exact .inr (.inr (.inr (.inr (.inl ⟨rows, e, (s.imp fun _ _ _ _ => ih).mono (by omega)⟩))))
    · exact .two (s.imp fun _ _ _ _ => ih)
    · exact .off ⟨k1, k2, w3, w4, j, here, e, ih a, c.imp fun _ _ _ _ => ih⟩
theorem Sn.up {wk : List (D × D)} {n m : Nat} (h : n ≤ m) {w : D} {b : Bool} {t u : Th} (s : Sn wk n w b t u) : Sn wk m w b t u := by
  obtain ⟨k, rfl⟩ := Nat.exists_eq_add_of_le h
  clear h
  induction k with
  | zero => exact s
  | succ k ih => exact ih.up1
theorem at3' {x y z v : D} {xs : List D} : atI (x :: y :: z :: v :: xs) 3 = some v := rfl
theorem at4' {x y z v a : D} {xs : List D} : atI (x :: y :: z :: v :: a :: xs) 4 = some a := rfl
/-- what R says, sent_by does -/
def Does (m wr : Nat) (bk : D) (wk : List (D × D)) (R : D → Bool → Th → Th → Prop) : Prop := ∀ {w : D} {b : Bool} {t u : Th} {h : AH} {Q : VQ} {X : XP}, R w b t u → h wr = some (.dct 0 wk) → (∀ h', Ext h h' → Q (encT u) h') → run P m s_sent_by [bk, w, encT t, .bl b] h Q X
theorem two_ok {m wr : Nat} {bk : D} {wk : List (D × D)} {R : D → Bool → Th → Th → Prop} (dR : Does m wr bk wk R) {w : D} {b : Bool} {t u : Th} {h : AH} {Q : VQ} {X : XP} (s : SnTwo R w b t u) (hw : h wr = some (.dct 0 wk)) (k : ∀ h', Ext h h' → Q (encT u) h') : run P (m + 1) s_by_two [bk, w, encT t, .bl b] h Q X := by
  refine run_of (fd := fd_by_two) rfl rfl ?_
  rcases s with ⟨w1, k0, w3, v, rfl, ⟨rfl, x, y⟩ | ⟨rfl, x, y⟩⟩ | ⟨w1, w2, t1, t2, u1, u2, rfl, rfl, rfl, x, y⟩ | ⟨w1, w2, t', u', rfl, ⟨rfl, rfl, x⟩ | ⟨rfl, rfl, x⟩⟩
  · simp [fd_by_two, start, b0_by_two, at0, b1_by_two, b3_by_two, at1, at3']
    exact dR x hw fun h1 e1 => dR y (e1 _ _ hw) fun h2 e2 => k h2 (e1.trans e2)
  · simp [fd_by_two, start, b0_by_two, at0, b1_by_two, b2_by_two, at1, at3']
    exact dR x hw fun h1 e1 => dR y (e1 _ _ hw) fun h2 e2 => k h2 (e1.trans e2)
  · simp [fd_by_two, start, b0_by_two, at0, b4_by_two, b5_by_two, at1, at2', encT]
    exact dR x hw fun h1 e1 => dR y (e1 _ _ hw) fun h2 e2 => ⟨by simp [LINE], k h2 (e1.trans e2)⟩
  · simp [fd_by_two, start, b0_by_two, at0, b4_by_two, b6_by_two, b7_by_two, at1, encT]
    exact dR x hw fun h1 e1 => ⟨by simp [LINE], k h1 e1⟩
  · simp [fd_by_two, start, b0_by_two, at0, b4_by_two, b6_by_two, b8_by_two, at1, at2', encT]
    exact dR x hw fun h1 e1 => ⟨by simp [LINE], k h1 e1⟩
def OfI (wr : Nat) (bk w t0 b0 : D) (wk : List (D × D)) (R : D → Bool → Th → Th → Prop) (w3 w4 : D) (b : Bool) (u : Th) (h0 : AH) (j : Nat) : St → AH → Prop := fun σ h => ∃ here x, σ = [some bk, some w, some t0, some b0, some (encT here), x] ∧ OffR R w3 w4 b j here u ∧ Ext h0 h ∧ h wr = some (.dct 0 wk)
theorem off_ok {m wr : Nat} {bk : D} {wk : List (D × D)} {R : D → Bool → Th → Th → Prop} (dR : Does m wr bk wk R) {w : D} {b : Bool} {t u : Th} {h : AH} {Q : VQ} {X : XP} (s : SnOff R w b t u) (hw : h wr = some (.dct 0 wk)) (k : ∀ h', Ext h h' → Q (encT u) h') : run P (m + 1) s_by_off [bk, w, encT t, .bl b] h Q X := by
  refine run_of (fd := fd_by_off) rfl rfl ?_
  obtain ⟨k1, k2, w3, w4, j, here, rfl, a, c⟩ := s
  simp only [fd_by_off, start, b0_by_off, wSs_cons, wS_asg, wE_call, wE_ix, wE_tup, wE_str, wE_int, wEs_cons, wEs_nil, wE_var, List.map_cons, List.map_nil, List.replicate, List.cons_append, List.nil_append, List.getElem?_cons_succ, List.getElem?_cons_zero, ix_tup, at3', setT_nm, List.set_cons_succ, List.set_cons_zero]
  refine ⟨by simp [LINE], ?_⟩
  refine dR a hw fun h1 e1 => ?_
  simp only [wS]
  refine ⟨OfI wr bk (.tup [.str qoff, k1, k2, w3, w4]) (encT t) (.bl b) wk R w3 w4 b u h, ⟨j, here, none, rfl, c, e1, e1 _ _ hw⟩, ?_⟩
  rintro j σ h2 ⟨here, x, rfl, c, ex, hw2⟩
  simp only [wT_eq, wE_cmp, wE_ix, wE_var, wE_int, wE_str, List.getElem?_cons_succ, List.getElem?_cons_zero, cmp_eq]
  cases j with
  | zero =>
    obtain rfl : here = .l u := c
    simp only [encT, ix_tup, at0]
    refine eq_pureX (by simp [pureD]) (by simp [pureD]) (.inl (by simp [plain])) ?_
    rw [decide_eq_false (by simp)]
    simp only [b2_by_off, wSs_cons, wS_ret, wE_ix, wE_var, wE_int, List.getElem?_cons_succ, List.getElem?_cons_zero, ix_tup, at1, RT_rt]
    exact k h2 ex
  | succ j =>
    obtain ⟨y, z, here', rfl, r4, r3, c⟩ := c
    simp only [encT, ix_tup, at0]
    refine eq_pureX (by simp [pureD]) (by simp [pureD]) (.inl (by simp [plain])) ?_
    rw [decide_eq_true (by simp)]
    simp only [b1_by_off, wSs_cons, wSs_nil, wS_asg, wE_call, wE_ix, wE_tup, wE_str, wE_int, wE_not, wEs_cons, wEs_nil, wE_var, List.getElem?_cons_succ, List.getElem?_cons_zero, ix_tup, at1, at3', at4', setT_nm, List.set_cons_succ, List.set_cons_zero]
    refine dR r4 hw2 fun h3 e3 => ?_
    refine ⟨by simp [LINE], ?_⟩
    refine dR r3 (e3 _ _ hw2) fun h4 e4 => ?_
    exact ⟨j, by omega, here', _, rfl, c, ex.trans (e3.trans e4), e4 _ _ (e3 _ _ hw2)⟩
theorem sent_ok {wk : List (D × D)} {rr wr : Nat} : ∀ (n : Nat) {m : Nat} {w : D} {b : Bool} {t u : Th} {h : AH} {Q : VQ} {X : XP}, 2 * n ≤ m → Sn wk n w b t u → h wr = some (.dct 0 wk) → (∀ h', Ext h h' → Q (encT u) h') → run P m s_sent_by [.tup [.ref rr, .ref wr], w, encT t, .bl b] h Q X := by
  intro n
  induction n with
  | zero => intro m w b t u h Q X hm s; exact s.elim
  | succ n ih =>
    intro m w b t u h Q X hm s hw k
    obtain ⟨m, rfl⟩ : ∃ j, m = j + 1 := ⟨m - 1, by omega⟩
    refine run_of (fd := fd_sent_by) rfl rfl ?_
    rcases s with ⟨rfl, rfl⟩ | ⟨nm, k1, k2, w', rfl, e, s⟩ | ⟨w', rfl, s⟩ | ⟨w', t', u', rfl, rfl, rfl, s⟩ | ⟨rows, rfl, s⟩ | s | s
    · simp [fd_sent_by, start, b0_sent_by, at0, b1_sent_by]
      exact k h .refl
    · simp [fd_sent_by, start, b0_sent_by, at0, at1, b2_sent_by, b3_sent_by]
      rw [ix_dct hw, e]
      refine ⟨rfl, ?_⟩
      simp [at2']
      exact ih (by omega) s hw k
    · simp [fd_sent_by, start, b0_sent_by, at0, at1, b2_sent_by, b4_sent_by, b5_sent_by]
      exact ih (by omega) s hw k
    · simp [fd_sent_by, start, b0_sent_by, at0, at1, b2_sent_by, b4_sent_by, b6_sent_by, b7_sent_by, encT]
      exact ih (by omega) s hw fun h' x => ⟨by simp [LINE], k h' x⟩
    · simp [fd_sent_by, start, b0_sent_by, at0, at1, b2_sent_by, b4_sent_by, b6_sent_by, b8_sent_by, b9_sent_by]
      obtain ⟨m, rfl⟩ : ∃ j, m = j + 1 := ⟨m - 1, by omega⟩
      exact cases_ok (R := Sn wk n) (fun w t' u' r h2 Q ex kk => ih (by omega) r (ex _ _ hw) kk) (s.mono (by omega)) k
    · obtain ⟨m, rfl⟩ : ∃ j, m = j + 1 := ⟨m - 1, by omega⟩
      have d : Does m wr (.tup [.ref rr, .ref wr]) wk (Sn wk n) := fun {w b t u h Q X} r hw kk => ih (by omega) r hw kk
      rcases id s with ⟨w1, k0, w3, v, rfl, _⟩ | ⟨w1, w2, t1, t2, u1, u2, rfl, _⟩ | ⟨w1, w2, t', u', rfl, _⟩
      all_goals simp [fd_sent_by, start, b0_sent_by, at0, at1, b2_sent_by, b4_sent_by, b6_sent_by, b8_sent_by, b10_sent_by, b12_sent_by, b14_sent_by]
      all_goals exact two_ok d s hw k
    · obtain ⟨m, rfl⟩ : ∃ j, m = j + 1 := ⟨m - 1, by omega⟩
      have d : Does m wr (.tup [.ref rr, .ref wr]) wk (Sn wk n) := fun {w b t u h Q X} r hw kk => ih (by omega) r hw kk
      obtain ⟨k1, k2, w3, w4, j, here, rfl, a, c⟩ := id s
      simp [fd_sent_by, start, b0_sent_by, at0, at1, b2_sent_by, b4_sent_by, b6_sent_by, b8_sent_by, b10_sent_by, b11_sent_by]
      exact off_ok d s hw k
theorem encL_pp : ∀ q : Pat, PP (q.dp + 1) (encL q)
  | .hole nm w => PP.tup fun x hx => by simp at hx; rcases hx with rfl | rfl <;> exact .str
  | .one => PP.tup fun x hx => by simp at hx; subst hx; exact .str
  | .n a => PP.tup fun x hx => by simp at hx; rcases hx with rfl | rfl; exact .str; exact encL_pp a
  | .l a => PP.tup fun x hx => by simp at hx; rcases hx with rfl | rfl; exact .str; exact encL_pp a
  | .r a => PP.tup fun x hx => by simp at hx; rcases hx with rfl | rfl; exact .str; exact encL_pp a
  | .p a b => PP.tup fun x hx => by simp at hx; rcases hx with rfl | rfl | rfl; exact .str; exact (encL_pp a).mono (by simp only [Pat.dp]; omega); exact (encL_pp b).mono (by simp only [Pat.dp]; omega)
theorem encR_pp {n : Nat} : ∀ q : Pat, (∀ nm w, (nm, w) ∈ holes q → PP n w) → PP (q.dp + n + 1) (encR q)
  | .hole nm w, a => by
    rw [show (Pat.hole nm w).dp + n + 1 = n + 1 by simp [Pat.dp]]
    exact PP.tup fun x hx => by simp at hx; rcases hx with rfl | rfl | rfl; exact .str; exact .str; exact a nm _ (by simp [holes])
  | .one, _ => PP.tup fun x hx => by simp at hx; subst hx; exact .str
  | .n b, a => by
    rw [show (Pat.n b).dp + n + 1 = (b.dp + n + 1) + 1 by simp only [Pat.dp]; omega]
    exact PP.tup fun x hx => by simp at hx; rcases hx with rfl | rfl; exact .str; exact encR_pp b a
  | .l b, a => by
    rw [show (Pat.l b).dp + n + 1 = (b.dp + n + 1) + 1 by simp only [Pat.dp]; omega]
    exact PP.tup fun x hx => by simp at hx; rcases hx with rfl | rfl; exact .str; exact encR_pp b a
  | .r b, a => by
    rw [show (Pat.r b).dp + n + 1 = (b.dp + n + 1) + 1 by simp only [Pat.dp]; omega]
    exact PP.tup fun x hx => by simp at hx; rcases hx with rfl | rfl; exact .str; exact encR_pp b a
  | .p b c, a => by
    rw [show (Pat.p b c).dp + n + 1 = (max b.dp c.dp + n + 1) + 1 by simp only [Pat.dp]; omega]
    exact PP.tup fun x hx => by simp at hx; rcases hx with rfl | rfl | rfl; exact .str; exact (encR_pp b fun nm w hm => a nm w (by simp [holes, hm])).mono (by omega); exact (encR_pp c fun nm w hm => a nm w (by simp [holes, hm])).mono (by omega)
theorem forth_ok {wk : List (D × D)} {rr wr n m : Nat} {w : D} {t u : Th} {h : AH} {Q : VQ} {X : XP} (hm : 2 * n ≤ m) (s : Sn wk n w false t u) (hw : h wr = some (.dct 0 wk)) (k : ∀ h', Ext h h' → Q (encT u) h') : run P (m + 1) s_forth [.tup [.ref rr, .ref wr], w, encT t] h Q X := by
  refine run_of (fd := fd_forth) rfl rfl ?_
  simp only [fd_forth, start, b0_forth, wSs_cons, wSs_nil, wS_ret, wE_call, wE_bl, wE_var, wEs_cons, wEs_nil, List.map_cons, List.map_nil, List.replicate, List.cons_append, List.nil_append, List.append_nil, List.getElem?_cons_succ, List.getElem?_cons_zero]
  exact sent_ok n hm s hw k
theorem back_ok {wk : List (D × D)} {rr wr n m : Nat} {w : D} {t u : Th} {h : AH} {Q : VQ} {X : XP} (hm : 2 * n ≤ m) (s : Sn wk n w true t u) (hw : h wr = some (.dct 0 wk)) (k : ∀ h', Ext h h' → Q (encT u) h') : run P (m + 1) s_back [.tup [.ref rr, .ref wr], w, encT t] h Q X := by
  refine run_of (fd := fd_back) rfl rfl ?_
  simp only [fd_back, start, b0_back, wSs_cons, wSs_nil, wS_ret, wE_call, wE_bl, wE_var, wEs_cons, wEs_nil, List.map_cons, List.map_nil, List.replicate, List.cons_append, List.nil_append, List.append_nil, List.getElem?_cons_succ, List.getElem?_cons_zero]
  exact sent_ok n hm s hw k
/-- two things that are the same: the comparision is True -/
theorem ne_same {n : Nat} {t : Th} {h : AH} {q : Bool → Prop} (p : PP n (encT t)) (hn : n ≤ 190) (k : q false) : opCmp .ne (encT t) (encT t) h q := by
  rw [cmp_ne]
  refine eq_pure p.1 p.1 (.inl (p.mono hn).2) ?_
  rw [decide_eq_true rfl]
  exact k
/-- the row that takes it, behind rows that do not -/
theorem rw_at {R : D → Bool → Th → Th → Prop} {m : Nat} {b : Bool} {t u : Th} : ∀ (rows : List (Pat × Pat)) (k : Nat) (x : Pat × Pat), rows[k]? = some x → (∀ j y, rows[j]? = some y → RowOk m y ∧ (j ≠ k → tkB (sideP b y) t = none)) →
    (∃ (l : List (Sx × Th)) (f : Sx → Th) (g : Sx → D), tkB (sideP b x) t = some l ∧ u = pt (otherP b x) f ∧ ∀ nm t', (nm, t') ∈ l → (nm, g nm) ∈ holes x.2 ∧ R (g nm) b t' (f nm)) → Rw R m rows b t u
  | [], k, x, e, _, _ => by simp at e
  | y :: rows, 0, x, e, h, q => by
    simp at e
    subst e
    exact ⟨(h 0 y rfl).1, .inr q⟩
  | y :: rows, k + 1, x, e, h, q => by
    refine ⟨(h 0 y rfl).1, .inl ⟨(h 0 y rfl).2 (by omega), ?_⟩⟩
    exact rw_at rows k x (by simpa using e) (fun j z ez => ⟨(h (j + 1) z (by simpa using ez)).1, fun ne => (h (j + 1) z (by simpa using ez)).2 (by omega)⟩) q
/-! ### drawn names -/
def nmW (cell : Int) (i : Nat) : Sx := (List.range i).map fun k : Nat => 97 + (cell / (7 + 5 * (k : Int)) % 26).toNat
def nmAt (cell : Int) (w : Sx) : Nat := (cell / 156 % ((w.length : Int) + 1)).toNat
def nameT (cell : Int) (e : Nat) : Sx := (nmW cell (cell / 26 % 6).toNat).take (nmAt cell (nmW cell (cell / 26 % 6).toNat)) ++ [97 + ((cell + 3 * e) % 26).toNat] ++ (nmW cell (cell / 26 % 6).toNat).drop (nmAt cell (nmW cell (cell / 26 % 6).toNat))
theorem nameT_ne {cell : Int} {e f : Nat} (he : e < 4) (hf : f < 4) (z : nameT cell e = nameT cell f) : e = f := by
  unfold nameT at z
  rw [List.append_assoc, List.append_assoc] at z
  have z := List.append_cancel_left z
  simp only [List.singleton_append, List.cons.injEq] at z
  omega
def NmI (h : AH) (cell : Int) (e : Nat) (i : Nat) : St → AH → Prop := fun σ h' => h' = h ∧ ∃ x y, σ = [some (.int cell), some (.int e), some (.str s_abcdefghijklmnopqrstuvwxyz), some (.str (nmW cell i)), x, y]
theorem name_ok {n e : Nat} {cell : Int} {h : AH} {Q : VQ} {X : XP} (he : e < 4) (k : Q (.str (nameT cell e)) h) : run P (n + 1) s__law_name [.int cell, .int e] h Q X := by
  refine run_of (fd := fd_law_name) rfl rfl ?_
  simp [fd_law_name, start, b0_law_name]
  refine ⟨by unfold divOk; decide, by omega, by omega, loop_rng (fun i => NmI h cell e i) ⟨rfl, none, none, rfl⟩ (fun _ _ _ _ => trivial) ?_ ?_⟩
  · rintro i σ h' hi ⟨rfl, x, y, rfl⟩
    simp [b1_law_name]
    refine ⟨.inr (by omega), by unfold divOk; omega, by simp [LINE], ?_⟩
    rw [letters_at (Int.emod_nonneg _ (by omega)) (Int.emod_lt_of_pos _ (by omega))]
    refine ⟨by simp [nmW, LINE]; omega, rfl, some (.int i), y, ?_⟩
    simp [nmW, List.range_succ]
  · rintro σ h' ⟨rfl, x, y, rfl⟩
    simp [b2_law_name]
    rw [letters_at (Int.emod_nonneg _ (by omega)) (Int.emod_lt_of_pos _ (by omega))]
    have w0 : 0 ≤ cell / 156 % (↑(List.length (nmW cell (cell / 26 % 6).toNat)) + 1) := Int.emod_nonneg _ (by omega)
    have l0 : (nmW cell (cell / 26 % 6).toNat).length = (cell / 26 % 6).toNat := by simp [nmW]
    have w1 : cell / 156 % (↑(List.length (nmW cell (cell / 26 % 6).toNat)) + 1) < (List.length (nmW cell (cell / 26 % 6).toNat) : Int) + 1 := Int.emod_lt_of_pos _ (by omega)
    have l1 : (cell / 26 % 6).toNat < 6 := by omega
    rw [cut_none w0, cut_some w0 (by omega)]
    simp only [LINE, List.length_take, List.length_drop]
    refine ⟨by unfold divOk; decide, by omega, by unfold mulOk; first | (left; omega) | (right; left; omega), by omega, by omega, by omega, by omega, ?_⟩
    have e : nameT cell e = List.take (cell / 156 % (↑(List.length (nmW cell (cell / 26 % 6).toNat)) + 1)).toNat (nmW cell (cell / 26 % 6).toNat) ++ (97 + ((cell + 3 * ↑e) % 26).toNat) :: List.drop (cell / 156 % (↑(List.length (nmW cell (cell / 26 % 6).toNat)) + 1)).toNat (nmW cell (cell / 26 % 6).toNat) := by
      simp [nameT, nmAt]
    rw [← e]
    exact k
/-! ### drawn orders -/
def ofN (l : List Nat) : List D := l.map fun x : Nat => .int (x : Int)
/-- an order: some of the numbers taken, the others left -/
def OrI (h : AH) (p a b many i : Nat) : St → AH → Prop := fun σ h' => ∃ (xs os : List Nat) (x : Option D), σ = [some (.ref p), some (.int many), some (.ref a), some (.ref b), x] ∧ h' a = some (.lst (ofN xs)) ∧ h' b = some (.lst (ofN os)) ∧ (os ++ xs).Perm (List.range many) ∧ os.length = i ∧ IsDeck p h' ∧ Ke p h h'
theorem order_ok {n p many : Nat} {h : AH} {Q : VQ} {X : XP} (hd : IsDeck p h) (hm : many ≤ 1000)
    (k : ∀ r os h', os.Perm (List.range many) → h r = none → h' r = some (.lst (ofN os)) → IsDeck p h' → Ke p h h' → Q (.ref r) h') : run P (n + 2) s__law_order [.ref p, .int many] h Q X := by
  refine run_of (fd := fd_law_order) rfl rfl ?_
  simp [fd_law_order, start, b0_law_order]
  refine ⟨by simp [LINE]; omega, fun a ha b hb => ⟨by omega, ?_⟩⟩
  have ap : a ≠ p := hd.ne ha
  have hd1 := hd.put ha (o := .lst (rangeL 0 many))
  have bp : b ≠ p := hd1.ne hb
  have ab : a ≠ b := ne_new up_same hb
  have hb0 : h b = none := by rw [up_ne ab.symm] at hb; exact hb
  have e0 : rangeL 0 many = ofN (List.range many) := by simp [rangeL, ofN]
  refine loop_rng (fun i => OrI h p a b many i) ⟨List.range many, [], none, rfl, by rw [up_ne ab, up_same, e0], up_same, by simp, rfl, hd1.put hb, (Ke.refl.new ha).new hb⟩ (fun _ _ _ _ => trivial) ?_ ?_
  · rintro i σ h' hi ⟨xs, os, x, rfl, ha', hb', pm, li, hd', kk⟩
    have lx := pm.length_eq
    simp only [List.length_append, List.length_range] at lx
    simp [b1_law_order]
    refine ⟨recv_lstM rfl hb', recv_lstM rfl ha', ?_⟩
    rw [len_lst ha']
    refine next_ok hd' (by simp [ofN]; omega) fun j h2 j0 j1 hd2 k2 => ?_
    have ha2 := k2 _ _ ap ha'
    have hb2 := k2 _ _ bp hb'
    simp only [ofN, List.length_map] at j1
    have jl : j.toNat < xs.length := by omega
    rw [mth_popI, aLst_eq ha2]
    have e1 : (ofN xs)[j.toNat]? = some (.int (xs[j.toNat] : Nat)) := by simp [ofN, jl]
    rw [e1]
    refine ⟨⟨j0, by omega⟩, ?_⟩
    simp only [aSome_eq]
    rw [aLst_eq (by rw [up_ne ab.symm]; exact hb2)]
    refine ⟨by simp [ofN, LINE]; omega, xs.eraseIdx j.toNat, os ++ [xs[j.toNat]], _, rfl, ?_, ?_, ?_, by simp; omega, ?_, ?_⟩
    · rw [up_ne ab, up_same]; simp only [ofN, erase_map]
    · rw [up_same]; simp [ofN]
    · refine List.Perm.trans ?_ pm
      rw [List.append_assoc]
      exact List.Perm.append_left _ (erase_perm xs j.toNat jl)
    · obtain ⟨ns, e⟩ := hd2
      exact ⟨ns, by rw [up_ne bp.symm, up_ne ap.symm]; exact e⟩
    · exact ((kk.trans k2).mut ha Ke.put).mut hb0 Ke.put
  · rintro σ h' ⟨xs, os, x, rfl, ha', hb', pm, li, hd', kk⟩
    have lx := pm.length_eq
    simp only [List.length_append, List.length_range] at lx
    simp only [Int.sub_zero, Int.toNat_natCast] at li
    have : xs = [] := List.length_eq_zero_iff.mp (by omega)
    subst this
    simp [b2_law_order]
    exact k b os h' (by simpa using pm) hb0 hb' hd' kk
theorem atI_ofN {ps : List Nat} {i : Nat} (h : i < ps.length) : atI (ofN ps) (i : Int) = some (.int ((ps.getD i 0 : Nat) : Int)) := by
  unfold atI
  rw [if_pos (by omega), show (i : Int).toNat = i by omega]
  simp [ofN, List.getD, h]
theorem getD_lt {α : Type} {xs : List α} {i : Nat} {d : α} (h : i < xs.length) : xs[i]? = some (xs.getD i d) := by simp [List.getD, h]
theorem getD_mem {xs : List Nat} {i : Nat} (h : i < xs.length) : xs.getD i 0 ∈ xs := by simp [List.getD, h]
/-! ### numbered things -/
def rD : Nat → D → D
  | 0, d => d
  | n + 1, d => .tup [.str qr, rD n d]
def tagD (k m : Nat) (d : D) : D := rD k (if k + 1 < m then .tup [.str ql, d] else d)
def TgI (h : AH) (k m d : D) (f : D) (i : Nat) : St → AH → Prop := fun σ h' => h' = h ∧ ∃ x, σ = [some k, some m, some d, some (rD i f), x]
theorem tagged_ok {n k m : Nat} {d : D} {h : AH} {Q : VQ} {X : XP} (hk : k ≤ 1000) (kk : Q (tagD k m d) h) : run P (n + 1) s__law_tagged [.int k, .int m, d] h Q X := by
  refine run_of (fd := fd_law_tagged) rfl rfl ?_
  have loop : ∀ f : D, Q (rD k f) h → wSs ⟨run P n, X⟩ b2_law_tagged (RT Q) [some (.int k), some (.int m), some d, some f, none] h := by
    intro f kf
    simp [b2_law_tagged]
    refine ⟨by omega, loop_rng (fun i => TgI h (.int k) (.int m) d f i) ⟨rfl, none, rfl⟩ (fun _ _ _ _ => trivial) ?_ ?_⟩
    · rintro i σ h' hi ⟨rfl, x, rfl⟩
      simp [b3_law_tagged]
      exact ⟨by simp [LINE], rfl, _, rfl⟩
    · rintro σ h' ⟨rfl, x, rfl⟩
      simp [b4_law_tagged]
      exact kf
  simp only [fd_law_tagged, start, b0_law_tagged, wSs_cons, wS_asg, wS_ife]
  simp
  unfold tagD at kk
  by_cases e : (k : Int) < m - 1
  · rw [decide_eq_true e]
    rw [if_pos (by omega)] at kk
    simp [b1_law_tagged]
    exact ⟨by simp [LINE], loop _ kk⟩
  · rw [decide_eq_false e]
    rw [if_neg (by omega)] at kk
    exact loop _ kk
/-! tagged patterns and things -/
def rP : Nat → Pat → Pat
  | 0, a => a
  | n + 1, a => .r (rP n a)
def rT : Nat → Th → Th
  | 0, a => a
  | n + 1, a => .r (rT n a)
def tagP (k m : Nat) (a : Pat) : Pat := rP k (if k + 1 < m then .l a else a)
def tagTh (k m : Nat) (t : Th) : Th := rT k (if k + 1 < m then .l t else t)
theorem encL_tag {k m : Nat} {a : Pat} : encL (tagP k m a) = tagD k m (encL a) := by
  have key : ∀ (n : Nat) (a : Pat), encL (rP n a) = rD n (encL a) := by
    intro n a
    induction n with
    | zero => rfl
    | succ n ih => simp only [rP, encL, rD, ih]
  unfold tagP tagD
  rw [key]
  split <;> rfl
theorem encR_tag {k m : Nat} {a : Pat} : encR (tagP k m a) = tagD k m (encR a) := by
  have key : ∀ (n : Nat) (a : Pat), encR (rP n a) = rD n (encR a) := by
    intro n a
    induction n with
    | zero => rfl
    | succ n ih => simp only [rP, encR, rD, ih]
  unfold tagP tagD
  rw [key]
  split <;> rfl
theorem encT_tag {k m : Nat} {t : Th} : encT (tagTh k m t) = tagD k m (encT t) := by
  have key : ∀ (n : Nat) (a : Th), encT (rT n a) = rD n (encT a) := by
    intro n a
    induction n with
    | zero => rfl
    | succ n ih => simp only [rT, encT, rD, ih]
  unfold tagTh tagD
  rw [key]
  split <;> rfl
theorem holes_tag {k m : Nat} {a : Pat} : holes (tagP k m a) = holes a := by
  have key : ∀ (n : Nat) (a : Pat), holes (rP n a) = holes a := by
    intro n a
    induction n with
    | zero => rfl
    | succ n ih => simp only [rP, holes, ih]
  unfold tagP
  rw [key]
  split <;> rfl
/-- a tagged thing is taken by the pattern of its tag, as its inside is -/
theorem tkB_tag {k m : Nat} {a : Pat} {t : Th} : tkB (tagP k m a) (tagTh k m t) = tkB a t := by
  have key : ∀ (n : Nat) (a : Pat) (t : Th), tkB (rP n a) (rT n t) = tkB a t := by
    intro n a t
    induction n with
    | zero => rfl
    | succ n ih => simp only [rP, rT, tkB, ih]
  unfold tagP tagTh
  rw [key]
  split <;> rfl
/-- .. and by no other's -/
theorem tkB_other {k j m : Nat} {a : Pat} {t : Th} (hk : k < m) (hj : j < m) (ne : k ≠ j) : tkB (tagP k m a) (tagTh j m t) = none := by
  have down : ∀ (n i : Nat) (a : Pat) (t : Th), tkB (rP (n + i) a) (rT n t) = tkB (rP i a) t := by
    intro n i a t
    induction n with
    | zero => rw [Nat.zero_add]; rfl
    | succ n ih => rw [show n + 1 + i = (n + i) + 1 by omega]; simp only [rP, rT, tkB, ih]
  have down2 : ∀ (n i : Nat) (a : Pat) (t : Th), tkB (rP n a) (rT (n + i) t) = tkB a (rT i t) := by
    intro n i a t
    induction n with
    | zero => rw [Nat.zero_add]; rfl
    | succ n ih => rw [show n + 1 + i = (n + i) + 1 by omega]; simp only [rP, rT, tkB, ih]
  unfold tagP tagTh
  rcases Nat.lt_or_ge k j with h | h
  · obtain ⟨i, rfl⟩ : ∃ i, j = k + (i + 1) := ⟨j - k - 1, by omega⟩
    rw [if_pos (show k + 1 < m by omega), down2]
    rfl
  · obtain ⟨i, rfl⟩ : ∃ i, k = j + (i + 1) := ⟨k - j - 1, by omega⟩
    rw [if_pos (show j + 1 < m by omega), down]
    rfl
theorem pt_tag {k m : Nat} {a : Pat} {f : Sx → Th} : pt (tagP k m a) f = tagTh k m (pt a f) := by
  have key : ∀ (n : Nat) (a : Pat), pt (rP n a) f = rT n (pt a f) := by
    intro n a
    induction n with
    | zero => rfl
    | succ n ih => simp only [rP, pt, rT, ih]
  unfold tagP tagTh
  rw [key]
  split <;> rfl
theorem rP_dp (n : Nat) (a : Pat) : (rP n a).dp = n + a.dp := by
  induction n with
  | zero => simp [rP]
  | succ n ih => simp only [rP, Pat.dp, ih]; omega
theorem tagP_dp {k m : Nat} {a : Pat} (hk : k < m) : (tagP k m a).dp ≤ m + a.dp := by
  unfold tagP
  rw [rP_dp]
  split
  · simp only [Pat.dp]; omega
  · omega
theorem rP_sz (n : Nat) (a : Pat) : szP (rP n a) = n + szP a := by
  induction n with
  | zero => simp [rP]
  | succ n ih => simp only [rP, szP, ih]; omega
theorem tagP_sz {k m : Nat} {a : Pat} (hk : k < m) : szP (tagP k m a) ≤ m + szP a := by
  unfold tagP
  rw [rP_sz]
  split
  · simp only [szP]; omega
  · omega
theorem rD_pp {n i : Nat} {d : D} (p : PP n d) : PP (n + i) (rD i d) := by
  induction i with
  | zero => exact p
  | succ i ih =>
    refine PP.tup (n := n + i) fun x hx => ?_
    simp only [List.mem_cons, List.not_mem_nil, or_false] at hx
    rcases hx with rfl | rfl
    · exact .str
    · exact ih
theorem tagD_pp {n k m : Nat} {d : D} (hk : k ≤ 4) (p : PP n d) : PP (n + 5) (tagD k m d) := by
  unfold tagD
  refine (rD_pp (n := n + 1) ?_).mono (by omega)
  split
  · refine PP.tup fun x hx => ?_
    simp only [List.mem_cons, List.not_mem_nil, or_false] at hx
    rcases hx with rfl | rfl
    · exact .str
    · exact p
  · exact p.mono (by omega)
@[local simp] theorem LINE_eq : LINE = 16777216 := rfl
abbrev nx : Sx := [120]
abbrev ny : Sx := [121]
def rowsF (again : D) : List (Pat × Pat) := [(.l (.hole nx (.tup [.str qsame])), .l (.hole nx (.tup [.str qsame]))), (.r (.n (.p (.hole nx again) (.hole ny again))), .r (.n (.p (.hole ny again) (.hole nx again))))]
def csD (rows : List (Pat × Pat)) : D := .tup [.str qcases, .tup (rows.map rowD)]
/-! ### trees -/
inductive Tr where
  | lf (i : Int) | nd (a b : Tr)
def trT : Tr → Th
  | .lf i => .l (.a i)
  | .nd a b => .r (.n (.p (trT a) (trT b)))
def fl : Tr → Tr
  | .lf i => .lf i
  | .nd a b => .nd (fl b) (fl a)
def Tr.dp : Tr → Nat
  | .lf _ => 0
  | .nd a b => max a.dp b.dp + 1
theorem fl_fl : ∀ t : Tr, fl (fl t) = t
  | .lf _ => rfl
  | .nd a b => by simp only [fl, fl_fl a, fl_fl b]
theorem fl_dp : ∀ t : Tr, (fl t).dp = t.dp
  | .lf _ => rfl
  | .nd a b => by simp only [fl, Tr.dp, fl_dp a, fl_dp b, Nat.max_comm]
theorem flipped_ok : ∀ (t : Tr) {n : Nat} {h : AH} {Q : VQ} {X : XP}, t.dp < n → Q (encT (trT (fl t))) h → run P n s__law_flipped [encT (trT t)] h Q X := by
  intro t
  induction t with
  | lf i =>
    intro n h Q X hn k
    obtain ⟨n, rfl⟩ : ∃ j, n = j + 1 := ⟨n - 1, by omega⟩
    refine run_of (fd := fd_law_flipped) rfl rfl ?_
    simp [fd_law_flipped, start, b0_law_flipped, trT, encT, at0, b1_law_flipped]
    exact k
  | nd a b iha ihb =>
    intro n h Q X hn k
    simp only [Tr.dp] at hn
    obtain ⟨n, rfl⟩ : ∃ j, n = j + 1 := ⟨n - 1, by omega⟩
    refine run_of (fd := fd_law_flipped) rfl rfl ?_
    simp [fd_law_flipped, start, b0_law_flipped, trT, encT, at0, at1, at2', b2_law_flipped]
    refine ihb (n := n) (by omega) ?_
    refine iha (n := n) (by omega) ?_
    exact k
def again (f : Sx) : D := .tup [.str qcall, .str f]
def BkW (wk : List (D × D)) (f : Sx) : Prop := ∃ k1 k2, kvGet wk (.str f) = some (.tup [k1, k2, csD (rowsF (again f))])
theorem rowF_ok {f : Sx} {m : Nat} (h : 3 < m) : ∀ x, x ∈ rowsF (again f) → RowOk m x := by
  intro x hx
  simp only [rowsF, List.mem_cons, List.not_mem_nil, or_false] at hx
  rcases hx with rfl | rfl
  · exact ⟨by simp [holes], by simp [holes], by simp [szP], by simp [szP], by simp only [Pat.dp]; omega, by simp only [Pat.dp]; omega, fun a => by simp [holes]⟩
  · exact ⟨by simp [holes], by simp [holes], by simp [szP], by simp [szP], by simp only [Pat.dp]; omega, by simp only [Pat.dp]; omega, fun a => by simp [holes]; exact or_comm⟩
theorem fl_sn {wk : List (D × D)} {f : Sx} (hw : BkW wk f) (b : Bool) : ∀ tr : Tr, Sn wk (2 * tr.dp + 3) (csD (rowsF (again f))) b (trT tr) (trT (fl tr)) := by
  obtain ⟨k1, k2, e⟩ := hw
  intro tr
  induction tr with
  | lf i =>
    refine Sn.cases_ (n := 2) ⟨rowF_ok (f := f) (by omega) _ (by simp [rowsF]), .inr ⟨[(nx, .a i)], fun _ => .a i, fun _ => .tup [.str qsame], ?_, ?_, fun nm t' hm => ?_⟩⟩
    · cases b <;> rfl
    · cases b <;> rfl
    · simp only [List.mem_singleton, Prod.mk.injEq] at hm
      obtain ⟨rfl, rfl⟩ := hm
      exact ⟨by simp [holes], .same⟩
  | nd x y ihx ihy =>
    have m1 : ∀ (w : Tr), w = x ∨ w = y → Sn wk (2 * (max x.dp y.dp + 1) + 2) (again f) b (trT w) (trT (fl w)) := by
      intro w hw
      refine (Sn.call (n := 2 * max x.dp y.dp + 3) e (Sn.up (n := 2 * w.dp + 3) ?_ ?_)).up (by omega)
      · rcases hw with rfl | rfl <;> omega
      · rcases hw with rfl | rfl
        · exact ihx
        · exact ihy
    refine Sn.cases_ (n := 2 * (max x.dp y.dp + 1) + 2) ⟨rowF_ok (f := f) (by omega) _ (by simp [rowsF]), .inl ⟨by cases b <;> rfl, rowF_ok (f := f) (by omega) _ (by simp [rowsF]), .inr ?_⟩⟩
    cases b with
    | false =>
      refine ⟨[(ny, trT y), (nx, trT x)], fun nm => if nm = nx then trT (fl x) else trT (fl y), fun _ => again f, rfl, by simp [otherP, pt, trT, fl], fun nm t' hm => ?_⟩
      simp only [List.mem_cons, List.not_mem_nil, or_false, Prod.mk.injEq] at hm
      rcases hm with ⟨rfl, rfl⟩ | ⟨rfl, rfl⟩
      · exact ⟨by simp [holes], m1 y (.inr rfl)⟩
      · exact ⟨by simp [holes], m1 x (.inl rfl)⟩
    | true =>
      refine ⟨[(nx, trT y), (ny, trT x)], fun nm => if nm = nx then trT (fl y) else trT (fl x), fun _ => again f, rfl, by simp [otherP, pt, trT, fl], fun nm t' hm => ?_⟩
      simp only [List.mem_cons, List.not_mem_nil, or_false, Prod.mk.injEq] at hm
      rcases hm with ⟨rfl, rfl⟩ | ⟨rfl, rfl⟩
      · exact ⟨by simp [holes], m1 y (.inr rfl)⟩
      · exact ⟨by simp [holes], m1 x (.inl rfl)⟩
/-- a number out of [4, 10 ** 9][next(deck, 2)] -/
theorem nameN_ok {n p : Nat} {h : AH} {X : XP} {Q : VQ} {σ : St} (hσ : σ[0]? = some (some (.ref p))) (hd : IsDeck p h) (k : ∀ i h', IsDeck p h' → Ke p h h' → Q (.int i) h') :
    wE ⟨run P (n + 1), X⟩ (.call s__law_next (.cons (.var 0) (.cons (.ix (.lst (.cons (.int 4) (.cons (.bin .pow (.int 10) (.int 9)) .nil))) (.call s__law_next (.cons (.var 0) (.cons (.int 2) .nil)))) .nil))) σ h Q := by
  simp only [wE_call, wE_ix, wE_lst, wE_int, wE_bin, wE_var, wEs_cons, wEs_nil, hσ, bin_pow]
  refine ⟨by unfold powOk; decide, by simp, fun z hz => ?_⟩
  refine next_ok (hd.put hz) (by omega) fun j h2 j0 j1 hd2 k2 => ?_
  rw [ix_lst (k2 _ _ (hd.ne hz) up_same)]
  have ev : ∃ v : Int, 0 < v ∧ atI [D.int 4, D.int (10 ^ Int.toNat 9)] j = some (.int v) := by
    have : j = 0 ∨ j = 1 := by omega
    rcases this with rfl | rfl
    · exact ⟨4, by omega, rfl⟩
    · exact ⟨10 ^ Int.toNat 9, by decide, rfl⟩
  obtain ⟨v, v0, ev⟩ := ev
  rw [ev]
  dsimp only
  exact next_ok hd2 v0 fun y h3 _ _ hd3 k3 => k y h3 hd3 ((Ke.refl.new hz).trans (k2.trans k3))
theorem leafy_ok {p : Nat} {X : XP} : ∀ (d : Nat) {n : Nat} {h : AH} {Q : VQ}, d + 1 < n → IsDeck p h → (∀ tr h', tr.dp ≤ d → IsDeck p h' → Ke p h h' → Q (encT (trT tr)) h') → run P n s__law_leafy [.ref p, .int d] h Q X := by
  have leaf : ∀ {n : Nat} {h : AH} {Q : VQ} {d : D} {x : Option D} {R : Ends}, R.rt = Q → IsDeck p h → (∀ tr h', tr.dp ≤ 0 → IsDeck p h' → Ke p h h' → Q (encT (trT tr)) h') → wSs ⟨run P (n + 1), X⟩ b1_law_leafy R [some (.ref p), some d, x] h := by
    intro n h Q d x R hR hd k
    simp only [b1_law_leafy, wSs_cons, wS_ret, wE_tup, wE_str, wEs_cons, wEs_nil, hR]
    refine nameN_ok rfl hd fun i h' hd' k' => ?_
    simp
    exact k (.lf i) h' (Nat.le_refl _) hd' k'
  intro d
  induction d with
  | zero =>
    intro n h Q hn hd k
    obtain ⟨n, rfl⟩ : ∃ j, n = j + 2 := ⟨n - 2, by omega⟩
    refine run_of (fd := fd_law_leafy) rfl rfl ?_
    simp [fd_law_leafy, start, b0_law_leafy]
    exact leaf (by rfl) hd k
  | succ d ih =>
    intro n h Q hn hd k
    obtain ⟨n, rfl⟩ : ∃ j, n = j + 2 := ⟨n - 2, by omega⟩
    refine run_of (fd := fd_law_leafy) rfl rfl ?_
    simp [fd_law_leafy, start, b0_law_leafy]
    rw [decide_eq_false (by omega)]
    dsimp only
    refine next_ok hd (by omega) fun v h1 _ _ hd1 k1 => ?_
    rw [eqX_int]
    by_cases e : v = 0
    · rw [decide_eq_true e]
      exact leaf (by rfl) hd1 fun tr h' l d k' => k tr h' (by omega) d (k1.trans k')
    · rw [decide_eq_false e]
      simp [b2_law_leafy]
      refine ih (n := n + 1) (by omega) hd1 fun a h2 la hd2 k2 => ?_
      refine ih (n := n + 1) (by omega) hd2 fun b h3 lb hd3 k3 => ?_
      exact k (.nd a b) h3 (by simp only [Tr.dp]; omega) hd3 (k1.trans (k2.trans k3))
theorem trT_pp : ∀ t : Tr, PP (3 * t.dp + 2) (encT (trT t))
  | .lf i => PP.tup fun x hx => by simp at hx; rcases hx with rfl | rfl; exact .str; exact PP.tup fun x hx => by simp at hx; rcases hx with rfl | rfl; exact .str; exact .int
  | .nd a b => by
    rw [show 3 * (Tr.nd a b).dp + 2 = (3 * max a.dp b.dp + 2) + 3 by simp only [Tr.dp]; omega]
    refine PP.tup fun x hx => ?_
    simp at hx
    rcases hx with rfl | rfl
    · exact .str
    refine PP.tup fun x hx => ?_
    simp at hx
    rcases hx with rfl | rfl
    · exact .str
    refine PP.tup fun x hx => ?_
    simp at hx
    rcases hx with rfl | rfl | rfl
    · exact .str
    · exact (trT_pp a).mono (by omega)
    · exact (trT_pp b).mono (by omega)
theorem csD_pp {n : Nat} {rows : List (Pat × Pat)} (h : ∀ x, x ∈ rows → x.1.dp ≤ 3 ∧ x.2.dp ≤ 3 ∧ ∀ nm w, (nm, w) ∈ holes x.2 → PP n w) : PP (n + 7) (csD rows) := by
  refine PP.tup (n := n + 6) fun x hx => ?_
  simp only [List.mem_cons, List.not_mem_nil, or_false] at hx
  rcases hx with rfl | rfl
  · exact .str
  refine PP.tup (n := n + 5) fun x hx => ?_
  obtain ⟨y, hy, rfl⟩ := List.mem_map.mp hx
  obtain ⟨d1, d2, hp⟩ := h y hy
  refine PP.tup (n := n + 4) fun x hx => ?_
  simp only [List.mem_cons, List.not_mem_nil, or_false] at hx
  rcases hx with rfl | rfl
  · exact (encL_pp _).mono (by omega)
  · exact (encR_pp (n := n) _ hp).mono (by omega)
/-! ### boxes: numbered places for a part, and rows that lead from the places of one to those of another -/
abbrev nt : Sx := [116]
structure Fam where
  N : Nat
  pat : Nat → Pat → Pat
  th : Nat → Th → Th
  c : Nat
  tkS : ∀ s a t, s < N → tkB (pat s a) (th s t) = tkB a t
  tkO : ∀ s s' a t, s < N → s' < N → s ≠ s' → tkB (pat s a) (th s' t) = none
  ptP : ∀ s a f, pt (pat s a) f = th s (pt a f)
  ho : ∀ s a, holes (pat s a) = holes a
  dp : ∀ s a, s < N → (pat s a).dp ≤ a.dp + c
  sz : ∀ s a, s < N → szP (pat s a) ≤ szP a + c
theorem bind_nil {x : Option (List (Sx × Th))} : (x.bind fun y => some (y ++ [])) = x := by cases x <;> simp
theorem bind_none {x : Option (List (Sx × Th))} : (x.bind fun _ => (none : Option (List (Sx × Th)))) = none := by cases x <;> rfl
theorem tag1 {k m : Nat} : tkB (tagP k m .one) (tagTh k m .one) = some [] := by rw [tkB_tag]; rfl
def partP (ab : Bool) (one a : Pat) : Pat := if ab then .p a one else .p one a
def partT (ab : Bool) (one t : Th) : Th := if ab then .p t one else .p one t
/-- many places: a part beside its number, the number ahead or behind (ab) -/
def numF (ab : Bool) (many : Nat) : Fam where
  N := many
  pat k a := partP ab (tagP k many .one) a
  th k t := partT ab (tagTh k many .one) t
  c := many + 3
  tkS s a t h := by
    cases ab with
    | true =>
      show (tkB (tagP s many .one) (tagTh s many .one)).bind _ = _
      rw [tag1]
      show (tkB a t).bind _ = _
      cases tkB a t <;> rfl
    | false =>
      show (tkB a t).bind (fun y => (tkB (tagP s many .one) (tagTh s many .one)).bind fun x => some (y ++ x)) = _
      rw [tag1]
      exact bind_nil
  tkO s s' a t h h' ne := by
    cases ab with
    | true =>
      show (tkB (tagP s many .one) (tagTh s' many .one)).bind _ = _
      rw [tkB_other h h' ne]
      rfl
    | false =>
      show (tkB a t).bind (fun y => (tkB (tagP s many .one) (tagTh s' many .one)).bind fun x => some (y ++ x)) = _
      rw [tkB_other h h' ne]
      exact bind_none
  ptP s a f := by
    cases ab with
    | true => show Th.p (pt a f) (pt (tagP s many .one) f) = Th.p _ _; rw [pt_tag]; rfl
    | false => show Th.p (pt (tagP s many .one) f) (pt a f) = Th.p _ _; rw [pt_tag]; rfl
  ho s a := by
    cases ab with
    | true => show holes a ++ holes (tagP s many .one) = _; rw [holes_tag]; simp [holes]
    | false => show holes (tagP s many .one) ++ holes a = _; rw [holes_tag]; simp [holes]
  dp s a h := by
    have := tagP_dp (a := .one) h
    simp only [Pat.dp] at this
    cases ab with
    | true => show (Pat.p a (tagP s many .one)).dp ≤ _; simp only [Pat.dp]; omega
    | false => show (Pat.p (tagP s many .one) a).dp ≤ _; simp only [Pat.dp]; omega
  sz s a h := by
    have := tagP_sz (a := .one) h
    simp only [szP] at this
    cases ab with
    | true => show szP (Pat.p a (tagP s many .one)) ≤ _; simp only [szP]; omega
    | false => show szP (Pat.p (tagP s many .one) a) ≤ _; simp only [szP]; omega
/-- the places of one box, then those of another -/
def sideF (A B : Fam) : Fam where
  N := A.N + B.N
  pat k a := if k < A.N then .l (A.pat k a) else .r (B.pat (k - A.N) a)
  th k t := if k < A.N then .l (A.th k t) else .r (B.th (k - A.N) t)
  c := A.c + B.c + 1
  tkS s a t h := by
    by_cases e : s < A.N
    · simp only [if_pos e, tkB]; exact A.tkS s a t e
    · simp only [if_neg e, tkB]; exact B.tkS _ a t (by omega)
  tkO s s' a t h h' ne := by
    by_cases e : s < A.N
    · by_cases e' : s' < A.N
      · simp only [if_pos e, if_pos e', tkB]; exact A.tkO s s' a t e e' ne
      · simp only [if_pos e, if_neg e', tkB]
    · by_cases e' : s' < A.N
      · simp only [if_neg e, if_pos e', tkB]
      · simp only [if_neg e, if_neg e', tkB]; exact B.tkO _ _ a t (by omega) (by omega) (by omega)
  ptP s a f := by
    by_cases e : s < A.N
    · simp only [if_pos e, pt, A.ptP]
    · simp only [if_neg e, pt, B.ptP]
  ho s a := by
    by_cases e : s < A.N
    · simp only [if_pos e, holes, A.ho]
    · simp only [if_neg e, holes, B.ho]
  dp s a h := by
    by_cases e : s < A.N
    · have := A.dp s a e; simp only [if_pos e, Pat.dp]; omega
    · have := B.dp (s - A.N) a (by omega); simp only [if_neg e, Pat.dp]; omega
  sz s a h := by
    by_cases e : s < A.N
    · have := A.sz s a e; simp only [if_pos e, szP]; omega
    · have := B.sz (s - A.N) a (by omega); simp only [if_neg e, szP]; omega
def rowB (L R : Fam) (os : List Nat) (ways : Nat → D) (s : Nat) : Pat × Pat := (L.pat s (.hole nt (ways s)), R.pat (os.getD s 0) (.hole nt (ways s)))
def rowsB (L R : Fam) (os : List Nat) (ways : Nat → D) : List (Pat × Pat) := (List.range L.N).map (rowB L R os ways)
section
variable {L R : Fam} {os : List Nat} {ways : Nat → D} {R' : D → Bool → Th → Th → Prop} {M s : Nat} {t u : Th}
theorem os_lt (hN : R.N = L.N) (pm : os.Perm (List.range L.N)) (hs : s < L.N) : os.getD s 0 < R.N := by
  have l := pm.length_eq
  simp only [List.length_range] at l
  rw [hN]
  exact List.mem_range.mp ((List.Perm.mem_iff pm).mp (getD_mem (by omega)))
theorem rowB_ok (hN : R.N = L.N) (pm : os.Perm (List.range L.N)) (hL : L.c < M) (hR : R.c < M) (zL : L.c ≤ 900) (zR : R.c ≤ 900) (hs : s < L.N) : RowOk M (rowB L R os ways s) := by
  have d1 := L.dp s (.hole nt (ways s)) hs
  have d2 := R.dp (os.getD s 0) (.hole nt (ways s)) (os_lt hN pm hs)
  have z1 := L.sz s (.hole nt (ways s)) hs
  have z2 := R.sz (os.getD s 0) (.hole nt (ways s)) (os_lt hN pm hs)
  simp only [Pat.dp, szP] at d1 d2 z1 z2
  refine ⟨?_, ?_, by show szP (L.pat _ _) ≤ _; omega, by show szP (R.pat _ _) ≤ _; omega, by show (L.pat _ _).dp < _; omega, by show (R.pat _ _).dp < _; omega, fun a => ?_⟩
  · show ((holes (L.pat _ _)).map _).Nodup; rw [L.ho]; simp [holes]
  · show ((holes (R.pat _ _)).map _).Nodup; rw [R.ho]; simp [holes]
  · show a ∈ (holes (L.pat _ _)).map _ ↔ a ∈ (holes (R.pat _ _)).map _; rw [L.ho, R.ho]
theorem rowsB_at {j : Nat} {y : Pat × Pat} (e : (rowsB L R os ways)[j]? = some y) : j < L.N ∧ y = rowB L R os ways j := by
  unfold rowsB at e
  rw [List.getElem?_map] at e
  cases er : (List.range L.N)[j]? with
  | none => rw [er] at e; cases e
  | some j' =>
    rw [er] at e
    cases e
    have hj : j < L.N := by have := (List.getElem?_eq_some_iff.mp er).1; simpa using this
    have : j' = j := by rw [List.getElem?_range hj] at er; exact (Option.some.inj er).symm
    subst this
    exact ⟨hj, rfl⟩
theorem box_f (hN : R.N = L.N) (pm : os.Perm (List.range L.N)) (hL : L.c < M) (hR : R.c < M) (zL : L.c ≤ 900) (zR : R.c ≤ 900) (hs : s < L.N) (r : R' (ways s) false t u) : Rw R' M (rowsB L R os ways) false (L.th s t) (R.th (os.getD s 0) u) := by
  refine rw_at _ s (rowB L R os ways s) (by simp [rowsB, hs]) (fun j y ej => ?_) ⟨[(nt, t)], fun _ => u, fun _ => ways s, ?_, ?_, fun nm t' hm => ?_⟩
  · obtain ⟨hj, rfl⟩ := rowsB_at ej
    exact ⟨rowB_ok hN pm hL hR zL zR hj, fun ne => L.tkO j s _ _ hj hs ne⟩
  · show tkB (L.pat s _) (L.th s t) = _
    rw [L.tkS _ _ _ hs]; rfl
  · show _ = pt (R.pat _ _) _
    rw [R.ptP]; rfl
  · simp only [List.mem_singleton, Prod.mk.injEq] at hm
    obtain ⟨rfl, rfl⟩ := hm
    exact ⟨by show _ ∈ holes (R.pat _ _); rw [R.ho]; simp [holes], r⟩
theorem box_b (hN : R.N = L.N) (pm : os.Perm (List.range L.N)) (hL : L.c < M) (hR : R.c < M) (zL : L.c ≤ 900) (zR : R.c ≤ 900) (hs : s < L.N) (r : R' (ways s) true u t) : Rw R' M (rowsB L R os ways) true (R.th (os.getD s 0) u) (L.th s t) := by
  have l := pm.length_eq
  simp only [List.length_range] at l
  have nd : os.Nodup := (List.Perm.nodup_iff pm).mpr List.nodup_range
  refine rw_at _ s (rowB L R os ways s) (by simp [rowsB, hs]) (fun j y ej => ?_) ⟨[(nt, u)], fun _ => t, fun _ => ways s, ?_, ?_, fun nm t' hm => ?_⟩
  · obtain ⟨hj, rfl⟩ := rowsB_at ej
    refine ⟨rowB_ok hN pm hL hR zL zR hj, fun ne => R.tkO _ _ _ _ (os_lt hN pm hj) (os_lt hN pm hs) fun z => ne ?_⟩
    have e1 := getD_lt (d := 0) (show j < os.length by omega)
    rw [z] at e1
    exact nodup_inj nd e1 (getD_lt (by omega))
  · show tkB (R.pat _ _) (R.th _ u) = _
    rw [R.tkS _ _ _ (os_lt hN pm hs)]; rfl
  · show _ = pt (L.pat _ _) _
    rw [L.ptP]; rfl
  · simp only [List.mem_singleton, Prod.mk.injEq] at hm
    obtain ⟨rfl, rfl⟩ := hm
    exact ⟨by show _ ∈ holes (R.pat _ _); rw [R.ho]; simp [holes], r⟩
end
/-! ### to and fro: strings -/
abbrev qd : Sx := [100]
abbrev qc : Sx := [99]
abbrev qb : Sx := [98]
/-- F leads on, H leads back over; the beads behind the first -/
def Chn (F H : Th → Th → Prop) : Nat → Th → Th → List (Sx × Th) → Prop
  | 0, a, u, bs => F a (.l u) ∧ bs = [(qb, u)]
  | n + 1, a, u, bs => ∃ x y bs', F a (.r x) ∧ H x y ∧ Chn F H n (.r y) u bs' ∧ bs = (qd, x) :: (qc, y) :: bs'
section
variable {R : D → Bool → Th → Th → Prop} {w3 w4 : D}
def FR (R : D → Bool → Th → Th → Prop) (w3 : D) (a b : Th) : Prop := R w3 false a b ∧ R w3 true b a
def HR (R : D → Bool → Th → Th → Prop) (w4 : D) (x y : Th) : Prop := R w4 true x y ∧ R w4 false y x
theorem chn_off : ∀ {n : Nat} {a u : Th} {bs : List (Sx × Th)}, Chn (FR R w3) (HR R w4) n a u bs → ∃ here, R w3 false a here ∧ OffR R w3 w4 false n here u
  | 0, a, u, _, ⟨f, _⟩ => ⟨_, f.1, rfl⟩
  | n + 1, a, u, _, ⟨x, y, bs', f, h, c, _⟩ => by
    obtain ⟨here, r, o⟩ := chn_off c
    exact ⟨_, f.1, x, y, here, rfl, h.1, r, o⟩
theorem chn_back {t : Th} : ∀ {n : Nat} {a u : Th} {bs : List (Sx × Th)} {i : Nat}, OffR R w3 w4 true i a t → Chn (FR R w3) (HR R w4) n a u bs → ∃ j here, R w3 true (.l u) here ∧ OffR R w3 w4 true j here t
  | 0, a, u, _, i, o, ⟨f, _⟩ => ⟨i, a, f.2, o⟩
  | n + 1, a, u, _, i, o, ⟨x, y, bs', f, h, c, _⟩ => chn_back (i := i + 1) ⟨y, x, a, rfl, h.2, f.2, o⟩ c
theorem OffR.turn {R' : D → Bool → Th → Th → Prop} {v3 v4 : D} {b : Bool} (h3 : ∀ t u, R w3 b t u → R' v3 (!b) t u) (h4 : ∀ t u, R w4 (!b) t u → R' v4 b t u) : ∀ {j : Nat} {here u : Th}, OffR R w3 w4 b j here u → OffR R' v3 v4 (!b) j here u
  | 0, _, _, r => r
  | _ + 1, _, _, ⟨x, y, h, a, c, d, e⟩ => ⟨x, y, h, a, by rw [Bool.not_not]; exact h4 _ _ c, h3 _ _ d, OffR.turn h3 h4 e⟩
end
/-- it stops behind n steps -/
def Stops (f : Nat → Option Nat) : Nat → Nat → Prop
  | 0, i => f i = none
  | n + 1, i => ∃ x, f i = some x ∧ Stops f n x
theorem nodup_lt_len : ∀ {M : Nat} {l : List Nat}, l.Nodup → (∀ y, y ∈ l → y < M) → l.length ≤ M
  | 0, l, _, h => by
    cases l with
    | nil => simp
    | cons a r => exact absurd (h a (by simp)) (by omega)
  | M + 1, l, nd, h => by
    have ih := nodup_lt_len (M := M) (l := l.erase M) (nd.erase M) fun y hy => by
      have := (List.Nodup.mem_erase_iff nd).mp hy
      have := h y this.2
      omega
    rw [List.length_erase] at ih
    split at ih <;> omega
/-- what leads on, one to one, below M, and never back to the begin, stops -/
theorem stops {f : Nat → Option Nat} {k M : Nat} (inj : ∀ i j x, f i = some x → f j = some x → i = j) (lt : ∀ i x, f i = some x → x < M) (hk : k < M) (nk : ∀ i, f i ≠ some k) : ∃ n, n ≤ M ∧ Stops f n k := by
  have key : ∀ (m : Nat) (vs : List Nat) (x : Nat), (x :: vs).length + m = M + 1 → (x :: vs).Nodup → (∀ y, y ∈ x :: vs → y < M) → (∀ y, y ∈ x :: vs → y = k ∨ ∃ z, z ∈ vs ∧ f z = some y) → ∃ n, n ≤ m ∧ Stops f n x := by
    intro m
    induction m with
    | zero =>
      intro vs x hl nd lt' _
      have := nodup_lt_len nd lt'
      simp only [List.length_cons] at hl this
      omega
    | succ m ih =>
      intro vs x hl nd lt' pr
      cases e : f x with
      | none => exact ⟨0, by omega, e⟩
      | some y =>
        have hy : y ∉ x :: vs := by
          intro hm
          rcases pr y hm with rfl | ⟨z, hz, ez⟩
          · exact nk _ e
          · have := inj _ _ _ ez e
            subst this
            exact (List.nodup_cons.mp nd).1 hz
        obtain ⟨n, hn, s⟩ := ih (x :: vs) y (by simp only [List.length_cons] at hl ⊢; omega) (List.nodup_cons.mpr ⟨hy, nd⟩) (fun w hw => by
          rcases List.mem_cons.mp hw with rfl | hw
          · exact lt _ _ e
          · exact lt' w hw) (fun w hw => by
          rcases List.mem_cons.mp hw with rfl | hw
          · exact .inr ⟨x, by simp, e⟩
          · rcases pr w hw with h | ⟨z, hz, ez⟩
            · exact .inl h
            · exact .inr ⟨z, by simp [hz], ez⟩)
        exact ⟨n + 1, by omega, y, e, s⟩
  refine key M [] k (by simp; omega) (by simp) (fun y hy => by simp at hy; omega) (fun y hy => .inl (by simpa using hy))
@[local simp] theorem LINE_eqC : LINE = 16777216 := rfl
/-! ### the book -/
def hereD (r : Sx) : D := .tup [.str s_rule, .str r]
def kd0 (r : Sx) : D := .tup [.str s_sum, .tup [.str s_name], .tup [.str s_node, .tup [.str s_pair, hereD r, hereD r]]]
def en0 (r f : Sx) : D := .tup [hereD r, hereD r, csD (rowsF (again f))]
theorem book_ok {n : Nat} {r f : Sx} {h : AH} {Q : VQ} {X : XP} (k : ∀ a b h', Ext h h' → h a = none → h b = none → a ≠ b → h' a = some (.dct 0 [(.str r, kd0 r)]) → h' b = some (.dct 0 [(.str f, en0 r f)]) → Q (.tup [.ref a, .ref b]) h') : run P (n + 1) s__law_book [.str r, .str f] h Q X := by
  refine run_of (fd := fd_law_book) rfl rfl ?_
  simp [fd_law_book, start, b0_law_book]
  intro a ha
  refine ⟨up_same, by simp [keysOk, keyOk], ?_⟩
  rw [up_up]
  intro b hb
  refine ⟨up_same, by simp [keysOk, keyOk], ?_⟩
  rw [up_up]
  have ab : a ≠ b := ne_new up_same hb
  have hb0 : h b = none := by rw [up_ne ab.symm] at hb; exact hb
  exact k a b _ ((Ext.new ha).trans (Ext.new hb)) ha hb0 ab (by rw [up_ne ab, up_same]; rfl) (by rw [up_same]; rfl)
/-! ### numbered things, rows -/
def hwD (f : Sx) (i : Nat) : D := if i = 0 then .tup [.str qsame] else again f
def gT (i : Nat) (t : Tr) : Tr := if i = 0 then t else fl t
theorem gT_gT (i : Nat) (t : Tr) : gT i (gT i t) = t := by unfold gT; split <;> simp [fl_fl]
theorem gT_dp (i : Nat) (t : Tr) : (gT i t).dp = t.dp := by unfold gT; split <;> simp [fl_dp]
theorem hw_sn {wk : List (D × D)} {f : Sx} (hw : BkW wk f) {b : Bool} {i m : Nat} {t : Tr} (hm : 2 * t.dp + 4 ≤ m) : Sn wk m (hwD f i) b (trT t) (trT (gT i t)) := by
  have e := hw
  obtain ⟨k1, k2, e⟩ := e
  unfold hwD gT
  split
  · exact (Sn.same (n := 0)).up (by omega)
  · exact (Sn.call e (fl_sn hw b t)).up hm
theorem numbered_ok {n k m : Nat} {t : Th} {h : AH} {Q : VQ} {X : XP} (hk : k ≤ 1000) (kk : Q (encT ((numF false m).th k t)) h) : run P (n + 2) s__law_numbered [.int k, .int m, encT t] h Q X := by
  refine run_of (fd := fd_law_numbered) rfl rfl ?_
  simp [fd_law_numbered, start, b0_law_numbered]
  refine tagged_ok hk ?_
  have e : encT ((numF false m).th k t) = .tup [.str qp, tagD k m (.tup []), encT t] := by
    show D.tup [.str qp, encT (tagTh k m .one), encT t] = _
    rw [encT_tag]; rfl
  rw [e] at kk
  exact kk
def patD (k m : Nat) (d : D) : D := .tup [.str qp, tagD k m (.tup [.str qone]), d]
theorem encL_num {k m : Nat} {a : Pat} : encL ((numF false m).pat k a) = patD k m (encL a) := by
  show D.tup [.str qp, encL (tagP k m .one), encL a] = _
  rw [encL_tag]; rfl
theorem encR_num {k m : Nat} {a : Pat} : encR ((numF false m).pat k a) = patD k m (encR a) := by
  show D.tup [.str qp, encR (tagP k m .one), encR a] = _
  rw [encR_tag]; rfl
theorem pattern_ok {n k m : Nat} {d : D} {h : AH} {Q : VQ} {X : XP} (hk : k ≤ 1000) (kk : Q (patD k m d) h) : run P (n + 2) s__law_pattern [.int k, .int m, d] h Q X := by
  refine run_of (fd := fd_law_pattern) rfl rfl ?_
  simp [fd_law_pattern, start, b0_law_pattern]
  exact tagged_ok hk kk
/-- a place of l left ones or r right ones -/
def sdD (l r k : Nat) : D := if k < l then .tup [.str ql, .int k, .int l] else .tup [.str qr, .int ((k - l : Nat) : Int), .int r]
theorem side_ok {n k l r : Nat} {h : AH} {Q : VQ} {X : XP} (kk : Q (sdD l r k) h) : run P (n + 1) s__law_side [.int k, .int l, .int r] h Q X := by
  refine run_of (fd := fd_law_side) rfl rfl ?_
  unfold sdD at kk
  simp [fd_law_side, start, b0_law_side]
  by_cases e : k < l
  · rw [decide_eq_true e]
    rw [if_pos e] at kk
    simp [b1_law_side]
    exact kk
  · rw [decide_eq_false e]
    rw [if_neg e] at kk
    simp [b2_law_side]
    rw [show ((k : Int) - (l : Int)) = ((k - l : Nat) : Int) by omega]
    exact kk
abbrev S (l r : Nat) : Fam := sideF (numF false l) (numF false r)
theorem encL_S {l r k : Nat} {a : Pat} : encL ((S l r).pat k a) = if k < l then .tup [.str ql, patD k l (encL a)] else .tup [.str qr, patD (k - l) r (encL a)] := by
  show encL (if k < l then _ else _) = _
  by_cases e : k < l
  · rw [if_pos e, if_pos e]
    show D.tup [.str ql, encL ((numF false l).pat k a)] = _
    rw [encL_num]
  · rw [if_neg e, if_neg e]
    show D.tup [.str qr, encL ((numF false r).pat (k - l) a)] = _
    rw [encL_num]
theorem encR_S {l r k : Nat} {a : Pat} : encR ((S l r).pat k a) = if k < l then .tup [.str ql, patD k l (encR a)] else .tup [.str qr, patD (k - l) r (encR a)] := by
  show encR (if k < l then _ else _) = _
  by_cases e : k < l
  · rw [if_pos e, if_pos e]
    show D.tup [.str ql, encR ((numF false l).pat k a)] = _
    rw [encR_num]
  · rw [if_neg e, if_neg e]
    show D.tup [.str qr, encR ((numF false r).pat (k - l) a)] = _
    rw [encR_num]
def hws (f : Sx) (hs : List Nat) (s : Nat) : D := hwD f (hs.getD s 0)
theorem sd_pick {l r k : Nat} : ∃ (w : Sx) (a b : Nat), sdD l r k = .tup [.str w, .int a, .int b] ∧ (a ≤ k) ∧ ∀ d, (if k < l then D.tup [.str ql, patD k l d] else .tup [.str qr, patD (k - l) r d]) = .tup [.str w, patD a b d] := by
  unfold sdD
  by_cases e : k < l
  · rw [if_pos e]
    exact ⟨ql, k, l, rfl, by omega, fun d => by rw [if_pos e]⟩
  · rw [if_neg e]
    exact ⟨qr, k - l, r, rfl, by omega, fun d => by rw [if_neg e]⟩
theorem how_ok {f : Sx} {i : Nat} (hi : i < 2) : atI [D.tup [.str s_same], .tup [.str s_call, .str f]] (i : Int) = some (hwD f i) := by
  have : i = 0 ∨ i = 1 := by omega
  rcases this with rfl | rfl <;> rfl
def RwI (h0 : AH) (oq tq rq : Nat) (l r : D) (f : Sx) (rows : Nat → Pat × Pat) (i : Nat) : St → AH → Prop := fun σ h' => ∃ x6 x7 x8 x9 x10 x11, σ = [some (.ref oq), some (.ref tq), some l, some r, some (.str f), some (.ref rq), x6, x7, x8, x9, x10, x11] ∧ h' rq = some (.lst (((List.range i).map rows).map rowD)) ∧ Ext h0 h'
theorem rows_ok {n oq tq l r : Nat} {f : Sx} {os hs : List Nat} {h : AH} {Q : VQ} {X : XP} (ho : h oq = some (.lst (ofN os))) (ht : h tq = some (.lst (ofN hs))) (lo : os.length = l + r) (lh : hs.length = l + r) (hb : ∀ x, x ∈ hs → x < 2) (ob : ∀ x, x ∈ os → x ≤ 1000) (hz : l + r ≤ 1000)
    (k : ∀ h', Ext h h' → Q (csD (rowsB (S l r) (S l r) os (hws f hs))) h') : run P (n + 3) s__law_rows [.ref oq, .ref tq, .int l, .int r, .str f] h Q X := by
  refine run_of (fd := fd_law_rows) rfl rfl ?_
  simp [fd_law_rows, start, b0_law_rows]
  intro rq hrq
  have orq := ne_new ho hrq
  have trq := ne_new ht hrq
  rw [len_lst (Ext.new hrq _ _ ho)]
  have len : (ofN os).length = l + r := by simp [ofN, lo]
  rw [len]
  refine ⟨by omega, loop_rng (fun i => RwI h oq tq rq (.int l) (.int r) f (rowB (S l r) (S l r) os (hws f hs)) i) ⟨_, _, _, _, _, _, rfl, up_same, Ext.new hrq⟩ (fun _ _ _ _ => trivial) ?_ ?_⟩
  · rintro i σ h' hi ⟨x6, x7, x8, x9, x10, x11, rfl, er, ex⟩
    rw [show (0 : Int) + (i : Int) = (i : Int) by omega]
    have hi' : i < l + r := by omega
    simp [b1_law_rows]
    intro z hz'
    have exz := ex.trans (Ext.new (o := .lst [D.tup [.str s_same], .tup [.str s_call, .str f]]) hz')
    rw [ix_lst (exz _ _ ht), atI_ofN (by omega)]
    dsimp only
    rw [ix_lst up_same, how_ok (hb _ (getD_mem (by omega)))]
    dsimp only
    generalize eW : hwD f (hs.getD i 0) = wy
    refine side_ok (l := l) (r := r) ?_
    rw [ix_lst (exz _ _ ho), atI_ofN (by omega)]
    dsimp only
    refine side_ok (l := l) (r := r) ?_
    obtain ⟨w1, a1, b1, e1, l1, p1⟩ := sd_pick (l := l) (r := r) (k := i)
    obtain ⟨w2, a2, b2, e2, l2, p2⟩ := sd_pick (l := l) (r := r) (k := os.getD i 0)
    have ob' := ob _ (getD_mem (xs := os) (i := i) (by omega))
    rw [e1, e2]
    simp [at0, at1, at2']
    refine pattern_ok (by omega) ?_
    refine pattern_ok (by omega) ?_
    have erz := exz
    have rz : rq ≠ z := ne_new er hz'
    have er' : up h' z (.lst [D.tup [.str s_same], .tup [.str s_call, .str f]]) rq = _ := (up_ne rz).trans er
    refine ⟨recv_lstM rfl er', ?_⟩
    rw [aLst_eq er']
    have row : D.tup [D.tup [.str w1, patD a1 b1 (.tup [.str s_x, .str s_t])], D.tup [.str w2, patD a2 b2 (.tup [.str s_x, .str s_t, wy])]] = rowD (rowB (S l r) (S l r) os (hws f hs) i) := by
      rw [← eW]
      unfold rowD rowB
      simp only
      rw [encL_S, encR_S, p1, p2]
      rfl
    rw [row]
    refine ⟨by simp; omega, _, _, _, _, _, _, rfl, ?_, exz.mut hrq Ke.put⟩
    rw [up_same, List.range_succ, List.map_append, List.map_append]
    rfl
  · rintro σ h' ⟨x6, x7, x8, x9, x10, x11, rfl, er, ex⟩
    simp [b2_law_rows]
    rw [seq_lst er]
    have : ((l : Int) + (r : Int) - 0).toNat = l + r := by omega
    simp only [aSome_eq, Int.natCast_add] at this ⊢
    rw [show (((l : Int) + (r : Int)) - 0).toNat = l + r by omega]
    exact k h' ex
def PwI (h0 : AH) (oq tq rq : Nat) (f : Sx) (rows : Nat → Pat × Pat) (i : Nat) : St → AH → Prop := fun σ h' => ∃ x4 x5 x6, σ = [some (.ref oq), some (.ref tq), some (.str f), some (.ref rq), x4, x5, x6] ∧ h' rq = some (.lst (((List.range i).map rows).map rowD)) ∧ Ext h0 h'
theorem plain_ok {n oq tq r : Nat} {f : Sx} {os hs : List Nat} {h : AH} {Q : VQ} {X : XP} (ho : h oq = some (.lst (ofN os))) (ht : h tq = some (.lst (ofN hs))) (lo : os.length = r) (lh : hs.length = r) (hb : ∀ x, x ∈ hs → x < 2) (ob : ∀ x, x ∈ os → x ≤ 1000) (hz : r ≤ 1000)
    (k : ∀ h', Ext h h' → Q (csD (rowsB (numF false r) (numF false r) os (hws f hs))) h') : run P (n + 3) s__law_plain_rows [.ref oq, .ref tq, .str f] h Q X := by
  refine run_of (fd := fd_law_plain_rows) rfl rfl ?_
  simp [fd_law_plain_rows, start, b0_law_plain_rows]
  intro rq hrq
  have orq := ne_new ho hrq
  rw [len_lst (Ext.new hrq _ _ ho)]
  have len : (ofN os).length = r := by simp [ofN, lo]
  rw [len]
  refine ⟨by omega, loop_rng (fun i => PwI h oq tq rq f (rowB (numF false r) (numF false r) os (hws f hs)) i) ⟨_, _, _, rfl, up_same, Ext.new hrq⟩ (fun _ _ _ _ => trivial) ?_ ?_⟩
  · rintro i σ h' hi ⟨x4, x5, x6, rfl, er, ex⟩
    rw [show (0 : Int) + (i : Int) = (i : Int) by omega]
    have hi' : i < r := by omega
    simp [b1_law_plain_rows]
    intro z hz'
    have exz := ex.trans (Ext.new (o := .lst [D.tup [.str s_same], .tup [.str s_call, .str f]]) hz')
    rw [ix_lst (exz _ _ ht), atI_ofN (by omega)]
    dsimp only
    rw [ix_lst up_same, how_ok (hb _ (getD_mem (by omega)))]
    dsimp only
    generalize eW : hwD f (hs.getD i 0) = wy
    rw [len_lst (exz _ _ ho), len]
    have ob' := ob _ (getD_mem (xs := os) (i := i) (by omega))
    refine pattern_ok (by omega) ?_
    have rz : rq ≠ z := ne_new er hz'
    have er' : up h' z (.lst [D.tup [.str s_same], .tup [.str s_call, .str f]]) rq = _ := (up_ne rz).trans er
    refine ⟨recv_lstM rfl er', ?_⟩
    rw [ix_lst (exz _ _ ho), atI_ofN (by omega)]
    dsimp only
    rw [len_lst (exz _ _ ho), len]
    refine pattern_ok (by omega) ?_
    rw [aLst_eq er']
    have row : D.tup [patD i r (.tup [.str s_x, .str s_t]), patD (os.getD i 0) r (.tup [.str s_x, .str s_t, wy])] = rowD (rowB (numF false r) (numF false r) os (hws f hs) i) := by
      rw [← eW]
      unfold rowD rowB
      simp only
      rw [encL_num, encR_num]
      rfl
    rw [row]
    refine ⟨by simp; omega, _, _, _, rfl, ?_, exz.mut hrq Ke.put⟩
    rw [up_same, List.range_succ, List.map_append, List.map_append]
    rfl
  · rintro σ h' ⟨x4, x5, x6, rfl, er, ex⟩
    simp [b2_law_plain_rows]
    rw [seq_lst er]
    simp only [aSome_eq]
    rw [show ((r : Int) - 0).toNat = r by omega]
    exact k h' ex
def KoI (h : AH) (many : D) (i : Nat) : St → AH → Prop := fun σ h' => h' = h ∧ ∃ d x, σ = [some many, some d, x]
theorem kind_of_ok {n m : Nat} {h : AH} {Q : VQ} {X : XP} (hm : m ≤ 1000) (k : ∀ d, Q d h) : run P (n + 1) s__law_kind_of [.int m] h Q X := by
  refine run_of (fd := fd_law_kind_of) rfl rfl ?_
  simp [fd_law_kind_of, start, b0_law_kind_of]
  refine ⟨by omega, by omega, loop_rng (fun i => KoI h (.int m) i) ⟨rfl, _, _, rfl⟩ (fun _ _ _ _ => trivial) ?_ ?_⟩
  · rintro i σ h' hi ⟨rfl, d, x, rfl⟩
    simp [b1_law_kind_of]
    exact ⟨rfl, _, _, rfl⟩
  · rintro σ h' ⟨rfl, d, x, rfl⟩
    simp [b2_law_kind_of]
    exact k d
/-! ### strings -/
def bdD (b : Sx × Th) : D := .tup [.str b.1, encT b.2]
def StI (h0 : AH) (bk off t0 : D) (bq : Nat) (F H : Th → Th → Prop) (u : Th) (full : List (Sx × Th)) (n : Nat) : St → AH → Prop := fun σ h => ∃ acc here x bs, σ = [some bk, some off, some t0, some (.ref bq), some (encT here), x] ∧ h bq = some (.lst (acc.map bdD)) ∧ acc ++ bs = full ∧ Ext h0 h ∧
  ((n = 0 ∧ here = .l u ∧ bs = [(qb, u)]) ∨ ∃ m y z bs', n = m + 1 ∧ here = .r y ∧ H y z ∧ Chn F H m (.r z) u bs' ∧ bs = (qd, y) :: (qc, z) :: bs')
theorem string_ok {wk : List (D × D)} {rr wr n m : Nat} {k1 k2 w3 w4 : D} {t u : Th} {j : Nat} {bs : List (Sx × Th)} {h : AH} {Q : VQ} {X : XP} (hm : 2 * n ≤ m) (hw : h wr = some (.dct 0 wk)) (hz : bs.length ≤ 1000) (c : Chn (FR (Sn wk n) w3) (HR (Sn wk n) w4) j (.l t) u bs)
    (k : ∀ q h', Ext h h' → h q = none → h' q = some (.lst (((qa, t) :: bs).map bdD)) → Q (.ref q) h') : run P (m + 2) s_string [.tup [.ref rr, .ref wr], .tup [.str qoff, k1, k2, w3, w4], encT t] h Q X := by
  refine run_of (fd := fd_string) rfl rfl ?_
  simp only [fd_string, start, b0_string, wSs_cons, wS_asg, wE_call, wE_ix, wE_tup, wE_lst, wE_str, wE_int, wEs_cons, wEs_nil, wE_var, List.map_cons, List.map_nil, List.replicate, List.cons_append, List.nil_append, List.getElem?_cons_succ, List.getElem?_cons_zero, ix_tup, at3', setT_nm, List.set_cons_succ, List.set_cons_zero]
  refine ⟨by simp, by simp, fun bq hbq => ⟨by simp, ?_⟩⟩
  have ex0 : Ext h (up h bq (.lst [.tup [.str s_a, encT t]])) := Ext.new hbq
  have step : ∀ {a : Th} {j : Nat} {bs' : List (Sx × Th)} (acc : List (Sx × Th)) (h1 : AH) (Q' : VQ), Chn (FR (Sn wk n) w3) (HR (Sn wk n) w4) j a u bs' → h1 wr = some (.dct 0 wk) → acc ++ bs' = (qa, t) :: bs →
      (∀ h2 here, Ext h1 h2 → ((j = 0 ∧ here = .l u ∧ bs' = [(qb, u)]) ∨ ∃ m y z bs'', j = m + 1 ∧ here = .r y ∧ HR (Sn wk n) w4 y z ∧ Chn (FR (Sn wk n) w3) (HR (Sn wk n) w4) m (.r z) u bs'' ∧ bs' = (qd, y) :: (qc, z) :: bs'') → Q' (encT here) h2) → run P (m + 1) s_forth [.tup [.ref rr, .ref wr], w3, encT a] h1 Q' X := by
    intro a j bs' acc h1 Q' c hw1 _ kk
    cases j with
    | zero => exact forth_ok hm c.1.1 hw1 fun h2 e2 => kk h2 _ e2 (.inl ⟨rfl, rfl, c.2⟩)
    | succ j =>
      obtain ⟨x, y, bs'', f, hh, c', e⟩ := c
      exact forth_ok hm f.1 hw1 fun h2 e2 => kk h2 _ e2 (.inr ⟨j, x, y, bs'', rfl, rfl, hh, c', e⟩)
  refine step (a := .l t) [(qa, t)] _ _ c (ex0 _ _ hw) rfl fun h1 here e1 hc => ?_
  simp only [wS]
  refine ⟨StI h (.tup [.ref rr, .ref wr]) (.tup [.str qoff, k1, k2, w3, w4]) (encT t) bq (FR (Sn wk n) w3) (HR (Sn wk n) w4) u ((qa, t) :: bs), ⟨j, [(qa, t)], here, none, bs, rfl, e1 _ _ up_same, rfl, ex0.trans e1, hc⟩, ?_⟩
  rintro j σ h2 ⟨acc, here, x, bs', rfl, eb, full, ex, hc⟩
  have lacc : acc.length ≤ 1001 := by
    have := congrArg List.length full
    simp only [List.length_append, List.length_cons] at this
    omega
  simp only [wT_eq, wE_cmp, wE_ix, wE_var, wE_int, wE_str, List.getElem?_cons_succ, List.getElem?_cons_zero, cmp_eq]
  rcases hc with ⟨rfl, rfl, rfl⟩ | ⟨m', y, z, bs'', rfl, rfl, hh, c', rfl⟩
  · simp only [encT, ix_tup, at0]
    refine eq_pureX (by simp [pureD]) (by simp [pureD]) (.inl (by simp [plain])) ?_
    rw [decide_eq_false (by simp)]
    simp only [b2_string, wSs_cons, wSs_nil, wS_ex, wS_ret, wE_mth, wE_tup, wE_str, wE_ix, wE_var, wE_int, wEs_cons, wEs_nil, List.getElem?_cons_succ, List.getElem?_cons_zero, ix_tup, at1, RT_rt]
    refine ⟨recv_lstM rfl eb, by simp, ?_⟩
    simp only [mth_append]
    rw [aLst_eq eb]
    refine ⟨by simp; omega, k bq _ (ex.mut hbq Ke.put) hbq ?_⟩
    rw [up_same, ← full, List.map_append]
    rfl
  · simp only [encT, ix_tup, at0]
    refine eq_pureX (by simp [pureD]) (by simp [pureD]) (.inl (by simp [plain])) ?_
    rw [decide_eq_true (by simp)]
    simp only [b1_string, wSs_cons, wSs_nil, wS_ex, wS_asg, wE_mth, wE_call, wE_ix, wE_tup, wE_str, wE_int, wEs_cons, wEs_nil, wE_var, List.getElem?_cons_succ, List.getElem?_cons_zero, ix_tup, at1, at3', at4', setT_nm, List.set_cons_succ, List.set_cons_zero]
    refine ⟨recv_lstM rfl eb, by simp, ?_⟩
    simp only [mth_append]
    rw [aLst_eq eb]
    refine ⟨by simp; omega, ?_⟩
    have ex3 : Ext h _ := ex.mut hbq (Ke.put (o := .lst (acc.map bdD ++ [.tup [.str s_d, encT y]])))
    have eb3 : up h2 bq (.lst (acc.map bdD ++ [.tup [.str s_d, encT y]])) bq = _ := up_same
    generalize up h2 bq (.lst (acc.map bdD ++ [.tup [.str s_d, encT y]])) = h3 at ex3 eb3 ⊢
    refine back_ok hm hh.1 (ex3 _ _ hw) fun h4 e4 => ?_
    refine ⟨recv_lstM rfl (e4 _ _ eb3), by simp, ?_⟩
    rw [aLst_eq (e4 _ _ eb3)]
    refine ⟨by simp; omega, by simp, ?_⟩
    have ex5 : Ext h _ := (ex3.trans e4).mut hbq (Ke.put (o := .lst (acc.map bdD ++ [.tup [.str s_d, encT y]] ++ [.tup [.str s_c, encT z]])))
    have eb5 : up h4 bq (.lst (acc.map bdD ++ [.tup [.str s_d, encT y]] ++ [.tup [.str s_c, encT z]])) bq = _ := up_same
    generalize up h4 bq (.lst (acc.map bdD ++ [.tup [.str s_d, encT y]] ++ [.tup [.str s_c, encT z]])) = h5 at ex5 eb5 ⊢
    refine step (a := .r z) (acc ++ [(qd, y), (qc, z)]) _ _ c' (ex5 _ _ hw) (by rw [← full]; simp) fun h6 here e6 hc => ?_
    refine ⟨m', by omega, acc ++ [(qd, y), (qc, z)], here, _, bs'', rfl, ?_, by rw [← full]; simp, ex5.trans e6, hc⟩
    rw [e6 _ _ eb5]
    simp [bdD]
/-! ### the orders: where it goes -/
structure Mch where
  l : Nat
  r : Nat
  os : List Nat
  hs : List Nat
  sec : List Nat
  ab : List Nat
structure Mch.Ok (M : Mch) : Prop where
  l0 : 0 < M.l
  l1 : M.l ≤ 5
  r1 : M.r ≤ 5
  pm : M.os.Perm (List.range (M.l + M.r))
  pm2 : M.sec.Perm (List.range M.r)
  lh : M.hs.length = M.l + M.r
  la : M.ab.length = M.r
  hb : ∀ x, x ∈ M.hs → x < 2
  ab2 : ∀ x, x ∈ M.ab → x < 2
def Mch.o (M : Mch) (i : Nat) : Nat := M.os.getD i 0
def Mch.y (M : Mch) (i : Nat) : Nat := M.sec.idxOf (M.o i - M.l)
def Mch.t1 (M : Mch) (i : Nat) (t : Tr) : Tr := gT (M.hs.getD i 0) t
def Mch.t2 (M : Mch) (i : Nat) (t : Tr) : Tr := gT (M.ab.getD (M.y i) 0) (M.t1 i t)
def Mch.f (M : Mch) (i : Nat) : Option Nat := if i < M.l + M.r ∧ M.l ≤ M.o i then some (M.l + M.y i) else none
def Mch.u (M : Mch) : Nat → Nat → Tr → Th
  | 0, i, t => (numF false M.l).th (M.o i) (trT (M.t1 i t))
  | n + 1, i, t => M.u n (M.l + M.y i) (M.t2 i t)
def Mch.bs (M : Mch) : Nat → Nat → Tr → List (Sx × Th)
  | 0, i, t => [(qb, (numF false M.l).th (M.o i) (trT (M.t1 i t)))]
  | n + 1, i, t => (qd, (numF false M.r).th (M.o i - M.l) (trT (M.t1 i t))) :: (qc, (numF false M.r).th (M.y i) (trT (M.t2 i t))) :: M.bs n (M.l + M.y i) (M.t2 i t)
section
variable {M : Mch} (ok : M.Ok)
include ok
theorem Mch.o_lt {i : Nat} (h : i < M.l + M.r) : M.o i < M.l + M.r := by
  have l := ok.pm.length_eq
  simp only [List.length_range] at l
  exact List.mem_range.mp ((List.Perm.mem_iff ok.pm).mp (getD_mem (by omega)))
theorem Mch.y_lt {i : Nat} (h : i < M.l + M.r) (h2 : M.l ≤ M.o i) : M.y i < M.r ∧ M.sec.getD (M.y i) 0 = M.o i - M.l ∧ (M.o i - M.l) ∈ M.sec := by
  have l := ok.pm2.length_eq
  simp only [List.length_range] at l
  have ol := M.o_lt ok h
  have hm : M.o i - M.l ∈ M.sec := (List.Perm.mem_iff ok.pm2).mpr (List.mem_range.mpr (by omega))
  have lt := List.idxOf_lt_length_of_mem hm
  refine ⟨by unfold Mch.y; omega, ?_, hm⟩
  unfold Mch.y
  simp [List.getD, lt]
theorem Mch.stop {k : Nat} (h : k < M.l) : ∃ n, n ≤ M.l + M.r ∧ Stops M.f n k := by
  have l := ok.pm.length_eq
  simp only [List.length_range] at l
  have nd : M.os.Nodup := (List.Perm.nodup_iff ok.pm).mpr List.nodup_range
  refine stops (M := M.l + M.r) (fun i j x ei ej => ?_) (fun i x e => ?_) (by omega) (fun i e => ?_)
  · unfold Mch.f at ei ej
    split at ei
    · split at ej
      · rename_i h1 h2
        have a := M.y_lt ok h1.1 h1.2
        have b := M.y_lt ok h2.1 h2.2
        simp only [Option.some.injEq] at ei ej
        have e : M.y i = M.y j := by omega
        have e2 : M.o i - M.l = M.o j - M.l := by rw [← a.2.1, ← b.2.1, e]
        have e3 : M.o i = M.o j := by omega
        have g1 := getD_lt (d := 0) (show i < M.os.length by omega)
        have g2 := getD_lt (d := 0) (show j < M.os.length by omega)
        rw [show M.os.getD i 0 = M.os.getD j 0 from e3] at g1
        exact nodup_inj nd g1 g2
      · cases ej
    · cases ei
  · unfold Mch.f at e
    split at e
    · rename_i h1
      have a := M.y_lt ok h1.1 h1.2
      simp only [Option.some.injEq] at e
      omega
    · cases e
  · unfold Mch.f at e
    split at e
    · simp only [Option.some.injEq] at e
      omega
    · cases e
theorem Mch.lvl : (S M.l M.r).c < 24 ∧ (numF false M.r).c < 24 := by
  have a := ok.l1
  have b := ok.r1
  constructor
  · show (M.l + 3) + (M.r + 3) + 1 < 24; omega
  · show M.r + 3 < 24; omega
def w3D (M : Mch) (f : Sx) : D := csD (rowsB (S M.l M.r) (S M.l M.r) M.os (hws f M.hs))
def w4D (M : Mch) (f : Sx) : D := csD (rowsB (numF false M.r) (numF false M.r) M.sec (hws f M.ab))
theorem Mch.e_ok {wk : List (D × D)} {f : Sx} (hw : BkW wk f) {i : Nat} {t : Tr} (hi : i < M.l + M.r) (ht : t.dp ≤ 2) : FR (Sn wk 13) (w3D M f) ((S M.l M.r).th i (trT t)) ((S M.l M.r).th (M.o i) (trT (M.t1 i t))) := by
  obtain ⟨c1, c2⟩ := M.lvl ok
  have s1 : Sn wk 12 (hws f M.hs i) false (trT t) (trT (M.t1 i t)) := hw_sn hw (by omega)
  have s2 : Sn wk 12 (hws f M.hs i) true (trT (M.t1 i t)) (trT t) := by
    have := hw_sn (i := M.hs.getD i 0) (t := M.t1 i t) hw (b := true) (m := 12) (by unfold Mch.t1; rw [gT_dp]; omega)
    rw [show gT (M.hs.getD i 0) (M.t1 i t) = t by unfold Mch.t1; rw [gT_gT]] at this
    exact this
  exact ⟨Sn.cases_ (n := 12) (box_f (L := S M.l M.r) rfl ok.pm c1 c1 (by omega) (by omega) hi s1), Sn.cases_ (n := 12) (box_b (L := S M.l M.r) rfl ok.pm c1 c1 (by omega) (by omega) hi s2)⟩
theorem Mch.h_ok {wk : List (D × D)} {f : Sx} (hw : BkW wk f) {i : Nat} {t : Tr} (hi : i < M.l + M.r) (h2 : M.l ≤ M.o i) (ht : t.dp ≤ 2) : HR (Sn wk 13) (w4D M f) ((numF false M.r).th (M.o i - M.l) (trT (M.t1 i t))) ((numF false M.r).th (M.y i) (trT (M.t2 i t))) := by
  obtain ⟨c1, c2⟩ := M.lvl ok
  obtain ⟨yl, ys, _⟩ := M.y_lt ok hi h2
  have d1 : (M.t1 i t).dp = t.dp := by unfold Mch.t1; rw [gT_dp]
  have d2 : (M.t2 i t).dp = t.dp := by unfold Mch.t2; rw [gT_dp, d1]
  have s1 : Sn wk 12 (hws f M.ab (M.y i)) true (trT (M.t1 i t)) (trT (M.t2 i t)) := hw_sn hw (by omega)
  have s2 : Sn wk 12 (hws f M.ab (M.y i)) false (trT (M.t2 i t)) (trT (M.t1 i t)) := by
    have := hw_sn (i := M.ab.getD (M.y i) 0) (t := M.t2 i t) hw (b := false) (m := 12) (by omega)
    rw [show gT (M.ab.getD (M.y i) 0) (M.t2 i t) = M.t1 i t by unfold Mch.t2; rw [gT_gT]] at this
    exact this
  rw [← ys]
  exact ⟨Sn.cases_ (n := 12) (box_b (L := numF false M.r) rfl ok.pm2 c2 c2 (by omega) (by omega) yl s1), Sn.cases_ (n := 12) (box_f (L := numF false M.r) rfl ok.pm2 c2 c2 (by omega) (by omega) yl s2)⟩
theorem Mch.chn {wk : List (D × D)} {f : Sx} (hw : BkW wk f) : ∀ {n i : Nat} {t : Tr}, Stops M.f n i → i < M.l + M.r → t.dp ≤ 2 → Chn (FR (Sn wk 13) (w3D M f)) (HR (Sn wk 13) (w4D M f)) n ((S M.l M.r).th i (trT t)) (M.u n i t) (M.bs n i t)
  | 0, i, t, s, hi, ht => by
    have hl : M.o i < M.l := by
      have s : M.f i = none := s
      unfold Mch.f at s
      split at s
      · cases s
      · omega
    have e := M.e_ok ok hw hi ht
    have : (S M.l M.r).th (M.o i) (trT (M.t1 i t)) = .l ((numF false M.l).th (M.o i) (trT (M.t1 i t))) := by
      show (if M.o i < M.l then _ else _) = _
      rw [if_pos hl]
    rw [this] at e
    exact ⟨e, rfl⟩
  | n + 1, i, t, ⟨x, ex, s⟩, hi, ht => by
    unfold Mch.f at ex
    split at ex
    · rename_i h1
      simp only [Option.some.injEq] at ex
      subst ex
      have hy := M.y_lt ok hi h1.2
      have e := M.e_ok ok hw hi ht
      have e1 : (S M.l M.r).th (M.o i) (trT (M.t1 i t)) = .r ((numF false M.r).th (M.o i - M.l) (trT (M.t1 i t))) := by
        show (if M.o i < M.l then _ else _) = _
        rw [if_neg (by omega)]
        rfl
      rw [e1] at e
      have d2 : (M.t2 i t).dp ≤ 2 := by unfold Mch.t2 Mch.t1; rw [gT_dp, gT_dp]; exact ht
      have c := Mch.chn hw (t := M.t2 i t) s (by omega) d2
      have e2 : (S M.l M.r).th (M.l + M.y i) (trT (M.t2 i t)) = .r ((numF false M.r).th (M.y i) (trT (M.t2 i t))) := by
        show (if M.l + M.y i < M.l then _ else _) = _
        rw [if_neg (by omega)]
        show Th.r ((numF false M.r).th (M.l + M.y i - M.l) _) = _
        rw [show M.l + M.y i - M.l = M.y i by omega]
      rw [e2] at c
      exact ⟨_, _, _, e, M.h_ok ok hw hi h1.2 ht, c, rfl⟩
    · cases ex
end
theorem stops_le {f : Nat → Option Nat} : ∀ {n m i : Nat}, Stops f n i → Stops f m i → n = m
  | 0, 0, _, _, _ => rfl
  | 0, _ + 1, _, a, ⟨x, e, _⟩ => by rw [show f _ = none from a] at e; cases e
  | _ + 1, 0, _, ⟨x, e, _⟩, b => by rw [show f _ = none from b] at e; cases e
  | n + 1, m + 1, _, ⟨x, e, a⟩, ⟨y, e2, b⟩ => by
    rw [e] at e2
    cases e2
    rw [stops_le a b]
theorem Mch.bs_last {M : Mch} : ∀ (n i : Nat) (t : Tr), ∃ init, M.bs n i t = init ++ [(qb, M.u n i t)]
  | 0, i, t => ⟨[], rfl⟩
  | n + 1, i, t => by
    obtain ⟨init, e⟩ := Mch.bs_last (M := M) n (M.l + M.y i) (M.t2 i t)
    exact ⟨(qd, (numF false M.r).th (M.o i - M.l) (trT (M.t1 i t))) :: (qc, (numF false M.r).th (M.y i) (trT (M.t2 i t))) :: init, by simp only [Mch.bs, Mch.u, e, List.cons_append]⟩
theorem Mch.bs_len {M : Mch} : ∀ (n i : Nat) (t : Tr), (M.bs n i t).length = 2 * n + 1
  | 0, i, t => rfl
  | n + 1, i, t => by simp only [Mch.bs, List.length_cons, Mch.bs_len n]; omega
theorem num_pp {k m : Nat} {t : Tr} (hk : k ≤ 4) (ht : t.dp ≤ 2) : PP 9 (encT ((numF false m).th k (trT t))) := by
  show PP 9 (.tup [.str qp, encT (tagTh k m .one), encT (trT t)])
  rw [encT_tag]
  refine PP.tup (n := 8) fun x hx => ?_
  simp only [List.mem_cons, List.not_mem_nil, or_false] at hx
  rcases hx with rfl | rfl | rfl
  · exact .str
  · exact (tagD_pp (n := 1) hk ⟨by simp [encT, pureD, pureDs], by simp [encT, plain, plains]⟩).mono (by omega)
  · exact (trT_pp t).mono (by omega)
theorem Mch.bs_pp {M : Mch} (ok : M.Ok) : ∀ {n i : Nat} {t : Tr}, Stops M.f n i → i < M.l + M.r → t.dp ≤ 2 → (∀ b, b ∈ M.bs n i t → PP 9 (encT b.2)) ∧ PP 9 (encT (M.u n i t))
  | 0, i, t, s, hi, ht => by
    have l1 := ok.l1
    have hl : M.o i < M.l := by
      have s : M.f i = none := s
      unfold Mch.f at s
      split at s
      · cases s
      · omega
    have : PP 9 (encT ((numF false M.l).th (M.o i) (trT (M.t1 i t)))) := num_pp (by omega) (by unfold Mch.t1; rw [gT_dp]; exact ht)
    refine ⟨fun b hb => ?_, this⟩
    simp only [Mch.bs, List.mem_singleton] at hb
    subst hb
    exact this
  | n + 1, i, t, ⟨x, ex, s⟩, hi, ht => by
    have r1 := ok.r1
    unfold Mch.f at ex
    split at ex
    · rename_i h1
      simp only [Option.some.injEq] at ex
      subst ex
      have hy := M.y_lt ok hi h1.2
      have ol := M.o_lt ok hi
      have d1 : (M.t1 i t).dp ≤ 2 := by unfold Mch.t1; rw [gT_dp]; exact ht
      have d2 : (M.t2 i t).dp ≤ 2 := by unfold Mch.t2; rw [gT_dp]; exact d1
      have ih := Mch.bs_pp ok (t := M.t2 i t) s (by omega) d2
      refine ⟨fun b hb => ?_, ih.2⟩
      simp only [Mch.bs, List.mem_cons] at hb
      rcases hb with rfl | rfl | hb
      · exact num_pp (by omega) d1
      · exact num_pp (by omega) d2
      · exact ih.1 b hb
    · cases ex
theorem bits_ok {n p m : Nat} {e : E} {σ : St} {h : AH} {Q : VQ} {X : XP} (he : ∀ Q' : VQ, Q' (.int (m : Int)) h → wE ⟨run P (n + 1), X⟩ e σ h Q') (hσ : σ[1]? = some (some (.ref p))) (hm : m ≤ 100) (hd : IsDeck p h) (k : ∀ q xs h', xs.length = m → (∀ x, x ∈ xs → x < 2) → h q = none → h' q = some (.lst (ofN xs)) → IsDeck p h' → Ke p h h' → Q (.ref q) h') :
    wE ⟨run P (n + 1), X⟩ (.lc (.call s__law_next (.cons (.var 1) (.cons (.int 2) .nil))) (.nm 21) [21] .rng (.cons e .nil) .nil) σ h Q := by
  simp only [wE_lc, wEs_cons, wEs_nil]
  refine he _ ?_
  simp only [walk_rng]
  refine ⟨by omega, by omega, comp_rng (fun i acc h' => ∃ ps : List Nat, acc = ofN ps ∧ ps.length = i ∧ (∀ x, x ∈ ps → x < 2) ∧ IsDeck p h' ∧ Ke p h h') ⟨[], rfl, rfl, by simp, hd, .refl⟩ (fun i acc h' ⟨ps, e, l, _⟩ => ⟨trivial, by rw [e]; simp [ofN, l]⟩) (by simp only [LINE]; omega) ?_ ?_⟩
  · rintro i acc h2 hi ⟨ps, rfl, l, b, hd2, k2⟩
    have e3 : ((forget σ [21]).set 21 (some (.int (0 + (i : Int)))))[1]? = some (some (.ref p)) := by
      simp [hσ]
    simp only [setT_nm, wB_nil, wE_call, wEs_cons, wEs_nil, wE_var, wE_int, e3]
    refine next_ok hd2 (by omega) fun w h3 w0 w1 hd3 k3 => ?_
    refine ⟨ps ++ [w.toNat], ?_, by simp [l], ?_, hd3, k2.trans k3⟩
    · simp [ofN]; omega
    · intro x hx
      rcases List.mem_append.mp hx with hx | hx
      · exact b x hx
      · simp at hx; omega
  · rintro acc h2 ⟨ps, rfl, l, b, hd2, k2⟩ r hr
    exact k r ps _ (by rw [l]; omega) b (fresh_ke k2 hd2 hr) up_same (hd2.put hr) (k2.new hr)
theorem bds_pp {bs : List (Sx × Th)} (h : ∀ b, b ∈ bs → PP 9 (encT b.2)) : pureDs (bs.map bdD) = true ∧ plains 190 (bs.map bdD) = true := by
  have key : ∀ d, d ∈ bs.map bdD → PP 10 d := by
    intro d hd
    obtain ⟨b, hb, rfl⟩ := List.mem_map.mp hd
    refine PP.tup (n := 9) fun x hx => ?_
    simp only [List.mem_cons, List.not_mem_nil, or_false] at hx
    rcases hx with rfl | rfl
    · exact .str
    · exact h b hb
  exact ⟨pureDs_of fun d hd => (key d hd).1, plains_of fun d hd => ((key d hd).mono (by omega)).2⟩
/-! ### strings apart -/
theorem encT_inj : ∀ {a b : Th}, encT a = encT b → a = b
  | .one, b, h => by cases b <;> simp [encT] at h ⊢
  | .a i, b, h => by cases b <;> simp [encT] at h ⊢ <;> exact h
  | .n a, b, h => by cases b <;> simp [encT] at h ⊢ <;> exact encT_inj h
  | .l a, b, h => by cases b <;> simp [encT] at h ⊢ <;> exact encT_inj h
  | .r a, b, h => by cases b <;> simp [encT] at h ⊢ <;> exact encT_inj h
  | .p a c, b, h => by cases b <;> simp [encT] at h ⊢ <;> exact ⟨encT_inj h.1, encT_inj h.2⟩
theorem bdD_inj {a b : Sx × Th} (h : bdD a = bdD b) : a = b := by
  obtain ⟨x, s⟩ := a
  obtain ⟨y, t⟩ := b
  simp only [bdD, D.tup.injEq, List.cons.injEq, D.str.injEq, and_true] at h
  rw [h.1, encT_inj h.2]
theorem trT_inj : ∀ {a b : Tr}, trT a = trT b → a = b
  | .lf i, b, h => by cases b <;> simp [trT] at h ⊢; exact h
  | .nd a c, b, h => by cases b <;> simp [trT] at h ⊢; exact ⟨trT_inj h.1, trT_inj h.2⟩
theorem num_inj {m k k' : Nat} {t t' : Th} (hk : k < m) (hk' : k' < m) (h : (numF false m).th k t = (numF false m).th k' t') : k = k' ∧ t = t' := by
  have e1 : k = k' := Classical.byContradiction fun ne => by
    have h1 := (numF false m).tkS k (.hole [] .non) t hk
    have h2 := (numF false m).tkO k k' (.hole [] .non) t' hk hk' ne
    rw [h, h2] at h1
    simp [tkB] at h1
  subst e1
  refine ⟨rfl, ?_⟩
  have h2 : Th.p (tagTh k m .one) t = Th.p (tagTh k m .one) t' := h
  injection h2
section
variable {α : Type}
/-- s, and what it leads to, n times -/
def stsG (g : α → α) : Nat → α → List α
  | 0, s => [s]
  | n + 1, s => s :: stsG g n (g s)
def itG (g : α → α) : Nat → α → α
  | 0, s => s
  | n + 1, s => itG g n (g s)
def RunG (g : α → α) (p : α → Prop) : Nat → α → Prop
  | 0, _ => True
  | n + 1, s => p s ∧ RunG g p n (g s)
theorem itG_out (g : α → α) : ∀ (n : Nat) (s : α), itG g (n + 1) s = g (itG g n s)
  | 0, s => rfl
  | n + 1, s => itG_out g n (g s)
theorem mem_sts {g : α → α} {x : α} : ∀ {n : Nat} {s : α}, x ∈ stsG g n s → ∃ j, j ≤ n ∧ x = itG g j s
  | 0, s, h => ⟨0, Nat.le_refl 0, List.mem_singleton.mp h⟩
  | n + 1, s, h => by
    rcases List.mem_cons.mp h with e | h
    · exact ⟨0, Nat.zero_le _, e⟩
    · obtain ⟨j, hj, e⟩ := mem_sts h
      exact ⟨j + 1, by omega, e⟩
theorem runG_at {g : α → α} {p : α → Prop} : ∀ {n j : Nat} {s : α}, RunG g p n s → j < n → p (itG g j s)
  | 0, j, s, _, h => absurd h (Nat.not_lt_zero j)
  | n + 1, 0, s, r, _ => r.1
  | n + 1, j + 1, s, r, h => runG_at (s := g s) r.2 (by omega)
/-- two of them that are one -/
theorem it_same {g : α → α} {p : α → Prop} {rt : α → Prop} (inj : ∀ a b, p a → p b → g a = g b → a = b) (root : ∀ a, p a → ¬ rt (g a)) {n n' : Nat} {s s' : α} (r : RunG g p n s) (r' : RunG g p n' s') (hs : rt s) (hs' : rt s') :
    ∀ j k, j ≤ n → k ≤ n' → itG g j s = itG g k s' → j = k ∧ s = s'
  | 0, 0, _, _, e => ⟨rfl, e⟩
  | 0, k + 1, _, hk, e => by
    rw [itG_out] at e
    have e : s = g (itG g k s') := e
    exact absurd (e ▸ hs) (root _ (runG_at r' (by omega)))
  | j + 1, 0, hj, _, e => by
    rw [itG_out] at e
    have e : g (itG g j s) = s' := e
    exact absurd (e ▸ hs') (root _ (runG_at r (by omega)))
  | j + 1, k + 1, hj, hk, e => by
    rw [itG_out, itG_out] at e
    obtain ⟨h1, h2⟩ := it_same inj root r r' hs hs' j k (by omega) (by omega) (inj _ _ (runG_at r (by omega)) (runG_at r' (by omega)) e)
    exact ⟨by rw [h1], h2⟩
theorem sts_nodup {g : α → α} {p : α → Prop} {rt : α → Prop} (inj : ∀ a b, p a → p b → g a = g b → a = b) (root : ∀ a, p a → ¬ rt (g a)) {n : Nat} {s : α} (r : RunG g p n s) (hs : rt s) : (stsG g n s).Nodup := by
  have key : ∀ (m i : Nat) (t : α), t = itG g i s → i + m = n → (stsG g m t).Nodup ∧ ∀ x ∈ stsG g m t, ∃ j, i ≤ j ∧ j ≤ n ∧ x = itG g j s := by
    intro m
    induction m with
    | zero => intro i t e h; exact ⟨List.nodup_cons.mpr ⟨by simp, List.nodup_nil⟩, fun x hx => ⟨i, Nat.le_refl _, by omega, by rw [List.mem_singleton.mp hx, e]⟩⟩
    | succ m ih =>
      intro i t e h
      obtain ⟨h1, h2⟩ := ih (i + 1) (g t) (by rw [itG_out, e]) (by omega)
      refine ⟨List.nodup_cons.mpr ⟨fun hm => ?_, h1⟩, fun x hx => ?_⟩
      · obtain ⟨j, a, b, e2⟩ := h2 _ hm
        rw [e] at e2
        have := (it_same inj root r r hs hs i j (by omega) b e2).1
        omega
      · rcases List.mem_cons.mp hx with z | hx
        · exact ⟨i, Nat.le_refl _, by omega, by rw [z, e]⟩
        · obtain ⟨j, a, b, e2⟩ := h2 x hx
          exact ⟨j, by omega, b, e2⟩
  exact (key n 0 s rfl (by omega)).1
/-- of unlike beginnings unlike ones -/
theorem sts_apart {g : α → α} {p : α → Prop} {rt : α → Prop} (inj : ∀ a b, p a → p b → g a = g b → a = b) (root : ∀ a, p a → ¬ rt (g a)) (N : α → Nat) : ∀ {ss : List α}, ss.Nodup → (∀ s ∈ ss, rt s ∧ RunG g p (N s) s) → (ss.flatMap fun s => stsG g (N s) s).Nodup
  | [], _, _ => List.nodup_nil
  | s :: ss, nd, h => by
    rw [List.nodup_cons] at nd
    rw [List.flatMap_cons, List.nodup_append]
    obtain ⟨h1, h2⟩ := h s List.mem_cons_self
    refine ⟨sts_nodup inj root h2 h1, sts_apart inj root N nd.2 fun x hx => h x (List.mem_cons_of_mem _ hx), fun x hx y hy e => ?_⟩
    obtain ⟨j, hj, e1⟩ := mem_sts hx
    obtain ⟨s', hs', hy⟩ := List.mem_flatMap.mp hy
    obtain ⟨k, hk, e2⟩ := mem_sts hy
    obtain ⟨h3, h4⟩ := h s' (List.mem_cons_of_mem _ hs')
    obtain ⟨_, z⟩ := it_same inj root h2 h4 h1 h3 j k hj hk (by rw [← e1, ← e2]; exact e)
    exact nd.1 (z ▸ hs')
end
def Mch.p (M : Mch) (s : Nat × Tr) : Prop := s.1 < M.l + M.r ∧ M.l ≤ M.o s.1
def Mch.g (M : Mch) (s : Nat × Tr) : Nat × Tr := (M.l + M.y s.1, M.t2 s.1 s.2)
/-- what stands at a state, what leaves it -/
def Mch.N (M : Mch) (s : Nat × Tr) : Sx × Th := if s.1 < M.l then (qa, (numF false M.l).th s.1 (trT s.2)) else (qc, (numF false M.r).th (s.1 - M.l) (trT s.2))
def Mch.X (M : Mch) (s : Nat × Tr) : Sx × Th := if M.o s.1 < M.l then (qb, (numF false M.l).th (M.o s.1) (trT (M.t1 s.1 s.2))) else (qd, (numF false M.r).th (M.o s.1 - M.l) (trT (M.t1 s.1 s.2)))
section
variable {M : Mch} (ok : M.Ok)
include ok
theorem Mch.o_inj {i j : Nat} (hi : i < M.l + M.r) (hj : j < M.l + M.r) (e : M.o i = M.o j) : i = j := by
  have l := ok.pm.length_eq
  simp only [List.length_range] at l
  have nd : M.os.Nodup := (List.Perm.nodup_iff ok.pm).mpr List.nodup_range
  have g1 := getD_lt (d := 0) (show i < M.os.length by omega)
  have g2 := getD_lt (d := 0) (show j < M.os.length by omega)
  rw [show M.os.getD i 0 = M.os.getD j 0 from e] at g1
  exact nodup_inj nd g1 g2
theorem Mch.g_inj (a b : Nat × Tr) (ha : M.p a) (hb : M.p b) (e : M.g a = M.g b) : a = b := by
  obtain ⟨i, t⟩ := a
  obtain ⟨j, u⟩ := b
  have ya := M.y_lt ok ha.1 ha.2
  have yb := M.y_lt ok hb.1 hb.2
  simp only [Mch.g, Prod.mk.injEq] at e
  obtain ⟨e1, e2⟩ := e
  have ey : M.y i = M.y j := by omega
  have eo : M.o i - M.l = M.o j - M.l := by rw [← ya.2.1, ← yb.2.1, ey]
  have h1 := ha.2
  have h2 := hb.2
  have ei : i = j := M.o_inj ok ha.1 hb.1 (by simp only at h1 h2; omega)
  subst ei
  have : t = u := by
    unfold Mch.t2 Mch.t1 at e2
    have := congrArg (gT (M.ab.getD (M.y i) 0)) e2
    rw [gT_gT, gT_gT] at this
    have := congrArg (gT (M.hs.getD i 0)) this
    rw [gT_gT, gT_gT] at this
    exact this
  rw [this]
theorem Mch.g_root (a : Nat × Tr) (_ : M.p a) : ¬ (M.g a).1 < M.l := by simp [Mch.g]
theorem Mch.run {n i : Nat} {t : Tr} (st : Stops M.f n i) : RunG M.g M.p n (i, t) ∧ M.o (itG M.g n (i, t)).1 < M.l ∨ ¬ i < M.l + M.r := by
  by_cases hi : i < M.l + M.r
  · left
    induction n generalizing i t with
    | zero =>
      have s : M.f i = none := st
      unfold Mch.f at s
      split at s
      · cases s
      · exact ⟨trivial, by show M.o i < M.l; omega⟩
    | succ n ih =>
      obtain ⟨x, ex, s⟩ := st
      unfold Mch.f at ex
      split at ex
      · rename_i h1
        simp only [Option.some.injEq] at ex
        subst ex
        have hy := M.y_lt ok hi h1.2
        obtain ⟨h2, h3⟩ := ih (t := M.t2 i t) s (by omega)
        exact ⟨⟨h1, h2⟩, h3⟩
      · cases ex
  · exact .inr hi
theorem Mch.sts_lt : ∀ {n : Nat} {s : Nat × Tr}, s.1 < M.l + M.r → RunG M.g M.p n s → ∀ x ∈ stsG M.g n s, x.1 < M.l + M.r
  | 0, s, h, _, x, hx => by rw [List.mem_singleton.mp hx]; exact h
  | n + 1, s, h, r, x, hx => by
    rcases List.mem_cons.mp hx with e | hx
    · rw [e]; exact h
    · exact Mch.sts_lt (s := M.g s) (by have := M.y_lt ok r.1.1 r.1.2; simp only [Mch.g]; omega) r.2 x hx
theorem Mch.beads : ∀ {n i : Nat} {t : Tr}, Stops M.f n i → i < M.l + M.r → M.N (i, t) :: M.bs n i t = (stsG M.g n (i, t)).flatMap fun s => [M.N s, M.X s]
  | 0, i, t, st, hi => by
    have s : M.f i = none := st
    have ho : M.o i < M.l := by
      unfold Mch.f at s
      split at s
      · cases s
      · omega
    simp [stsG, Mch.bs, Mch.X, ho]
  | n + 1, i, t, ⟨x, ex, s⟩, hi => by
    unfold Mch.f at ex
    split at ex
    · rename_i h1
      simp only [Option.some.injEq] at ex
      subst ex
      have hy := M.y_lt ok hi h1.2
      have ih := Mch.beads (t := M.t2 i t) s (by omega)
      have no : ¬ M.o i < M.l := by omega
      have nl : ¬ M.l + M.y i < M.l := by omega
      have eN : M.N (M.l + M.y i, M.t2 i t) = (qc, (numF false M.r).th (M.y i) (trT (M.t2 i t))) := by
        simp only [Mch.N, if_neg nl]
        rw [show M.l + M.y i - M.l = M.y i by omega]
      rw [eN] at ih
      show M.N (i, t) :: (qd, _) :: (qc, _) :: M.bs n (M.l + M.y i) (M.t2 i t) = _
      rw [ih]
      simp only [stsG, List.flatMap_cons, Mch.g, Mch.X, if_neg no]
      rfl
    · cases ex
theorem Mch.N_inj {a b : Nat × Tr} (ha : a.1 < M.l + M.r) (hb : b.1 < M.l + M.r) (e : M.N a = M.N b) : a = b := by
  obtain ⟨i, t⟩ := a
  obtain ⟨j, u⟩ := b
  simp only [Mch.N] at e ha hb
  have l0 := ok.l0
  split at e <;> split at e <;> simp at e
  · rename_i h1 h2
    obtain ⟨e1, e2⟩ := num_inj h1 h2 e
    rw [e1, trT_inj e2]
  · rename_i h1 h2
    obtain ⟨e1, e2⟩ := num_inj (by omega) (by omega) e
    rw [show i = j by omega, trT_inj e2]
theorem Mch.X_inj {a b : Nat × Tr} (ha : a.1 < M.l + M.r) (hb : b.1 < M.l + M.r) (e : M.X a = M.X b) : a = b := by
  obtain ⟨i, t⟩ := a
  obtain ⟨j, u⟩ := b
  simp only [Mch.X] at e ha hb
  have oi := M.o_lt ok ha
  have oj := M.o_lt ok hb
  have fin : M.o i = M.o j → trT (M.t1 i t) = trT (M.t1 j u) → (i, t) = (j, u) := fun e1 e2 => by
    have ei := M.o_inj ok ha hb e1
    subst ei
    have := trT_inj e2
    unfold Mch.t1 at this
    have := congrArg (gT (M.hs.getD i 0)) this
    rw [gT_gT, gT_gT] at this
    rw [this]
  split at e <;> split at e <;> simp at e
  · rename_i h1 h2
    obtain ⟨e1, e2⟩ := num_inj h1 h2 e
    exact fin e1 e2
  · rename_i h1 h2
    obtain ⟨e1, e2⟩ := num_inj (by omega) (by omega) e
    exact fin (by omega) e2
theorem NX_ne (a b : Nat × Tr) : M.N a ≠ M.X b := by
  unfold Mch.N Mch.X
  split <;> split <;> simp
theorem flat_nodup : ∀ {L : List (Nat × Tr)}, L.Nodup → (∀ s ∈ L, s.1 < M.l + M.r) → (L.flatMap fun s => [M.N s, M.X s]).Nodup
  | [], _, _ => List.nodup_nil
  | s :: L, nd, h => by
    rw [List.nodup_cons] at nd
    have hs := h s List.mem_cons_self
    have hl := fun x hx => h x (List.mem_cons_of_mem _ hx)
    rw [List.flatMap_cons, List.nodup_append]
    refine ⟨by simp [NX_ne ok], flat_nodup nd.2 hl, fun x hx y hy e => ?_⟩
    obtain ⟨s', hs', hy⟩ := List.mem_flatMap.mp hy
    have := hl s' hs'
    simp only [List.mem_cons, List.not_mem_nil, or_false] at hx hy
    rw [← e] at hy
    rcases hx with rfl | rfl <;> rcases hy with hy | hy
    · exact nd.1 (M.N_inj ok hs this hy ▸ hs')
    · exact NX_ne ok _ _ hy
    · exact NX_ne ok _ _ hy.symm
    · exact nd.1 (M.X_inj ok hs this hy ▸ hs')
end
/-! ### a string looked at -/
def Led (F H : Th → Th → Prop) (b b' : Sx × Th) : Prop := (b.1 = qd ∧ b'.1 = qc ∧ H b.2 b'.2) ∨ ∃ a, ((b.1 = qa ∧ a = .l b.2) ∨ (b.1 = qc ∧ a = .r b.2)) ∧ ((b'.1 = qd ∧ F a (.r b'.2)) ∨ (b'.1 = qb ∧ F a (.l b'.2)))
def Adj {α : Type} (R : α → α → Prop) (l : List α) : Prop := ∀ i x y, l[i]? = some x → l[i + 1]? = some y → R x y
theorem Adj.one {α : Type} {R : α → α → Prop} {x : α} : Adj R [x] := fun i a b _ h => by simp at h
theorem Adj.cons {α : Type} {R : α → α → Prop} {x y : α} {l : List α} (h : R x y) (r : Adj R (y :: l)) : Adj R (x :: y :: l) := fun i a b h1 h2 => by
  cases i with
  | zero => simp at h1 h2; subst h1 h2; exact h
  | succ i => exact r i a b (by simpa using h1) (by simpa using h2)
theorem chn_led {F H : Th → Th → Prop} : ∀ {n : Nat} {a u : Th} {bs : List (Sx × Th)} {b0 : Sx × Th}, Chn F H n a u bs → ((b0.1 = qa ∧ a = .l b0.2) ∨ (b0.1 = qc ∧ a = .r b0.2)) → Adj (Led F H) (b0 :: bs)
  | 0, a, u, bs, b0, ⟨f, e⟩, h => by
    subst e
    exact .cons (.inr ⟨a, h, .inr ⟨rfl, f⟩⟩) .one
  | n + 1, a, u, bs, b0, ⟨x, y, bs', f, hh, c, e⟩, h => by
    subst e
    refine .cons (.inr ⟨a, h, .inl ⟨rfl, f⟩⟩) (.cons (.inl ⟨rfl, rfl, hh⟩) ?_)
    exact chn_led c (.inr ⟨rfl, rfl⟩)
theorem eq_same {n : Nat} {t : Th} {h : AH} {q : Bool → Prop} (p : PP n (encT t)) (hn : n ≤ 190) (k : q true) : eqOkX (encT t) (encT t) h q := by
  refine eq_pureX p.1 p.1 (.inl (p.mono hn).2) ?_
  rw [decide_eq_true rfl]
  exact k
theorem led_ok {wk : List (D × D)} {rr wr n m : Nat} {k1 k2 w3 w4 : D} {b b' : Sx × Th} {h : AH} {Q : VQ} {X : XP} (hm : 2 * n ≤ m) (hw : h wr = some (.dct 0 wk)) (p1 : PP 9 (encT b.2)) (p2 : PP 9 (encT b'.2)) (ld : Led (FR (Sn wk n) w3) (HR (Sn wk n) w4) b b')
    (k : ∀ h', Ext h h' → Q (.bl true) h') : run P (m + 2) s__law_is_led [.tup [.ref rr, .ref wr], .tup [.str qoff, k1, k2, w3, w4], bdD b, bdD b'] h Q X := by
  refine run_of (fd := fd_law_is_led) rfl rfl ?_
  obtain ⟨w, y⟩ := b
  obtain ⟨w', z⟩ := b'
  have fz : ∀ x : Th, PP 9 (encT x) → PP 10 (encT (.r x)) := fun x px => PP.tup (n := 9) fun d hd => by
    simp only [List.mem_cons, List.not_mem_nil, or_false] at hd
    rcases hd with rfl | rfl
    · exact .str
    · exact px
  have fl' : ∀ x : Th, PP 9 (encT x) → PP 10 (encT (.l x)) := fun x px => PP.tup (n := 9) fun d hd => by
    simp only [List.mem_cons, List.not_mem_nil, or_false] at hd
    rcases hd with rfl | rfl
    · exact .str
    · exact px
  simp only at p1 p2
  rcases ld with ⟨e1, e2, hh⟩ | ⟨a, e1, e2⟩
  · simp only at e1 e2 hh
    subst e1 e2
    simp [fd_law_is_led, start, b0_law_is_led, bdD, atI, b1_law_is_led]
    refine forth_ok hm hh.2 hw fun h1 x1 => ?_
    exact eq_same p1 (by omega) (k h1 x1)
  · have main : ∀ (w w' : Sx) (a' : Th), (w = qa ∧ a = .l y ∨ w = qc ∧ a = .r y) → (w' = qd ∧ a' = .r z ∨ w' = qb ∧ a' = .l z) → FR (Sn wk n) w3 a a' → wSs ⟨run P (m + 1), X⟩ b0_law_is_led (RT Q) [some (.tup [.ref rr, .ref wr]), some (.tup [.str qoff, k1, k2, w3, w4]), some (bdD (w, y)), some (bdD (w', z)), none, none] h := by
      intro w w' a' c1 c2 f
      rcases c1 with ⟨rfl, rfl⟩ | ⟨rfl, rfl⟩ <;> rcases c2 with ⟨rfl, rfl⟩ | ⟨rfl, rfl⟩
      all_goals
        simp [b0_law_is_led, bdD, atI, b2_law_is_led]
        intro r1 hr1
        rw [ix_lst up_same]
        simp [atI]
        intro r2 hr2
        rw [ix_lst up_same]
        simp [atI]
        rw [mem_tup, mem_tup]
        simp [flat]
        have xx : Ext h _ := (Ext.new (o := .lst [.str s_l, .str s_r]) hr1).trans (Ext.new (o := .lst [.str s_l, .str s_r]) hr2)
        refine forth_ok hm f.1 (xx _ _ hw) fun h1 x1 => ?_
        first
          | exact eq_same (fz z p2) (by omega) (k h1 (xx.trans x1))
          | exact eq_same (fl' z p2) (by omega) (k h1 (xx.trans x1))
    simp only [fd_law_is_led, start]
    simp only at e1 e2
    rcases e2 with ⟨e2, f⟩ | ⟨e2, f⟩
    · exact main w w' _ e1 (.inl ⟨e2, rfl⟩) f
    · exact main w w' _ e1 (.inr ⟨e2, rfl⟩) f
theorem at_last' {T U : Th} {bs init : List (Sx × Th)} (e : bs = init ++ [(qb, U)]) : atI (((qa, T) :: bs).map bdD) (-1) = some (bdD (qb, U)) := by
  rw [e, ← List.cons_append, List.map_append]
  unfold atI
  rw [if_neg (by omega), if_pos (by simp; omega)]
  rw [show (-1 + ((List.map bdD ((qa, T) :: init) ++ List.map bdD [(qb, U)]).length : Int)).toNat = (List.map bdD ((qa, T) :: init)).length by simp; omega]
  simp
theorem bd_pp {b : Sx × Th} (p : PP 9 (encT b.2)) : PP 10 (bdD b) := PP.tup (n := 9) fun x hx => by
  simp only [List.mem_cons, List.not_mem_nil, or_false] at hx
  rcases hx with rfl | rfl
  · exact .str
  · exact p
def cFil (L : List (Sx × Th)) (i : Nat) : List D := ((L.take i).filter fun b => decide (b.1 = qc)).map bdD
theorem cFil_step {L : List (Sx × Th)} {i : Nat} {b : Sx × Th} (e : L[i]? = some b) : cFil L (i + 1) = if b.1 = qc then cFil L i ++ [bdD b] else cFil L i := by
  have tk : L.take (i + 1) = L.take i ++ [b] := by rw [List.take_add_one, e]; rfl
  unfold cFil
  rw [tk, List.filter_append, List.map_append]
  by_cases z : b.1 = qc
  · simp [z]
  · simp [z]
theorem cFil_len {L : List (Sx × Th)} {i : Nat} : (cFil L i).length ≤ i := by
  unfold cFil
  rw [List.length_map]
  exact Nat.le_trans (List.length_filter_le _ _) (by simp; omega)
theorem cFil_all {L : List (Sx × Th)} : (cFil L L.length).length = (L.filter fun b => decide (b.1 = qc)).length := by
  unfold cFil
  rw [List.take_length, List.length_map]
def SrI (bk off t m : D) (q : Nat) (h0 : AH) (_ : Nat) : St → AH → Prop := fun σ h => ∃ x5, σ = [some bk, some off, some t, some (.ref q), some m, x5, none] ∧ Ext h0 h
theorem sright_ok {wk : List (D × D)} {rr wr n m q most : Nat} {k1 k2 w3 w4 : D} {T U : Th} {j : Nat} {bs init : List (Sx × Th)} {h : AH} {Q : VQ} {X : XP} (hm : 2 * (n + 1) ≤ m) (hw : h wr = some (.dct 0 wk)) (hz : bs.length ≤ 1000)
    (hq : h q = some (.lst (((qa, T) :: bs).map bdD))) (c : Chn (FR (Sn wk n) w3) (HR (Sn wk n) w4) j (.l T) U bs) (el : bs = init ++ [(qb, U)]) (pps : ∀ b ∈ (qa, T) :: bs, PP 9 (encT b.2)) (cnt : (((qa, T) :: bs).filter fun b => decide (b.1 = qc)).length ≤ most)
    (sF : Sn wk (n + 1) (.tup [.str qoff, k1, k2, w3, w4]) false T U) (sB : Sn wk (n + 1) (.tup [.str qoff, k1, k2, w3, w4]) true U T)
    (k : ∀ h', Ext h h' → Q (.bl true) h') : run P (m + 3) s__law_string_right [.tup [.ref rr, .ref wr], .tup [.str qoff, k1, k2, w3, w4], encT T, .ref q, .int (most : Nat)] h Q X := by
  refine run_of (fd := fd_law_string_right) rfl rfl ?_
  have pT := pps (qa, T) List.mem_cons_self
  have pU : PP 9 (encT U) := pps (qb, U) (by rw [el]; simp)
  simp [fd_law_string_right, start, b0_law_string_right]
  have hq' : h q = some (.lst (bdD (qa, T) :: bs.map bdD)) := hq
  rw [isi_lst hq', ix_lst hq']
  simp [bdD, atI]
  have pa : pureDs [D.str s_a, encT T] = true := by simp [pureDs, pureD, pT.1]
  refine ⟨by simp [pureDs, pureD, pT.1], ?_, ?_⟩
  · have := (bd_pp (b := (qa, T)) pT).mono (m := 190) (by omega)
    exact this.2
  rw [ix_lst hq, at_last' el]
  simp [bdD, atI, b2_law_string_right]
  rw [len_lst hq']
  simp
  refine ⟨by omega, loop_rng (fun i => SrI (.tup [.ref rr, .ref wr]) (.tup [.str qoff, k1, k2, w3, w4]) (encT T) (.int (most : Nat)) q h i) ⟨none, rfl, .refl⟩ (fun _ _ _ _ => trivial) ?_ ?_⟩
  · rintro i σ hh hi ⟨x5, rfl, xx⟩
    simp [b3_law_string_right]
    have ln : ((qa, T) :: bs).length = bs.length + 1 := rfl
    have l1 : i < ((qa, T) :: bs).length := by omega
    have l2 : i + 1 < ((qa, T) :: bs).length := by omega
    have hqq := xx _ _ hq
    have a1 : atI (((qa, T) :: bs).map bdD) (i : Int) = some (bdD (((qa, T) :: bs)[i]'l1)) := by
      unfold atI
      rw [if_pos (by omega), Int.toNat_natCast, List.getElem?_map, List.getElem?_eq_getElem l1]; rfl
    have a2 : atI (((qa, T) :: bs).map bdD) ((i : Int) + 1) = some (bdD (((qa, T) :: bs)[i + 1]'l2)) := by
      unfold atI
      rw [if_pos (by omega), show ((i : Int) + 1).toNat = i + 1 by omega, List.getElem?_map, List.getElem?_eq_getElem l2]; rfl
    rw [ix_lst hqq, a1]
    dsimp only
    rw [ix_lst hqq, a2]
    dsimp only
    refine led_ok (n := n) (m := m) (by omega) (xx _ _ hw) (pps _ (List.getElem_mem l1)) (pps _ (List.getElem_mem l2)) (chn_led (b0 := (qa, T)) c (.inl ⟨rfl, rfl⟩) i _ _ (List.getElem?_eq_getElem l1) (List.getElem?_eq_getElem l2)) fun h2 x2 => ?_
    exact ⟨_, rfl, xx.trans x2⟩
  · rintro σ hh ⟨x5, rfl, xx⟩
    simp [b5_law_string_right]
    have hqq := xx _ _ hq
    rw [walk_lst hqq]
    refine ⟨fun i acc h' => h' = hh ∧ acc = cFil ((qa, T) :: bs) i, ⟨rfl, rfl⟩, ?_, by simp [LINE]; omega, ?_, ?_⟩
    · rintro i acc h' ⟨rfl, rfl⟩
      exact ⟨hqq, cFil_len⟩
    · rintro i x acc h' hx ⟨rfl, rfl⟩
      obtain ⟨b, hb, rfl⟩ := map_at hx
      have stp := cFil_step hb
      obtain ⟨w, y⟩ := b
      simp [setT, forget, bdD, atI]
      by_cases z : w = s_c
      · rw [decide_eq_true z, stp, if_pos z]
        rfl
      · rw [decide_eq_false z, stp, if_neg z]
    · rintro acc h' ⟨rfl, rfl⟩
      intro r hr
      have et : (List.map bdD ((qa, T) :: bs)).length = ((qa, T) :: bs).length := List.length_map ..
      rw [et, len_lst up_same, cFil_all]
      rw [decide_eq_false (by omega)]
      simp [b7_law_string_right]
      generalize hg : up h' r _ = h2
      have x2 : Ext h' h2 := hg ▸ Ext.new hr
      have xx2 := xx.trans x2
      refine forth_ok (n := n + 1) (m := m + 1) (by omega) sF (xx2 _ _ hw) fun h3 x3 => ?_
      have xx3 := xx2.trans x3
      rw [ix_lst (xx3 _ _ hq), at_last' el]
      simp [bdD, atI]
      refine eq_same pU (by omega) ?_
      dsimp only
      rw [ix_lst (xx3 _ _ hq), at_last' el]
      simp [bdD, atI]
      refine back_ok (n := n + 1) (m := m + 1) (by omega) sB (xx3 _ _ hw) fun h4 x4 => ?_
      refine eq_same pT (by omega) ?_
      exact k h4 (xx3.trans x4)
/-! ### all strings -/
theorem cmp_encT : ∀ a b : Th, cmpb (encT a) (encT b) = true
  | .one, b => by cases b <;> simp [encT, cmpb, cmpbs]
  | .a i, b => by cases b <;> simp [encT, cmpb, cmpbs] <;> split <;> rfl
  | .n a, b => by
    cases b <;> simp [encT, cmpb, cmpbs]
    exact .inr (cmp_encT a _)
  | .l a, b => by
    cases b <;> simp [encT, cmpb, cmpbs]
    exact .inr (cmp_encT a _)
  | .r a, b => by
    cases b <;> simp [encT, cmpb, cmpbs]
    exact .inr (cmp_encT a _)
  | .p a c, b => by
    cases b <;> simp [encT, cmpb, cmpbs]
    split
    · exact .inr (cmp_encT c _)
    · exact cmp_encT a _
open Classical in
noncomputable def Mch.nn (M : Mch) (k : Nat) : Nat := if h : ∃ n, Stops M.f n k then h.choose else 0
theorem Mch.nn_ok {M : Mch} (ok : M.Ok) {k : Nat} (h : k < M.l) : Stops M.f (M.nn k) k ∧ M.nn k ≤ M.l + M.r := by
  obtain ⟨n, hn, st⟩ := M.stop ok h
  have z : ∃ n, Stops M.f n k := ⟨n, st⟩
  have e : M.nn k = z.choose := by unfold Mch.nn; rw [dif_pos z]
  have st' := z.choose_spec
  rw [← e] at st'
  exact ⟨st', by rw [stops_le st' st]; exact hn⟩
/-- the trees: one, or it and it turned about -/
structure Trs (ts : List Tr) : Prop where
  nd : ts.Nodup
  fl : ∀ t ∈ ts, fl t ∈ ts
  dp : ∀ t ∈ ts, t.dp ≤ 2
  len : ts.length ≤ 2
theorem Trs.gT {ts : List Tr} (h : Trs ts) {i : Nat} {t : Tr} (m : t ∈ ts) : gT i t ∈ ts := by
  unfold K44.gT
  split
  · exact m
  · exact h.fl t m
def stL (M : Mch) (ts : List Tr) : List (Nat × Tr) := ts.flatMap fun t => (List.range M.l).map fun k => (k, t)
theorem mem_stL {M : Mch} {ts : List Tr} {s : Nat × Tr} : s ∈ stL M ts ↔ s.1 < M.l ∧ s.2 ∈ ts := by
  obtain ⟨k, t⟩ := s
  simp only [stL, List.mem_flatMap, List.mem_map, List.mem_range, Prod.mk.injEq]
  constructor
  · rintro ⟨t', m, k', h, rfl, rfl⟩
    exact ⟨h, m⟩
  · rintro ⟨h, m⟩
    exact ⟨t, m, k, h, rfl, rfl⟩
theorem stL_len {M : Mch} : ∀ {ts : List Tr}, (stL M ts).length = ts.length * M.l
  | [] => by simp [stL]
  | t :: ts => by
    have := stL_len (M := M) (ts := ts)
    unfold stL at this ⊢
    rw [List.flatMap_cons, List.length_append, this, List.length_map, List.length_range, List.length_cons, Nat.succ_mul, Nat.add_comm]
theorem stL_nd {M : Mch} : ∀ {ts : List Tr}, ts.Nodup → (stL M ts).Nodup
  | [], _ => List.nodup_nil
  | t :: ts, nd => by
    rw [List.nodup_cons] at nd
    have ih := stL_nd (M := M) nd.2
    show (((List.range M.l).map fun k => (k, t)) ++ stL M ts).Nodup
    rw [List.nodup_append]
    refine ⟨List.pairwise_map.mpr (List.nodup_range.imp fun h e => h (by injection e)), ih, fun x hx y hy e => ?_⟩
    obtain ⟨k, _, rfl⟩ := List.mem_map.mp hx
    rw [← e] at hy
    exact nd.1 (mem_stL.mp hy).2
noncomputable def bdsOf (M : Mch) (s : Nat × Tr) : List (Sx × Th) := (qa, (numF false M.l).th s.1 (trT s.2)) :: M.bs (M.nn s.1) s.1 s.2
noncomputable def endOf (M : Mch) (s : Nat × Tr) : Th := M.u (M.nn s.1) s.1 s.2
section
variable {M : Mch} (ok : M.Ok) {ts : List Tr} (tk : Trs ts)
include ok tk
theorem bds_eq {s : Nat × Tr} (h : s ∈ stL M ts) : bdsOf M s = (stsG M.g (M.nn s.1) s).flatMap fun x => [M.N x, M.X x] := by
  obtain ⟨k, t⟩ := s
  have hk := (mem_stL.mp h).1
  simp only at hk
  rw [← M.beads ok (M.nn_ok ok hk).1 (by omega)]
  simp only [bdsOf, Mch.N, if_pos hk]
theorem run_of' {s : Nat × Tr} (h : s ∈ stL M ts) : RunG M.g M.p (M.nn s.1) s ∧ M.o (itG M.g (M.nn s.1) s).1 < M.l := by
  obtain ⟨k, t⟩ := s
  have hk := (mem_stL.mp h).1
  simp only at hk
  rcases M.run ok (t := t) (M.nn_ok ok hk).1 with h | h
  · exact h
  · omega
theorem states_nd : ((stL M ts).flatMap fun s => stsG M.g (M.nn s.1) s).Nodup :=
  sts_apart (rt := fun s => s.1 < M.l) (M.g_inj ok) (M.g_root ok) (fun s => M.nn s.1) (stL_nd tk.nd) fun s hs => ⟨(mem_stL.mp hs).1, (run_of' ok tk hs).1⟩
theorem all_nd : ((stL M ts).flatMap (bdsOf M)).Nodup := by
  have e : (stL M ts).flatMap (bdsOf M) = ((stL M ts).flatMap fun s => stsG M.g (M.nn s.1) s).flatMap fun x => [M.N x, M.X x] := by
    rw [List.flatMap_assoc]
    have : ∀ l : List (Nat × Tr), (∀ s ∈ l, s ∈ stL M ts) → l.flatMap (bdsOf M) = l.flatMap fun s => (stsG M.g (M.nn s.1) s).flatMap fun x => [M.N x, M.X x] := by
      intro l
      induction l with
      | nil => intro _; rfl
      | cons s l ih =>
        intro hl
        rw [List.flatMap_cons, List.flatMap_cons, bds_eq ok tk (hl s List.mem_cons_self), ih fun x hx => hl x (List.mem_cons_of_mem _ hx)]
    exact this _ fun s h => h
  rw [e]
  refine flat_nodup ok (states_nd ok tk) fun x hx => ?_
  obtain ⟨s, hs, hx⟩ := List.mem_flatMap.mp hx
  exact M.sts_lt ok (by have := (mem_stL.mp hs).1; omega) (run_of' ok tk hs).1 x hx
/-- the state behind the last -/
noncomputable def outOf (M : Mch) (s : Nat × Tr) : Nat × Tr := (M.o (itG M.g (M.nn s.1) s).1, M.t1 (itG M.g (M.nn s.1) s).1 (itG M.g (M.nn s.1) s).2)
omit tk in
theorem u_eq : ∀ {n i : Nat} {t : Tr}, M.u n i t = (numF false M.l).th (M.o (itG M.g n (i, t)).1) (trT (M.t1 (itG M.g n (i, t)).1 (itG M.g n (i, t)).2))
  | 0, i, t => rfl
  | n + 1, i, t => by
    show M.u n (M.l + M.y i) (M.t2 i t) = _
    rw [u_eq]
    rfl
theorem it_in : ∀ {n : Nat} {s : Nat × Tr}, s.1 < M.l + M.r → s.2 ∈ ts → RunG M.g M.p n s → (itG M.g n s).1 < M.l + M.r ∧ (itG M.g n s).2 ∈ ts
  | 0, s, h1, h2, _ => ⟨h1, h2⟩
  | n + 1, s, h1, h2, r => it_in (n := n) (s := M.g s) (by have := M.y_lt ok r.1.1 r.1.2; simp only [Mch.g]; omega) (by simp only [Mch.g, Mch.t2, Mch.t1]; exact tk.gT (tk.gT h2)) r.2
theorem out_in {s : Nat × Tr} (h : s ∈ stL M ts) : outOf M s ∈ stL M ts := by
  obtain ⟨h1, h2⟩ := mem_stL.mp h
  obtain ⟨r, l⟩ := run_of' ok tk h
  obtain ⟨a, b⟩ := it_in ok tk (by omega) h2 r
  exact mem_stL.mpr ⟨l, tk.gT b⟩
theorem out_inj {a b : Nat × Tr} (ha : a ∈ stL M ts) (hb : b ∈ stL M ts) (e : outOf M a = outOf M b) : a = b := by
  obtain ⟨a1, a2⟩ := mem_stL.mp ha
  obtain ⟨b1, b2⟩ := mem_stL.mp hb
  obtain ⟨ra, la⟩ := run_of' ok tk ha
  obtain ⟨rb, lb⟩ := run_of' ok tk hb
  obtain ⟨ia, _⟩ := it_in ok tk (by omega) a2 ra
  obtain ⟨ib, _⟩ := it_in ok tk (by omega) b2 rb
  simp only [outOf, Prod.mk.injEq] at e
  have e1 := M.o_inj ok ia ib e.1
  have e2 := e.2
  rw [e1] at e2
  unfold Mch.t1 at e2
  have := congrArg (gT (M.hs.getD (itG M.g (M.nn b.1) b).1 0)) e2
  rw [gT_gT, gT_gT] at this
  have e3 : itG M.g (M.nn a.1) a = itG M.g (M.nn b.1) b := Prod.ext e1 this
  exact (it_same (rt := fun s => s.1 < M.l) (M.g_inj ok) (M.g_root ok) ra rb a1 b1 _ _ (Nat.le_refl _) (Nat.le_refl _) e3).2
theorem ends_perm : ((stL M ts).map (endOf M)).Perm ((stL M ts).map fun s => (numF false M.l).th s.1 (trT s.2)) := by
  have e : (stL M ts).map (endOf M) = ((stL M ts).map (outOf M)).map fun s => (numF false M.l).th s.1 (trT s.2) := by
    rw [List.map_map]
    apply List.map_congr_left
    intro s _
    simp only [endOf, Function.comp, outOf]
    rw [u_eq ok]
  rw [e]
  refine List.Perm.map _ (perm_of_sub ?_ (fun x hx => ?_) (by simp))
  · refine List.pairwise_map.mpr ((List.pairwise_iff_getElem.mpr fun i j hi hj hij => ?_))
    intro z
    have := out_inj ok tk (List.getElem_mem hi) (List.getElem_mem hj) z
    exact (List.pairwise_iff_getElem.mp (stL_nd tk.nd) i j hi hj hij) this
  · obtain ⟨s, hs, rfl⟩ := List.mem_map.mp hx
    exact out_in ok tk hs
/-- so many go through the ones beside -/
theorem cs_few {s : Nat × Tr} (h : s ∈ stL M ts) : ((bdsOf M s).filter fun b => decide (b.1 = qc)).length ≤ M.r * ts.length := by
  have e1 : ∀ (n i : Nat) (t : Tr), ((M.bs n i t).filter fun b => decide (b.1 = qc)).length = n := by
    intro n
    induction n with
    | zero => intro i t; simp [Mch.bs]
    | succ n ih => intro i t; simp [Mch.bs, ih]
  have e2 : ((bdsOf M s).filter fun b => decide (b.1 = qc)).length = M.nn s.1 := by
    simp [bdsOf, e1]
  rw [e2]
  obtain ⟨r, l⟩ := run_of' ok tk h
  obtain ⟨h1, h2⟩ := mem_stL.mp h
  have nd := sts_nodup (rt := fun s => s.1 < M.l) (M.g_inj ok) (M.g_root ok) r h1
  have key : ∀ (n : Nat) (s : Nat × Tr), s.2 ∈ ts → RunG M.g M.p n s → (stsG M.g n s).Nodup → n ≤ (ts.flatMap fun t => (List.range M.r).map fun k => (M.l + k, t)).length := by
    intro n s hs r nd
    cases n with
    | zero => exact Nat.zero_le _
    | succ n =>
      have nd2 := (List.nodup_cons.mp nd).2
      have sub : ∀ (n : Nat) (s : Nat × Tr), s.2 ∈ ts → M.l ≤ s.1 → s.1 < M.l + M.r → RunG M.g M.p n s → ∀ x ∈ stsG M.g n s, x ∈ ts.flatMap fun t => (List.range M.r).map fun k => (M.l + k, t) := by
        intro n
        induction n with
        | zero =>
          intro s h1 h2 h3 _ x hx
          rw [List.mem_singleton.mp hx]
          obtain ⟨k, t⟩ := s
          exact List.mem_flatMap.mpr ⟨t, h1, List.mem_map.mpr ⟨k - M.l, List.mem_range.mpr (by simp only at h2 h3; omega), by simp only at h2 ⊢; rw [show M.l + (k - M.l) = k by omega]⟩⟩
        | succ n ih =>
          intro s h1 h2 h3 r x hx
          rcases List.mem_cons.mp hx with e | hx
          · rw [e]
            obtain ⟨k, t⟩ := s
            exact List.mem_flatMap.mpr ⟨t, h1, List.mem_map.mpr ⟨k - M.l, List.mem_range.mpr (by simp only at h2 h3; omega), by simp only at h2 ⊢; rw [show M.l + (k - M.l) = k by omega]⟩⟩
          · have hy := M.y_lt ok r.1.1 r.1.2
            exact ih (M.g s) (by simp only [Mch.g, Mch.t2, Mch.t1]; exact tk.gT (tk.gT h1)) (by simp only [Mch.g]; omega) (by simp only [Mch.g]; omega) r.2 x hx
      have hy := M.y_lt ok r.1.1 r.1.2
      have := List.Nodup.length_le_of_subset nd2 (sub n (M.g s) (by simp only [Mch.g, Mch.t2, Mch.t1]; exact tk.gT (tk.gT hs)) (by simp only [Mch.g]; omega) (by simp only [Mch.g]; omega) r.2)
      have ln : ∀ (n : Nat) (s : Nat × Tr), (stsG M.g n s).length = n + 1 := by
        intro n
        induction n with
        | zero => intro s; rfl
        | succ n ih => intro s; simp [stsG, ih]
      rw [ln] at this
      exact this
  have := key _ s h2 r nd
  have ln : ∀ l : List Tr, (l.flatMap fun t => (List.range M.r).map fun k => (M.l + k, t)).length = M.r * l.length := by
    intro l
    induction l with
    | nil => rfl
    | cons t l ih => rw [List.flatMap_cons, List.length_append, ih, List.length_map, List.length_range, List.length_cons, Nat.mul_succ, Nat.add_comm]
  rw [ln] at this
  exact this
end
/-! ### the law -/
theorem kind_ok {n r : Nat} {rule : Sx} {h : AH} {Q : VQ} {X : XP} (hr : r ≤ 1000) (k : ∀ d, Q d h) : run P (n + 2) s__law_kind [.int (r : Nat), .str rule] h Q X := by
  refine run_of (fd := fd_law_kind) rfl rfl ?_
  simp [fd_law_kind, start, b0_law_kind]
  by_cases z : r = 0
  · subst z
    simp [b1_law_kind]
    exact k _
  · rw [decide_eq_false (by omega)]
    simp [b2_law_kind]
    refine kind_of_ok hr fun d => ?_
    exact k _
def thD (M : Mch) (s : Nat × Tr) : D := encT ((numF false M.l).th s.1 (trT s.2))
def ThI (sg : List (Option D)) (M : Mch) (ts : List Tr) (q13 q14 : Nat) (h0 : AH) (i : Nat) : St → AH → Prop := fun σ h => ∃ x15 x16 x17 x18 x19 x20 x21, σ = sg ++ [some (.ref q13), some (.ref q14), x15, x16, x17, x18, x19, x20, x21] ∧ h q14 = some (.lst ((stL M (ts.take i)).map (thD M))) ∧ Ext h0 h
theorem stL_take {M : Mch} {ts : List Tr} {i : Nat} {t : Tr} (e : ts[i]? = some t) : stL M (ts.take (i + 1)) = stL M (ts.take i) ++ (List.range M.l).map fun k => (k, t) := by
  have tk : ts.take (i + 1) = ts.take i ++ [t] := by rw [List.take_add_one, e]; rfl
  rw [tk]
  unfold stL
  rw [List.flatMap_append]
  simp
noncomputable def SeI (sg : List (Option D)) (M : Mch) (ts : List Tr) (q14 q16 q17 : Nat) (h0 : AH) (i : Nat) : St → AH → Prop := fun σ h => ∃ x15 x18 x19 x20 x21, σ = sg ++ [some (.ref q14), x15, some (.ref q16), some (.ref q17), x18, x19, x20, x21] ∧
  h q16 = some (.lst ((((stL M ts).take i).flatMap (bdsOf M)).map bdD)) ∧ h q17 = some (.lst (((stL M ts).take i).map fun s => encT (endOf M s))) ∧ h q14 = some (.lst ((stL M ts).map (thD M))) ∧ Ext h0 h
noncomputable def SjI (sg : List (Option D)) (pre : List (Sx × Th)) (bds : List (Sx × Th)) (q16 q19 : Nat) (x14 x15 x17 x18 x21 : Option D) (h0 : AH) (j : Nat) : St → AH → Prop := fun σ h => ∃ x20, σ = sg ++ [x14, x15, some (.ref q16), x17, x18, some (.ref q19), x20, x21] ∧
  h q16 = some (.lst ((pre ++ bds.take j).map bdD)) ∧ Ke q16 h0 h
theorem seen_ok {n q16 q19 : Nat} {sg : List (Option D)} (sl : sg.length = 14) {pre bds post : List (Sx × Th)} (nd : (pre ++ bds ++ post).Nodup) (pp : ∀ b ∈ pre ++ bds, PP 9 (encT b.2)) (hz : (pre ++ bds).length ≤ 1000) {x14 x15 x17 x18 x20 x21 : Option D} {h : AH} {X : XP} {R : Ends} (hq : h q16 = some (.lst (pre.map bdD))) (hb : h q19 = some (.lst (bds.map bdD))) (ne : q16 ≠ q19)
    (k : ∀ x20 h', h' q16 = some (.lst ((pre ++ bds).map bdD)) → Ke q16 h h' → wSs ⟨run P n, X⟩ b11_law R (sg ++ [x14, x15, some (.ref q16), x17, x18, some (.ref q19), x20, x21]) h') :
    wSs ⟨run P n, X⟩ b7_law R (sg ++ [x14, x15, some (.ref q16), x17, x18, some (.ref q19), x20, x21]) h := by
  obtain ⟨a0, a1, a2, a3, a4, a5, a6, a7, a8, a9, a10, a11, a12, a13, rfl⟩ : ∃ a0 a1 a2 a3 a4 a5 a6 a7 a8 a9 a10 a11 a12 a13, sg = [a0, a1, a2, a3, a4, a5, a6, a7, a8, a9, a10, a11, a12, a13] := by
    match sg, sl with
    | [a0, a1, a2, a3, a4, a5, a6, a7, a8, a9, a10, a11, a12, a13], _ => exact ⟨a0, a1, a2, a3, a4, a5, a6, a7, a8, a9, a10, a11, a12, a13, rfl⟩
  simp [b7_law]
  rw [walk_lst hb]
  refine ⟨fun j => SjI [a0, a1, a2, a3, a4, a5, a6, a7, a8, a9, a10, a11, a12, a13] pre bds q16 q19 x14 x15 x17 x18 x21 h j, ⟨x20, rfl, by simpa using hq, .refl⟩, ?_, ?_, ?_⟩
  · rintro j σ hh ⟨x20, rfl, e, ke⟩
    exact ke _ _ ne.symm hb
  · rintro j x σ hh hx ⟨x20, rfl, e, ke⟩
    obtain ⟨b, hb', rfl⟩ := map_at hx
    have lj := (List.getElem?_eq_some_iff.mp hb').1
    have tk : bds.take (j + 1) = bds.take j ++ [b] := by rw [List.take_add_one, hb']; rfl
    have sub : ∀ y ∈ pre ++ bds.take j, y ∈ pre ++ bds := fun y hy => (List.mem_append.mp hy).elim (List.mem_append_left _) (fun z => List.mem_append_right _ (List.mem_of_mem_take z))
    have p2 := bds_pp (bs := pre ++ bds.take j) fun y hy => pp y (sub y hy)
    have pb := bd_pp (pp b (List.mem_append_right _ (List.mem_of_getElem? hb')))
    have nb : b ∉ pre ++ bds.take j := fun m => by
      have e2 : pre ++ bds ++ post = (pre ++ bds.take j) ++ (b :: (bds.drop (j + 1) ++ post)) := by
        have : bds = bds.take j ++ b :: bds.drop (j + 1) := by
          have h1 := List.take_append_drop j bds
          rw [List.drop_eq_getElem_cons lj] at h1
          have : bds[j] = b := by rw [List.getElem?_eq_getElem lj] at hb'; exact Option.some.inj hb'
          rw [this] at h1
          exact h1.symm
        conv => lhs; rw [this]
        simp
      rw [e2, List.nodup_append] at nd
      exact nd.2.2 b m b List.mem_cons_self rfl
    have no : ((pre ++ bds.take j).map bdD).any (fun y => decide (y = bdD b)) = false := by
      rw [List.any_eq_false]
      intro y hy
      obtain ⟨c, hc, rfl⟩ := List.mem_map.mp hy
      simp only [decide_eq_true_eq]
      intro z
      exact nb (bdD_inj z ▸ hc)
    simp [b8_law]
    rw [mem_lst' e]
    refine ⟨pb.1, p2.1, .inr p2.2, ?_⟩
    rw [no]
    simp [b10_law]
    refine ⟨recv_ok (by simp) (by simp) e, ?_⟩
    rw [aLst_eq e]
    refine ⟨by rw [List.length_map, List.length_append, List.length_take]; rw [List.length_append] at hz; omega, _, rfl, ?_, ke.trans .put⟩
    rw [up_same, tk]
    simp
  · rintro σ hh ⟨x20, rfl, e, ke⟩
    rw [List.length_map, List.take_length] at e
    exact k x20 hh e ke
theorem thD_pp {M : Mch} (ok : M.Ok) {ts : List Tr} (tk : Trs ts) {s : Nat × Tr} (h : s ∈ stL M ts) : PP 9 (thD M s) := by
  obtain ⟨h1, h2⟩ := mem_stL.mp h
  have := ok.l1
  exact num_pp (by omega) (tk.dp _ h2)
theorem sort_ok {Ts : List Th} (pp : ∀ t ∈ Ts, PP 9 (encT t)) (sh : ∀ t ∈ Ts, ∃ a b, t = Th.p a b) : sortOk (Ts.map encT) := by
  refine .inr (.inr (.inr ⟨pureDs_of fun d hd => ?_, plains_of fun d hd => ?_, ⟨3, .inr (.inl rfl), fun d hd => ?_⟩, fun d hd e he => ?_⟩))
  · obtain ⟨t, ht, rfl⟩ := List.mem_map.mp hd
    exact (pp t ht).1
  · obtain ⟨t, ht, rfl⟩ := List.mem_map.mp hd
    exact ((pp t ht).mono (by omega)).2
  · obtain ⟨t, ht, rfl⟩ := List.mem_map.mp hd
    obtain ⟨a, b, rfl⟩ := sh t ht
    exact ⟨_, _, rfl, rfl⟩
  · obtain ⟨t, ht, rfl⟩ := List.mem_map.mp hd
    obtain ⟨u, hu, rfl⟩ := List.mem_map.mp he
    exact cmp_encT t u
/-- from the trees on -/
theorem tail_ok {M : Mch} (ok : M.Ok) {ts : List Tr} (tk : Trs ts) {n br bw q13 : Nat} {f r : Sx} {kd kd2 : D} {a0 a1 a2 a3 a7 a8 a9 a10 a12 : Option D} {x14 x15 x16 x17 x18 x19 x20 x21 : Option D} {h : AH} {X : XP} (hw : h bw = some (.dct 0 [(.str f, en0 r f)])) (hq : h q13 = some (.lst (ts.map fun t => encT (trT t)))) :
    wSs ⟨run P (n + 59), X⟩ b2_law (RT fun d _ => d = .bl true) [a0, a1, a2, a3, some (.tup [.ref br, .ref bw]), some (.int M.l), some (.int M.r), a7, a8, a9, a10, some (.tup [.str qoff, kd, kd2, w3D M f, w4D M f]), a12, some (.ref q13), x14, x15, x16, x17, x18, x19, x20, x21] h := by
  have l0 := ok.l0
  have l1 := ok.l1
  have r1 := ok.r1
  have tl := tk.len
  have hW : BkW [(.str f, en0 r f)] f := ⟨_, _, by rw [kvGet_cons, if_pos rfl]; rfl⟩
  simp [b2_law]
  intro q14 hq14
  have n13 : q13 ≠ q14 := ne_new hq hq14
  have x1 : Ext h (up h q14 (.lst [])) := Ext.new hq14
  have hq1 := x1 _ _ hq
  rw [walk_lst hq1]
  refine ⟨fun i => ThI [a0, a1, a2, a3, some (.tup [.ref br, .ref bw]), some (.int M.l), some (.int M.r), a7, a8, a9, a10, some (.tup [.str qoff, kd, kd2, w3D M f, w4D M f]), a12] M ts q13 q14 h i, ⟨x15, x16, x17, x18, x19, x20, x21, rfl, by rw [up_same]; rfl, x1⟩, ?_, ?_, ?_⟩
  · rintro i σ hh ⟨x15, x16, x17, x18, x19, x20, x21, rfl, e, xx⟩
    exact xx _ _ hq
  · rintro i x σ hh hx ⟨x15, x16, x17, x18, x19, x20, x21, rfl, e, xx⟩
    obtain ⟨t, ht, rfl⟩ := map_at hx
    have it : i < ts.length := (List.getElem?_eq_some_iff.mp ht).1
    have len0 : (stL M (ts.take i)).length ≤ 5 := by
      rw [stL_len, List.length_take]
      have : min i ts.length * M.l ≤ 1 * 5 := Nat.mul_le_mul (by omega) l1
      omega
    simp [b3_law]
    refine ⟨recv_ok (by simp) (by simp) e, by omega, comp_rng (fun k acc h' => h' = hh ∧ acc = (List.range k).map fun k => thD M (k, t)) ⟨rfl, rfl⟩ ?_ (by simp [LINE]; omega) ?_ ?_⟩
    · rintro k acc h' ⟨rfl, rfl⟩
      exact ⟨trivial, by simp⟩
    · rintro k acc h' hk ⟨rfl, rfl⟩
      simp [setT, forget]
      refine numbered_ok (by omega) ⟨rfl, ?_⟩
      rw [List.range_succ, List.map_append]
      rfl
    · rintro acc h' ⟨rfl, rfl⟩
      intro r hr
      have e' : (up h' r (.lst ((List.range ((M.l : Int) - 0).toNat).map fun k => thD M (k, t)))) q14 = some (.lst ((stL M (ts.take i)).map (thD M))) := by rw [up_ne (ne_new e hr)]; exact e
      rw [aLst_eq e', aLst_eq up_same]
      refine ⟨by simp; omega, _, _, _, _, _, _, _, rfl, ?_, ?_⟩
      · rw [up_same, stL_take ht, List.map_append, List.map_map]
        simp
      · exact (xx.trans (Ext.new hr)).mut hq14 .put
  · rintro σ hh ⟨x15, x16, x17, x18, x19, x20, x21, rfl, e, xx⟩
    rw [List.length_map, List.take_length] at e
    simp [b4_law]
    intro q16 hq16 q17 hq17
    have z1 : Ext hh (up hh q16 (.lst [])) := Ext.new hq16
    have z2 : Ext (up hh q16 (.lst [])) (up (up hh q16 (.lst [])) q17 (.lst [])) := Ext.new hq17
    have n16 : q16 ≠ q17 := ne_new up_same hq17
    have e2 := z2 _ _ (z1 _ _ e)
    have sl : (stL M ts).length ≤ 10 := by
      rw [stL_len]
      have : ts.length * M.l ≤ 2 * 5 := Nat.mul_le_mul tl l1
      omega
    have blen : ∀ s ∈ stL M ts, (bdsOf M s).length ≤ 22 := fun s hs => by
      have := (M.nn_ok ok (mem_stL.mp hs).1).2
      have e1 := M.bs_len (M.nn s.1) s.1 s.2
      simp only [bdsOf, List.length_cons]
      omega
    have flen : ∀ l : List (Nat × Tr), (∀ s ∈ l, s ∈ stL M ts) → (l.flatMap (bdsOf M)).length ≤ 22 * l.length := by
      intro l
      induction l with
      | nil => intro _; simp
      | cons s l ih =>
        intro hl
        have := ih fun x hx => hl x (List.mem_cons_of_mem _ hx)
        have := blen s (hl s List.mem_cons_self)
        rw [List.flatMap_cons, List.length_append, List.length_cons]
        omega
    have bpp : ∀ s ∈ stL M ts, ∀ b ∈ bdsOf M s, PP 9 (encT b.2) := fun s hs b hb => by
      obtain ⟨h1, h2⟩ := mem_stL.mp hs
      rcases List.mem_cons.mp hb with rfl | hb
      · exact num_pp (by omega) (tk.dp _ h2)
      · exact (M.bs_pp ok (M.nn_ok ok h1).1 (by omega) (tk.dp _ h2)).1 b hb
    have n14 : q14 ≠ q16 := ne_new e hq16
    have n14' : q14 ≠ q17 := ne_new (z1 _ _ e) hq17
    rw [walk_lst e2]
    refine ⟨fun i => SeI [a0, a1, a2, a3, some (.tup [.ref br, .ref bw]), some (.int M.l), some (.int M.r), a7, a8, a9, a10, some (.tup [.str qoff, kd, kd2, w3D M f, w4D M f]), a12, some (.ref q13)] M ts q14 q16 q17 hh i, ⟨x15, x18, x19, x20, x21, rfl, by rw [up_ne n16]; exact up_same, by rw [up_same]; rfl, e2, z1.trans z2⟩, ?_, ?_, ?_⟩
    · rintro i σ h2 ⟨x15, x18, x19, x20, x21, rfl, f16, f17, f14, x2⟩
      exact f14
    · rintro i x σ h2 hx ⟨x15, x18, x19, x20, x21, rfl, f16, f17, f14, x2⟩
      obtain ⟨s, hs, rfl⟩ := map_at hx
      have ms := List.mem_of_getElem? hs
      have il := (List.getElem?_eq_some_iff.mp hs).1
      obtain ⟨h1, h3⟩ := mem_stL.mp ms
      obtain ⟨st, nle⟩ := M.nn_ok ok h1
      have td := tk.dp _ h3
      have c := M.chn ok hW st (by omega) td
      have eS : (S M.l M.r).th s.1 (trT s.2) = .l ((numF false M.l).th s.1 (trT s.2)) := by
        show (if s.1 < M.l then _ else _) = _
        rw [if_pos h1]
      rw [eS] at c
      have lbs := M.bs_len (M.nn s.1) s.1 s.2
      obtain ⟨init, elast⟩ := M.bs_last (M.nn s.1) s.1 s.2
      obtain ⟨hereF, rF, oF⟩ := chn_off c
      obtain ⟨jB, hereB, rB, oB⟩ := chn_back (i := 0) (t := (numF false M.l).th s.1 (trT s.2)) rfl c
      have sF : Sn [(.str f, en0 r f)] 14 (.tup [.str qoff, kd, kd2, w3D M f, w4D M f]) false ((numF false M.l).th s.1 (trT s.2)) (M.u (M.nn s.1) s.1 s.2) := .off ⟨kd, kd2, _, _, M.nn s.1, hereF, rfl, rF, oF⟩
      have sB : Sn [(.str f, en0 r f)] 14 (.tup [.str qoff, kd, kd2, w3D M f, w4D M f]) true (M.u (M.nn s.1) s.1 s.2) ((numF false M.l).th s.1 (trT s.2)) := .off ⟨kd, kd2, _, _, jB, hereB, rfl, rB, oB⟩
      have hw2 := x2 _ _ (xx _ _ hw)
      have hq2 := x2 _ _ (xx _ _ hq)
      simp [b5_law]
      refine string_ok (n := 13) (m := n + 57) (by omega) hw2 (by omega) c fun q19 h4 x4 hq19 e19 => ?_
      have e19' : h4 q19 = some (.lst ((bdsOf M s).map bdD)) := e19
      rw [len_lst (x4 _ _ hq2), List.length_map]
      refine ⟨.inl (by omega), ?_⟩
      rw [show ((M.r : Int) * (ts.length : Int)) = ((M.r * ts.length : Nat) : Int) by simp]
      refine sright_ok (n := 13) (m := n + 56) (by omega) (x4 _ _ hw2) (by omega) e19 c elast (bpp s ms) (cs_few ok tk ms) sF sB fun h5 x5 => ?_
      simp
      have y16 := x5 _ _ (x4 _ _ f16)
      have y19 := x5 _ _ e19'
      have ne : q16 ≠ q19 := fun z => by rw [z, hq19] at f16; cases f16
      have split : (stL M ts).flatMap (bdsOf M) = ((stL M ts).take i).flatMap (bdsOf M) ++ bdsOf M s ++ ((stL M ts).drop (i + 1)).flatMap (bdsOf M) := by
        have h1 := List.take_append_drop i (stL M ts)
        rw [List.drop_eq_getElem_cons il] at h1
        have : (stL M ts)[i] = s := by rw [List.getElem?_eq_getElem il] at hs; exact Option.some.inj hs
        rw [this] at h1
        conv => lhs; rw [← h1]
        rw [List.flatMap_append, List.flatMap_cons, List.append_assoc]
      have nd := all_nd ok tk
      rw [split] at nd
      have tsub : ∀ x ∈ (stL M ts).take i, x ∈ stL M ts := fun x hx => List.mem_of_mem_take hx
      have fl := flen _ tsub
      have bl := blen s ms
      have tkl : ((stL M ts).take i).length ≤ 10 := by rw [List.length_take]; omega
      refine seen_ok (sg := [a0, a1, a2, a3, some (.tup [.ref br, .ref bw]), some (.int M.l), some (.int M.r), a7, a8, a9, a10, some (.tup [.str qoff, kd, kd2, w3D M f, w4D M f]), a12, some (.ref q13)]) rfl nd (fun b hb => ?_) (by rw [List.length_append]; omega) y16 y19 ne fun x20 h6 e6 k6 => ?_
      · rcases List.mem_append.mp hb with hb | hb
        · obtain ⟨x, hx, hb⟩ := List.mem_flatMap.mp hb
          exact bpp x (tsub x hx) b hb
        · exact bpp s ms b hb
      · have n1619 : q19 ≠ q16 := ne.symm
        have y17 := k6 _ _ n16.symm (x5 _ _ (x4 _ _ f17))
        have z19 := k6 _ _ n1619 y19
        simp [b11_law]
        refine ⟨recv_ok (by simp) (by simp) y17, ?_⟩
        have el2 : atI ((bdsOf M s).map bdD) (-1) = some (bdD (qb, endOf M s)) := at_last' elast
        rw [ix_lst z19, el2]
        simp [bdD, atI]
        rw [aLst_eq y17]
        refine ⟨by simp; omega, ?_⟩
        refine ⟨_, _, _, _, _, rfl, ?_, ?_, ?_, ?_⟩
        · rw [up_ne n16, e6, List.take_add_one, hs]
          simp
        · rw [up_same, List.take_add_one, hs]
          simp
        · rw [up_ne n14']
          exact k6 _ _ n14 (x5 _ _ (x4 _ _ f14))
        · refine Ext.mut (p := q17) ?_ (show hh q17 = none from by rw [up_ne n16.symm] at hq17; exact hq17) .put
          exact (((x2.trans x4).trans x5).mut hq16 k6)
    · rintro σ h2 ⟨x15, x18, x19, x20, x21, rfl, f16, f17, f14, x2⟩
      rw [List.length_map, List.take_length] at f17
      have eE : (stL M ts).map (fun s => encT (endOf M s)) = ((stL M ts).map (endOf M)).map encT := by rw [List.map_map]; rfl
      have eT : (stL M ts).map (thD M) = ((stL M ts).map fun s => (numF false M.l).th s.1 (trT s.2)).map encT := by rw [List.map_map]; rfl
      have pm := ends_perm ok tk
      have ppT : ∀ t ∈ (stL M ts).map (fun s => (numF false M.l).th s.1 (trT s.2)), PP 9 (encT t) := fun t ht => by
        obtain ⟨s, hs, rfl⟩ := List.mem_map.mp ht
        exact thD_pp ok tk hs
      have shT : ∀ t ∈ (stL M ts).map (fun s => (numF false M.l).th s.1 (trT s.2)), ∃ a b, t = Th.p a b := fun t ht => by
        obtain ⟨s, hs, rfl⟩ := List.mem_map.mp ht
        exact ⟨_, _, rfl⟩
      have ppE : ∀ t ∈ (stL M ts).map (endOf M), PP 9 (encT t) := fun t ht => ppT t (pm.mem_iff.mp ht)
      have shE : ∀ t ∈ (stL M ts).map (endOf M), ∃ a b, t = Th.p a b := fun t ht => shT t (pm.mem_iff.mp ht)
      rw [eE] at f17
      rw [eT] at f14
      simp [b12_law]
      rw [sortP_lst f17]
      refine ⟨sort_ok ppE shE, fun ys p1 w1 ra hra => ?_⟩
      have f14' := (Ext.new (o := .lst ys) hra) _ _ f14
      rw [sortP_lst f14']
      refine ⟨sort_ok ppT shT, fun zs p2 w2 rb hrb => ?_⟩
      have eyz : ys = zs := sorted_uniq w1 w2 (p1.trans ((pm.map encT).trans p2.symm))
      subst eyz
      have pu : ∀ d ∈ ys, PP 9 d := fun d hd => by
        obtain ⟨t, ht, rfl⟩ := List.mem_map.mp (p1.mem_iff.mp hd)
        exact ppE t ht
      refine .inl ⟨ys, ys, by rw [up_ne (ne_new up_same hrb)]; exact up_same, up_same, pureDs_of fun d hd => (pu d hd).1, pureDs_of fun d hd => (pu d hd).1, .inl (plains_of fun d hd => ((pu d hd).mono (by omega)).2), ?_⟩
      rw [decide_eq_true rfl]
theorem trs_1 {t : Tr} (d : t.dp ≤ 2) (z : fl t = t) : Trs [t] :=
  ⟨by simp, fun u hu => by rw [List.mem_singleton.mp hu, z]; simp, fun u hu => by rw [List.mem_singleton.mp hu]; exact d, by simp⟩
theorem trs_2 {t : Tr} (d : t.dp ≤ 2) (z : fl t ≠ t) : Trs [t, fl t] := by
  refine ⟨by simp; exact fun e => z e.symm, fun u hu => ?_, fun u hu => ?_, by simp⟩
  · simp only [List.mem_cons, List.not_mem_nil, or_false] at hu ⊢
    rcases hu with rfl | rfl
    · exact .inr rfl
    · exact .inl (fl_fl t)
  · simp only [List.mem_cons, List.not_mem_nil, or_false] at hu
    rcases hu with rfl | rfl
    · exact d
    · rw [fl_dp]; exact d
theorem law_okN : ∀ ns : List Int, ns.length ≤ 63 → run P 60 s_law [.rol (ns.map .int)] (fun _ => none) (fun d _ => d = .bl true) (fun _ _ _ => False) := by
  intro ns _
  refine run_of (fd := fd_law) rfl rfl ?_
  simp only [fd_law, start, b0_law, wSs_cons, wS_asg, wE_call, wEs_cons, wEs_nil, wE_int, wE_bin, wE_var, bin_pow, List.map_cons, List.map_nil, List.replicate, List.cons_append, List.nil_append, List.getElem?_cons_succ, List.getElem?_cons_zero]
  refine deck_ok fun p h1 hp0 _ hd1 => ?_
  try simp only [setT_nm, List.set_cons_succ, List.set_cons_zero, List.getElem?_cons_succ, List.getElem?_cons_zero]
  refine ⟨by unfold powOk; decide, ?_⟩
  refine next_ok hd1 (by decide) fun c1 h2 _ _ hd2 k2 => ?_
  refine name_ok (e := 0) (by omega) ?_
  refine ⟨by unfold powOk; decide, ?_⟩
  refine next_ok hd2 (by decide) fun c2 h3 _ _ hd3 k3 => ?_
  refine name_ok (e := 1) (by omega) ?_
  generalize nameT c1 0 = r
  generalize nameT c2 1 = f
  refine book_ok fun br bw h4 e4 hbr hbw rw_ ebr ebw => ?_
  have brp := hd3.ne hbr
  have bwp := hd3.ne hbw
  have hd4 := hd3.ext e4
  refine next_ok hd4 (by omega) fun v1 h5 v10 v11 hd5 k5 => ?_
  simp only [bin_add, add_int, setT_nm, List.set_cons_succ, List.set_cons_zero, List.getElem?_cons_succ, List.getElem?_cons_zero]
  obtain ⟨l, hl⟩ : ∃ l : Nat, (1 + v1 : Int) = (l : Int) := ⟨(1 + v1).toNat, by omega⟩
  rw [hl]
  refine next_ok hd5 (by omega) fun v2 h6 v20 v21 hd6 k6 => ?_
  obtain ⟨rr, rfl⟩ : ∃ r : Nat, v2 = (r : Int) := ⟨v2.toNat, by omega⟩
  simp only [add_int]
  rw [show ((l : Int) + (rr : Int)) = ((l + rr : Nat) : Int) by omega]
  refine order_ok hd6 (by omega) fun oq os h7 pm hoq eo hd7 k7 => ?_
  have op := hd6.ne hoq
  refine order_ok hd7 (by omega) fun sq sec h8 pm2 hsq es hd8 k8 => ?_
  have sp := hd7.ne hsq
  refine bits_ok (m := l + rr) (fun Q' kk => ?_) rfl (by omega) hd8 fun tq hs h9 lh hb htq et hd9 k9 => ?_
  · simp only [wE_bin, wE_var, List.getElem?_cons_succ, List.getElem?_cons_zero, bin_add, add_int]
    rw [show ((l : Int) + (rr : Int)) = ((l + rr : Nat) : Int) by omega]
    exact kk
  have tp := hd8.ne htq
  have eo9 := k9 _ _ op (k8 _ _ op eo)
  generalize hM : (⟨l, rr, os, hs, sec, []⟩ : Mch) = M0
  have los := pm.length_eq
  have lse := pm2.length_eq
  simp only [List.length_range] at los lse
  have osb : ∀ x, x ∈ os → x ≤ 1000 := fun x hx => by have := List.mem_range.mp ((List.Perm.mem_iff pm).mp hx); omega
  have seb : ∀ x, x ∈ sec → x ≤ 1000 := fun x hx => by have := List.mem_range.mp ((List.Perm.mem_iff pm2).mp hx); omega
  refine rows_ok (f := f) eo9 et los lh hb osb (by omega) fun h10 e10 => ?_
  have hd10 := hd9.ext e10
  refine bits_ok (m := rr) (fun Q' kk => ?_) rfl (by omega) hd10 fun aq ab h11 la ab2 haq ea hd11 k11 => ?_
  · simp only [wE_var, List.getElem?_cons_succ, List.getElem?_cons_zero]
    exact kk
  have ap := hd10.ne haq
  have es11 := k11 _ _ sp (e10 _ _ (k9 _ _ sp es))
  refine plain_ok (f := f) es11 ea lse la ab2 seb (by omega) fun h12 e12 => ?_
  have hd12 := hd11.ext e12
  clear hM M0
  generalize hM : (⟨l, rr, os, hs, sec, ab⟩ : Mch) = M
  have ok : M.Ok := by rw [← hM]; exact ⟨by show 0 < l; omega, by show l ≤ 5; omega, by show rr ≤ 5; omega, pm, pm2, lh, la, hb, ab2⟩
  obtain ⟨m1, m2, m3, m4, m5, m6⟩ : l = M.l ∧ rr = M.r ∧ os = M.os ∧ hs = M.hs ∧ sec = M.sec ∧ ab = M.ab := by rw [← hM]; exact ⟨rfl, rfl, rfl, rfl, rfl, rfl⟩
  clear hM
  subst m1 m2 m3 m4 m5 m6
  have r1 := ok.r1
  simp only [wE_tup, wE_str, wE_call, wE_int, wEs_cons, wEs_nil, wE_var, List.getElem?_cons_succ, List.getElem?_cons_zero]
  refine kind_ok (by omega) fun kd1 => ?_
  refine kind_ok (by omega) fun kd2 => ?_
  refine ⟨by simp, ?_⟩
  refine leafy_ok 2 (by omega) hd12 fun tr h13 td hd13 k13 => ?_
  have kk : Ke p h4 h13 := (k5.trans (k6.trans (k7.trans (k8.trans k9)))).trans ((e10.ke.trans (k11.trans e12.ke)).trans k13)
  have ew := kk _ _ bwp ebw
  simp only [wE_lst, wEs_cons, wEs_nil, wE_var, List.getElem?_cons_succ, List.getElem?_cons_zero]
  refine ⟨by simp, fun q13 hq13 => ?_⟩
  have x14 := Ext.new (o := .lst [encT (trT tr)]) hq13
  have ew14 := x14 _ _ ew
  simp only [wS_ife, wT_eq, wE_cmp, wE_call, wEs_cons, wEs_nil, wE_var, setT_nm, List.set_cons_succ, List.set_cons_zero, List.getElem?_cons_succ, List.getElem?_cons_zero]
  refine flipped_ok tr (by omega) ?_
  have pt := trT_pp tr
  have pf := trT_pp (fl tr)
  rw [cmp_ne]
  refine eq_pure pf.1 pt.1 (.inr (pt.mono (by omega)).2) ?_
  by_cases z : fl tr = tr
  · have T := trs_1 td z
    rw [decide_eq_true (by rw [z])]
    simp only [Bool.not_true, wSs_nil]
    exact tail_ok ok T (n := 0) ew14 up_same
  · have T := trs_2 td z
    rw [decide_eq_false (fun e => z (trT_inj (encT_inj e)))]
    simp only [Bool.not_false, b1_law, wSs_cons, wSs_nil, wS_ex, wE_mth, wE_call, wEs_cons, wEs_nil, wE_var, List.getElem?_cons_succ, List.getElem?_cons_zero]
    refine ⟨recv_lstM rfl up_same, ?_⟩
    refine flipped_ok tr (by omega) ?_
    rw [mth_append, aLst_eq up_same]
    refine ⟨by simp, ?_⟩
    have bwq : bw ≠ q13 := ne_new ew hq13
    refine tail_ok ok T (n := 0) (bw := bw) (by rw [up_ne bwq]; exact ew14) ?_
    rw [up_same]
    rfl
end K44
end
section
namespace K44
open PySem L2 Snd
def top (i : Nat) : Stmt := PySem.Challenge.pw_pairwright_k44_whole_strings_apart.main.body.getD i (.Pass ⟨0, 0, 0, 0⟩)
def bn : List Str := [("dict" : Str), ("int" : Str), ("isinstance" : Str), ("len" : Str), ("list" : Str), ("min" : Str), ("range" : Str), ("sorted" : Str), ("tuple" : Str), ("zip" : Str)]
def F_taken : Fn := ⟨s_taken, [("pattern" : Str), ("thing" : Str), ("found" : Str), ("todo" : Str), ("one" : Str), ("part" : Str)], [("pattern" : Str), ("thing" : Str)], defArgs (top 1), defBody (top 1), defScope (top 1), fd_taken, none, 0⟩
def F_put : Fn := ⟨s_put, [("pattern" : Str), ("parts" : Str), ("inner" : Str)], [("pattern" : Str), ("parts" : Str)], defArgs (top 2), defBody (top 2), defScope (top 2), fd_put, none, 0⟩
def F_left_of : Fn := ⟨s_left_of, [("pattern" : Str), ("part" : Str)], [("pattern" : Str)], defArgs (top 19), defBody (top 19), defScope (top 19), fd_left_of, none, 0⟩
def F_ways_in : Fn := ⟨s_ways_in, [("pattern" : Str), ("found" : Str), ("part" : Str)], [("pattern" : Str)], defArgs (top 20), defBody (top 20), defScope (top 20), fd_ways_in, none, 0⟩
def F_by_cases : Fn := ⟨s_by_cases, [("book" : Str), ("rows" : Str), ("thing" : Str), ("turned" : Str), ("one" : Str), ("other" : Str), ("plain" : Str), ("parts" : Str), ("ways" : Str), ("made" : Str), ("name" : Str)], [("book" : Str), ("rows" : Str), ("thing" : Str), ("turned" : Str)], defArgs (top 21), defBody (top 21), defScope (top 21), fd_by_cases, none, 0⟩
def F_by_off : Fn := ⟨s_by_off, [("book" : Str), ("way" : Str), ("thing" : Str), ("turned" : Str), ("here" : Str), ("again" : Str)], [("book" : Str), ("way" : Str), ("thing" : Str), ("turned" : Str)], defArgs (top 22), defBody (top 22), defScope (top 22), fd_by_off, none, 0⟩
def F_by_two : Fn := ⟨s_by_two, [("book" : Str), ("way" : Str), ("thing" : Str), ("turned" : Str), ("word" : Str)], [("book" : Str), ("way" : Str), ("thing" : Str), ("turned" : Str)], defArgs (top 24), defBody (top 24), defScope (top 24), fd_by_two, none, 0⟩
def F_sent_by : Fn := ⟨s_sent_by, [("book" : Str), ("way" : Str), ("thing" : Str), ("turned" : Str), ("word" : Str)], [("book" : Str), ("way" : Str), ("thing" : Str), ("turned" : Str)], defArgs (top 25), defBody (top 25), defScope (top 25), fd_sent_by, none, 0⟩
def F_forth : Fn := ⟨s_forth, [("book" : Str), ("way" : Str), ("thing" : Str)], [("book" : Str), ("way" : Str), ("thing" : Str)], defArgs (top 26), defBody (top 26), defScope (top 26), fd_forth, none, 0⟩
def F_back : Fn := ⟨s_back, [("book" : Str), ("way" : Str), ("thing" : Str)], [("book" : Str), ("way" : Str), ("thing" : Str)], defArgs (top 27), defBody (top 27), defScope (top 27), fd_back, none, 0⟩
def F_string : Fn := ⟨s_string, [("book" : Str), ("off" : Str), ("thing" : Str), ("beads" : Str), ("here" : Str), ("again" : Str)], [("book" : Str), ("off" : Str), ("thing" : Str)], defArgs (top 29), defBody (top 29), defScope (top 29), fd_string, none, 0⟩
def F_law_deck : Fn := ⟨s__law_deck, [("script" : Str), ("deck" : Str), ("k" : Str), ("cell" : Str), ("number" : Str)], [("script" : Str)], defArgs (top 31), defBody (top 31), defScope (top 31), fd_law_deck, none, 0⟩
def F_law_next : Fn := ⟨s__law_next, [("deck" : Str), ("many" : Str)], [("deck" : Str), ("many" : Str)], defArgs (top 32), defBody (top 32), defScope (top 32), fd_law_next, none, 0⟩
def F_law_order : Fn := ⟨s__law_order, [("deck" : Str), ("many" : Str), ("some" : Str), ("order" : Str), ("k" : Str)], [("deck" : Str), ("many" : Str)], defArgs (top 33), defBody (top 33), defScope (top 33), fd_law_order, none, 0⟩
def F_law_kind_of : Fn := ⟨s__law_kind_of, [("many" : Str), ("kind" : Str), ("k" : Str)], [("many" : Str)], defArgs (top 34), defBody (top 34), defScope (top 34), fd_law_kind_of, none, 0⟩
def F_law_tagged : Fn := ⟨s__law_tagged, [("k" : Str), ("many" : Str), ("one" : Str), ("thing" : Str), ("turn" : Str)], [("k" : Str), ("many" : Str), ("one" : Str)], defArgs (top 35), defBody (top 35), defScope (top 35), fd_law_tagged, none, 0⟩
def F_law_name : Fn := ⟨s__law_name, [("cell" : Str), ("e" : Str), ("letters" : Str), ("word" : Str), ("k" : Str), ("at" : Str)], [("cell" : Str), ("e" : Str)], defArgs (top 36), defBody (top 36), defScope (top 36), fd_law_name, none, 0⟩
def F_law_leafy : Fn := ⟨s__law_leafy, [("deck" : Str), ("deep" : Str), ("one" : Str)], [("deck" : Str), ("deep" : Str)], defArgs (top 37), defBody (top 37), defScope (top 37), fd_law_leafy, none, 0⟩
def F_law_flipped : Fn := ⟨s__law_flipped, [("thing" : Str)], [("thing" : Str)], defArgs (top 38), defBody (top 38), defScope (top 38), fd_law_flipped, none, 0⟩
def F_law_book : Fn := ⟨s__law_book, [("rule" : Str), ("flip" : Str), ("here" : Str), ("rules" : Str), ("again" : Str), ("rows" : Str)], [("rule" : Str), ("flip" : Str)], defArgs (top 39), defBody (top 39), defScope (top 39), fd_law_book, none, 0⟩
def F_law_numbered : Fn := ⟨s__law_numbered, [("k" : Str), ("many" : Str), ("tree" : Str)], [("k" : Str), ("many" : Str), ("tree" : Str)], defArgs (top 40), defBody (top 40), defScope (top 40), fd_law_numbered, none, 0⟩
def F_law_pattern : Fn := ⟨s__law_pattern, [("k" : Str), ("many" : Str), ("part" : Str)], [("k" : Str), ("many" : Str), ("part" : Str)], defArgs (top 41), defBody (top 41), defScope (top 41), fd_law_pattern, none, 0⟩
def F_law_side : Fn := ⟨s__law_side, [("k" : Str), ("left" : Str), ("right" : Str)], [("k" : Str), ("left" : Str), ("right" : Str)], defArgs (top 42), defBody (top 42), defScope (top 42), fd_law_side, none, 0⟩
def F_law_rows : Fn := ⟨s__law_rows, [("order" : Str), ("turned" : Str), ("left" : Str), ("right" : Str), ("flip" : Str), ("rows" : Str), ("k" : Str), ("way" : Str), ("here" : Str), ("there" : Str), ("one" : Str), ("other" : Str)], [("order" : Str), ("turned" : Str), ("left" : Str), ("right" : Str), ("flip" : Str)], defArgs (top 43), defBody (top 43), defScope (top 43), fd_law_rows, none, 0⟩
def F_law_plain_rows : Fn := ⟨s__law_plain_rows, [("order" : Str), ("turned" : Str), ("flip" : Str), ("rows" : Str), ("k" : Str), ("way" : Str), ("one" : Str)], [("order" : Str), ("turned" : Str), ("flip" : Str)], defArgs (top 44), defBody (top 44), defScope (top 44), fd_law_plain_rows, none, 0⟩
def F_law_kind : Fn := ⟨s__law_kind, [("right" : Str), ("rule" : Str)], [("right" : Str), ("rule" : Str)], defArgs (top 45), defBody (top 45), defScope (top 45), fd_law_kind, none, 0⟩
def F_law_is_led : Fn := ⟨s__law_is_led, [("book" : Str), ("off" : Str), ("one" : Str), ("other" : Str), ("side" : Str), ("due" : Str)], [("book" : Str), ("off" : Str), ("one" : Str), ("other" : Str)], defArgs (top 46), defBody (top 46), defScope (top 46), fd_law_is_led, none, 0⟩
def F_law_string_right : Fn := ⟨s__law_string_right, [("book" : Str), ("off" : Str), ("thing" : Str), ("beads" : Str), ("most" : Str), ("k" : Str), ("bead" : Str)], [("book" : Str), ("off" : Str), ("thing" : Str), ("beads" : Str), ("most" : Str)], defArgs (top 47), defBody (top 47), defScope (top 47), fd_law_string_right, none, 0⟩
def F_law : Fn := ⟨s_law, [("script" : Str), ("deck" : Str), ("rule" : Str), ("flip" : Str), ("book" : Str), ("left" : Str), ("right" : Str), ("order" : Str), ("second" : Str), ("one" : Str), ("other" : Str), ("off" : Str), ("tree" : Str), ("trees" : Str), ("things" : Str), ("some" : Str), ("seen" : Str), ("ends" : Str), ("thing" : Str), ("beads" : Str), ("bead" : Str), ("k" : Str)], [("script" : Str)], defArgs (top 48), defBody (top 48), defScope (top 48), fd_law, none, 0⟩
def tab : List Fn := [F_taken, F_put, F_left_of, F_ways_in, F_by_cases, F_by_off, F_by_two, F_sent_by, F_forth, F_back, F_string, F_law_deck, F_law_next, F_law_order, F_law_kind_of, F_law_tagged, F_law_name, F_law_leafy, F_law_flipped, F_law_book, F_law_numbered, F_law_pattern, F_law_side, F_law_rows, F_law_plain_rows, F_law_kind, F_law_is_led, F_law_string_right, F_law]
def gc : Gc := ⟨[], [], [], [], [], []⟩
def fs : List M.Sx := [s_taken, s_put, s_left_of, s_ways_in, s_by_cases, s_by_off, s_by_two, s_sent_by, s_forth, s_back, s_string, s__law_deck, s__law_next, s__law_order, s__law_kind_of, s__law_tagged, s__law_name, s__law_leafy, s__law_flipped, s__law_book, s__law_numbered, s__law_pattern, s__law_side, s__law_rows, s__law_plain_rows, s__law_kind, s__law_is_led, s__law_string_right, s_law]
def gl : List M.Sx := [s_taken, s_put, s_left_of, s_ways_in, s_by_cases, s_by_off, s_by_two, s_sent_by, s_forth, s_back, s_string, s__law_deck, s__law_next, s__law_order, s__law_kind_of, s__law_tagged, s__law_name, s__law_leafy, s__law_flipped, s__law_book, s__law_numbered, s__law_pattern, s__law_side, s__law_rows, s__law_plain_rows, s__law_kind, s__law_is_led, s__law_string_right, s_law]
theorem tab_fs : tab.map (·.f) = fs := rfl
theorem tab_gl : glob tab = gl := rfl
theorem tab_t : gc.okT tab = true := by decide +kernel
theorem tab_nd : (tab.map (·.f)).Nodup := by rw [tab_fs]; decide +kernel
theorem ok_taken : F_taken.ok bn gl gc = true := by decide +kernel
theorem ok_put : F_put.ok bn gl gc = true := by decide +kernel
theorem ok_left_of : F_left_of.ok bn gl gc = true := by decide +kernel
theorem ok_ways_in : F_ways_in.ok bn gl gc = true := by decide +kernel
theorem ok_by_cases : F_by_cases.ok bn gl gc = true := by decide +kernel
theorem ok_by_off : F_by_off.ok bn gl gc = true := by decide +kernel
theorem ok_by_two : F_by_two.ok bn gl gc = true := by decide +kernel
theorem ok_sent_by : F_sent_by.ok bn gl gc = true := by decide +kernel
theorem ok_forth : F_forth.ok bn gl gc = true := by decide +kernel
theorem ok_back : F_back.ok bn gl gc = true := by decide +kernel
theorem ok_string : F_string.ok bn gl gc = true := by decide +kernel
theorem ok_law_deck : F_law_deck.ok bn gl gc = true := by decide +kernel
theorem ok_law_next : F_law_next.ok bn gl gc = true := by decide +kernel
theorem ok_law_order : F_law_order.ok bn gl gc = true := by decide +kernel
theorem ok_law_kind_of : F_law_kind_of.ok bn gl gc = true := by decide +kernel
theorem ok_law_tagged : F_law_tagged.ok bn gl gc = true := by decide +kernel
theorem ok_law_name : F_law_name.ok bn gl gc = true := by decide +kernel
theorem ok_law_leafy : F_law_leafy.ok bn gl gc = true := by decide +kernel
theorem ok_law_flipped : F_law_flipped.ok bn gl gc = true := by decide +kernel
theorem ok_law_book : F_law_book.ok bn gl gc = true := by decide +kernel
theorem ok_law_numbered : F_law_numbered.ok bn gl gc = true := by decide +kernel
theorem ok_law_pattern : F_law_pattern.ok bn gl gc = true := by decide +kernel
theorem ok_law_side : F_law_side.ok bn gl gc = true := by decide +kernel
theorem ok_law_rows : F_law_rows.ok bn gl gc = true := by decide +kernel
theorem ok_law_plain_rows : F_law_plain_rows.ok bn gl gc = true := by decide +kernel
theorem ok_law_kind : F_law_kind.ok bn gl gc = true := by decide +kernel
theorem ok_law_is_led : F_law_is_led.ok bn gl gc = true := by decide +kernel
theorem ok_law_string_right : F_law_string_right.ok bn gl gc = true := by decide +kernel
theorem ok_law : F_law.ok bn gl gc = true := by decide +kernel
theorem tab_ok : AllP (fun F => F.ok bn (glob tab) gc = true) tab := by rw [tab_gl]; exact ⟨ok_taken, ok_put, ok_left_of, ok_ways_in, ok_by_cases, ok_by_off, ok_by_two, ok_sent_by, ok_forth, ok_back, ok_string, ok_law_deck, ok_law_next, ok_law_order, ok_law_kind_of, ok_law_tagged, ok_law_name, ok_law_leafy, ok_law_flipped, ok_law_book, ok_law_numbered, ok_law_pattern, ok_law_side, ok_law_rows, ok_law_plain_rows, ok_law_kind, ok_law_is_led, ok_law_string_right, ok_law, trivial⟩
theorem bd_taken : F_taken.BOk := .inl ⟨rfl, fun _ _ _ _ _ _ us hl => match us, hl with | [_, _], _ => rfl⟩
theorem bd_put : F_put.BOk := .inl ⟨rfl, fun _ _ _ _ _ _ us hl => match us, hl with | [_, _], _ => rfl⟩
theorem bd_left_of : F_left_of.BOk := .inl ⟨rfl, fun _ _ _ _ _ _ us hl => match us, hl with | [_], _ => rfl⟩
theorem bd_ways_in : F_ways_in.BOk := .inl ⟨rfl, fun _ _ _ _ _ _ us hl => match us, hl with | [_], _ => rfl⟩
theorem bd_by_cases : F_by_cases.BOk := .inl ⟨rfl, fun _ _ _ _ _ _ us hl => match us, hl with | [_, _, _, _], _ => rfl⟩
theorem bd_by_off : F_by_off.BOk := .inl ⟨rfl, fun _ _ _ _ _ _ us hl => match us, hl with | [_, _, _, _], _ => rfl⟩
theorem bd_by_two : F_by_two.BOk := .inl ⟨rfl, fun _ _ _ _ _ _ us hl => match us, hl with | [_, _, _, _], _ => rfl⟩
theorem bd_sent_by : F_sent_by.BOk := .inl ⟨rfl, fun _ _ _ _ _ _ us hl => match us, hl with | [_, _, _, _], _ => rfl⟩
theorem bd_forth : F_forth.BOk := .inl ⟨rfl, fun _ _ _ _ _ _ us hl => match us, hl with | [_, _, _], _ => rfl⟩
theorem bd_back : F_back.BOk := .inl ⟨rfl, fun _ _ _ _ _ _ us hl => match us, hl with | [_, _, _], _ => rfl⟩
theorem bd_string : F_string.BOk := .inl ⟨rfl, fun _ _ _ _ _ _ us hl => match us, hl with | [_, _, _], _ => rfl⟩
theorem bd_law_deck : F_law_deck.BOk := .inl ⟨rfl, fun _ _ _ _ _ _ us hl => match us, hl with | [_], _ => rfl⟩
theorem bd_law_next : F_law_next.BOk := .inl ⟨rfl, fun _ _ _ _ _ _ us hl => match us, hl with | [_, _], _ => rfl⟩
theorem bd_law_order : F_law_order.BOk := .inl ⟨rfl, fun _ _ _ _ _ _ us hl => match us, hl with | [_, _], _ => rfl⟩
theorem bd_law_kind_of : F_law_kind_of.BOk := .inl ⟨rfl, fun _ _ _ _ _ _ us hl => match us, hl with | [_], _ => rfl⟩
theorem bd_law_tagged : F_law_tagged.BOk := .inl ⟨rfl, fun _ _ _ _ _ _ us hl => match us, hl with | [_, _, _], _ => rfl⟩
theorem bd_law_name : F_law_name.BOk := .inl ⟨rfl, fun _ _ _ _ _ _ us hl => match us, hl with | [_, _], _ => rfl⟩
theorem bd_law_leafy : F_law_leafy.BOk := .inl ⟨rfl, fun _ _ _ _ _ _ us hl => match us, hl with | [_, _], _ => rfl⟩
theorem bd_law_flipped : F_law_flipped.BOk := .inl ⟨rfl, fun _ _ _ _ _ _ us hl => match us, hl with | [_], _ => rfl⟩
theorem bd_law_book : F_law_book.BOk := .inl ⟨rfl, fun _ _ _ _ _ _ us hl => match us, hl with | [_, _], _ => rfl⟩
theorem bd_law_numbered : F_law_numbered.BOk := .inl ⟨rfl, fun _ _ _ _ _ _ us hl => match us, hl with | [_, _, _], _ => rfl⟩
theorem bd_law_pattern : F_law_pattern.BOk := .inl ⟨rfl, fun _ _ _ _ _ _ us hl => match us, hl with | [_, _, _], _ => rfl⟩
theorem bd_law_side : F_law_side.BOk := .inl ⟨rfl, fun _ _ _ _ _ _ us hl => match us, hl with | [_, _, _], _ => rfl⟩
theorem bd_law_rows : F_law_rows.BOk := .inl ⟨rfl, fun _ _ _ _ _ _ us hl => match us, hl with | [_, _, _, _, _], _ => rfl⟩
theorem bd_law_plain_rows : F_law_plain_rows.BOk := .inl ⟨rfl, fun _ _ _ _ _ _ us hl => match us, hl with | [_, _, _], _ => rfl⟩
theorem bd_law_kind : F_law_kind.BOk := .inl ⟨rfl, fun _ _ _ _ _ _ us hl => match us, hl with | [_, _], _ => rfl⟩
theorem bd_law_is_led : F_law_is_led.BOk := .inl ⟨rfl, fun _ _ _ _ _ _ us hl => match us, hl with | [_, _, _, _], _ => rfl⟩
theorem bd_law_string_right : F_law_string_right.BOk := .inl ⟨rfl, fun _ _ _ _ _ _ us hl => match us, hl with | [_, _, _, _, _], _ => rfl⟩
theorem bd_law : F_law.BOk := .inl ⟨rfl, fun _ _ _ _ _ _ us hl => match us, hl with | [_], _ => rfl⟩
theorem tab_bd : AllP Fn.BOk tab := ⟨bd_taken, bd_put, bd_left_of, bd_ways_in, bd_by_cases, bd_by_off, bd_by_two, bd_sent_by, bd_forth, bd_back, bd_string, bd_law_deck, bd_law_next, bd_law_order, bd_law_kind_of, bd_law_tagged, bd_law_name, bd_law_leafy, bd_law_flipped, bd_law_book, bd_law_numbered, bd_law_pattern, bd_law_side, bd_law_rows, bd_law_plain_rows, bd_law_kind, bd_law_is_led, bd_law_string_right, bd_law, trivial⟩
theorem tab_P : tabP tab = M.pOf prog := rfl
abbrev R : PySem.W.OpenRow := PySem.W.OpenLaw.row PySem.Challenge.rw_pairwright_k44_whole_strings_apart
abbrev hfa : List He.Fa := headFa tab bn gc
abbrev hfn : List He.DefD := headFn tab
abbrev hk : PySem.W.Hook := He.hookD 4 hfa hfn
def ob (s : PySem.W.SharedT) : He.AlD := He.obsDG 4 hfa hfn (HandSHeadRun.getT s)
theorem ob_eq (s : PySem.W.SharedT) : ob s = hk.obs s.abs := He.obsDG_eq (HandSHeadRun.getT_eq s)
theorem gc_t : gc.ts = [] := rfl
def loose : List Str := [("taken" : Str), ("put" : Str), ("copy" : Str), ("copied" : Str), ("placed" : Str), ("laid_out" : Str), ("heads_on" : Str), ("is_even" : Str), ("changed_about" : Str), ("heads_up" : Str), ("others_home" : Str), ("next_round" : Str), ("rounds_of" : Str), ("led" : Str), ("led_back" : Str), ("left_of" : Str), ("ways_in" : Str), ("by_cases" : Str), ("by_off" : Str), ("by_parted" : Str), ("by_two" : Str), ("sent_by" : Str), ("forth" : Str), ("back" : Str), ("string" : Str), ("_law_deck" : Str), ("_law_next" : Str), ("_law_order" : Str), ("_law_kind_of" : Str), ("_law_tagged" : Str), ("_law_name" : Str), ("_law_leafy" : Str), ("_law_flipped" : Str), ("_law_book" : Str), ("_law_numbered" : Str), ("_law_pattern" : Str), ("_law_side" : Str), ("_law_rows" : Str), ("_law_plain_rows" : Str), ("_law_kind" : Str), ("_law_is_led" : Str), ("_law_string_right" : Str)]
def lawAt : Nat := 48
end K44
end
section
namespace K44
theorem law_okF : Snd.LawOk (M.pOf prog) 60 s_law := fun ns hl => law_okN ns hl
end K44
end
section
open PySem PySem.W PySem.Calls PyProof.Rows
namespace K44
open PySem PySem.Spec PyProof.Rows L2 Snd
theorem run (w : World) : HandSHeadRun.RunEq R (PySem.W.view R.prog [lawAt]) hk ob 4000 loose w := by
  intro os
  kernel_rfl
end K44
set_option maxRecDepth 100000 in
set_option maxHeartbeats 0 in
theorem PySem.Challenge.cw_pairwright_k44_whole_strings_apart_holds : PySem.Challenge.rw_pairwright_k44_whole_strings_apart.Holds := by
  w_on; o_law
  refine HandSHeadRun.head_any (r := OpenLaw.row PySem.Challenge.rw_pairwright_k44_whole_strings_apart) (q := view (OpenLaw.row PySem.Challenge.rw_pairwright_k44_whole_strings_apart).prog [K44.lawAt]) (H := K44.hk) (ob := K44.ob) (M := 4000) (loose := K44.loose) (d := HandSHeadRun.topDef (OpenLaw.row PySem.Challenge.rw_pairwright_k44_whole_strings_apart).prog K44.lawAt) (kwd := []) K44.ob_eq
    (by kernel_rfl) (fun s => by kernel_rfl) K44.run (by kernel_rfl) (by kernel_rfl) (by kernel_rfl) (by rfl) (by first | assumption | decide +kernel) (by decide +kernel) ⟨rfl, rfl, rfl, rfl, rfl, by decide +kernel⟩ ?hw ?hc
  case hw => w_witness2
  case hc =>
    refine L2.walk_ofE (l := PySem.Challenge.rw_pairwright_k44_whole_strings_apart) (n := 63) (k := 60) (x := "script") (CX := L2.CX0) rfl (by decide) (by kernel_rfl) ⟨rfl, by decide, by decide⟩ ?F (fun _ _ _ _ z => z)
    intro w mg fa h Y G hmg0
    obtain ⟨K, KX, c⟩ := Y
    have hmg : mg (Snd.sV K44.F_law.f) = some (.ref fa) := by
      have e : (HandSHeadRun.topDef (OpenLaw.row PySem.Challenge.rw_pairwright_k44_whole_strings_apart).prog K44.lawAt).name = Snd.sV K44.F_law.f := by kernel_rfl
      rw [← e]
      exact hmg0
    obtain ⟨fd, hb, hF⟩ := Snd.law_facts (P := (PySem.Challenge.rw_pairwright_k44_whole_strings_apart).prog) (w := w) (gc := K44.gc) (L := K44.F_law) K44.gc_t rfl rfl (by unfold K44.tab; simp) rfl KX G hmg c K44.tab_nd K44.tab_ok K44.tab_bd K44.tab_t 60
    refine ⟨K, fd, Snd.spC ⟨K, (PySem.Challenge.rw_pairwright_k44_whole_strings_apart).prog, w, mg⟩ (M.pOf K44.prog) 60 K44.F_law.f, KX, hb, fun H a ns hl hO hS => Snd.law_sp K44.law_okF H a ns hl hO hS, ?_⟩
    rw [← K44.tab_P] at *
    exact hF
end
