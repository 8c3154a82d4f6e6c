import PyProof.Rows.All
import Wide.All
import OpenK.AllK
import Wide.FinOn
import HandS.ForMost
import HandS.Wide
import KE.KDictKeyed
import HandS.Deep
import HandS.TupAny
import HandS.SortRule
import HandS.SortInts
import KE.LtData
import HandS.DeepEq
import HandS.OwnEq
import HandS.Style
import HandS.IsInst
import HandS.Codes
import HandS.More
import HandS.Finally
import PyProof.DictUpdate
import HandS.Zip0
import KE.KDictZip
import KE.KItemsList
import HandS.ListItems
import HandS.Conv
import HandS.Rev
import HandS.Zip
import HandS.RevRange
import KE.DataMinMax
import HandS.SortKw
import HandS.Flow
import KE.KDictSum
import HandS.List
import HandS.Dict
import HandS.Defaults
import HandS.Ends
import HandS.Head0
import HandS.Head1
import HandS.Head2
import HandS.HeadEnd
import HandS.HeadHook1
import HandS.HeadHook2
import HandS.HeadHook3
import HandS.HeadHook4
import PySem.Challenge.RW_pairwright_k14_shapes_listed
set_option Elab.async false
set_option linter.all false
set_option maxRecDepth 100000
set_option maxHeartbeats 0
section
/-! Core: values, heaps, the IR, its weakest-precondition reading. Pure Lean, no kit. -/
namespace M
abbrev Sx := List Nat
noncomputable section
def LINE : Nat := 16777216

inductive D where
  | non | bl (b : Bool) | int (i : Int) | str (s : Sx) | tup (ds : List D) | ref (a : Nat) | rol (ds : List D)
noncomputable instance : DecidableEq D := fun _ _ => Classical.propDecidable _

inductive Ob where
  | lst (xs : List D)
  | dct (k : Nat) (kvs : List (D × D))
  | rdct (k : Nat) (kvs : List (D × D))
  | ins (c : Sx) (fs : List (Sx × D))
  /-- a dict whose keys are nested tuples -/
  | dcn (kvs : List (D × D))

def Ob.lk : Ob → Bool
  | .rdct _ _ => true
  | _ => false
abbrev AH := Nat → Option Ob
def up (h : AH) (a : Nat) (o : Ob) : AH := fun b => if b = a then some o else h b
abbrev St := List (Option D)
abbrev VQ := D → AH → Prop
abbrev XP := Sx → List D → AH → Prop

structure Ends where
  nx : St → AH → Prop
  rt : VQ
  bk : St → AH → Prop
  ct : St → AH → Prop
structure Cx where
  call : Sx → List D → AH → VQ → XP → Prop
  ex : XP

inductive Bop where | add | sub | mul | mod | fdiv | pow
inductive Cop where | eq | ne | lt | le | gt | ge | isin | notin | is_ | isnt | nes
inductive Blt where | len | min2 | max2 | int1 | abs | sum | all | any | list | tuple | sorted | str1 | repr | dict1 | min1 | max1 | klist | sortd
inductive Mth where | append | pop | popAt | extend | insert | reverse | clear | get1 | get2 | setdefault | update | join | split | index | remove | dclear | extendT
inductive Itk where | seq | rng | zip | enum | items | values | rev | keys | rrng
inductive Ty where | int | bool | tuple | str | list | dict
inductive Tgt where
  | nm (i : Nat)
  | tp (ts : List Nat)

mutual
inductive E where
  | var (i : Nat)
  | int (n : Int)
  | str (s : Sx)
  | bl (b : Bool)
  | non
  | gint (x : Sx) (n : Int)
  | gstr (x : Sx) (s : Sx)
  | tup (es : Es)
  | lst (es : Es)
  | dct (k : Nat) (es : Es)
  | dcn
  | bin (o : Bop) (a b : E)
  | neg (a : E)
  | cmp (o : Cop) (a b : E)
  | chn (o o' : Cop) (a b c : E)
  | bop (isAnd : Bool) (es : Es)
  | not (a : E)
  | ite (c a b : E)
  | ix (a i : E)
  | sl (a : E) (lo hi : Es)
  | call (f : Sx) (es : Es)
  /-- the last k parameters' defaults, all None, fill up -/
  | callD (f : Sx) (k : Nat) (es : Es)
  /-- sum(e.values()) -/
  | smv (e : E)
  | fld (e : E) (f : Sx)
  | newo (c : Sx) (es : Es)
  | mcall (c m : Sx) (o : E) (es : Es)
  | blt (b : Blt) (es : Es)
  | isi (a : E) (t : Ty)
  | mth (m : Mth) (o : E) (es : Es)
  | lc (elt : E) (t : Tgt) (own : List Nat) (k : Itk) (src : Es) (ifs : Es)
  | bad
  | lock (i : Nat) (e : E)
  | lzip (es : Es)
  | lrng (es : Es)
  | rev (a : E)
  | mnd (es : Es)
  | orv (a b : E)
  | tix (x : Sx) (tab : List (Sx × Sx)) (a : E)
  | slw (a : E) (lo hi : Es)
  | tlr (a : E)
inductive Es where
  | nil
  | cons (e : E) (es : Es)
end

mutual
inductive S where
  | asg (t : Tgt) (e : E)
  | six (o i e : E)
  | sfld (c : Sx) (o : E) (f : Sx) (e : E)
  | aug (i : Nat) (o : Bop) (e : E)
  | ex (e : E)
  | ret (e : E)
  | retN
  | ife (c : E) (a b : Ss)
  | whl (c : E) (b : Ss)
  | for_ (t : Tgt) (k : Itk) (src : Es) (b : Ss)
  | pass | brk | cont
  | bad
  | lock (i : Nat) (s : S)
  | lock2 (i : Nat) (s : S)
inductive Ss where
  | nil
  | cons (s : S) (ss : Ss)
end

/-! ### operations on values -/
def zipL : List D → List D → List D
  | x :: xs, y :: ys => .tup [x, y] :: zipL xs ys
  | _, _ => []
def mulOk (a b : Int) : Prop := (-(2 ^ 64) < a ∧ a < 2 ^ 64) ∨ (-(2 ^ 64) < b ∧ b < 2 ^ 64) ∨ ∃ k, 0 < k ∧ k ≤ 500000 ∧ a.natAbs < 2 ^ k ∧ b.natAbs < 2 ^ k
def divOk (b : Int) : Prop := 0 < b ∧ b < 2 ^ 64
def powOk (a b : Int) : Prop := 0 ≤ b ∧ b ≤ 1000000 ∧ a.natAbs < 2 ^ 64

def opAdd : D → D → AH → VQ → Prop
  | .int a, .int b, h, Q => Q (.int (a + b)) h
  | .str a, .str b, h, Q => a.length + b.length ≤ LINE ∧ Q (.str (a ++ b)) h
  | .tup a, .tup b, h, Q => a.length + b.length ≤ LINE ∧ Q (.tup (a ++ b)) h
  | .ref p, .ref q, h, Q => ∃ xs ys, h p = some (.lst xs) ∧ h q = some (.lst ys) ∧ xs.length + ys.length ≤ LINE ∧ ∀ r, h r = none → Q (.ref r) (up h r (.lst (xs ++ ys)))
  | _, _, _, _ => False
def opMul : D → D → AH → VQ → Prop
  | .int a, .int b, h, Q => mulOk a b ∧ Q (.int (a * b)) h
  | .ref p, .int k, h, Q => ∃ xs, h p = some (.lst xs) ∧ -(2 ^ 63) ≤ k ∧ k < 2 ^ 63 ∧ xs.length * k.toNat ≤ LINE ∧ ∀ r, h r = none → Q (.ref r) (up h r (.lst (List.replicate k.toNat xs).flatten))
  | _, _, _, _ => False
def opInt (f : Int → Int → (Int → Prop) → Prop) : D → D → AH → VQ → Prop
  | .int a, .int b, h, Q => f a b fun c => Q (.int c) h
  | _, _, _, _ => False
def opBin (o : Bop) (x y : D) (h : AH) (Q : VQ) : Prop := match o with
  | .add => opAdd x y h Q
  | .mul => opMul x y h Q
  | .sub => opInt (fun a b q => q (a - b)) x y h Q
  | .mod => opInt (fun a b q => 0 < b ∧ q (a % b)) x y h Q
  | .fdiv => opInt (fun a b q => divOk b ∧ q (a / b)) x y h Q
  | .pow => opInt (fun a b q => powOk a b ∧ q (a ^ b.toNat)) x y h Q

mutual
/-- data without objects and truths, nested at most n deep -/
def plain : Nat → D → Bool
  | _, .non => true
  | _, .int _ => true
  | _, .str _ => true
  | 0, .tup _ => false
  | n + 1, .tup ds => plains n ds
  | _, _ => false
def plains : Nat → List D → Bool
  | _, [] => true
  | n, d :: ds => plain n d && plains n ds
end
mutual
def pureD : D → Bool
  | .non => true
  | .int _ => true
  | .str _ => true
  | .tup ds => pureDs ds
  | _ => false
def pureDs : List D → Bool
  | [] => true
  | d :: ds => pureD d && pureDs ds
end
def flat : D → Bool
  | .non => true
  | .int _ => true
  | .str _ => true
  | _ => false

def eqOk (a b : D) (h : AH) (Q : Bool → Prop) : Prop := match a with
  | .bl a => (match b with
    | .bl b => Q (decide (a = b))
    | _ => False)
  | .ref p => (match b with
    | .ref q => ∃ xs ys, h p = some (.lst xs) ∧ h q = some (.lst ys) ∧ pureDs xs = true ∧ pureDs ys = true ∧ (plains 190 xs = true ∨ plains 190 ys = true) ∧ Q (decide (xs = ys))
    | _ => False)
  | a => pureD a = true ∧ pureD b = true ∧ (plain 190 a = true ∨ plain 190 b = true) ∧ Q (decide (a = b))

def kvGet (kvs : List (D × D)) (k : D) : Option D := (kvs.find? fun kv => decide (kv.1 = k)).map (·.2)
def kvPut (kvs : List (D × D)) (k v : D) : List (D × D) :=
  if (kvs.any fun kv => decide (kv.1 = k)) = true then kvs.map (fun kv => if kv.1 = k then (kv.1, v) else kv) else kvs ++ [(k, v)]
/-- keys by the kind of dict: 0 intsOf and texts, 1 tuples of such -/
def keyOk : Nat → D → Bool
  | 0, .int _ => true
  | 0, .str _ => true
  | _, _ => false

/-- keys that are tuples, nested eight deep at most -/
def nkOk : D → Bool
  | .tup ds => pureDs ds && plains 7 ds
  | _ => false

/-- == of what holds lists and dicts; true alone for lists and tuples -/
def All2 (R : D → D → Prop) : List D → List D → Prop
  | [], [] => True
  | x :: xs, y :: ys => R x y ∧ All2 R xs ys
  | _, _ => False
def HitsD (R : D → D → Bool → Prop) (kws : List (D × D)) : List (D × D) → Bool → Prop
  | [], r => r = true
  | kv :: t, r => (kvGet kws kv.1 = none ∧ r = false) ∨ ∃ u e r', kvGet kws kv.1 = some u ∧ R kv.2 u e ∧ HitsD R kws t r' ∧ r = (e && r')
def EqS (R : D → D → Bool → Prop) (h : AH) (a b : D) (r : Bool) : Prop :=
  (∃ xs ys, a = .tup xs ∧ b = .tup ys ∧ All2 (fun x y => R x y true) xs ys ∧ r = true) ∨
  (∃ p q xs ys, a = .ref p ∧ b = .ref q ∧ p ≠ q ∧ h p = some (.lst xs) ∧ h q = some (.lst ys) ∧ All2 (fun x y => R x y true) xs ys ∧ r = true) ∨
  ∃ p q kvs kws r', a = .ref p ∧ b = .ref q ∧ p ≠ q ∧ h p = some (.dct 0 kvs) ∧ h q = some (.dct 0 kws) ∧ (kvs.length = kws.length → HitsD R kws kvs r') ∧ r = (kvs.length == kws.length && r')
def EqD : Nat → AH → D → D → Bool → Prop
  | 0, _, _, _, _ => False
  | n + 1, h, a, b, r => (pureD a = true ∧ pureD b = true ∧ (plain (170 + n) a = true ∨ plain (170 + n) b = true) ∧ r = decide (a = b)) ∨ (∃ p, a = .ref p ∧ b = .ref p ∧ r = true) ∨ EqS (EqD n h) h a b r
/-- != of two dicts -/
def neD (a b : D) (h : AH) (Q : Bool → Prop) : Prop := ∃ p q kvs kws r, a = .ref p ∧ b = .ref q ∧ h p = some (.dct 0 kvs) ∧ h q = some (.dct 0 kws) ∧ (kvs.length = kws.length → HitsD (EqD 20 h) kws kvs r) ∧ Q (!(kvs.length == kws.length && r))
def eqOkX (a b : D) (h : AH) (Q : Bool → Prop) : Prop := eqOk a b h Q ∨ ∃ r, EqS (EqD 20 h) h a b r ∧ Q r
def memOk (x y : D) (h : AH) (Q : Bool → Prop) : Prop := match y with
  | .ref p => (match h p with
    | some (.dct k kvs) => keyOk k x = true ∧ Q (kvGet kvs x).isSome
    | some (.rdct k kvs) => keyOk k x = true ∧ Q (kvGet kvs x).isSome
    | some (.dcn kvs) => nkOk x = true ∧ Q (kvGet kvs x).isSome
    | some (.lst xs) => pureD x = true ∧ pureDs xs = true ∧ (plain 190 x = true ∨ plains 190 xs = true) ∧ Q (xs.any fun y => decide (y = x))
    | _ => False)
  | .tup xs => flat x = true ∧ xs.all flat = true ∧ Q (xs.any fun y => decide (y = x))
  | _ => False
/-! ### an order of data -/
mutual
/-- what < may be asked of -/
def cmpb : D → D → Bool
  | .int _, b => (match b with
    | .int _ => true
    | _ => false)
  | .str _, b => (match b with
    | .str _ => true
    | _ => false)
  | .tup xs, b => (match b with
    | .tup ys => cmpbs xs ys
    | _ => false)
  | _, _ => false
def cmpbs : List D → List D → Bool
  | [], _ => true
  | x :: xs, l => (match l with
    | [] => true
    | y :: ys => if x = y then cmpbs xs ys else cmpb x y)
end
def rkD : D → Nat
  | .non => 0
  | .bl _ => 1
  | .int _ => 2
  | .str _ => 3
  | .tup _ => 4
  | .rol _ => 5
  | .ref _ => 6
mutual
/-- the order that < and sorted follow -/
def ltD : D → D → Bool
  | .int a, d => (match d with
    | .int b => decide (a < b)
    | d => decide (2 < rkD d))
  | .str s, d => (match d with
    | .str t => decide (s < t)
    | d => decide (3 < rkD d))
  | .tup xs, d => (match d with
    | .tup ys => ltDs xs ys
    | d => decide (4 < rkD d))
  | .rol xs, d => (match d with
    | .rol ys => ltDs xs ys
    | d => decide (5 < rkD d))
  | .non, d => decide (0 < rkD d)
  | .bl a, d => (match d with
    | .bl b => !a && b
    | d => decide (1 < rkD d))
  | .ref a, d => (match d with
    | .ref b => decide (a < b)
    | d => decide (6 < rkD d))
def ltDs : List D → List D → Bool
  | [], l => (match l with
    | [] => false
    | _ :: _ => true)
  | x :: xs, l => (match l with
    | [] => false
    | y :: ys => if x = y then ltDs xs ys else ltD x y)
end
theorem ltDs_cons {x y : D} {xs ys : List D} : ltDs (x :: xs) (y :: ys) = if x = y then ltDs xs ys else ltD x y := by simp only [ltDs]
theorem ltD_rk {a b : D} (h : rkD a ≠ rkD b) : ltD a b = decide (rkD a < rkD b) := by
  cases a <;> cases b <;> first | exact absurd rfl h | simp [ltD, rkD]
theorem sx_irr : ∀ s : Sx, ¬ s < s := fun s => List.lt_irrefl s
mutual
theorem ltD_irr : ∀ a : D, ltD a a = false
  | .non => by simp [ltD, rkD]
  | .bl b => by cases b <;> rfl
  | .int _ => by simp [ltD]
  | .str s => by simp [ltD, sx_irr s]
  | .tup xs => by simp only [ltD]; exact ltDs_irr xs
  | .rol xs => by simp only [ltD]; exact ltDs_irr xs
  | .ref _ => by simp [ltD]
theorem ltDs_irr : ∀ xs : List D, ltDs xs xs = false
  | [] => by simp only [ltDs]
  | x :: xs => by rw [ltDs_cons, if_pos rfl]; exact ltDs_irr xs
end
theorem rk_no {a b : D} (r : rkD a ≠ rkD b) (h1 : ltD a b = false) (h2 : ltD b a = false) : False := by
  rw [ltD_rk r] at h1
  rw [ltD_rk (Ne.symm r)] at h2
  simp at h1 h2
  omega
mutual
theorem ltD_tot : ∀ a b : D, ltD a b = false → ltD b a = false → a = b
  | .tup xs, b, h1, h2 => by
    cases b with
    | tup ys =>
      simp only [ltD] at h1 h2
      rw [ltDs_tot xs ys h1 h2]
    | _ => exact (rk_no (by simp [rkD]) h1 h2).elim
  | .rol xs, b, h1, h2 => by
    cases b with
    | rol ys =>
      simp only [ltD] at h1 h2
      rw [ltDs_tot xs ys h1 h2]
    | _ => exact (rk_no (by simp [rkD]) h1 h2).elim
  | .int a, b, h1, h2 => by
    cases b with
    | int c =>
      simp [ltD] at h1 h2
      congr 1; omega
    | _ => exact (rk_no (by simp [rkD]) h1 h2).elim
  | .str a, b, h1, h2 => by
    cases b with
    | str c =>
      simp [ltD] at h1 h2
      congr 1
      exact List.le_antisymm h2 h1
    | _ => exact (rk_no (by simp [rkD]) h1 h2).elim
  | .non, b, h1, h2 => by
    cases b with
    | non => rfl
    | _ => exact (rk_no (by simp [rkD]) h1 h2).elim
  | .bl a, b, h1, h2 => by
    cases b with
    | bl c => cases a <;> cases c <;> first | rfl | (simp [ltD] at h1 h2)
    | _ => exact (rk_no (by simp [rkD]) h1 h2).elim
  | .ref a, b, h1, h2 => by
    cases b with
    | ref c =>
      simp [ltD] at h1 h2
      congr 1; omega
    | _ => exact (rk_no (by simp [rkD]) h1 h2).elim
theorem ltDs_tot : ∀ xs ys : List D, ltDs xs ys = false → ltDs ys xs = false → xs = ys
  | [], ys, h1, h2 => by cases ys <;> simp [ltDs] at h1 ⊢
  | x :: xs, ys, h1, h2 => by
    cases ys with
    | nil => simp [ltDs] at h2
    | cons y ys =>
      rw [ltDs_cons] at h1 h2
      by_cases e : x = y
      · subst e
        rw [if_pos rfl] at h1 h2
        rw [ltDs_tot xs ys h1 h2]
      · rw [if_neg e] at h1
        rw [if_neg (Ne.symm e)] at h2
        exact absurd (ltD_tot x y h1 h2) e
end
theorem rk_lt {a b c : D} (r : rkD a ≠ rkD b ∨ rkD b ≠ rkD c) (h1 : ltD a b = true) (h2 : ltD b c = true) (w : ∀ {x y : D}, ltD x y = true → rkD x ≤ rkD y) : ltD a c = true := by
  have h3 := w h1
  have h4 := w h2
  rw [ltD_rk (by omega)]
  exact decide_eq_true (by omega)
theorem lt_rk {x y : D} (h : ltD x y = true) : rkD x ≤ rkD y := by
  by_cases r : rkD x = rkD y
  · omega
  · rw [ltD_rk r] at h
    simp at h
    omega
mutual
theorem ltD_trans : ∀ a b c : D, ltD a b = true → ltD b c = true → ltD a c = true
  | .tup xs, b, c, h1, h2 => by
    cases b with
    | tup ys =>
      cases c with
      | tup zs =>
        simp only [ltD] at h1 h2 ⊢
        exact ltDs_trans xs ys zs h1 h2
      | _ => exact rk_lt (.inr (by simp [rkD])) h1 h2 lt_rk
    | _ => exact rk_lt (.inl (by simp [rkD])) h1 h2 lt_rk
  | .rol xs, b, c, h1, h2 => by
    cases b with
    | rol ys =>
      cases c with
      | rol zs =>
        simp only [ltD] at h1 h2 ⊢
        exact ltDs_trans xs ys zs h1 h2
      | _ => exact rk_lt (.inr (by simp [rkD])) h1 h2 lt_rk
    | _ => exact rk_lt (.inl (by simp [rkD])) h1 h2 lt_rk
  | .int a, b, c, h1, h2 => by
    cases b with
    | int b =>
      cases c with
      | int c =>
        simp [ltD] at h1 h2 ⊢
        omega
      | _ => exact rk_lt (.inr (by simp [rkD])) h1 h2 lt_rk
    | _ => exact rk_lt (.inl (by simp [rkD])) h1 h2 lt_rk
  | .str a, b, c, h1, h2 => by
    cases b with
    | str b =>
      cases c with
      | str c =>
        simp [ltD] at h1 h2 ⊢
        exact List.lt_trans h1 h2
      | _ => exact rk_lt (.inr (by simp [rkD])) h1 h2 lt_rk
    | _ => exact rk_lt (.inl (by simp [rkD])) h1 h2 lt_rk
  | .non, b, c, h1, h2 => by
    cases b with
    | non => simp [ltD, rkD] at h1
    | _ => exact rk_lt (.inl (by simp [rkD])) h1 h2 lt_rk
  | .bl a, b, c, h1, h2 => by
    cases b with
    | bl b =>
      cases c with
      | bl c => cases a <;> cases b <;> cases c <;> simp [ltD] at h1 h2 ⊢
      | _ => exact rk_lt (.inr (by simp [rkD])) h1 h2 lt_rk
    | _ => exact rk_lt (.inl (by simp [rkD])) h1 h2 lt_rk
  | .ref a, b, c, h1, h2 => by
    cases b with
    | ref b =>
      cases c with
      | ref c =>
        simp [ltD] at h1 h2 ⊢
        omega
      | _ => exact rk_lt (.inr (by simp [rkD])) h1 h2 lt_rk
    | _ => exact rk_lt (.inl (by simp [rkD])) h1 h2 lt_rk
theorem ltDs_trans : ∀ xs ys zs : List D, ltDs xs ys = true → ltDs ys zs = true → ltDs xs zs = true
  | [], ys, zs, h1, h2 => by
    cases ys with
    | nil => simp [ltDs] at h1
    | cons y ys =>
      cases zs with
      | nil => simp [ltDs] at h2
      | cons z zs => simp [ltDs]
  | x :: xs, ys, zs, h1, h2 => by
    cases ys with
    | nil => simp [ltDs] at h1
    | cons y ys =>
      cases zs with
      | nil => simp [ltDs] at h2
      | cons z zs =>
        rw [ltDs_cons] at h1 h2 ⊢
        by_cases e : x = y
        · subst e
          rw [if_pos rfl] at h1
          by_cases e2 : x = z
          · subst e2
            rw [if_pos rfl] at h2 ⊢
            exact ltDs_trans xs ys zs h1 h2
          · rw [if_neg e2] at h2 ⊢
            exact h2
        · rw [if_neg e] at h1
          by_cases e2 : y = z
          · subst e2
            rw [if_neg e]
            exact h1
          · rw [if_neg e2] at h2
            have h3 := ltD_trans x y z h1 h2
            by_cases e3 : x = z
            · subst e3
              rw [ltD_irr] at h3
              cases h3
            · rw [if_neg e3]
              exact h3
end
theorem ltD_asym {a b : D} (h : ltD a b = true) : ltD b a = false := by
  cases e : ltD b a with
  | false => rfl
  | true =>
    have := ltD_trans a b a h e
    rw [ltD_irr] at this
    cases this
theorem ltD_neg {x y z : D} (h1 : ltD y x = false) (h2 : ltD z y = false) : ltD z x = false := by
  cases e : ltD z x with
  | false => rfl
  | true =>
    cases e1 : ltD x y with
    | true =>
      have := ltD_trans z x y e e1
      rw [h2] at this
      cases this
    | false =>
      have := ltD_tot x y e1 h1
      subst this
      rw [h2] at e
      cases e
def cmpInt (f : Int → Int → Bool) : D → D → (Bool → Prop) → Prop
  | .int a, .int b, Q => Q (f a b)
  | _, _, _ => False
def cmpLt : D → D → (Bool → Prop) → Prop
  | .int a, .int b, Q => Q (decide (a < b))
  | .str a, .str b, Q => Q (decide (a < b))
  | .tup xs, .tup ys, Q => cmpbs xs ys = true ∧ pureDs xs = true ∧ pureDs ys = true ∧ (plains 190 xs = true ∨ plains 190 ys = true) ∧ Q (ltDs xs ys)
  | _, _, _ => False
def isNon (x y : D) (Q : Bool → Prop) : Prop := match y with
  | .non => Q (decide (x = .non))
  | .bl b => (match x with
    | .bl a => Q (decide (a = b))
    | _ => False)
  | _ => False

def opCmp (o : Cop) (x y : D) (h : AH) (Q : Bool → Prop) : Prop := match o with
  | .eq => eqOkX x y h Q
  | .ne => eqOk x y h fun c => Q (!c)
  | .lt => cmpLt x y Q
  | .le => cmpInt (fun a b => decide (a ≤ b)) x y Q
  | .gt => cmpInt (fun a b => decide (b < a)) x y Q
  | .ge => cmpInt (fun a b => decide (b ≤ a)) x y Q
  | .isin => memOk x y h Q
  | .notin => memOk x y h fun c => Q (!c)
  | .is_ => isNon x y Q
  | .isnt => isNon x y fun c => Q (!c)
  | .nes => neD x y h Q

def atI {α : Type} (xs : List α) (i : Int) : Option α := if 0 ≤ i then xs[i.toNat]? else if -(xs.length : Int) ≤ i then xs[(i + xs.length).toNat]? else none
def ixAt (ds : List D) (y : D) (h : AH) (Q : VQ) : Prop := match y with
  | .int i => (match atI ds i with
    | some d => Q d h
    | none => False)
  | _ => False
def ixStr (s : Sx) (y : D) (h : AH) (Q : VQ) : Prop := match y with
  | .int i => s.length ≤ LINE ∧ (match atI s i with
    | some c => Q (.str [c]) h
    | none => False)
  | _ => False
def opIx (x y : D) (h : AH) (Q : VQ) : Prop := match x with
  | .tup ds => ixAt ds y h Q
  | .rol ds => ixAt ds y h Q
  | .str s => ixStr s y h Q
  | .ref p => (match h p with
    | some (.lst xs) => ixAt xs y h Q
    | some (.dct kd kvs) => keyOk kd y = true ∧ (match kvGet kvs y with
      | some d => Q d h
      | none => False)
    | some (.rdct kd kvs) => keyOk kd y = true ∧ (match kvGet kvs y with
      | some d => Q d h
      | none => False)
    | some (.dcn kvs) => nkOk y = true ∧ (match kvGet kvs y with
      | some d => Q d h
      | none => False)
    | _ => False)
  | _ => False

/-- where a slice's bound lies -/
def clip (n d : Nat) : Option Int → Nat
  | none => d
  | some i => if i < 0 then (i + n).toNat else min i.toNat n
def cut {α : Type} (xs : List α) (lo hi : Option Int) : List α := (xs.drop (clip xs.length 0 lo)).take (clip xs.length xs.length hi - clip xs.length 0 lo)
def opSl (x : D) (lo hi : Option Int) (h : AH) (Q : VQ) : Prop := match x with
  | .tup ds => ¬ (clip ds.length 0 lo = 0 ∧ clip ds.length ds.length hi = ds.length) ∧ Q (.tup (cut ds lo hi)) h
  | .rol ds => ∀ r, h r = none → Q (.ref r) (up h r (.lst (cut ds lo hi)))
  | .str s => s.length ≤ LINE ∧ Q (.str (cut s lo hi)) h
  | .ref p => (match h p with
    | some (.lst xs) => ∀ r, h r = none → Q (.ref r) (up h r (.lst (cut xs lo hi)))
    | _ => False)
  | _ => False

/-- a tuple's slice, the whole of it too -/
def opSlW (x : D) (lo hi : Option Int) (h : AH) (Q : VQ) : Prop := match x with
  | .tup ds => Q (.tup (cut ds lo hi)) h
  | _ => False

def intsOf : List D → Option (List Int)
  | [] => some []
  | .int i :: ds => (intsOf ds).map (i :: ·)
  | _ => none
def bls : List D → Option (List Bool)
  | [] => some []
  | .bl i :: ds => (bls ds).map (i :: ·)
  | _ => none
/-- what may be read as a list or a tuple -/
def seqOf : D → AH → Option (List D)
  | .tup xs, _ => some xs
  | .rol xs, _ => some xs
  | .ref p, h => match h p with
    | some (.lst xs) => some xs
    | _ => none
  | _, _ => none

/-- one argument, two -/
def arg1 (ds : List D) (f : D → Prop) : Prop := match ds with
  | [d] => f d
  | _ => False
def arg2 (ds : List D) (f : D → D → Prop) : Prop := match ds with
  | [d, e] => f d e
  | _ => False
def anInt (d : D) (f : Int → Prop) : Prop := match d with
  | .int i => f i
  | _ => False
def aRef (d : D) (f : Nat → Prop) : Prop := match d with
  | .ref p => f p
  | _ => False
def aLst (d : D) (h : AH) (f : Nat → List D → Prop) : Prop := match d with
  | .ref p => (match h p with
    | some (.lst xs) => f p xs
    | _ => False)
  | _ => False
def aDct (d : D) (h : AH) (f : Nat → Nat → List (D × D) → Prop) : Prop := match d with
  | .ref p => (match h p with
    | some (.dct k kvs) => f p k kvs
    | _ => False)
  | _ => False
/-- a dict, locked or not -/
def aDctR (d : D) (h : AH) (f : Nat → Nat → List (D × D) → Prop) : Prop := match d with
  | .ref p => (match h p with
    | some (.dct k kvs) => f p k kvs
    | some (.rdct k kvs) => f p k kvs
    | _ => False)
  | _ => False
def aSome {α : Type} (o : Option α) (f : α → Prop) : Prop := match o with
  | some a => f a
  | none => False
def lenOk (d : D) (h : AH) (f : Nat → Prop) : Prop := match d with
  | .str s => s.length ≤ LINE ∧ f s.length
  | .ref p => (match h p with
    | some (.lst xs) => f xs.length
    | some (.dct _ kvs) => f kvs.length
    | some (.rdct _ kvs) => f kvs.length
    | _ => False)
  | d => aSome (seqOf d h) fun xs => f xs.length
def toInt (d : D) (f : Int → Prop) : Prop := match d with
  | .int i => f i
  | .bl b => f (if b then 1 else 0)
  | _ => False
def aTup (d : D) (f : List D → Prop) : Prop := match d with
  | .tup xs => f xs
  | _ => False
def strsOf : List D → Option (List Sx)
  | [] => some []
  | .str s :: ds => (strsOf ds).map (s :: ·)
  | _ => none
/-- what sorted takes of tuples: as < may be asked of any two, their first ones of one type -/
def tupsOk (xs : List D) : Prop := pureDs xs = true ∧ plains 190 xs = true ∧ (∃ t, (t = 2 ∨ t = 3 ∨ t = 4) ∧ ∀ x ∈ xs, ∃ y r, x = .tup (y :: r) ∧ rkD y = t) ∧ ∀ x ∈ xs, ∀ y ∈ xs, cmpb x y = true
def sortOk (xs : List D) : Prop := xs.length < 2 ∨ (∃ ss, strsOf xs = some ss ∧ ss.length < 64) ∨ (∃ ns, intsOf xs = some ns) ∨ tupsOk xs
def sortP (d : D) (h : AH) (f : List D → Prop) : Prop := match d with
  | .ref p => (match h p with
    | some (.lst xs) => sortOk xs ∧ f xs
    | some (.dct 0 kvs) => (∃ ss, strsOf (kvs.map (·.1)) = some ss ∧ ss.length < 64) ∧ f (kvs.map (·.1))
    | some (.rdct 0 kvs) => (∃ ss, strsOf (kvs.map (·.1)) = some ss ∧ ss.length < 64) ∧ f (kvs.map (·.1))
    | _ => False)
  | _ => False
def opBlt (b : Blt) (ds : List D) (h : AH) (Q : VQ) : Prop := match b with
  | .len => arg1 ds fun d => lenOk d h fun n => Q (.int n) h
  | .min2 => arg2 ds fun x y => anInt x fun a => anInt y fun b => Q (.int (if b < a then b else a)) h
  | .max2 => arg2 ds fun x y => anInt x fun a => anInt y fun b => Q (.int (if b > a then b else a)) h
  | .int1 => arg1 ds fun d => toInt d fun i => Q (.int i) h
  | .abs => arg1 ds fun d => anInt d fun a => Q (.int (if a < 0 then -a else a)) h
  | .sum => arg1 ds fun d => aLst d h fun _ xs => aSome (intsOf xs) fun ns => Q (.int ns.sum) h
  | .all => arg1 ds fun d => aLst d h fun _ xs => aSome (bls xs) fun bs => Q (.bl (bs.all id)) h
  | .any => arg1 ds fun d => aLst d h fun _ xs => aSome (bls xs) fun bs => Q (.bl (bs.any id)) h
  | .sortd => arg1 ds fun d => sortP d h fun xs => ∀ ys : List D, ys.Perm xs → ys.Pairwise (fun a b => ltD b a = false) → ∀ r, h r = none → Q (.ref r) (up h r (.lst ys))
  | .list => arg1 ds fun d => aSome (seqOf d h) fun xs => ∀ r, h r = none → Q (.ref r) (up h r (.lst xs))
  | .tuple => arg1 ds fun d => aSome (seqOf d h) fun xs => Q (.tup xs) h
  | .dict1 => arg1 ds fun d => aDctR d h fun _ k kvs => ∀ r, h r = none → Q (.ref r) (up h r (.dct k kvs))
  | .klist => arg1 ds fun d => aDctR d h fun _ _ kvs => ∀ r, h r = none → Q (.ref r) (up h r (.lst (kvs.map (·.1))))
  | .max1 => arg1 ds fun d => aLst d h fun _ xs => aSome (intsOf xs) fun ns => ns ≠ [] ∧ ∀ m, m ∈ ns → (∀ y, y ∈ ns → y ≤ m) → Q (.int m) h
  | .sorted => arg1 ds fun d => aDctR d h fun _ _ kvs => aSome (strsOf (kvs.map (·.1))) fun ss => ss.length < 64 ∧ ∀ ys : List Sx, ys.Perm ss → ∀ r, h r = none → Q (.ref r) (up h r (.lst (ys.map .str)))
  | _ => False

def opIsi : D → Ty → AH → Option Bool
  | .non, _, _ => some false
  | .bl _, .bool, _ => some true
  | .bl _, .int, _ => some true
  | .bl _, _, _ => some false
  | .int _, .int, _ => some true
  | .int _, _, _ => some false
  | .str _, .str, _ => some true
  | .str _, _, _ => some false
  | .tup _, .tuple, _ => some true
  | .tup _, _, _ => some false
  | .ref p, t, h => match h p with
    | some (.lst _) => some (match t with
      | .list => true
      | _ => false)
    | some (.dct 0 _) => some (match t with
      | .dict => true
      | _ => false)
    | _ => none
  | .rol _, _, _ => none

def mergeL : List (D × D) → List (D × D) → List (D × D)
  | acc, [] => acc
  | acc, kv :: r => mergeL (kvPut acc kv.1 kv.2) r
def aStr (d : D) (f : Sx → Prop) : Prop := match d with
  | .str s => f s
  | _ => False
def joinS (s : Sx) : List Sx → Sx
  | [] => []
  | [p] => p
  | p :: q :: r => p ++ (s ++ joinS s (q :: r))
def opMth (m : Mth) (x : D) (ds : List D) (h : AH) (Q : VQ) : Prop := match m with
  | .append => arg1 ds fun d => aLst x h fun p xs => xs.length < LINE ∧ Q .non (up h p (.lst (xs ++ [d])))
  | .pop => ds = [] ∧ aLst x h fun p xs => aSome xs[xs.length - 1]? fun y => Q y (up h p (.lst xs.dropLast))
  | .popAt => arg1 ds fun d => anInt d fun i => aLst x h fun p xs => (0 ≤ i ∧ i < 2 ^ 62) ∧ aSome xs[i.toNat]? fun y => Q y (up h p (.lst (xs.eraseIdx i.toNat)))
  | .extend => arg1 ds fun d => aLst x h fun p xs => aLst d h fun q ys => xs.length + ys.length ≤ LINE ∧ Q .non (up h p (.lst (xs ++ ys)))
  | .extendT => arg1 ds fun d => aLst x h fun p xs => aTup d fun ys => xs.length + ys.length ≤ LINE ∧ Q .non (up h p (.lst (xs ++ ys)))
  | .reverse => ds = [] ∧ aLst x h fun p xs => Q .non (up h p (.lst xs.reverse))
  | .clear => ds = [] ∧ aLst x h fun p xs => Q .non (up h p (.lst []))
  | .get1 => arg1 ds fun k => aDct x h fun p kd kvs => keyOk kd k = true ∧ Q ((kvGet kvs k).getD .non) h
  | .get2 => arg2 ds fun k d => aDct x h fun p kd kvs => keyOk kd k = true ∧ Q ((kvGet kvs k).getD d) h
  | .update => arg1 ds fun d => aDct x h fun p kd kvs => aDct d h fun r kd' more => p ≠ r ∧ kd = 0 ∧ kd' = 0 ∧ kvs.length + more.length ≤ LINE ∧ Q .non (up h p (.dct 0 (mergeL kvs more)))
  | .insert => arg2 ds fun y d => anInt y fun i => aLst x h fun p xs => (0 ≤ i ∧ i < 2 ^ 62) ∧ xs.length < LINE ∧ Q .non (up h p (.lst (xs.take i.toNat ++ [d] ++ xs.drop i.toNat)))
  | .dclear => ds = [] ∧ aDct x h fun p kd kvs => kd = 0 ∧ Q .non (up h p (.dct 0 []))
  | .index => arg1 ds fun d => anInt d fun i => aLst x h fun _ xs => aSome (intsOf xs) fun ns => i ∈ ns ∧ Q (.int (ns.idxOf i : Nat)) h
  | .join => arg1 ds fun d => aStr x fun s => aSome (seqOf d h) fun xs => aSome (strsOf xs) fun ss => (ss.map (·.length)).sum + ss.length * s.length ≤ LINE ∧ Q (.str (joinS s ss)) h
  | _ => False

/-- of what a method is asked -/
def recvOk (m : Mth) (d : D) (h : AH) : Prop := match m with
  | .get1 => aDct d h fun _ _ _ => True
  | .get2 => aDct d h fun _ _ _ => True
  | .update => aDct d h fun _ _ _ => True
  | .dclear => aDct d h fun _ _ _ => True
  | .join => aStr d fun _ => True
  | _ => aLst d h fun _ _ => True
/-- o[i] = v -/
def opSet (x y v : D) (h : AH) (Q : AH → Prop) : Prop := match x with
  | .ref p => (match h p with
    | some (.lst xs) => anInt y fun i => (0 ≤ i ∧ i < xs.length) ∧ Q (up h p (.lst (xs.set i.toNat v)))
    | some (.dct kd kvs) => keyOk kd y = true ∧ kvs.length < LINE ∧ Q (up h p (.dct kd (kvPut kvs y v)))
    | some (.dcn kvs) => nkOk y = true ∧ kvs.length < LINE ∧ Q (up h p (.dcn (kvPut kvs y v)))
    | _ => False)
  | _ => False

def keysOk (k : Nat) : List (D × D) → Bool
  | [] => true
  | kv :: r => keyOk k kv.1 && keysOk k r
def pairUp : List D → Option (List (D × D))
  | [] => some []
  | a :: b :: r => (pairUp r).map ((a, b) :: ·)
  | _ => none

/-- x op= y of numbers, of texts -/
def opAug (o : Bop) (x y : D) (Q : D → Prop) : Prop := match o with
  | .add => (match x with
    | .int a => (match y with
      | .int b => Q (.int (a + b))
      | _ => False)
    | .str a => (match y with
      | .str b => a.length + b.length ≤ LINE ∧ Q (.str (a ++ b))
      | _ => False)
    | _ => False)
  | .sub => (match x with
    | .int a => (match y with
      | .int b => Q (.int (a - b))
      | _ => False)
    | _ => False)
  | _ => False

/-! ### what is walked -/
def rangeL (lo hi : Int) : List D := (List.range (hi - lo).toNat).map fun (k : Nat) => D.int (lo + (k : Int))
def enumL (i : Nat) : List D → List D
  | [] => []
  | x :: xs => .tup [.int i, x] :: enumL (i + 1) xs
def aRng (ds : List D) (f : Int → Int → Prop) : Prop := match ds with
  | [.int n] => (-(2 ^ 62) ≤ n ∧ n ≤ LINE) ∧ f 0 n
  | [.int a, .int b] => ((-(2 ^ 62) ≤ a ∧ a ≤ LINE) ∧ -(2 ^ 62) ≤ b ∧ b ≤ LINE ∧ (b - a).toNat ≤ LINE) ∧ f a b
  | _ => False
/-- Q of the items, and of what must stay true of the heap while they are walked -/
def walk : Itk → List D → AH → (List D → (AH → Prop) → Prop) → Prop
  | .seq, [.tup xs], _, Q => Q xs fun _ => True
  | .seq, [.rol xs], _, Q => Q xs fun _ => True
  | .seq, [.str s], _, Q => Q (s.map fun c => .str [c]) fun _ => True
  | .seq, [.ref p], h, Q => match h p with
    | some (.lst xs) => Q xs fun h' => h' p = some (.lst xs)
    | _ => False
  | .rng, [.int n], _, Q => -(2 ^ 62) ≤ n ∧ n < 2 ^ 62 ∧ Q (rangeL 0 n) fun _ => True
  | .rng, [.int a, .int b], _, Q => (-(2 ^ 62) ≤ a ∧ a < 2 ^ 62 ∧ -(2 ^ 62) ≤ b ∧ b < 2 ^ 62) ∧ Q (rangeL a b) fun _ => True
  | .rng, [.int a, .int b, .int c], _, Q => (c = -1 ∧ -(2 ^ 62) ≤ a ∧ a < 2 ^ 62 ∧ -(2 ^ 62) ≤ b ∧ b < 2 ^ 62) ∧ Q (rangeL (b + 1) (a + 1)).reverse fun _ => True
  | .rrng, [.int n], _, Q => -(2 ^ 62) ≤ n ∧ n < 2 ^ 62 ∧ Q (rangeL 0 n).reverse fun _ => True
  | .enum, [.ref p], h, Q => match h p with
    | some (.lst xs) => Q (enumL 0 xs) fun h' => h' p = some (.lst xs)
    | _ => False
  | .rev, [.ref p], h, Q => match h p with
    | some (.lst xs) => Q xs.reverse fun h' => h' p = some (.lst xs)
    | _ => False
  | .rev, [.tup xs], _, Q => Q xs.reverse fun _ => True
  | .zip, [.tup xs, .tup ys], _, Q => Q (zipL xs ys) fun _ => True
  | .zip, [.ref p, .ref q], h, Q => (match h p, h q with
    | some (.lst xs), some (.lst ys) => Q (zipL xs ys) fun h' => h' p = some (.lst xs) ∧ h' q = some (.lst ys)
    | _, _ => False)
  | .keys, [.ref p], h, Q => match h p with
    | some (.rdct _ kvs) => Q (kvs.map (·.1)) fun _ => True
    | _ => False
  | .values, [.ref p], h, Q => match h p with
    | some (.rdct _ kvs) => Q (kvs.map (·.2)) fun _ => True
    | _ => False
  | .items, [.ref p], h, Q => match h p with
    | some (.rdct _ kvs) => Q (kvs.map fun kv => .tup [kv.1, kv.2]) fun _ => True
    | _ => False
  | _, _, _, _ => False

def setT : Tgt → D → St → Option St
  | .nm i, d, σ => some (σ.set i (some d))
  | .tp ts, .tup ds, σ => setTs ts ds σ
  | _, _, _ => none
where
  setTs : List Nat → List D → St → Option St
    | [], [], σ => some σ
    | i :: is, d :: ds, σ => setTs is ds (σ.set i (some d))
    | _, _, _ => none

def forget (σ : St) : List Nat → St
  | [] => σ
  | v :: vs => (forget σ vs).set v none

/-- a loop over xs by an invariant over (turn, names, heap) -/
def loopW (xs : List D) (ok : AH → Prop) (body : D → St → AH → (St → AH → Prop) → Prop) (done : St → AH → Prop) (σ : St) (h : AH) : Prop :=
  ∃ P : Nat → St → AH → Prop, P 0 σ h ∧ (∀ i σ h, P i σ h → ok h) ∧ (∀ i x σ h, xs[i]? = some x → P i σ h → body x σ h (P (i + 1))) ∧ ∀ σ h, P xs.length σ h → done σ h
/-- a comprehension by an invariant over (turn, list so far, heap) -/
def compW (xs : List D) (ok : AH → Prop) (body : D → AH → (D → AH → Prop) → (AH → Prop) → Prop) (done : List D → AH → Prop) (h : AH) : Prop :=
  ∃ P : Nat → List D → AH → Prop, P 0 [] h ∧ (∀ i acc h, P i acc h → ok h ∧ acc.length ≤ i) ∧ xs.length ≤ LINE ∧
    (∀ i x acc h, xs[i]? = some x → P i acc h → body x h (fun y h' => P (i + 1) (acc ++ [y]) h') (fun h' => P (i + 1) acc h')) ∧ ∀ acc h, P xs.length acc h → done acc h

/-- the entries of a dict that stands free -/
def aVals (d : D) (h : AH) (f : List (D × D) → Prop) : Prop := match d with
  | .ref p => (match h p with
    | some (.dct 0 kvs) => f kvs
    | _ => False)
  | _ => False
/-- an instance of a class of the program -/
def aIns (d : D) (h : AH) (f : Nat → Sx → List (Sx × D) → Prop) : Prop := match d with
  | .ref p => (match h p with
    | some (.ins c fs) => f p c fs
    | _ => False)
  | _ => False
def putA (f : Sx) (v : D) : List (Sx × D) → List (Sx × D)
  | [] => [(f, v)]
  | (g, x) :: r => if g = f then (g, v) :: r else (g, x) :: putA f v r
/-- what makes an instance of c; its def m -/
def mkN (c : Sx) : Sx := 1114112 :: c
def metN (c m : Sx) : Sx := c ++ 46 :: m
def sInit : Sx := [95, 95, 105, 110, 105, 116, 95, 95]
/-- the dict that a name holds -/
def lockAt (σ : St) (i : Nat) (h : AH) (f : Nat → Nat → List (D × D) → Prop) : Prop := match σ[i]? with
  | some (some (.ref p)) => (match h p with
    | some (.dct kd kvs) => f p kd kvs
    | _ => False)
  | _ => False
/-- min of a list of numbers, None of none -/
def minD (ds : List D) (h : AH) (Q : VQ) : Prop := arg1 ds fun d => aLst d h fun _ xs => aSome (intsOf xs) fun ns => (ns = [] → Q .non h) ∧ ∀ m, m ∈ ns → (∀ y, y ∈ ns → m ≤ y) → Q (.int m) h
/-! ### the readings -/
mutual
def wE (C : Cx) : E → St → AH → VQ → Prop
  | .var i, σ, h, Q => match σ[i]? with
    | some (some d) => Q d h
    | _ => False
  | .int n, _, h, Q => Q (.int n) h
  | .str s, _, h, Q => Q (.str s) h
  | .bl b, _, h, Q => Q (.bl b) h
  | .non, _, h, Q => Q .non h
  | .gint _ n, _, h, Q => Q (.int n) h
  | .gstr _ s, _, h, Q => Q (.str s) h
  | .tup es, σ, h, Q => wEs C es σ h fun ds h1 => ds.length ≤ LINE ∧ Q (.tup ds) h1
  | .lst es, σ, h, Q => wEs C es σ h fun ds h1 => ds.length ≤ LINE ∧ ∀ r, h1 r = none → Q (.ref r) (up h1 r (.lst ds))
  | .dct k es, σ, h, Q => match es with
    | .nil => ∀ r, h r = none → Q (.ref r) (up h r (.dct k []))
    | .cons e es => ∀ r, h r = none → wE C e σ (up h r (.dct k [])) fun d h1 => wEs C es σ h1 fun ds h2 => h2 r = some (.dct k []) ∧ aSome (pairUp (d :: ds)) fun kvs => keysOk k kvs = true ∧ Q (.ref r) (up h2 r (.dct k (mergeL [] kvs)))
  | .dcn, _, h, Q => ∀ r, h r = none → Q (.ref r) (up h r (.dcn []))
  | .bin o a b, σ, h, Q => wE C a σ h fun x h1 => wE C b σ h1 fun y h2 => opBin o x y h2 Q
  | .neg a, σ, h, Q => wE C a σ h fun x h1 => match x with
    | .int i => Q (.int (-i)) h1
    | _ => False
  | .cmp o a b, σ, h, Q => wE C a σ h fun x h1 => wE C b σ h1 fun y h2 => opCmp o x y h2 fun c => Q (.bl c) h2
  | .chn o o' a b c, σ, h, Q => wE C a σ h fun x h1 => wE C b σ h1 fun y h2 => opCmp o x y h2 fun k => match k with
    | true => wE C c σ h2 fun z h3 => opCmp o' y z h3 fun k' => Q (.bl k') h3
    | false => Q (.bl false) h2
  | .bop isAnd es, σ, h, Q => wB C isAnd es σ h Q
  | .not a, σ, h, Q => wE C a σ h fun x h1 => match x with
    | .bl b => Q (.bl (!b)) h1
    | _ => False
  | .ite c a b, σ, h, Q => wE C c σ h fun x h1 => match x with
    | .bl true => wE C a σ h1 Q
    | .bl false => wE C b σ h1 Q
    | _ => False
  | .ix a i, σ, h, Q => wE C a σ h fun x h1 => wE C i σ h1 fun y h2 => opIx x y h2 Q
  | .sl a lo hi, σ, h, Q => wE C a σ h fun x h1 => wO C lo σ h1 fun l h2 => wO C hi σ h2 fun u h3 => opSl x l u h3 Q
  | .call f es, σ, h, Q => wEs C es σ h fun ds h1 => C.call f ds h1 Q C.ex
  | .callD f k es, σ, h, Q => wEs C es σ h fun ds h1 => C.call f (ds ++ List.replicate k .non) h1 Q C.ex
  | .smv e, σ, h, Q => wE C e σ h fun x h1 => aVals x h1 fun kvs => aSome (intsOf (kvs.map (·.2))) fun ns => Q (.int ns.sum) h1
  | .fld e f, σ, h, Q => wE C e σ h fun x h1 => aIns x h1 fun _ _ fs => aSome (fs.lookup f) fun v => Q v h1
  | .newo c es, σ, h, Q => wEs C es σ h fun ds h1 => C.call (mkN c) ds h1 Q C.ex
  | .mcall c m o es, σ, h, Q => wE C o σ h fun x h1 => aIns x h1 fun p c' fs => c' = c ∧ fs.lookup m = none ∧ wEs C es σ h1 fun ds h2 => C.call (metN c m) (.ref p :: ds) h2 Q C.ex
  | .blt b es, σ, h, Q => wEs C es σ h fun ds h1 => opBlt b ds h1 Q
  | .isi a t, σ, h, Q => wE C a σ h fun x h1 => match opIsi x t h1 with
    | some b => Q (.bl b) h1
    | none => False
  | .mth m o es, σ, h, Q => wE C o σ h fun x h1 => recvOk m x h1 ∧ wEs C es σ h1 fun ds h2 => opMth m x ds h2 Q
  | .lc elt t own k src ifs, σ, h, Q => wEs C src σ h fun ds h1 => walk k ds h1 fun xs ok =>
      compW xs ok (fun x h2 yes no => match setT t x (forget σ own) with
        | some σ' => wB C true ifs σ' h2 fun c h3 => match c with
          | .bl true => wE C elt σ' h3 yes
          | .bl false => no h3
          | _ => False
        | none => False) (fun acc h2 => ∀ r, h2 r = none → Q (.ref r) (up h2 r (.lst acc))) h1
  | .bad, _, _, _ => False
  | .lock i e, σ, h, Q => lockAt σ i h fun p kd kvs => wE C e σ (up h p (.rdct kd kvs)) fun d h' => Q d (up h' p (.dct kd kvs))
  | .lzip es, σ, h, Q => wEs C es σ h fun ds h2 => arg2 ds fun x y => aTup x fun xs => aTup y fun ys => ∀ r, h2 r = none → Q (.ref r) (up h2 r (.lst (zipL xs ys)))
  | .lrng es, σ, h, Q => wEs C es σ h fun ds h1 => aRng ds fun lo hi => ∀ r, h1 r = none → Q (.ref r) (up h1 r (.lst (rangeL lo hi)))
  | .rev a, σ, h, Q => wE C a σ h fun x h1 => aLst x h1 fun _ xs => ∀ r, h1 r = none → Q (.ref r) (up h1 r (.lst xs.reverse))
  | .mnd es, σ, h, Q => wEs C es σ h fun ds h1 => minD ds h1 Q
  | .orv a b, σ, h, Q => wE C a σ h fun x h1 => match x with
    | .non => wE C b σ h1 Q
    | .int i => (i ≠ 0 → Q (.int i) h1) ∧ (i = 0 → wE C b σ h1 Q)
    | _ => False
  | .slw a lo hi, σ, h, Q => wE C a σ h fun x h1 => wO C lo σ h1 fun l h2 => wO C hi σ h2 fun u h3 => opSlW x l u h3 Q
  | .tlr a, σ, h, Q => wE C a σ h fun x h1 => aTup x fun xs => Q (.tup xs.tail.reverse) h1
  | .tix _ tab a, σ, h, Q => wE C a σ h fun x h1 => match x with
    | .str s => (match tab.lookup s with
      | some t => Q (.str t) h1
      | none => False)
    | _ => False
def wEs (C : Cx) : Es → St → AH → (List D → AH → Prop) → Prop
  | .nil, _, h, Q => Q [] h
  | .cons e es, σ, h, Q => wE C e σ h fun d h1 => wEs C es σ h1 fun ds h2 => Q (d :: ds) h2
/-- and, or: the empty one is True, False -/
def wB (C : Cx) : Bool → Es → St → AH → VQ → Prop
  | isAnd, .nil, _, h, Q => Q (.bl isAnd) h
  | isAnd, .cons e es, σ, h, Q => wE C e σ h fun d h1 => match d with
    | .bl b => (match b == isAnd with
      | true => wB C isAnd es σ h1 Q
      | false => Q (.bl b) h1)
    | _ => False
def wO (C : Cx) : Es → St → AH → (Option Int → AH → Prop) → Prop
  | .nil, _, h, Q => Q none h
  | .cons e .nil, σ, h, Q => wE C e σ h fun d h1 => match d with
    | .int n => Q (some n) h1
    | _ => False
  | .cons _ (.cons _ _), _, _, _ => False
end
/-- a test -/
def wT (C : Cx) (e : E) (σ : St) (h : AH) (Q : Bool → AH → Prop) : Prop := wE C e σ h fun d h1 => match d with
  | .bl b => Q b h1
  | _ => False

mutual
def wS (C : Cx) : S → Ends → St → AH → Prop
  | .asg t e, R, σ, h => wE C e σ h fun d h1 => match setT t d σ with
    | some σ' => R.nx σ' h1
    | none => False
  | .sfld c o f e, R, σ, h => wE C e σ h fun v h1 => wE C o σ h1 fun x h2 => aIns x h2 fun p c' fs => c' = c ∧ fs.length < 1000 ∧ R.nx σ (up h2 p (.ins c (putA f v fs)))
  | .six o i e, R, σ, h => wE C e σ h fun v h1 => wE C o σ h1 fun x h2 => wE C i σ h2 fun y h3 => opSet x y v h3 fun h4 => R.nx σ h4
  | .aug i o e, R, σ, h => match σ[i]? with
    | some (some x) => wE C e σ h fun y h1 => opAug o x y fun z => R.nx (σ.set i (some z)) h1
    | _ => False
  | .ex e, R, σ, h => wE C e σ h fun _ h1 => R.nx σ h1
  | .ret e, R, σ, h => wE C e σ h R.rt
  | .retN, R, σ, h => R.rt .non h
  | .ife c a b, R, σ, h => wT C c σ h fun k h1 => match k with
    | true => wSs C a R σ h1
    | false => wSs C b R σ h1
  | .whl c b, R, σ, h => ∃ W : Nat → St → AH → Prop, (∃ m, W m σ h) ∧ ∀ m σ h, W m σ h → wT C c σ h fun k h1 => match k with
    | true => wSs C b { nx := fun σ' h' => ∃ m', m' < m ∧ W m' σ' h', ct := fun σ' h' => ∃ m', m' < m ∧ W m' σ' h', bk := R.nx, rt := R.rt } σ h1
    | false => R.nx σ h1
  | .for_ t k src b, R, σ, h => wEs C src σ h fun ds h1 => walk k ds h1 fun xs ok =>
      loopW xs ok (fun x σ h P => match setT t x σ with
        | some σ' => wSs C b { nx := P, ct := P, bk := R.nx, rt := R.rt } σ' h
        | none => False) R.nx σ h1
  | .pass, R, σ, h => R.nx σ h
  | .brk, R, σ, h => R.bk σ h
  | .cont, R, σ, h => R.ct σ h
  | .bad, _, _, _ => False
  | .lock i s, R, σ, h => lockAt σ i h fun p kd kvs => wS C s { nx := fun σ' h' => R.nx σ' (up h' p (.dct kd kvs)), rt := fun d h' => R.rt d (up h' p (.dct kd kvs)), bk := fun σ' h' => R.bk σ' (up h' p (.dct kd kvs)), ct := fun σ' h' => R.ct σ' (up h' p (.dct kd kvs)) } σ (up h p (.rdct kd kvs))
  | .lock2 i s, R, σ, h => (lockAt σ i h fun p kd kvs => wS C s { nx := fun σ' h' => R.nx σ' (up h' p (.dct kd kvs)), rt := fun d h' => R.rt d (up h' p (.dct kd kvs)), bk := fun σ' h' => R.bk σ' (up h' p (.dct kd kvs)), ct := fun σ' h' => R.ct σ' (up h' p (.dct kd kvs)) } σ (up h p (.rdct kd kvs))) ∨ wS C s R σ h
def wSs (C : Cx) : Ss → Ends → St → AH → Prop
  | .nil, R, σ, h => R.nx σ h
  | .cons s ss, R, σ, h => wS C s { R with nx := fun σ' h' => wSs C ss R σ' h' } σ h
end

/-- a def: its parameters' number, all its names' number, its body -/
structure FD where
  ps : Nat
  n : Nat
  body : Ss
abbrev Prog := Sx → Option FD
def pOf (l : List (Sx × FD)) : Prog := fun f => (l.find? fun p => p.1 == f).map (·.2)
def start (fd : FD) (ds : List D) : St := ds.map some ++ List.replicate (fd.n - fd.ps) none
def run (P : Prog) : Nat → Sx → List D → AH → VQ → XP → Prop
  | 0, _, _, _, _, _ => False
  | n + 1, f, ds, h, Q, X => match P f with
    | some fd => ds.length = fd.ps ∧ wSs ⟨run P n, X⟩ fd.body { nx := fun _ h' => Q .non h', rt := Q, bk := fun _ _ => False, ct := fun _ _ => False } (start fd ds) h
    | none => match f with
      | 1114112 :: c => ∀ r, h r = none → run P n (metN c sInit) (.ref r :: ds) (up h r (.ins c [])) (fun d h2 => d = .non ∧ Q (.ref r) h2) X
      | _ => False
end
end M
end
section
/-! Sound1: how the model's values and heap bear the IR's. -/
namespace Snd
open PySem L2
abbrev SD := M.D
/-- what stands in the frame, the program, the world -/
structure Fr where
  K : PySem.W.Frag
  P : Program
  w : World
  mg : Str → Option Value
instance : Coe Fr PySem.W.Frag := ⟨Fr.K⟩
abbrev _root_.L2.Cx.F (X : L2.Cx) : Fr := ⟨X.K, X.prog, X.w, X.mg⟩

def sV (s : M.Sx) : Str := ⟨s.toArray⟩
def sOk (s : M.Sx) : Prop := ∀ c ∈ s, c < 0x110000
def KTup (K : Fr) (a : Addr) (vs : List V) : Prop := ∃ (o : Obj) (its : Array Value) (n : Nat), K.K.lookup a = some o ∧ o.cls = .type "tuple" ∧ o.data = .seq its n ∧ its.size ≤ sizeLine ∧ Vals vs its.toList
def KLst (K : Fr) (a : Addr) (vs : List V) : Prop := ∃ (o : Obj) (its : Array Value) (n : Nat), K.K.lookup a = some o ∧ o.cls = .type "list" ∧ o.dict = none ∧ o.data = .seq its n ∧ its.size ≤ sizeLine ∧ Vals vs its.toList

mutual
def Rep (K : Fr) (H : Hp) : SD → V → Prop
  | .non, v => v = .non
  | .bl b, v => v = .bl b
  | .int i, v => v = .int i
  | .str s, v => v = .str (sV s) ∧ sOk s
  | .tup ds, v => ∃ a vs, v = .ref a ∧ (H a = some (.tup vs) ∨ KTup K a vs) ∧ Reps K H ds vs
  | .rol ds, v => ∃ a vs, v = .ref a ∧ ((∃ o, H a = some (.frz o (.lst vs))) ∨ KLst K a vs) ∧ Reps K H ds vs
  | .ref a, v => v = .ref a
def Reps (K : Fr) (H : Hp) : List SD → List V → Prop
  | [], vs => vs = []
  | d :: ds, vs => ∃ v r, vs = v :: r ∧ Rep K H d v ∧ Reps K H ds r
end

/-- dict keys -/
def keyV : SD → Option Key
  | .int i => some (.inl i)
  | .str s => some (.inr (sV s))
  | _ => none
/-! nested keys -/
mutual
def nK : SD → NestedKey
  | .int i => .num i
  | .str s => .text (sV s)
  | .tup ds => .tup (nKs ds)
  | _ => .none
def nKs : List SD → List NestedKey
  | [] => []
  | d :: ds => nK d :: nKs ds
end
/-- the dict at a with nested keys: its entries (the tuples that are keys by where they lie) -/
def EntO (P : Program) (w : World) (a : Addr) (xs : List (NestedKey × Addr × V)) (h : Heap) : Prop := xs.length ≤ sizeLine ∧ (a == sysModules) = false ∧ ∃ ys : List (NestedKey × Addr × Value), Paired (fun p q => p.1 = q.1 ∧ p.2.1 = q.2.1 ∧ RelV p.2.2 q.2.2) xs ys ∧
  ∃ o es ep, h.get? a = some o ∧ o.ExactDict ∧ o.data = .dict es ep ∧ es.toList = ys.map (entryOfKey (nestedKind P w)) ∧ (ys.map (·.1)).Nodup
def ObRep (K : Fr) (H : Hp) (a : Addr) : M.Ob → Prop
  | .lst xs => ∃ vs, H a = some (.lst vs) ∧ Reps K H xs vs
  | .dct 0 kvs => ∃ ps : List (Key × V), H a = some (.dK ps) ∧ Paired (fun (x : SD × SD) (p : Key × V) => keyV x.1 = some p.1 ∧ (∀ s, x.1 = .str s → sOk s) ∧ Rep K H x.2 p.2) kvs ps
  | .rdct 0 kvs => ∃ (od : Obj) (ps : List (Key × V)), H a = some (.frz od (.dK ps)) ∧ Paired (fun (x : SD × SD) (p : Key × V) => keyV x.1 = some p.1 ∧ (∀ s, x.1 = .str s → sOk s) ∧ Rep K H x.2 p.2) kvs ps
  | .dcn kvs => ∃ xs : List (NestedKey × Addr × V), H a = some (.ext (EntO K.P K.w a xs)) ∧ Paired (fun (x : SD × SD) (p : NestedKey × Addr × V) => p.1 = nK x.1 ∧ M.nkOk x.1 = true ∧ Rep K H x.1 (.ref p.2.1) ∧ Rep K H x.2 p.2.2) kvs xs
  | .ins c fs => ∃ (C dx : Addr) (ps : List (Str × V)), H a = some (.ins C dx ps) ∧ K.mg (sV c) = some (.ref C) ∧ Cls K.K C ∧ Paired (fun (x : M.Sx × SD) (p : Str × V) => p.1 = sV x.1 ∧ NoAttr K.K C p.1 ∧ Rep K H x.2 p.2) fs ps
  | _ => False
def RH (K : Fr) (H : Hp) (h : M.AH) : Prop := ∀ a o, h a = some o → ObRep K H a o
/-- not in h, or locked -/
def Fre (h : M.AH) (a : Addr) : Prop := ∀ o, h a = some o → o.lk = true
/-- what is tracked and not in h, or locked there, stays as it is -/
def Frm (H : Hp) (h : M.AH) (H' : Hp) (h' : M.AH) : Prop := ∀ a o, H a = some o → Fre h a → H' a = some o ∧ h' a = h a
/-- names -/
def RS (K : Fr) (H : Hp) (σ : L2.St) (σa : M.St) : Prop := σ.length = σa.length ∧ ∀ (i : Nat) d, σa[i]? = some (some d) → ∃ v, σ[i]? = some (some v) ∧ Rep K H d v
/-- tuples and locked lists stay -/
def Kp (H H' : Hp) : Prop := (∀ a vs, H a = some (.tup vs) → H' a = some (.tup vs)) ∧ ∀ a o u, H a = some (.frz o (.lst u)) → H' a = some (.frz o (.lst u))
/-- what is locked stays -/
def Fz (H H' : Hp) : Prop := ∀ a o u, H a = some (.frz o u) → H' a = some (.frz o u)

section
variable {K : Fr} {H H1 H2 H' : Hp} {h h1 h2 h' : M.AH}
theorem Fre.none {a : Addr} (n : h a = none) : Fre h a := fun o e => by rw [n] at e; cases e
theorem Fre.eq {a : Addr} (e : h' a = h a) (n : Fre h a) : Fre h' a := fun o z => n o (by rw [← e]; exact z)
theorem Frm.refl : Frm H h H h := fun _ _ e n => ⟨e, rfl⟩
theorem Frm.trans (a : Frm H h H1 h1) (b : Frm H1 h1 H2 h2) : Frm H h H2 h2 := fun x o e n => by
  obtain ⟨e1, n1⟩ := a x o e n
  obtain ⟨e2, n2⟩ := b x o e1 (fun o z => n o (by rw [← n1]; exact z))
  exact ⟨e2, n2.trans n1⟩
theorem ObRep.some {a : Addr} {o : M.Ob} (r : ObRep K H a o) : ∃ u, H a = some u ∧ (∀ vs, u ≠ .tup vs) ∧ (∀ ob w, u ≠ .frz ob (.lst w)) ∧ ∀ ob w, u = .frz ob w → o.lk = true := by
  match o, r with
  | .lst xs, ⟨vs, e, _⟩ => exact ⟨_, e, (by intro _ z; cases z), (by intro _ _ z; cases z), by intro _ _ z; cases z⟩
  | .dct 0 kvs, ⟨vs, e, _⟩ => exact ⟨_, e, (by intro _ z; cases z), (by intro _ _ z; cases z), by intro _ _ z; cases z⟩
  | .rdct 0 kvs, ⟨od, vs, e, _⟩ => exact ⟨_, e, (by intro _ z; cases z), (by intro _ _ z; cases z), fun _ _ _ => rfl⟩
  | .ins c fs, ⟨C, dx, ps, e, _⟩ => exact ⟨_, e, (by intro _ z; cases z), (by intro _ _ z; cases z), by intro _ _ z; cases z⟩
  | .dcn kvs, ⟨xs, e, _⟩ => exact ⟨_, e, (by intro _ z; cases z), (by intro _ _ z; cases z), by intro _ _ z; cases z⟩
theorem RH.none_tup (r : RH K H h) {a : Addr} {vs : List V} (e : H a = some (.tup vs)) : h a = none := by
  cases q : h a with
  | none => rfl
  | some o =>
    obtain ⟨u, e', n, _⟩ := (r a o q).some
    rw [e] at e'
    exact absurd (Option.some.inj e').symm (n vs)
theorem RH.fre_frz (r : RH K H h) {a : Addr} {ob u} (e : H a = some (.frz ob u)) : Fre h a := fun o q => by
  obtain ⟨w, e', _, _, n⟩ := (r a o q).some
  rw [e] at e'
  exact n ob u (Option.some.inj e').symm
theorem RH.none (r : RH K H h) {a : Addr} (e : H a = none) : h a = none := by
  cases q : h a with
  | none => rfl
  | some o =>
    obtain ⟨w, e', _, n⟩ := (r a o q).some
    rw [e] at e'
    cases e'
theorem Frm.kp (f : Frm H h H' h') (r : RH K H h) : Kp H H' := ⟨fun _ _ e => (f _ _ e (.none (r.none_tup e))).1, fun _ _ _ e => (f _ _ e (r.fre_frz e)).1⟩
theorem Frm.fz (f : Frm H h H' h') (r : RH K H h) : Fz H H' := fun _ _ _ e => (f _ _ e (r.fre_frz e)).1
theorem Fz.refl : Fz H H := fun _ _ _ e => e
theorem Fz.trans (a : Fz H H1) (b : Fz H1 H2) : Fz H H2 := fun x o u e => b x o u (a x o u e)
theorem Kp.refl : Kp H H := ⟨fun _ _ e => e, fun _ _ _ e => e⟩
theorem Kp.trans (a : Kp H H1) (b : Kp H1 H2) : Kp H H2 := ⟨fun x v e => b.1 x v (a.1 x v e), fun x o u e => b.2 x o u (a.2 x o u e)⟩
mutual
theorem Rep.kp (k : Kp H H') : ∀ {d : SD} {v : V}, Rep K H d v → Rep K H' d v
  | .non, _, r => r
  | .bl _, _, r => r
  | .int _, _, r => r
  | .str _, _, r => r
  | .ref _, _, r => r
  | .tup _, _, ⟨a, vs, e, t, rs⟩ => ⟨a, vs, e, t.imp (k.1 _ _) id, Reps.kp k rs⟩
  | .rol _, _, ⟨a, vs, e, t, rs⟩ => ⟨a, vs, e, t.imp (fun ⟨o, z⟩ => ⟨o, k.2 _ _ _ z⟩) id, Reps.kp k rs⟩
theorem Reps.kp (k : Kp H H') : ∀ {ds : List SD} {vs : List V}, Reps K H ds vs → Reps K H' ds vs
  | [], _, r => r
  | _ :: _, _, ⟨v, r, e, a, b⟩ => ⟨v, r, e, Rep.kp k a, Reps.kp k b⟩
end
theorem RS.kp {σ : L2.St} {σa : M.St} (k : Kp H H') (r : RS K H σ σa) : RS K H' σ σa := ⟨r.1, fun i d e => let ⟨v, e1, q⟩ := r.2 i d e; ⟨v, e1, q.kp k⟩⟩
theorem ObRep.kp {a : Addr} {o : M.Ob} (k : Kp H H') (e : H' a = H a) (r : ObRep K H a o) : ObRep K H' a o := by
  match o, r with
  | .lst xs, ⟨vs, q, r⟩ => exact ⟨vs, e.trans q, r.kp k⟩
  | .dct 0 kvs, ⟨vs, q, r⟩ => exact ⟨vs, e.trans q, Paired.mapP r fun _ _ z => ⟨z.1, z.2.1, z.2.2.kp k⟩⟩
  | .rdct 0 kvs, ⟨od, vs, q, r⟩ => exact ⟨od, vs, e.trans q, Paired.mapP r fun _ _ z => ⟨z.1, z.2.1, z.2.2.kp k⟩⟩
  | .ins c fs, ⟨C, dx, ps, q, m, cl, r⟩ => exact ⟨C, dx, ps, e.trans q, m, cl, Paired.mapP r fun _ _ z => ⟨z.1, z.2.1, z.2.2.kp k⟩⟩
  | .dcn kvs, ⟨xs, q, r⟩ => exact ⟨xs, e.trans q, Paired.mapP r fun _ _ z => ⟨z.1, z.2.1, z.2.2.1.kp k, z.2.2.2.kp k⟩⟩
theorem Reps.length : ∀ {ds : List SD} {vs : List V}, Reps K H ds vs → vs.length = ds.length
  | [], _, r => by cases (show _ = [] from r); rfl
  | _ :: _, _, ⟨v, r, e, _, b⟩ => by subst e; simp [Reps.length b]
theorem Reps.get : ∀ {ds : List SD} {vs : List V} {i : Nat} {d : SD}, Reps K H ds vs → ds[i]? = some d → ∃ v, vs[i]? = some v ∧ Rep K H d v
  | [], _, _, _, _, e => by simp at e
  | _ :: _, _, 0, d, ⟨v, r, e, a, _⟩, q => by subst e; simp at q; subst q; exact ⟨v, rfl, a⟩
  | _ :: _, _, i + 1, d, ⟨v, r, e, _, b⟩, q => by subst e; obtain ⟨w, z, y⟩ := Reps.get (i := i) b (by simpa using q); exact ⟨w, by simpa using z, y⟩
theorem Reps.append : ∀ {ds es : List SD} {vs ws : List V}, Reps K H ds vs → Reps K H es ws → Reps K H (ds ++ es) (vs ++ ws)
  | [], _, _, _, r, s => by cases (show _ = [] from r); exact s
  | _ :: _, _, _, _, ⟨v, r, e, a, b⟩, s => by subst e; exact ⟨v, _, rfl, a, Reps.append b s⟩
theorem Reps.one {d : SD} {v : V} (r : Rep K H d v) : Reps K H [d] [v] := ⟨v, [], rfl, r, rfl⟩
theorem Reps.take : ∀ (n : Nat) {ds : List SD} {vs : List V}, Reps K H ds vs → Reps K H (ds.take n) (vs.take n)
  | 0, _, _, _ => by simp [Reps]
  | n + 1, [], _, r => by cases (show _ = [] from r); simp [Reps]
  | n + 1, _ :: _, _, ⟨v, r, e, a, b⟩ => by subst e; exact ⟨v, _, rfl, a, Reps.take n b⟩
theorem Reps.drop : ∀ (n : Nat) {ds : List SD} {vs : List V}, Reps K H ds vs → Reps K H (ds.drop n) (vs.drop n)
  | 0, _, _, r => r
  | n + 1, [], _, r => by cases (show _ = [] from r); simp [Reps]
  | n + 1, _ :: _, _, ⟨v, r, e, a, b⟩ => by subst e; exact Reps.drop n b
theorem Reps.set {d : SD} {v : V} (q : Rep K H d v) : ∀ (n : Nat) {ds : List SD} {vs : List V}, Reps K H ds vs → Reps K H (ds.set n d) (vs.set n v)
  | _, [], _, r => by cases (show _ = [] from r); simp [Reps]
  | 0, _ :: _, _, ⟨w, r, e, a, b⟩ => by subst e; exact ⟨v, r, rfl, q, b⟩
  | n + 1, _ :: _, _, ⟨w, r, e, a, b⟩ => by subst e; exact ⟨w, _, rfl, a, Reps.set q n b⟩
theorem Reps.rev : ∀ {ds : List SD} {vs : List V}, Reps K H ds vs → Reps K H ds.reverse vs.reverse
  | [], _, r => by cases (show _ = [] from r); simp [Reps]
  | _ :: _, _, ⟨w, r, e, a, b⟩ => by subst e; rw [List.reverse_cons, List.reverse_cons]; exact (Reps.rev b).append (.one a)
theorem Reps.nil {vs : List V} (r : Reps K H [] vs) : vs = [] := r
theorem Reps.cons {d : SD} {ds : List SD} {v : V} {vs : List V} (a : Rep K H d v) (b : Reps K H ds vs) : Reps K H (d :: ds) (v :: vs) := ⟨v, vs, rfl, a, b⟩
theorem Reps.rep {ds : List SD} {vs : List V} (r : Reps K H ds vs) : ∀ k : Nat, Reps K H (List.replicate k ds).flatten (List.replicate k vs).flatten
  | 0 => by simp [Reps]
  | k + 1 => by rw [List.replicate_succ, List.flatten_cons, List.replicate_succ, List.flatten_cons]; exact r.append (Reps.rep r k)
theorem Reps.dropLast {ds : List SD} {vs : List V} (r : Reps K H ds vs) : Reps K H ds.dropLast vs.dropLast := by
  rw [List.dropLast_eq_take, List.dropLast_eq_take, r.length]
  exact r.take _

/-! ### a new object, a written one -/
theorem up_same {a : Nat} {o : M.Ob} : M.up h a o a = some o := by unfold M.up; rw [if_pos rfl]
theorem up_ne {a b : Nat} {o : M.Ob} (e : b ≠ a) : M.up h a o b = h b := by unfold M.up; rw [if_neg e]
theorem kp_new {p : Addr} {o : HO} (n : H p = none) : Kp H (upd H p o) := ⟨fun a vs e => by rw [upd_ne (ne_of_none e n)]; exact e, fun a ob u e => by rw [upd_ne (ne_of_none e n)]; exact e⟩
/-- an object that only the model knows (a tuple) -/
theorem frm_hid {p : Addr} {o : HO} (n : H p = none) : Frm H h (upd H p o) h := fun a u e q => ⟨by rw [upd_ne (ne_of_none e n)]; exact e, rfl⟩
theorem rh_hid {p : Addr} {o : HO} (r : RH K H h) (n : H p = none) : RH K (upd H p o) h := fun a u e => (r a u e).kp (kp_new n) (by
  obtain ⟨w, z, _⟩ := (r a u e).some
  exact upd_ne (ne_of_none z n))
theorem frm_new {p : Addr} {o : HO} {ob : M.Ob} (n : H p = none) : Frm H h (upd H p o) (M.up h p ob) := fun a u e q => by
  have ne := ne_of_none e n
  exact ⟨by rw [upd_ne ne]; exact e, up_ne ne⟩
theorem rh_new {p : Addr} {o : HO} {ob : M.Ob} (r : RH K H h) (n : H p = none) (q : ObRep K (upd H p o) p ob) : RH K (upd H p o) (M.up h p ob) := fun a u e => by
  by_cases z : a = p
  · subst z; rw [up_same] at e; cases e; exact q
  · rw [up_ne z] at e; exact rh_hid r n a u e
/-- a written object -/
theorem kp_put {p : Addr} {o : HO} {ob : M.Ob} (r : RH K H h) (e : h p = some ob) : Kp H (upd H p o) := by
  obtain ⟨u, z, n1, n2, _⟩ := (r p ob e).some
  refine ⟨fun a vs q => ?_, fun a ob u q => ?_⟩
  · rw [upd_ne (fun y => by subst y; rw [z] at q; exact n1 _ (Option.some.inj q))]; exact q
  · rw [upd_ne (fun y => by subst y; rw [z] at q; exact n2 _ _ (Option.some.inj q))]; exact q
theorem frm_put {p : Addr} {o : HO} {ob ob' : M.Ob} (e : h p = some ob) (nl : ob.lk = false := by rfl) : Frm H h (upd H p o) (M.up h p ob') := fun a u z q => by
  have ne : a ≠ p := fun y => by subst y; rw [q _ e] at nl; cases nl
  exact ⟨by rw [upd_ne ne]; exact z, up_ne ne⟩
/-- locked, and unlocked behind it -/
theorem frm_lock {p : Addr} {o o' : HO} {ob ob1 ob2 : M.Ob} (e : h p = some ob) (nl : ob.lk = false) (f : Frm (upd H p o) (M.up h p ob1) H' h') : Frm H h (upd H' p o') (M.up h' p ob2) := fun a u z q => by
  have ne : a ≠ p := fun y => by subst y; rw [q _ e] at nl; cases nl
  obtain ⟨f1, f2⟩ := f a u (by rw [upd_ne ne]; exact z) (fun o z => q o (by rw [up_ne ne] at z; exact z))
  exact ⟨by rw [upd_ne ne]; exact f1, by rw [up_ne ne, f2, up_ne ne]⟩
theorem rh_put {p : Addr} {o : HO} {ob ob' : M.Ob} (r : RH K H h) (e : h p = some ob) (q : ObRep K (upd H p o) p ob') : RH K (upd H p o) (M.up h p ob') := fun a u z => by
  by_cases y : a = p
  · subst y; rw [up_same] at z; cases z; exact q
  · rw [up_ne y] at z
    exact (r a u z).kp (kp_put r e) (upd_ne y)
end
end Snd
end
section
/-! Sound2: the operations. -/
namespace Snd
open PySem L2 PySem.Spec PyProof.Rows

/-- what stands behind: Q of whatever bears d, in whatever heap bears h' -/
def Kont (K : Fr) (H : Hp) (h : M.AH) (Qa : M.VQ) (Q : VK) : Prop := ∀ d h' v H', Qa d h' → Frm H h H' h' → Rep K H' d v → RH K H' h' → Q v H'
/-- the same of a truth, of the heap -/
def KontB (K : Fr) (H : Hp) (h : M.AH) (Qa : Bool → Prop) (Q : VK) : Prop := ∀ b, Qa b → Q (.bl b) H
section
variable {K : Fr} {H H1 H' : Hp} {h h1 h' : M.AH} {Qa : M.VQ} {Q : VK}
theorem Kont.go (k : Kont K H h Qa Q) (f : Frm H h H1 h1) : Kont K H1 h1 Qa Q := fun d h' v H' q f' r rh => k d h' v H' q (f.trans f') r rh
theorem Kont.now (k : Kont K H h Qa Q) (rh : RH K H h) {d : SD} {v : V} (q : Qa d h) (r : Rep K H d v) : Q v H := k d h v H q .refl r rh
theorem line_eq : (sizeLine : Nat) = M.LINE := by rw [sizeLine_eq]; rfl
theorem sV_len (s : M.Sx) : (sV s).length = s.length := by simp [sV, Str.length]
theorem sV_app (a b : M.Sx) : sV a ++ sV b = sV (a ++ b) := by
  show Str.append _ _ = _
  simp [sV, Str.append]
theorem sV_inj {a b : M.Sx} (e : sV a = sV b) : a = b := by
  have e1 : a.toArray = b.toArray := congrArg Str.cps e
  simpa using congrArg Array.toList e1
theorem sV_cps (a : M.Sx) : (sV a).cps.toList = a := by simp [sV]
theorem sOk_app {a b : M.Sx} (x : sOk a) (y : sOk b) : sOk (a ++ b) := fun c hc => (List.mem_append.mp hc).elim (x c) (y c)

/-! ### two places -/
def rAddS : R2 := fun x y H Q => ∃ i j, x = .str i ∧ y = .str j ∧ i.length + j.length ≤ sizeLine ∧ Q (.str (i ++ j)) H
def rPow : R2 := rI CPow fun i j => .int (i ^ j.toNat)
def rAdd4 (K : Fr) : R2 := fun x y H Q => (rI0 fun i j => .int (i + j)) x y H Q ∨ rAddS x y H Q ∨ rCatA K x y H Q ∨ rCat x y H Q
def rMul3 : R2 := fun x y H Q => (rI CMul fun i j => .int (i * j)) x y H Q ∨ (rI CMulW fun i j => .int (i * j)) x y H Q ∨ rRep x y H Q
def rBin (K : Fr) : M.Bop → R2
  | .add => rAdd4 K
  | .sub => rI0 fun i j => .int (i - j)
  | .mul => rMul3
  | .mod => rI (fun _ j => 0 < j) fun i j => .int (i % j)
  | .fdiv => rI CDivW fun i j => .int (i / j)
  | .pow => rPow
def bop : M.Bop → Operator
  | .add => .Add | .sub => .Sub | .mul => .Mult | .mod => .Mod | .fdiv => .FloorDiv | .pow => .Pow
theorem op_bin {X : Cx} (o : M.Bop) : OpR X (binaryOp (bop o)) (rBin X.F o) := by
  cases o
  · exact op_add.or (op_add_str.or (op_catA.or op_cat))
  · exact op_sub
  · exact op_mul.or (op_mulW.or op_rep)
  · exact op_mod
  · exact op_fdivW
  · exact op_pow
theorem log_small {b : Int} (h0 : 0 < b) (h1 : b < 2 ^ 64) : b.natAbs.log2 < 9000 :=
  (wide_div (i := 0) (b := 64) h0 (by omega) (by decide) (by decide)).2
theorem opInt_inv {f : Int → Int → (Int → Prop) → Prop} {dx dy : SD} (q : M.opInt f dx dy h Qa) : ∃ a b, dx = .int a ∧ dy = .int b ∧ f a b fun c => Qa (.int c) h := by
  cases dx with
  | int a => cases dy with
    | int b => exact ⟨a, b, rfl, rfl, q⟩
    | _ => exact False.elim q
  | _ => exact False.elim q
theorem opAdd_inv {dx dy : SD} (q : M.opAdd dx dy h Qa) : (∃ a b, dx = .int a ∧ dy = .int b ∧ Qa (.int (a + b)) h) ∨ (∃ a b, dx = .str a ∧ dy = .str b ∧ a.length + b.length ≤ M.LINE ∧ Qa (.str (a ++ b)) h) ∨
    (∃ a b, dx = .tup a ∧ dy = .tup b ∧ a.length + b.length ≤ M.LINE ∧ Qa (.tup (a ++ b)) h) ∨
    ∃ p p2, dx = .ref p ∧ dy = .ref p2 ∧ ∃ xs ys, h p = some (.lst xs) ∧ h p2 = some (.lst ys) ∧ xs.length + ys.length ≤ M.LINE ∧ ∀ r, h r = none → Qa (.ref r) (M.up h r (.lst (xs ++ ys))) := by
  cases dx with
  | int a => cases dy with
    | int b => exact .inl ⟨a, b, rfl, rfl, q⟩
    | _ => exact False.elim q
  | str a => cases dy with
    | str b => exact .inr (.inl ⟨a, b, rfl, rfl, q.1, q.2⟩)
    | _ => exact False.elim q
  | tup a => cases dy with
    | tup b => exact .inr (.inr (.inl ⟨a, b, rfl, rfl, q.1, q.2⟩))
    | _ => exact False.elim q
  | ref a => cases dy with
    | ref b => exact .inr (.inr (.inr ⟨a, b, rfl, rfl, q⟩))
    | _ => exact False.elim q
  | _ => exact False.elim q
theorem opMul_inv {dx dy : SD} (q : M.opMul dx dy h Qa) : (∃ a b, dx = .int a ∧ dy = .int b ∧ M.mulOk a b ∧ Qa (.int (a * b)) h) ∨
    ∃ p n, dx = .ref p ∧ dy = .int n ∧ ∃ xs, h p = some (.lst xs) ∧ -(2 ^ 63) ≤ n ∧ n < 2 ^ 63 ∧ xs.length * n.toNat ≤ M.LINE ∧ ∀ r, h r = none → Qa (.ref r) (M.up h r (.lst (List.replicate n.toNat xs).flatten)) := by
  cases dx with
  | int a => cases dy with
    | int b => exact .inl ⟨a, b, rfl, rfl, q.1, q.2⟩
    | _ => exact False.elim q
  | ref a => cases dy with
    | int b => exact .inr ⟨a, b, rfl, rfl, q⟩
    | _ => exact False.elim q
  | _ => exact False.elim q
theorem add_ok {dx dy : SD} {x y : V} (rh : RH K H h) (rx : Rep K H dx x) (ry : Rep K H dy y) (q : M.opAdd dx dy h Qa) (k : Kont K H h Qa Q) : rAdd4 K x y H Q := by
  have hl := line_eq
  rcases opAdd_inv q with ⟨a, b, rfl, rfl, q⟩ | ⟨a, b, rfl, rfl, hz, q⟩ | ⟨a, b, rfl, rfl, hz, q⟩ | ⟨p, p2, rfl, rfl, xs, ys, e1, e2, hz, q⟩
  · cases (show x = _ from rx); cases (show y = _ from ry)
    exact .inl ⟨a, b, rfl, rfl, k.now rh q rfl⟩
  · obtain ⟨rx, ox⟩ := rx
    obtain ⟨ry, oy⟩ := ry
    subst rx; subst ry
    refine .inr (.inl ⟨sV a, sV b, rfl, rfl, by rw [sV_len, sV_len, hl]; exact hz, ?_⟩)
    rw [sV_app]
    exact k.now rh q ⟨rfl, sOk_app ox oy⟩
  · obtain ⟨p, vs, e1, t1, r1⟩ := rx
    obtain ⟨p2, ws, e2, t2, r2⟩ := ry
    subst e1; subst e2
    have l1 := r1.length
    have l2 := r2.length
    have s1 : SqT K H p vs := t1.imp .inl id
    have s2 : SqT K H p2 ws := t2.imp .inl id
    refine .inr (.inr (.inl ⟨p, p2, vs, ws, rfl, rfl, s1, s2, by omega, ?_⟩))
    · refine ⟨fun e => ?_, fun ne1 e => ?_, fun ne1 ne2 l hn => ?_⟩
      · have : a = [] := by
          subst e; cases a with
          | nil => rfl
          | cons _ _ => simp at l1
        subst this
        refine k.now rh q ⟨p2, ws, rfl, t2, by simpa using r2⟩
      · have : b = [] := by
          subst e; cases b with
          | nil => rfl
          | cons _ _ => simp at l2
        subst this
        refine k.now rh q ⟨p, vs, rfl, t1, by simpa using r1⟩
      · refine k _ _ _ _ q (frm_hid hn) ⟨l, vs ++ ws, rfl, .inl upd_same, (r1.kp (kp_new hn)).append (r2.kp (kp_new hn))⟩ (rh_hid rh hn)
  · cases (show x = _ from rx); cases (show y = _ from ry)
    obtain ⟨vs, a1, r1⟩ := rh p _ e1
    obtain ⟨ws, a2, r2⟩ := rh p2 _ e2
    have l1 := r1.length
    have l2 := r2.length
    refine .inr (.inr (.inr ⟨p, p2, vs, ws, rfl, rfl, a1, a2, by omega, fun l hn => ?_⟩))
    exact k _ _ _ _ (q l (rh.none hn)) (frm_new hn) rfl (rh_new rh hn ⟨_, upd_same, (r1.kp (kp_new hn)).append (r2.kp (kp_new hn))⟩)
theorem mul_ok {dx dy : SD} {x y : V} (rh : RH K H h) (rx : Rep K H dx x) (ry : Rep K H dy y) (q : M.opMul dx dy h Qa) (k : Kont K H h Qa Q) : rMul3 x y H Q := by
  have hl := line_eq
  rcases opMul_inv q with ⟨a, b, rfl, rfl, c, q⟩ | ⟨p, n, rfl, rfl, xs, e1, n1, n2, hz, q⟩
  · cases (show x = _ from rx); cases (show y = _ from ry)
    rcases c with c | c | ⟨m, m0, m1, m2, m3⟩
    · exact .inl ⟨a, b, rfl, rfl, .inl c, k.now rh q rfl⟩
    · exact .inl ⟨a, b, rfl, rfl, .inr c, k.now rh q rfl⟩
    · exact .inr (.inl ⟨a, b, rfl, rfl, wide_mul m2 m3 m0 m0 (by omega), k.now rh q rfl⟩)
  · cases (show x = _ from rx); cases (show y = _ from ry)
    obtain ⟨vs, a1, r1⟩ := rh p _ e1
    have l1 := r1.length
    refine .inr (.inr ⟨p, n, vs, rfl, rfl, a1, n1, n2, by rw [l1, hl]; exact hz, fun l hn => ?_⟩)
    exact k _ _ _ _ (q l (rh.none hn)) (frm_new hn) rfl (rh_new rh hn ⟨_, upd_same, (r1.kp (kp_new hn)).rep _⟩)
theorem bin_ok {o : M.Bop} {dx dy : SD} {x y : V} (rh : RH K H h) (rx : Rep K H dx x) (ry : Rep K H dy y) (q : M.opBin o dx dy h Qa) (k : Kont K H h Qa Q) : rBin K o x y H Q := by
  cases o with
  | add => exact add_ok rh rx ry q k
  | mul => exact mul_ok rh rx ry q k
  | sub =>
    simp only [M.opBin] at q
    obtain ⟨a, b, rfl, rfl, q⟩ := opInt_inv q
    cases (show x = _ from rx); cases (show y = _ from ry)
    exact ⟨a, b, rfl, rfl, k.now rh q rfl⟩
  | mod =>
    simp only [M.opBin] at q
    obtain ⟨a, b, rfl, rfl, c, q⟩ := opInt_inv q
    cases (show x = _ from rx); cases (show y = _ from ry)
    exact ⟨a, b, rfl, rfl, c, k.now rh q rfl⟩
  | fdiv =>
    simp only [M.opBin] at q
    obtain ⟨a, b, rfl, rfl, c, q⟩ := opInt_inv q
    cases (show x = _ from rx); cases (show y = _ from ry)
    exact ⟨a, b, rfl, rfl, ⟨c.1, log_small c.1 c.2⟩, k.now rh q rfl⟩
  | pow =>
    simp only [M.opBin] at q
    obtain ⟨a, b, rfl, rfl, c, q⟩ := opInt_inv q
    cases (show x = _ from rx); cases (show y = _ from ry)
    exact ⟨a, b, rfl, rfl, c, k.now rh q rfl⟩

/-! ### data as the model reads it -/
mutual
def toPy : SD → PyData
  | .non => .none
  | .bl b => .bool b
  | .int i => .int i
  | .str s => .str (sV s)
  | .tup ds => .tuple (toPys ds)
  | .rol ds => .list (toPys ds)
  | .ref _ => .none
def toPys : List SD → List PyData
  | [] => []
  | d :: ds => toPy d :: toPys ds
end
theorem ba {a b : Bool} (h : (a && b) = true) : a = true ∧ b = true := Bool.and_eq_true_iff.mp h
mutual
theorem rep_dp : ∀ {d : SD} {v : V}, M.pureD d = true → Rep K H d v → Dp K H v (toPy d)
  | .non, _, _, r => by cases (show _ = _ from r); exact .non
  | .int i, _, _, r => by cases (show _ = _ from r); exact .int i
  | .str s, _, _, r => by cases (show _ = _ from r.1); exact .str _
  | .tup ds, _, p, ⟨a, vs, e, t, rs⟩ => by subst e; exact .tup (t.imp .inl id) (reps_dp (by simpa only [M.pureD] using p) rs)
  | .bl _, _, p, _ => by simp [M.pureD] at p
  | .ref _, _, p, _ => by simp [M.pureD] at p
  | .rol _, _, p, _ => by simp [M.pureD] at p
theorem reps_dp : ∀ {ds : List SD} {vs : List V}, M.pureDs ds = true → Reps K H ds vs → DpAll K H vs (toPys ds)
  | [], _, _, r => by cases (show _ = _ from r); exact .nil
  | d :: ds, _, p, ⟨v, r, e, a, b⟩ => by
    subst e
    obtain ⟨p1, p2⟩ := ba (show (M.pureD d && M.pureDs ds) = true by simpa only [M.pureDs] using p)
    exact .cons (rep_dp p1 a) (reps_dp p2 b)
end
mutual
theorem rep_can : ∀ {d : SD} {v : V}, M.pureD d = true → Rep K H d v → (toPy d).canLay0 = true
  | .non, _, _, r => rfl
  | .int i, _, _, r => rfl
  | .str s, _, _, r => by
    have ok := r.2
    show PyData.strOk (sV s) = true
    simp only [PyData.strOk, sV, Array.all_eq_true_iff_forall_mem, List.mem_toArray, decide_eq_true_eq]
    exact ok
  | .tup ds, _, p, ⟨a, vs, e, t, rs⟩ => by
    show PyData.canLayAll0 (toPys ds) = true
    exact reps_can (by simpa only [M.pureD] using p) rs
  | .bl _, _, p, _ => by simp [M.pureD] at p
  | .ref _, _, p, _ => by simp [M.pureD] at p
  | .rol _, _, p, _ => by simp [M.pureD] at p
theorem reps_can : ∀ {ds : List SD} {vs : List V}, M.pureDs ds = true → Reps K H ds vs → PyData.canLayAll0 (toPys ds) = true
  | [], _, _, r => rfl
  | d :: ds, _, p, ⟨v, r, e, a, b⟩ => by
    obtain ⟨p1, p2⟩ := ba (show (M.pureD d && M.pureDs ds) = true by simpa only [M.pureDs] using p)
    show (PyData.canLay0 (toPy d) && PyData.canLayAll0 (toPys ds)) = true
    rw [rep_can p1 a, reps_can p2 b]
    rfl
end
mutual
theorem py_depth : ∀ (n : Nat) (d : SD), M.plain n d = true → (toPy d).depth ≤ n
  | _, .non, _ => by simp [toPy, PyData.depth]
  | _, .int i, _ => by simp [toPy, PyData.depth]
  | _, .str s, _ => by simp [toPy, PyData.depth]
  | 0, .tup ds, p => by simp [M.plain] at p
  | n + 1, .tup ds, p => by
    have := pys_depth n ds (by simpa only [M.plain] using p)
    simp only [toPy, PyData.depth]
    omega
  | 0, .bl _, p => by simp [M.plain] at p
  | n + 1, .bl _, p => by simp [M.plain] at p
  | 0, .ref _, p => by simp [M.plain] at p
  | n + 1, .ref _, p => by simp [M.plain] at p
  | 0, .rol _, p => by simp [M.plain] at p
  | n + 1, .rol _, p => by simp [M.plain] at p
theorem pys_depth : ∀ (n : Nat) (ds : List SD), M.plains n ds = true → PyData.depthAll (toPys ds) ≤ n
  | _, [], _ => by simp [toPys, PyData.depthAll]
  | n, d :: ds, p => by
    obtain ⟨p1, p2⟩ := ba (show (M.plain n d && M.plains n ds) = true by cases n <;> simpa only [M.plains] using p)
    have := py_depth n d p1
    have := pys_depth n ds p2
    simp only [toPys, PyData.depthAll]
    omega
end
mutual
theorem eqv_py : ∀ (a b : SD), M.pureD a = true → M.pureD b = true → PyData.eqv (toPy a) (toPy b) = decide (a = b)
  | .non, b, _, q => by cases b <;> simp [M.pureD, toPy, PyData.eqv] at q ⊢
  | .int i, b, _, q => by cases b <;> simp [M.pureD, toPy, PyData.eqv, Bool.beq_eq_decide_eq] at q ⊢
  | .str s, b, _, q => by
    cases b <;> simp [M.pureD, toPy, PyData.eqv, Bool.beq_eq_decide_eq] at q ⊢
    rename_i t
    exact ⟨sV_inj, fun e => by rw [e]⟩
  | .tup ds, b, p, q => by
    cases b <;> simp [M.pureD, toPy, PyData.eqv] at p q ⊢
    exact eqv_pys ds _ p q
  | .bl _, b, p, _ => by simp [M.pureD] at p
  | .ref _, b, p, _ => by simp [M.pureD] at p
  | .rol _, b, p, _ => by simp [M.pureD] at p
theorem eqv_pys : ∀ (as bs : List SD), M.pureDs as = true → M.pureDs bs = true → PyData.eqvAll (toPys as) (toPys bs) = decide (as = bs)
  | [], [], _, _ => by simp [toPys, PyData.eqvAll]
  | [], _ :: _, _, _ => by simp [toPys, PyData.eqvAll]
  | _ :: _, [], _, _ => by simp [toPys, PyData.eqvAll]
  | a :: as, b :: bs, p, q => by
    obtain ⟨p1, p2⟩ := ba (show (M.pureD a && M.pureDs as) = true by simpa only [M.pureDs] using p)
    obtain ⟨q1, q2⟩ := ba (show (M.pureD b && M.pureDs bs) = true by simpa only [M.pureDs] using q)
    simp only [toPys, PyData.eqvAll, eqv_py a b p1 q1, eqv_pys as bs p2 q2, List.cons.injEq, Bool.decide_and]
end
end
end Snd
end
section
/-! SortL: < of nested data, sorted of lists of such. -/
namespace PySem.SeqAt
open AutoSeq1 (wpAny_loadPart')
open MeetsSeq MeetsSeq2 MeetsSeq3 SeqRoads2
section
/-- the items from the i-th on -/
def ltRest (e r : Nat → Bool) (z : Bool) (n i : Nat) : Bool := firstLt e r z ((List.range n).drop i)
theorem ltRest_in {e r : Nat → Bool} {z : Bool} {n i : Nat} (h : i < n) : ltRest e r z n i = if e i = true then ltRest e r z n (i + 1) else r i := by
  have hd : (List.range n).drop i = i :: (List.range n).drop (i + 1) := by simp [List.drop_eq_getElem_cons, h]
  unfold ltRest
  rw [hd]
  rfl
theorem ltRest_out {e r : Nat → Bool} {z : Bool} {n i : Nat} (h : n ≤ i) : ltRest e r z n i = z := by
  unfold ltRest
  rw [List.drop_of_length_le (by simpa using h)]
  rfl
end
theorem tupLt_run (p q : Addr) (xs ys : Array Value) (m k : Nat) (o1 o2 : Option Addr) (t1 t2 : Array (Option Value)) (e r : Nat → Bool) :
    Meets (Builtin.«tuple.__lt__» ⟨[.ref p, .ref q], []⟩) (fun A R s =>
      s.heap.get? p = some { cls := .type "tuple", dict := o1, data := .seq xs m, slots := t1 } ∧
      s.heap.get? q = some { cls := .type "tuple", dict := o2, data := .seq ys k, slots := t2 } ∧
      (∀ j (a : j < xs.size) (b : j < ys.size), EqAt A.in1 s xs[j] ys[j] (e j)) ∧
      (∀ j (a : j < xs.size) (b : j < ys.size), (∀ i, i < j → e i = true) → e j = false → RcLt A.in1 s xs[j] ys[j] (r j)) ∧
      R (.ok (.ret (.bool (ltRest e r (decide (xs.size < ys.size)) (min xs.size ys.size) 0)))) s) :=
  .of_wp fun prog w A R s h => by
    obtain ⟨hp, g, d, tk, os⟩ := s
    obtain ⟨hx, hy, he, hr, h⟩ := h
    have f2 := AutoSeq1.sub_tuple_tuple
    have lz : (xs.toList.zip ys.toList).length = min xs.size ys.size := by simp
    wp_walk using wpAny_loadPart' hx, wpAny_loadPart' hy, wpAny_forIn_list _ (fun rest b s' => b.1 = none ∧ s' = ⟨hp, g, d, tk, os⟩ ∧
      ∃ i, rest = (xs.toList.zip ys.toList).drop i ∧ (∀ a, a < i → e a = true) ∧ R (.ok (.ret (.bool (ltRest e r (decide (xs.size < ys.size)) (min xs.size ys.size) i)))) ⟨hp, g, d, tk, os⟩) _
    case turn =>
      rintro ⟨u, v⟩ rest b s' ⟨hb, rfl, i, hz, hall, hR⟩
      have lt1 : i < (xs.toList.zip ys.toList).length := Nat.lt_of_not_le fun z => by
        rw [List.drop_of_length_le z] at hz
        cases hz
      have lt2 : i < min xs.size ys.size := by rw [← lz]; exact lt1
      have i1 : i < xs.size := by omega
      have i2 : i < ys.size := by omega
      rw [List.drop_eq_getElem_cons lt1] at hz
      injection hz with huv hrest
      have hu : u = xs[i] := by simpa using congrArg Prod.fst huv
      have hv : v = ys[i] := by simpa using congrArg Prod.snd huv
      subst hu hv
      rw [ltRest_in lt2] at hR
      refine wpAny_bind (he i i1 i2 prog w _ _ ?_)
      cases ei : e i with
      | true =>
        rw [if_pos ei] at hR
        wp_walk
        exact ⟨rfl, rfl, i + 1, hrest, fun a ha => (Nat.lt_succ_iff_lt_or_eq.mp ha).elim (hall a) (fun z => z ▸ ei), hR⟩
      | false =>
        rw [if_neg (by rw [ei]; simp)] at hR
        have step := hr i i1 i2 hall ei prog w
        wp_walk using step _ _
        exact ⟨_, rfl, hR⟩
    case fin =>
      rintro ⟨b1, b2⟩ s' ⟨hb, rfl, i, hz, hall, hR⟩
      simp only at hb
      subst hb
      have ge : min xs.size ys.size ≤ i := Nat.le_of_not_lt fun z => by
        rw [List.drop_eq_getElem_cons (by rw [lz]; exact z)] at hz
        cases hz
      rw [ltRest_out ge] at hR
      wp_walk
      exact ⟨_, rfl, by simpa [Builtin.Tuple.tupleCompareSizes] using hR⟩
    case h =>
      exact ⟨rfl, rfl, 0, rfl, (fun a ha => absurd ha (Nat.not_lt_zero a)), h⟩
theorem RcLt.tuplesF {A : Around} {s : Shared} {p q : Addr} {xs ys : Array Value} {e r : Nat → Bool} (hx : s.heap.IsTuple p xs) (hy : s.heap.IsTuple q ys) (hu : A.units < cLine)
    (he : ∀ j (a : j < xs.size) (b : j < ys.size), EqAt A.in1 s xs[j] ys[j] (e j))
    (hr : ∀ j (a : j < xs.size) (b : j < ys.size), (∀ i, i < j → e i = true) → e j = false → RcLt A.in1 s xs[j] ys[j] (r j)) :
    RcLt A s (.ref p) (.ref q) (ltRest e r (decide (xs.size < ys.size)) (min xs.size ys.size) 0) := fun prog w E Q h => by
  obtain ⟨⟨c1, d1, dat1, s1⟩, g1, e1, m1, f1⟩ := id hx
  obtain ⟨⟨c2, d2, dat2, s2⟩, g2, e2, m2, f2⟩ := id hy
  simp only at e1 f1 e2 f2
  subst e1 f1 e2 f2
  refine richCompare_meets_room (op := .Lt) ⟨_, g1, rfl⟩ ⟨_, g2, rfl⟩ F.slot_tuple_lt F.entry_tuple_lt (F.args_tuple_lt_2 _ _) (tupLt_run p q xs ys m1 m2 d1 d2 s1 s2 e r) ⟨g1, g2, he, hr, ?_⟩ hu
  exact ⟨(fun z => nomatch z), h⟩
end PySem.SeqAt
namespace Snd
open PySem L2 PySem.Spec PyProof.Rows
theorem toPys_get : ∀ {ds : List SD} {j : Nat} {d : SD}, ds[j]? = some d → (toPys ds)[j]? = some (toPy d)
  | [], _, _, h => by simp at h
  | _ :: _, 0, _, h => by simp at h; subst h; simp [toPys]
  | _ :: ds, j + 1, d, h => by
    have := toPys_get (ds := ds) (j := j) (by simpa using h)
    simpa [toPys] using this
theorem reads_get {h : Heap} : ∀ {vs : List Value} {ds : List PyData} {as : List Addr} {j : Nat} {d : PyData}, ReadsAll h vs ds as → ds[j]? = some d → ∃ v bs, vs[j]? = some v ∧ Reads h v d bs
  | _, [], _, _, _, _, e => by simp at e
  | _, _ :: _, _, 0, d, r, e => by
    cases r with
    | cons h1 h2 => simp at e; subst e; exact ⟨_, _, rfl, h1⟩
  | _, _ :: _, _, j + 1, d, r, e => by
    cases r with
    | cons h1 h2 =>
      obtain ⟨v, bs, e1, e2⟩ := reads_get (j := j) h2 (by simpa using e)
      exact ⟨v, bs, by simpa using e1, e2⟩
theorem reads_len {h : Heap} : ∀ {vs : List Value} {ds : List PyData} {as : List Addr}, ReadsAll h vs ds as → vs.length = ds.length
  | _, [], _, r => by cases r; rfl
  | _, _ :: _, _, r => by
    cases r with
    | cons h1 h2 => simp [reads_len h2]
theorem pureDs_at : ∀ {ds : List SD} {j : Nat} {d : SD}, M.pureDs ds = true → ds[j]? = some d → M.pureD d = true
  | [], _, _, _, e => by simp at e
  | _ :: _, 0, _, p, e => by
    simp at e; subst e
    exact (ba (show (_ && _) = true by simpa only [M.pureDs] using p)).1
  | _ :: ds, j + 1, _, p, e => pureDs_at (ds := ds) (j := j) (ba (show (_ && _) = true by simpa only [M.pureDs] using p)).2 (by simpa using e)
theorem plains_two {n : Nat} {d : SD} {ds : List SD} (p : M.plains n (d :: ds) = true) : M.plain n d = true ∧ M.plains n ds = true := by
  cases n <;> simp only [M.plains] at p <;> exact ba p
theorem plains_at {n : Nat} : ∀ {ds : List SD} {j : Nat} {d : SD}, M.plains n ds = true → ds[j]? = some d → M.plain n d = true
  | [], _, _, _, e => by simp at e
  | _ :: _, 0, _, p, e => by
    simp at e; subst e
    exact (plains_two p).1
  | _ :: ds, j + 1, _, p, e => plains_at (ds := ds) (j := j) (plains_two p).2 (by simpa using e)
theorem canAll_at : ∀ {ds : List SD} {j : Nat} {d : SD}, PyData.canLayAll0 (toPys ds) = true → ds[j]? = some d → (toPy d).canLay0 = true
  | [], _, _, _, e => by simp at e
  | _ :: _, 0, _, p, e => by
    simp at e; subst e
    exact (ba (show (_ && _) = true from p)).1
  | _ :: ds, j + 1, _, p, e => canAll_at (ds := ds) (j := j) (ba (show (_ && _) = true from p)).2 (by simpa using e)
/-- ltDs by places -/
noncomputable def eD (xs ys : List SD) (j : Nat) : Bool := decide (xs[j]? = ys[j]?)
noncomputable def rD (xs ys : List SD) (j : Nat) : Bool := match xs[j]?, ys[j]? with
  | some x, some y => M.ltD x y
  | _, _ => false
theorem lt_rest : ∀ (k : Nat) (xs ys : List SD) (i : Nat), min xs.length ys.length - i = k → i ≤ min xs.length ys.length → SeqAt.ltRest (eD xs ys) (rD xs ys) (decide (xs.length < ys.length)) (min xs.length ys.length) i = M.ltDs (xs.drop i) (ys.drop i)
  | 0, xs, ys, i, hk, hi => by
    rw [SeqAt.ltRest_out (by omega)]
    rcases Nat.lt_or_ge i xs.length with h1 | h1
    · have h2 : ys.length ≤ i := by omega
      rw [List.drop_of_length_le h2, List.drop_eq_getElem_cons h1]
      simp [M.ltDs]; omega
    · rw [List.drop_of_length_le h1]
      rcases Nat.lt_or_ge i ys.length with h2 | h2
      · rw [List.drop_eq_getElem_cons h2]
        simp [M.ltDs]; omega
      · rw [List.drop_of_length_le h2]
        simp [M.ltDs]; omega
  | k + 1, xs, ys, i, hk, hi => by
    have h1 : i < xs.length := by omega
    have h2 : i < ys.length := by omega
    rw [SeqAt.ltRest_in (by omega), List.drop_eq_getElem_cons h1, List.drop_eq_getElem_cons h2, M.ltDs_cons]
    have e1 : eD xs ys i = decide (xs[i] = ys[i]) := by simp [eD, h1, h2]
    have e2 : rD xs ys i = M.ltD xs[i] ys[i] := by simp [rD, h1, h2]
    rw [e1, e2]
    by_cases z : xs[i] = ys[i]
    · rw [if_pos z, if_pos (decide_eq_true z)]
      exact lt_rest k xs ys (i + 1) (by omega) (by omega)
    · rw [if_neg z, if_neg (by simp [z])]
theorem lt_whole (xs ys : List SD) : SeqAt.firstLt (eD xs ys) (rD xs ys) (decide (xs.length < ys.length)) (List.range (min xs.length ys.length)) = M.ltDs xs ys := by
  have := lt_rest _ xs ys 0 rfl (Nat.zero_le _)
  simpa [SeqAt.ltRest] using this
/-- what < is asked of at the first place that differs -/
theorem cmp_first : ∀ {xs ys : List SD} {j : Nat} {x y : SD}, M.cmpbs xs ys = true → xs[j]? = some x → ys[j]? = some y → (∀ i, i < j → xs[i]? = ys[i]?) → x ≠ y → M.cmpb x y = true
  | [], _, _, _, _, _, e, _, _, _ => by simp at e
  | _ :: _, [], _, _, _, _, _, e, _, _ => by simp at e
  | a :: xs, b :: ys, 0, x, y, c, e1, e2, _, ne => by
    simp at e1 e2
    subst e1 e2
    simp only [M.cmpbs, if_neg ne] at c
    exact c
  | a :: xs, b :: ys, j + 1, x, y, c, e1, e2, al, ne => by
    have e0 := al 0 (by omega)
    simp at e0
    subst e0
    simp only [M.cmpbs, if_pos] at c
    exact cmp_first (xs := xs) (ys := ys) (j := j) c (by simpa using e1) (by simpa using e2) (fun i hi => by simpa using al (i + 1) (by omega)) ne
end Snd
namespace Snd
open PySem L2 PySem.Spec PyProof.Rows
theorem depth_at : ∀ {ds : List SD} {j : Nat} {d : SD}, ds[j]? = some d → (toPy d).depth ≤ PyData.depthAll (toPys ds)
  | [], _, _, e => by simp at e
  | d :: ds, 0, _, e => by
    simp at e; subst e
    simp only [toPys, PyData.depthAll]
    omega
  | d :: ds, j + 1, _, e => by
    have := depth_at (ds := ds) (j := j) (by simpa using e)
    simp only [toPys, PyData.depthAll]
    omega
/-- a < b of the data -/
def LtG (a : SD) : Prop := ∀ (b : SD) (A : Around) (s : Shared) (u v : Value) (as bs : List Addr), M.cmpb a b = true → M.pureD a = true → M.pureD b = true → (toPy a).canLay0 = true → (toPy b).canLay0 = true →
  Reads s.heap u (toPy a) as → Reads s.heap v (toPy b) bs → A.units + min (toPy a).depth (toPy b).depth < cLine → SeqAt.RcLt A s u v (M.ltD a b)
theorem ltG_seq {xs : List SD} (ih : ∀ x ∈ xs, LtG x) : LtG (.tup xs) := by
  intro b A s u v as bs c pa pb ca cb ra rb hu
  cases b with
  | tup ys =>
    have c : M.cmpbs xs ys = true := by simpa only [M.cmpb] using c
    have pa : M.pureDs xs = true := by simpa only [M.pureD] using pa
    have pb : M.pureDs ys = true := by simpa only [M.pureD] using pb
    have ca : PyData.canLayAll0 (toPys xs) = true := ca
    have cb : PyData.canLayAll0 (toPys ys) = true := cb
    have lx : (toPys xs).length = xs.length := by
      have : ∀ l : List SD, (toPys l).length = l.length := fun l => by induction l with
        | nil => rfl
        | cons x l h => simp [toPys, h]
      exact this xs
    have ly : (toPys ys).length = ys.length := by
      have : ∀ l : List SD, (toPys l).length = l.length := fun l => by induction l with
        | nil => rfl
        | cons x l h => simp [toPys, h]
      exact this ys
    cases ra with
    | @tuple p o vs n _ as₁ g1 g2 g3 g4 =>
      cases rb with
      | @tuple q o' ws n' _ bs₁ k1 k2 k3 k4 =>
        have n1 : vs.size = xs.length := by simpa [lx] using reads_len g4
        have n2 : ws.size = ys.length := by simpa [ly] using reads_len k4
        have hd : A.units + 1 + min (PyData.depthAll (toPys xs)) (PyData.depthAll (toPys ys)) < cLine := by
          have e1 : (PyData.tuple (toPys xs)).depth = PyData.depthAll (toPys xs) + 1 := rfl
          have e2 : (PyData.tuple (toPys ys)).depth = PyData.depthAll (toPys ys) + 1 := rfl
          have hu : A.units + min (PyData.tuple (toPys xs)).depth (PyData.tuple (toPys ys)).depth < cLine := hu
          omega
        have key := lt_whole xs ys
        show SeqAt.RcLt A s _ _ (M.ltD (.tup xs) (.tup ys))
        have e0 : M.ltD (.tup xs) (.tup ys) = M.ltDs xs ys := by simp only [M.ltD]
        rw [e0, ← key]
        have both : ∀ j (a : j < vs.size) (b : j < ws.size), ∃ x y a1 b1, xs[j]? = some x ∧ ys[j]? = some y ∧ Reads s.heap vs[j] (toPy x) a1 ∧ Reads s.heap ws[j] (toPy y) b1 := fun j a b => by
          have ex : xs[j]? = some (xs[j]'(by omega)) := List.getElem?_eq_getElem (by omega)
          have ey : ys[j]? = some (ys[j]'(by omega)) := List.getElem?_eq_getElem (by omega)
          obtain ⟨v1, a1, f1, r1⟩ := reads_get g4 (toPys_get ex)
          obtain ⟨v2, b1, f2, r2⟩ := reads_get k4 (toPys_get ey)
          have f1' : vs[j] = v1 := by simpa [Array.getElem?_toList, a] using f1
          have f2' : ws[j] = v2 := by simpa [Array.getElem?_toList, b] using f2
          exact ⟨_, _, a1, b1, ex, ey, by rw [f1']; exact r1, by rw [f2']; exact r2⟩
        have main := SeqAt.RcLt.tuplesF (A := A) (s := s) (p := p) (q := q) (xs := vs) (ys := ws) (e := eD xs ys) (r := rD xs ys) ⟨_, g1, g2, _, g3⟩ ⟨_, k1, k2, _, k3⟩ (by omega) (fun j a b => ?_) (fun j a b hall hj => ?_)
        · rw [n1, n2] at main
          exact main
        · obtain ⟨x, y, a1, b1, ex, ey, r1, r2⟩ := both j a b
          have := SeqAt.eqAt_reads (toPy x) (toPy y) A.in1 s _ _ _ _ r1 r2 (canAll_at ca ex) (canAll_at cb ey) (by
            have := depth_at ex
            have := depth_at ey
            have e : A.in1.units = A.units + 1 := rfl
            omega)
          rw [eqv_py x y (pureDs_at pa ex) (pureDs_at pb ey)] at this
          have e1 : eD xs ys j = decide (x = y) := by simp [eD, ex, ey]
          rw [e1]
          exact this
        · obtain ⟨x, y, a1, b1, ex, ey, r1, r2⟩ := both j a b
          have e1 : eD xs ys j = decide (x = y) := by simp [eD, ex, ey]
          have e2 : rD xs ys j = M.ltD x y := by simp [rD, ex, ey]
          rw [e1] at hj
          rw [e2]
          refine ih x (List.mem_of_getElem? ex) y A.in1 s _ _ _ _ (cmp_first c ex ey (fun i hi => by simpa [eD] using hall i hi) (by simpa using hj)) (pureDs_at pa ex) (pureDs_at pb ey) (canAll_at ca ex) (canAll_at cb ey) r1 r2 ?_
          have := depth_at ex
          have := depth_at ey
          have e : A.in1.units = A.units + 1 := rfl
          omega
  | _ => simp [M.cmpb] at c
mutual
theorem ltG : ∀ a : SD, LtG a
  | .tup xs => ltG_seq (ltGs xs)
  | .int x => fun b A s u v as bs c _ _ _ _ ra rb _ => by
    cases b with
    | int y =>
      cases ra
      cases rb
      intro prog w E Q hq
      refine PyProof.Rows.lt_int ?_
      simpa [M.ltD] using hq
    | _ => simp [M.cmpb] at c
  | .str x => fun b A s u v as bs c _ _ _ _ ra rb _ => by
    cases b with
    | str y =>
      cases ra
      cases rb
      intro prog w E Q hq
      refine PyProof.Rows.lt_str ?_
      simpa [M.ltD, sV_cps] using hq
    | _ => simp [M.cmpb] at c
  | .non => fun b A s u v as bs c => by simp [M.cmpb] at c
  | .bl _ => fun b A s u v as bs c => by simp [M.cmpb] at c
  | .ref _ => fun b A s u v as bs c => by simp [M.cmpb] at c
  | .rol _ => fun b A s u v as bs c => by simp [M.cmpb] at c
theorem ltGs : ∀ xs : List SD, ∀ x ∈ xs, LtG x
  | [], x, h => nomatch h
  | y :: ys, x, h => by
    rcases List.mem_cons.mp h with e | h
    · rw [e]; exact ltG y
    · exact ltGs ys x h
end
/-- x < y of nested data -/
def rLtD (K : Fr) : R2 := fun x y H Q => ∃ a b : SD, M.cmpb a b = true ∧ M.pureD a = true ∧ M.pureD b = true ∧ (toPy a).canLay0 = true ∧ (toPy b).canLay0 = true ∧ ((toPy a).depth ≤ 191 ∨ (toPy b).depth ≤ 191) ∧ Dp K H x (toPy a) ∧ Dp K H y (toPy b) ∧ Q (.bl (M.ltD a b)) H
theorem op_ltD {X : Cx} (hu : X.A.units + 200 < cLine) : OpR X (compareOp .Lt) (rLtD X.F) := by
  intro pins s σ H x y v u Q I rx ry h
  obtain ⟨a, b, c, pa, pb, ca, cb, dp, hd, he, q⟩ := h
  obtain ⟨as, r1⟩ := Dp.reads I _ x v hd rx
  obtain ⟨bs, r2⟩ := Dp.reads I _ y u he ry
  exact ltG a b X.A s v u as bs c pa pb ca cb r1 r2 (by omega) _ _ _ _ ⟨.bl _, H, I, rfl, q⟩

/-! ### sorted of tuples -/
theorem swo_lt (k : Value → SD) : SrtO.Swo fun v u => M.ltD (k v) (k u) := ⟨fun _ _ h => M.ltD_asym h, fun _ _ _ h1 h2 => M.ltD_neg h1 h2⟩
theorem toPy_inj {a b : SD} (pa : M.pureD a = true) (pb : M.pureD b = true) (e : toPy a = toPy b) : a = b := by
  have h1 := eqv_py a b pa pb
  have h2 := eqv_py a a pa pa
  rw [e] at h1 h2
  rw [h1] at h2
  simpa using h2
section
variable {prog : Program} {w : World}
open PySem.W
theorem kat_data {A : Around} {b fin : Bool} {Q : Bool → Shared → Prop} : ∀ {xs ys : List SD} {vs ws : List Value} {s : Shared} {as bs : List Addr} {i : Nat}, ReadsAll s.heap vs (toPys xs) as → ReadsAll s.heap ws (toPys ys) bs →
    M.cmpbs xs ys = true → M.pureDs xs = true → M.pureDs ys = true → PyData.canLayAll0 (toPys xs) = true → PyData.canLayAll0 (toPys ys) = true →
    A.units + 1 + min (PyData.depthAll (toPys xs)) (PyData.depthAll (toPys ys)) < cLine → fin = decide (xs.length < ys.length) → ((b && i == 0) = true → ∀ x r, xs = x :: r → M.rkD x ≠ 4) → Q (M.ltDs xs ys) s → KatLex prog w A b fin Q (vs.zip ws) i s
  | [], ys, vs, ws, s, as, bs, i, ra, rb, c, pa, pb, ca, cb, hu, hf, hb, q => by
    cases ra
    rw [List.zip_nil_left]
    refine kat_nil ?_
    rw [hf]
    cases ys <;> simpa [M.ltDs] using q
  | x :: xs, [], vs, ws, s, as, bs, i, ra, rb, c, pa, pb, ca, cb, hu, hf, hb, q => by
    cases rb
    rw [List.zip_nil_right]
    refine kat_nil ?_
    rw [hf]
    simpa [M.ltDs] using q
  | x :: xs, y :: ys, vs, ws, s, as, bs, i, ra, rb, c, pa, pb, ca, cb, hu, hf, hb, q => by
    cases ra with
    | @cons v vs _ _ a1 a2 r1 r2 =>
      cases rb with
      | @cons w' ws _ _ b1 b2 t1 t2 =>
        obtain ⟨pa1, pa2⟩ := ba (show (M.pureD x && M.pureDs xs) = true by simpa only [M.pureDs] using pa)
        obtain ⟨pb1, pb2⟩ := ba (show (M.pureD y && M.pureDs ys) = true by simpa only [M.pureDs] using pb)
        obtain ⟨ca1, ca2⟩ := ba (show ((toPy x).canLay0 && PyData.canLayAll0 (toPys xs)) = true from ca)
        obtain ⟨cb1, cb2⟩ := ba (show ((toPy y).canLay0 && PyData.canLayAll0 (toPys ys)) = true from cb)
        have e1 : PyData.depthAll (toPys (x :: xs)) = max (toPy x).depth (PyData.depthAll (toPys xs)) := by simp [toPys, PyData.depthAll]
        have e2 : PyData.depthAll (toPys (y :: ys)) = max (toPy y).depth (PyData.depthAll (toPys ys)) := by simp [toPys, PyData.depthAll]
        rw [e1, e2] at hu
        show KatLex prog w A b fin Q ((v, w') :: vs.zip ws) i s
        refine kat_cons (SeqAt.eqAt_reads (toPy x) (toPy y) A s v w' _ _ r1 t1 ca1 cb1 (by omega) prog w _ _ ?_)
        rw [eqv_py x y pa1 pb1]
        rw [M.ltDs_cons] at q
        have c0 : (if x = y then M.cmpbs xs ys else M.cmpb x y) = true := by simpa only [M.cmpbs] using c
        by_cases z : x = y
        · rw [if_pos z] at q c0
          rw [decide_eq_true z]
          refine kat_yes (kat_data r2 t2 c0 pa2 pb2 ca2 cb2 (by omega) ?_ (fun h => ?_) q)
          · rw [hf]; simp
          · simp at h
        · rw [if_neg z] at q c0
          rw [decide_eq_false z]
          refine kat_no ?_
          cases hbi : (b && i == 0) with
          | true =>
            have n4 := hb hbi x xs rfl
            cases x with
            | int m =>
              cases y with
              | int n =>
                cases r1
                cases t1
                refine PyProof.Rows.oneLt_int ?_
                simpa [M.ltD] using q
              | _ => simp [M.cmpb] at c0
            | str m =>
              cases y with
              | str n =>
                cases r1
                cases t1
                refine oneLt_any_str ?_
                simpa [M.ltD, sV_cps] using q
              | _ => simp [M.cmpb] at c0
            | tup _ => exact absurd rfl n4
            | _ => simp [M.cmpb] at c0
          | false =>
            refine kat_one v w' (ltG x y A s v w' _ _ c0 pa1 pb1 ca1 cb1 r1 t1 (by omega) prog w _ _ ?_)
            exact q
theorem first_type {s : Shared} {y : SD} {v : Value} {as : List Addr} {t : Nat} (r : Reads s.heap v (toPy y) as) (e : M.rkD y = t) (ht : t = 2 ∨ t = 3 ∨ t = 4) : Looks (model prog w) s.heap (typeOf v) (if t = 2 then .type "int" else if t = 3 then .type "str" else .type "tuple") := by
  cases y with
  | int i =>
    cases r
    have : t = 2 := e.symm
    subst this
    exact Looks.of_pure rfl
  | str i =>
    cases r
    have : t = 3 := e.symm
    subst this
    exact Looks.of_pure rfl
  | tup xs =>
    have : t = 4 := e.symm
    subst this
    cases r with
    | tuple h1 h2 h3 h4 =>
      rename_i a o vs n
      have key : Looks (model prog w) s.heap (typeOf (.ref a)) o.cls := (Looks.ld h1).andThen .now
      rw [h2] at key
      simpa using key
  | _ =>
    simp [M.rkD] at e
    omega

theorem tups_firsts {s : Shared} {t : Nat} (ht : t = 2 ∨ t = 3 ∨ t = 4) : ∀ {vs : List Value} {ds : List SD} {as : List Addr}, ReadsAll s.heap vs (toPys ds) as → (∀ x ∈ ds, ∃ y r, x = .tup (y :: r) ∧ M.rkD y = t) →
    ∃ fs, KatTups s.heap vs fs ∧ fs.length = ds.length ∧ ∀ v ∈ fs, Looks (model prog w) s.heap (typeOf v) (if t = 2 then .type "int" else if t = 3 then .type "str" else .type "tuple")
  | vs, [], as, r, _ => by
    cases r
    exact ⟨[], KatTups.nil, rfl, fun v h => nomatch h⟩
  | vs, d :: ds, as, r, h => by
    obtain ⟨y, l, e, k⟩ := h d List.mem_cons_self
    subst e
    cases r with
    | cons r1 r2 =>
      obtain ⟨fs, h1, h2, h3⟩ := tups_firsts ht r2 fun x hx => h x (List.mem_cons_of_mem _ hx)
      cases r1 with
      | tuple g1 g2 g3 g4 =>
        rename_i a o us n
        obtain ⟨f, b, e1, e2⟩ := reads_get (j := 0) (d := toPy y) g4 (by simp [toPys])
        refine ⟨f :: fs, KatTups.cons g1 g2 g3 (by simpa using e1) h1, by simp [h2], fun v hv => ?_⟩
        rcases List.mem_cons.mp hv with z | hv
        · rw [z]; exact first_type e2 k ht
        · exact h3 v hv
end
/-- sorted(l), l a list of tuples that read as ds -/
theorem sorted_tups {prog : Program} {w : World} {A : Around} {E : Value → Shared → Prop} {s : Shared} {l : Addr} {its : List Value} {ds : List SD} {as : List Addr} {k : Value → SD} {Q : Value → Shared → Prop} (hl : s.heap.IsList l its.toArray) (hz : its.length ≤ sizeLine)
    (ra : ReadsAll s.heap its (toPys ds) as) (ok : M.tupsOk ds) (can : PyData.canLayAll0 (toPys ds) = true) (hu : A.units + 200 < cLine) (hk : its.map k = ds)
    (h : ∀ (h' : Heap) (d : Addr) (out : List Value), SrtO.Srtd (fun v u => M.ltD (k v) (k u)) out → out.Perm its → (∀ b o, s.heap.get? b = some o → h'.get? b = some o) → s.heap.objs.size ≤ d → (∃ n, h'.get? d = some (seqObj "list" out.toArray n)) → Q (.ref d) { s with heap := h' }) :
    wpAny (model prog w) A (call (.builtin "sorted") [.ref l]) Q E s := by
  obtain ⟨pu, pl, ⟨t, ht, hds⟩, cmp⟩ := ok
  refine SrtO.sorted_ord (swo_lt k) hl hz (fun h2 h₁ a ha kk => ?_) fun out hs hb => ?_
  · intro h' keep
    have all : ∀ b o, s.heap.get? b = some o → h'.get? b = some o := fun b o e => keep b o (kk b o e).1 (kk b o e).2
    have ra' : ReadsAll h' its (toPys ds) as := ReadsAll.keeps all ra
    obtain ⟨fs, f1, f2, f3⟩ := tups_firsts (prog := prog) (w := w) (s := { s with heap := h' }) ht ra' hds
    have ln : its.length = ds.length := by rw [← hk, List.length_map]
    refine ⟨_, fun Q' E' hq => PySem.W.kat_kind (s := { s with heap := h' }) f1 (by omega) f3 (by rcases ht with rfl | rfl | rfl <;> rfl) hq, ?_⟩
    intro p q hp hq
    obtain ⟨i, hi⟩ := List.getElem?_of_mem hp
    obtain ⟨j, hj⟩ := List.getElem?_of_mem hq
    have di : ds[i]? = some (k p.1) := by rw [← hk, List.getElem?_map, hi]; rfl
    have dj : ds[j]? = some (k q.1) := by rw [← hk, List.getElem?_map, hj]; rfl
    obtain ⟨v1, a1, e1, r1⟩ := reads_get ra' (toPys_get di)
    obtain ⟨v2, a2, e2, r2⟩ := reads_get ra' (toPys_get dj)
    rw [hi] at e1
    rw [hj] at e2
    have e1 := Option.some.inj e1
    have e2 := Option.some.inj e2
    have c1 := canAll_at can di
    have c2 := canAll_at can dj
    have u1 := pureDs_at pu di
    have u2 := pureDs_at pu dj
    have m1 := List.mem_of_getElem? di
    have m2 := List.mem_of_getElem? dj
    have cc := cmp _ m1 _ m2
    obtain ⟨x1, l1, ex1, k1⟩ := hds _ m1
    obtain ⟨x2, l2, ex2, k2⟩ := hds _ m2
    have pl1 := plains_at pl di
    show wpAny (model prog w) A.in1.in1 (keyLt' _ p.1 q.1) (fun r s' => s' = { s with heap := h' } ∧ r = M.ltD (k p.1) (k q.1)) (fun _ _ => False) { s with heap := h' }
    rw [e1, e2]
    rw [e1] at ex1 pl1 u1 c1
    rw [e2] at ex2 u2 c2
    rw [e1, e2] at cc
    rw [e1] at r1
    rw [e2] at r2
    rw [ex1] at r1 c1 u1 cc pl1
    rw [ex2] at r2 c2 u2 cc
    have elt : M.ltD (k v1) (k v2) = M.ltDs (x1 :: l1) (x2 :: l2) := by rw [ex1, ex2]; simp only [M.ltD]
    rw [elt]
    cases r1 with
    | tuple g1 g2 g3 g4 =>
      cases r2 with
      | tuple t1 t2 t3 t4 =>
        refine PySem.W.kat_lt g1 g3 t1 t3 ?_
        have dp : PyData.depthAll (toPys (x1 :: l1)) ≤ 190 := by
          have := py_depth 190 _ pl1
          have e : (toPy (M.D.tup (x1 :: l1))).depth = PyData.depthAll (toPys (x1 :: l1)) + 1 := rfl
          omega
        have n1 := reads_len g4
        have n2 := reads_len t4
        have tl : ∀ l : List SD, (toPys l).length = l.length := fun l => by induction l with
          | nil => rfl
          | cons x l h => simp [toPys, h]
        rw [tl] at n1 n2
        refine kat_data g4 t4 (by simpa only [M.cmpb] using cc) (by simpa only [M.pureD] using u1) (by simpa only [M.pureD] using u2) c1 c2 ?_ ?_ (fun hb' x r e => ?_) ⟨rfl, rfl⟩
        · have : A.in1.in1.units = A.units + 2 := rfl
          omega
        · rw [← n1, ← n2]
          simp
        · obtain ⟨rfl, rfl⟩ := List.cons.inj e
          rw [k1]
          rcases ht with rfl | rfl | rfl
          · decide
          · decide
          · simp at hb'
  · exact h _ _ out hs hb.perm (fun b o e => sortedAll_old e) (Nat.le_succ _) (sortedAll_at s.heap its out.toArray)
def rSortT (K : Fr) : List V → Hp → VK → Prop := fun xs H Q => ∃ (a : Addr) (vs : List V) (ds : List SD), xs = [V.ref a] ∧ SqL K H a vs ∧ DpAll K H vs (toPys ds) ∧ M.tupsOk ds ∧ PyData.canLayAll0 (toPys ds) = true ∧
  ∀ ps : List (V × SD), ps.Perm (vs.zip ds) → (ps.map (·.2)).Pairwise (fun a b => M.ltD b a = false) → ∀ p, H p = none → Q (.ref p) (upd H p (.lst (ps.map (·.1))))
theorem dp_ref {K : PySem.W.Frag} {H : Hp} {v : V} {ds : List PyData} (d : Dp K H v (.tuple ds)) : ∃ a, v = V.ref a := by
  cases d
  exact ⟨_, rfl⟩
theorem dps_get {K : PySem.W.Frag} {H : Hp} : ∀ {vs : List V} {ds : List PyData} {v : V}, DpAll K H vs ds → v ∈ vs → ∃ d ∈ ds, Dp K H v d
  | _, _, _, .nil, h => nomatch h
  | _, _, _, .cons d r, h => by
    rcases List.mem_cons.mp h with e | h
    · subst e; exact ⟨_, List.mem_cons_self, d⟩
    · obtain ⟨d', m, x⟩ := dps_get r h
      exact ⟨d', List.mem_cons_of_mem _ m, x⟩
theorem toPys_mem {ds : List SD} {p : PyData} (h : p ∈ toPys ds) : ∃ d ∈ ds, p = toPy d := by
  induction ds with
  | nil => cases h
  | cons x ds ih =>
    rcases List.mem_cons.mp (show p ∈ toPy x :: toPys ds from h) with e | h
    · exact ⟨x, List.mem_cons_self, e⟩
    · obtain ⟨d, m, e⟩ := ih h
      exact ⟨d, List.mem_cons_of_mem _ m, e⟩
open Classical in
/-- the data that a value reads as -/
noncomputable def keyOf (h : Heap) (ds : List SD) (u : Value) : SD := if z : ∃ d, d ∈ ds ∧ ∃ as, Reads h u (toPy d) as then z.choose else .non
theorem keyOf_eq {h : Heap} {ds : List SD} {u : Value} {d : SD} {as : List Addr} (p : M.pureDs ds = true) (c : PyData.canLayAll0 (toPys ds) = true) (m : d ∈ ds) (r : Reads h u (toPy d) as) : keyOf h ds u = d := by
  have z : ∃ d, d ∈ ds ∧ ∃ as, Reads h u (toPy d) as := ⟨d, m, as, r⟩
  have e : keyOf h ds u = z.choose := by unfold keyOf; rw [dif_pos z]
  obtain ⟨m2, as2, r2⟩ := z.choose_spec
  rw [e]
  obtain ⟨i, hi⟩ := List.getElem?_of_mem m
  obtain ⟨j, hj⟩ := List.getElem?_of_mem m2
  exact toPy_inj (pureDs_at p hj) (pureDs_at p hi) (SeqAt.Reads.unique _ _ _ _ _ (canAll_at c hj) r2 r)
theorem keys_eq {h : Heap} {D : List SD} (p : M.pureDs D = true) (c : PyData.canLayAll0 (toPys D) = true) : ∀ {us : List Value} {ds : List SD} {as : List Addr}, (∀ d ∈ ds, d ∈ D) → ReadsAll h us (toPys ds) as → us.map (keyOf h D) = ds
  | _, [], _, _, r => by cases r; rfl
  | _, d :: ds, _, s, r => by
    cases r with
    | cons r1 r2 =>
      rw [List.map_cons, keyOf_eq p c (s d List.mem_cons_self) r1, keys_eq p c (fun x hx => s x (List.mem_cons_of_mem _ hx)) r2]
theorem cr_sortT {X : Cx} (hu : X.A.units + 200 < cLine) : CallR X (.builtin "sorted") (rSortT X.F) := by
  intro pins s σ H xs us Q I r h
  obtain ⟨a, vs, ds, rfl, hs, hd, ok, can, q⟩ := h
  obtain ⟨its, rv, hl, hz⟩ := I.list hs
  obtain ⟨u, rfl, ru⟩ := vals1 r
  obtain rfl : u = Value.ref a := ru
  obtain ⟨as, ra⟩ := Dp.readsAll I _ _ _ hd rv
  have pu := ok.1
  obtain ⟨t, ht, hds⟩ := ok.2.2.1
  obtain ⟨e1, e2⟩ := refs_back rv fun x m => by
    obtain ⟨d, md, dd⟩ := dps_get hd m
    obtain ⟨d', m', e⟩ := toPys_mem md
    obtain ⟨y, l, e3, _⟩ := hds d' m'
    rw [e, e3] at dd
    exact dp_ref dd
  have ek := keys_eq pu can (fun d m => m) ra
  refine sorted_tups (k := keyOf s.heap ds) hl.isList (by rw [← rv.length]; exact hz) ra ok can hu ek fun h' d out so hp kp hd2 hn => ?_
  have h3 : ∀ u ∈ out, ∃ a, u = Value.ref a := fun u hu => e2 u (hp.mem_iff.mp hu)
  obtain ⟨n, hn⟩ := hn
  have ez : vs.zip ds = its.map fun u => (backV u, keyOf s.heap ds u) := by
    conv => lhs; rw [e1, ← ek]
    rw [List.zip_map']
  have ef : (out.map fun u => (backV u, keyOf s.heap ds u)).map (·.1) = out.map backV := by rw [List.map_map]; rfl
  refine ⟨.ref d, upd H d (.lst (out.map backV)), I.laid (t' := s.toks) kp hd2 ⟨?_, out, n, vals_back h3, hn⟩, rfl, ?_⟩
  · rw [List.length_map, hp.length_eq, ← rv.length]; exact hz
  · rw [← ef]
    refine q _ ?_ ?_ d (I.hok.fresh hd2)
    · rw [ez]; exact hp.map _
    · rw [List.map_map]
      exact List.pairwise_map.mpr so
end Snd
end
section
/-! Sound3: comparisons, items, slices, stores. -/
namespace Snd
open PySem L2 PySem.Spec PyProof.Rows
section
variable {K : Fr} {H H1 H' : Hp} {h h1 h' : M.AH} {Qa : M.VQ} {Q : VK} {qb : Bool → Prop}

/-! ### == -/
def rEqP (K : Fr) : R2 := fun x y H Q => ∃ d e, Dp K H x d ∧ Dp K H y e ∧ d.canLay0 = true ∧ e.canLay0 = true ∧ (d.depth ≤ 191 ∨ e.depth ≤ 191) ∧ Q (.bl (PyData.eqv d e)) H
def rNeP (K : Fr) : R2 := fun x y H Q => ∃ d e, Dp K H x d ∧ Dp K H y e ∧ d.canLay0 = true ∧ e.canLay0 = true ∧ (d.depth ≤ 191 ∨ e.depth ≤ 191) ∧ Q (.bl (!PyData.eqv d e)) H
theorem op_eqP {X : Cx} (hu : X.A.units + 200 < cLine) : OpR X (compareOp .Eq) (rEqP X.F) := by
  intro pins s σ H x y v u Q I rx ry h
  obtain ⟨d, e, hd, he, sd, se, dp, q⟩ := h
  obtain ⟨as, r1⟩ := Dp.reads I d x v hd rx
  obtain ⟨bs, r2⟩ := Dp.reads I e y u he ry
  exact SeqAt.compareEq_reads r1 r2 sd se (by omega) ⟨.bl _, H, I, rfl, q⟩
theorem op_neP {X : Cx} (hu : X.A.units + 200 < cLine) : OpR X (compareOp .NotEq) (rNeP X.F) := by
  intro pins s σ H x y v u Q I rx ry h
  obtain ⟨d, e, hd, he, sd, se, dp, q⟩ := h
  obtain ⟨as, r1⟩ := Dp.reads I d x v hd rx
  obtain ⟨bs, r2⟩ := Dp.reads I e y u he ry
  exact SeqAt.compareNe_reads r1 r2 sd se (by omega) ⟨.bl _, H, I, rfl, q⟩
/-- what two equal things are asked -/
def EqK (K : Fr) (x y : V) (H : Hp) (P : Bool → Prop) : Prop := (∃ a b, x = .bl a ∧ y = .bl b ∧ P (decide (a = b))) ∨ ∃ d e, Dp K H x d ∧ Dp K H y e ∧ d.canLay0 = true ∧ e.canLay0 = true ∧ (d.depth ≤ 191 ∨ e.depth ≤ 191) ∧ P (PyData.eqv d e)
theorem eqk {dx dy : SD} {x y : V} {P : Bool → Prop} (rh : RH K H h) (rx : Rep K H dx x) (ry : Rep K H dy y) (q : M.eqOk dx dy h P) : EqK K x y H P := by
  have plainCase : M.pureD dx = true ∧ M.pureD dy = true ∧ (M.plain 190 dx = true ∨ M.plain 190 dy = true) ∧ P (decide (dx = dy)) → EqK K x y H P := fun ⟨p1, p2, dp, q⟩ => by
    refine .inr ⟨toPy dx, toPy dy, rep_dp p1 rx, rep_dp p2 ry, rep_can p1 rx, rep_can p2 ry, ?_, by rw [eqv_py dx dy p1 p2]; exact q⟩
    rcases dp with dp | dp
    · exact .inl (Nat.le_succ_of_le (py_depth _ _ dp))
    · exact .inr (Nat.le_succ_of_le (py_depth _ _ dp))
  cases dx with
  | bl a => cases dy with
    | bl b =>
      cases (show x = _ from rx); cases (show y = _ from ry)
      exact .inl ⟨a, b, rfl, rfl, q⟩
    | _ => exact False.elim q
  | ref p => cases dy with
    | ref p2 =>
      cases (show x = _ from rx); cases (show y = _ from ry)
      obtain ⟨xs, ys, e1, e2, p1, p2, dp, q⟩ := q
      obtain ⟨vs, a1, r1⟩ := rh _ _ e1
      obtain ⟨ws, a2, r2⟩ := rh _ _ e2
      refine .inr ⟨.list (toPys xs), .list (toPys ys), .lst (SqL.of a1) (reps_dp p1 r1), .lst (SqL.of a2) (reps_dp p2 r2), reps_can p1 r1, reps_can p2 r2, ?_, ?_⟩
      · simp only [PyData.depth]
        rcases dp with dp | dp
        · exact .inl (Nat.succ_le_succ (pys_depth _ _ dp))
        · exact .inr (Nat.succ_le_succ (pys_depth _ _ dp))
      · simp only [PyData.eqv, eqv_pys xs ys p1 p2]
        exact q
    | _ => exact False.elim q
  | non => exact plainCase q
  | int _ => exact plainCase q
  | str _ => exact plainCase q
  | tup _ => exact plainCase q
  | rol _ => exact plainCase q

/-! ### in -/
def rDin (neg : Bool) : R2 := fun x y H Q => ∃ a o, y = .ref a ∧ DGet H a x o ∧ Q (.bl (if neg then !o.isSome else o.isSome)) H
theorem op_din {X : Cx} (hu : X.A.units + 1 < cLine) : OpR X (compareOp .In) (rDin false) := by
  intro pins s σ H x y v u Q I rx ry h
  obtain ⟨a, o, rfl, g, q⟩ := h
  obtain rfl : u = Value.ref a := ry
  exact d_in hu I g rx fun s3 I3 => ⟨.bl o.isSome, H, I3, rfl, q⟩
theorem op_dnotin {X : Cx} (hu : X.A.units + 1 < cLine) : OpR X (compareOp .NotIn) (rDin true) := by
  intro pins s σ H x y v u Q I rx ry h
  obtain ⟨a, o, rfl, g, q⟩ := h
  obtain rfl : u = Value.ref a := ry
  exact d_notIn hu I g rx fun s3 I3 => ⟨.bl (!o.isSome), H, I3, rfl, q⟩
def rLin (K : Fr) (neg : Bool) : R2 := fun x y H Q => ∃ d ds, Dp K H x d ∧ Dp K H y (.list ds) ∧ d.canLay0 = true ∧ PyData.canLayAll0 ds = true ∧ (d.depth ≤ 191 ∨ PyData.depthAll ds ≤ 191) ∧ Q (.bl (if neg then !ds.any fun z => PyData.eqv z d else ds.any fun z => PyData.eqv z d)) H
theorem op_lin {X : Cx} (hu : X.A.units + 200 < cLine) : OpR X (compareOp .In) (rLin X.F false) := by
  intro pins s σ H x y v u Q I rx ry h
  obtain ⟨d, ds, hd, he, sd, se, dp, q⟩ := h
  obtain ⟨as, r1⟩ := Dp.reads I d x v hd rx
  obtain ⟨bs, r2⟩ := Dp.reads I (.list ds) y u he ry
  exact SeqAt.in_list_reads r2 r1 se sd (by omega) ⟨.bl _, H, I, rfl, q⟩
theorem op_lnotin {X : Cx} (hu : X.A.units + 200 < cLine) : OpR X (compareOp .NotIn) (rLin X.F true) := by
  intro pins s σ H x y v u Q I rx ry h
  obtain ⟨d, ds, hd, he, sd, se, dp, q⟩ := h
  obtain ⟨as, r1⟩ := Dp.reads I d x v hd rx
  obtain ⟨bs, r2⟩ := Dp.reads I (.list ds) y u he ry
  exact SeqAt.notIn_list_reads r2 r1 se sd (by omega) ⟨.bl _, H, I, rfl, q⟩
theorem any_py : ∀ (xs : List SD) (x : SD), M.pureDs xs = true → M.pureD x = true → ((toPys xs).any fun z => PyData.eqv z (toPy x)) = xs.any fun y => decide (y = x)
  | [], _, _, _ => rfl
  | y :: ys, x, p, q => by
    obtain ⟨p1, p2⟩ := ba (show (M.pureD y && M.pureDs ys) = true by simpa only [M.pureDs] using p)
    show (PyData.eqv (toPy y) (toPy x) || (toPys ys).any fun z => PyData.eqv z (toPy x)) = _
    rw [eqv_py y x p1 q, any_py ys x p2 q, List.any_cons]
/-- keys -/
theorem keyV_inj {a b : SD} {k : Key} (h1 : keyV a = some k) (h2 : keyV b = some k) : a = b := by
  cases a <;> simp [keyV] at h1
  · cases b <;> simp [keyV] at h2
    · subst h1; rw [Sum.inl.inj h2]
    · subst h1; cases h2
  · cases b <;> simp [keyV] at h2
    · subst h1; cases h2
    · subst h1; rw [sV_inj (Sum.inr.inj h2)]
theorem keyV_rep {d : SD} {k : Key} {v : V} (e : keyV d = some k) (r : Rep K H d v) : v = kV k := by
  cases d <;> simp [keyV] at e
  · subst e; exact r
  · subst e; exact r.1
theorem keyOk0 {d : SD} (k : M.keyOk 0 d = true) : ∃ x, keyV d = some x := by
  cases d <;> first | exact ⟨_, rfl⟩ | simp [M.keyOk] at k
theorem rep_str {d : SD} {v : V} (r : Rep K H d v) : ∀ s, d = .str s → sOk s := fun s e => by subst e; exact r.2
theorem reps_str {ds : List SD} {vs : List V} (r : Reps K H ds vs) : ∀ d ∈ ds, ∀ s, d = .str s → sOk s := by
  induction ds generalizing vs with
  | nil => intro d hd; cases hd
  | cons a as ih =>
    obtain ⟨v, w, _, r1, r2⟩ := r
    intro d hd
    rcases List.mem_cons.mp hd with e | hd
    · subst e; exact rep_str r1
    · exact ih r2 d hd

/-- a table of any kind of keys: how the two look-ups agree -/
structure KeyRel (κ : Type) [DecidableEq κ] (K : Fr) (H : Hp) (R : SD → κ → Prop) : Prop where
  inj : ∀ a b k, R a k → R b k → a = b
  fn : ∀ a k k', R a k → R a k' → k = k'
abbrev PR {κ : Type} (K : Fr) (H : Hp) (R : SD → κ → Prop) := fun (x : SD × SD) (p : κ × V) => R x.1 p.1 ∧ Rep K H x.2 p.2
section
variable {κ : Type} [DecidableEq κ] {R : SD → κ → Prop} (kr : KeyRel κ K H R)
include kr
theorem kv_get {kvs : List (SD × SD)} {ps : List (κ × V)} (r : Paired (PR K H R) kvs ps) {d : SD} {k : κ} (hk : R d k) :
    (M.kvGet kvs d = none ∧ valV ps k = none) ∨ ∃ e v, M.kvGet kvs d = some e ∧ valV ps k = some v ∧ Rep K H e v := by
  induction r with
  | nil => exact .inl ⟨rfl, rfl⟩
  | @cons x p xs ps hx t ih =>
    by_cases e : x.1 = d
    · have e2 : p.1 = k := kr.fn _ _ _ (e ▸ hx.1) hk
      exact .inr ⟨x.2, p.2, by simp [M.kvGet, List.find?_cons, e], valV_pos e2, hx.2⟩
    · have e2 : ¬ p.1 = k := fun z => e (kr.inj _ _ _ (z ▸ hx.1) hk)
      have e3 : M.kvGet (x :: xs) d = M.kvGet xs d := by simp [M.kvGet, List.find?_cons, e]
      rw [e3, valV_neg e2]
      exact ih
theorem kv_any {kvs : List (SD × SD)} {ps : List (κ × V)} (r : Paired (PR K H R) kvs ps) {d : SD} {k : κ} (hk : R d k) :
    (kvs.any fun kv => decide (kv.1 = d)) = ps.any fun kv => decide (kv.1 = k) := by
  induction r with
  | nil => rfl
  | @cons x p xs ps hx t ih =>
    rw [List.any_cons, List.any_cons, ih]
    congr 1
    by_cases e : x.1 = d
    · have e2 : p.1 = k := kr.fn _ _ _ (e ▸ hx.1) hk
      rw [decide_eq_true e, decide_eq_true e2]
    · have e2 : ¬ p.1 = k := fun z => e (kr.inj _ _ _ (z ▸ hx.1) hk)
      rw [decide_eq_false e, decide_eq_false e2]
theorem kv_repl {kvs : List (SD × SD)} {ps : List (κ × V)} (r : Paired (PR K H R) kvs ps) {d e : SD} {k : κ} {v : V} (hk : R d k) (re : Rep K H e v) :
    Paired (PR K H R) (kvs.map fun kv => if kv.1 = d then (kv.1, e) else kv) (ps.map fun kv => if kv.1 = k then (kv.1, v) else kv) := by
  induction r with
  | nil => exact .nil
  | @cons x p xs ps hx t ih =>
    rw [List.map_cons, List.map_cons]
    refine .cons ?_ ih
    by_cases e : x.1 = d
    · have e2 : p.1 = k := kr.fn _ _ _ (e ▸ hx.1) hk
      rw [if_pos e, if_pos e2]
      exact ⟨hx.1, re⟩
    · have e2 : ¬ p.1 = k := fun z => e (kr.inj _ _ _ (z ▸ hx.1) hk)
      rw [if_neg e, if_neg e2]
      exact hx
theorem kv_put {kvs : List (SD × SD)} {ps : List (κ × V)} (r : Paired (PR K H R) kvs ps) {d e : SD} {k : κ} {v : V} (hk : R d k) (re : Rep K H e v) : Paired (PR K H R) (M.kvPut kvs d e) (putK ps k v) := by
  unfold M.kvPut putK
  rw [kv_any kr r hk]
  by_cases z : (ps.any fun kv => decide (kv.1 = k)) = true
  · rw [if_pos z, if_pos z]; exact kv_repl kr r hk re
  · rw [if_neg z, if_neg z]; exact Paired.snoc r ⟨hk, re⟩
end
def R0 : SD → Key → Prop := fun d k => keyV d = some k ∧ ∀ s, d = .str s → sOk s
theorem kr0 : KeyRel Key K H R0 := ⟨fun a b k h1 h2 => keyV_inj h1.1 h2.1, fun a k k' h1 h2 => Option.some.inj (h1.1.symm.trans h2.1)⟩
theorem dct0 {p : Addr} {kvs : List (SD × SD)} : ObRep K H p (.dct 0 kvs) ↔ ∃ ps : List (Key × V), H p = some (.dK ps) ∧ Paired (PR K H R0) kvs ps :=
  ⟨fun ⟨ps, e, r⟩ => ⟨ps, e, Paired.mapP r fun _ _ z => ⟨⟨z.1, z.2.1⟩, z.2.2⟩⟩, fun ⟨ps, e, r⟩ => ⟨ps, e, Paired.mapP r fun _ _ z => ⟨z.1.1, z.1.2, z.2⟩⟩⟩
/-- what a dict says of a key -/
theorem dget_ok {p : Addr} {kd : Nat} {kvs : List (SD × SD)} {d : SD} {v : V} (o : ObRep K H p (.dct kd kvs)) (kk : M.keyOk kd d = true) (r : Rep K H d v) :
    ∃ ov, DGet H p v ov ∧ ((M.kvGet kvs d = none ∧ ov = none) ∨ ∃ e w, M.kvGet kvs d = some e ∧ ov = some w ∧ Rep K H e w) := by
  match kd, o, kk with
  | 0, o, kk =>
    obtain ⟨ps, e, pr⟩ := dct0.mp o
    obtain ⟨k, ek⟩ := keyOk0 kk
    have ev := keyV_rep ek r
    subst ev
    refine ⟨valV ps k, DGet.k e, ?_⟩
    exact (kv_get kr0 pr ⟨ek, rep_str r⟩).imp (fun z => z) (fun ⟨e, v, a, b, c⟩ => ⟨e, v, a, b, c⟩)
theorem rdct0 {p : Addr} {kvs : List (SD × SD)} : ObRep K H p (.rdct 0 kvs) ↔ ∃ (od : Obj) (ps : List (Key × V)), H p = some (.frz od (.dK ps)) ∧ Paired (PR K H R0) kvs ps :=
  ⟨fun ⟨od, ps, e, r⟩ => ⟨od, ps, e, Paired.mapP r fun _ _ z => ⟨⟨z.1, z.2.1⟩, z.2.2⟩⟩, fun ⟨od, ps, e, r⟩ => ⟨od, ps, e, Paired.mapP r fun _ _ z => ⟨z.1.1, z.1.2, z.2⟩⟩⟩
theorem rd_dct {p : Addr} {kd : Nat} {kvs : List (SD × SD)} (o : ObRep K H p (.dct kd kvs) ∨ ObRep K H p (.rdct kd kvs)) : kd = 0 ∧ ∃ ps : List (Key × V), Rd H p (.dK ps) ∧ Paired (PR K H R0) kvs ps := by
  rcases o with o | o
  · match kd, o with
    | 0, o => obtain ⟨ps, e, pr⟩ := dct0.mp o; exact ⟨rfl, ps, .inl e, pr⟩
  · match kd, o with
    | 0, o => obtain ⟨od, ps, e, pr⟩ := rdct0.mp o; exact ⟨rfl, ps, .inr ⟨od, e⟩, pr⟩
theorem dget_rok {p : Addr} {kd : Nat} {kvs : List (SD × SD)} {d : SD} {v : V} (o : ObRep K H p (.rdct kd kvs)) (kk : M.keyOk kd d = true) (r : Rep K H d v) :
    ∃ ov, DGet H p v ov ∧ ((M.kvGet kvs d = none ∧ ov = none) ∨ ∃ e w, M.kvGet kvs d = some e ∧ ov = some w ∧ Rep K H e w) := by
  obtain ⟨rfl, ps, e, pr⟩ := rd_dct (.inr o)
  obtain ⟨k, ek⟩ := keyOk0 kk
  have ev := keyV_rep ek r
  subst ev
  refine ⟨valV ps k, .inl ⟨ps, k, e, rfl, rfl⟩, ?_⟩
  exact (kv_get kr0 pr ⟨ek, rep_str r⟩).imp (fun z => z) (fun ⟨e, v, a, b, c⟩ => ⟨e, v, a, b, c⟩)
theorem dput_ok {p : Addr} {kd : Nat} {kvs : List (SD × SD)} {d e : SD} {v w : V} (o : ObRep K H p (.dct kd kvs)) (kk : M.keyOk kd d = true) (r : Rep K H d v) (re : Rep K H e w) (hz : kvs.length < M.LINE) (hp : h p = some (.dct kd kvs)) (rh : RH K H h) :
    ∃ H', DPut H p v w H' ∧ Frm H h H' (M.up h p (.dct kd (M.kvPut kvs d e))) ∧ RH K H' (M.up h p (.dct kd (M.kvPut kvs d e))) := by
  match kd, o, kk, hp with
  | 0, o, kk, hp =>
    obtain ⟨ps, e1, pr⟩ := dct0.mp o
    obtain ⟨k, ek⟩ := keyOk0 kk
    have ev := keyV_rep ek r
    subst ev
    have hl := line_eq
    have hn := Paired.length pr
    refine ⟨_, DPut.k e1 (by omega), frm_put hp, rh_put rh hp ?_⟩
    refine dct0.mpr ⟨_, upd_same, ?_⟩
    have kp : Kp H (upd H p (.dK (putK ps k w))) := kp_put rh hp
    exact Paired.mapP (kv_put kr0 pr ⟨ek, rep_str r⟩ re) fun _ _ z => ⟨z.1, z.2.kp kp⟩

/-! == of what holds lists and dicts -/
def rEqS (K : Fr) : R2 := fun x y H Q => ∃ (h : M.AH) (a b : SD) (r : Bool), RH K H h ∧ Rep K H a x ∧ Rep K H b y ∧ M.EqS (M.EqD 20 h) h a b r ∧ Q (.bl r) H
section
variable {X : L2.Cx} {pins : List (Addr × Obj)} {σ : L2.St} {s : Shared}
theorem all2_run {A : Around} {R : SD → SD → Prop} (ih : ∀ a b x y v u, R a b → Rep X.F H a x → Rep X.F H b y → RelV x v → RelV y u → SeqAt.EqP X.prog X.w A s v u true) : ∀ {as bs : List SD} {xs ys : List V} {us ws : List Value}, M.All2 R as bs → Reps X.F H as xs → Reps X.F H bs ys → Vals xs us → Vals ys ws →
    us.length = ws.length ∧ ∀ j (h1 : j < us.length) (h2 : j < ws.length), SeqAt.EqP X.prog X.w A s us[j] ws[j] true
  | [], [], _, _, _, _, _, r1, r2, v1, v2 => by
    cases (show _ = _ from r1); cases (show _ = _ from r2)
    cases v1; cases v2
    exact ⟨rfl, fun j h1 => absurd h1 (Nat.not_lt_zero j)⟩
  | [], _ :: _, _, _, _, _, h, _, _, _, _ => h.elim
  | _ :: _, [], _, _, _, _, h, _, _, _, _ => h.elim
  | a :: as, b :: bs, _, _, _, _, ⟨h1, h2⟩, ⟨v, r, e, a1, a2⟩, ⟨v', r', e', b1, b2⟩, v1, v2 => by
    subst e; subst e'
    cases v1 with
    | cons p1 p2 => cases v2 with
      | cons q1 q2 =>
        obtain ⟨l, k⟩ := all2_run ih h2 a2 b2 p2 q2
        refine ⟨by simp [l], fun j j1 j2 => ?_⟩
        cases j with
        | zero => exact ih _ _ _ _ _ _ h1 a1 b1 p1 q1
        | succ j => exact k j (Nat.lt_of_succ_lt_succ j1) (Nat.lt_of_succ_lt_succ j2)
theorem hitsD_run (I : Inv X pins σ H s) {A : Around} {R : SD → SD → Bool → Prop} (ih : ∀ a b x y v u r, R a b r → Rep X.F H a x → Rep X.F H b y → RelV x v → RelV y u → SeqAt.EqP X.prog X.w A s v u r) {kws : List (SD × SD)} {ls : List (Key × V)} {vb : List (Key × Value)} (pb : Paired (PR X.F H R0) kws ls) (rb : KV ls vb) :
    ∀ {kvs : List (SD × SD)} {ks : List (Key × V)} {va : List (Key × Value)} {r : Bool}, M.HitsD R kws kvs r → Paired (PR X.F H R0) kvs ks → KV ks va → PySem.W.KeqHitsP X.prog X.w A s vb va r
  | [], _, _, r, h, pa, ra => by
    cases pa
    unfold KV at ra
    cases ra
    rw [show r = true from h]
    exact .nil
  | kv :: kvs, _, _, r, h, pa, ra => by
    cases pa with
    | @cons _ p _ ps hp tp =>
      unfold KV at ra
      cases ra with
      | @cons _ q _ qs hq tq =>
        obtain ⟨h1, h2⟩ := hq
        obtain ⟨key, v⟩ := q
        have h1' : p.1 = key := h1
        subst h1'
        have look := rb.val p.1
        have kg := kv_get kr0 pb (d := kv.1) (k := p.1) hp.1
        rcases h with ⟨e, rfl⟩ | ⟨u, e, r', e1, e2, e3, rfl⟩
        · rcases kg with ⟨_, g2⟩ | ⟨_, _, g1, _⟩
          · rw [g2] at look
            refine .miss ?_
            have := look.isSome_eq
            cases z : valueAt vb p.1 with
            | none => rfl
            | some _ => rw [z] at this; cases this
          · rw [e] at g1; cases g1
        · rcases kg with ⟨g1, _⟩ | ⟨d, w, g1, g2, g3⟩
          · rw [e1] at g1; cases g1
          · rw [e1] at g1; cases g1
            rw [g2] at look
            obtain ⟨y, hy, ry⟩ := look.some_of
            exact .hit hy (ih _ _ _ _ _ _ _ e2 hp.2 g3 h2 ry) (hitsD_run I ih pb rb e3 tp tq)
theorem eqS_run (I : Inv X pins σ H s) (rh : RH X.F H h) {A : Around} {R : SD → SD → Bool → Prop} (hu : A.units < cLine) (ih : ∀ a b x y v u r, R a b r → Rep X.F H a x → Rep X.F H b y → RelV x v → RelV y u → SeqAt.EqP X.prog X.w A.in1 s v u r) {a b : SD} {x y : V} {v u : Value} {r : Bool}
    (q : M.EqS R h a b r) (ra : Rep X.F H a x) (rb : Rep X.F H b y) (rx : RelV x v) (ry : RelV y u) (E Q : Value → Shared → Prop) (k : Q (.bool r) s) : wpAny (model X.prog X.w) A (richCompare .Eq v u) Q E s := by
  have ih2 : ∀ a b x y v u, R a b true → Rep X.F H a x → Rep X.F H b y → RelV x v → RelV y u → SeqAt.EqP X.prog X.w A.in1 s v u true := fun a b x y v u z => ih a b x y v u true z
  rcases q with ⟨xs, ys, rfl, rfl, al, rfl⟩ | ⟨p, q, xs, ys, rfl, rfl, ne, e1, e2, al, rfl⟩ | ⟨p, q, kvs, kws, r', rfl, rfl, ne, e1, e2, hits, rfl⟩
  · obtain ⟨a1, vs, e1, t1, s1⟩ := ra
    obtain ⟨a2, ws, e2, t2, s2⟩ := rb
    subst e1; subst e2
    cases (show v = Value.ref a1 from rx); cases (show u = Value.ref a2 from ry)
    obtain ⟨us1, w1, p1, _⟩ := I.tuple (show SqT X.F H a1 vs from t1.imp .inl id)
    obtain ⟨us2, w2, p2, _⟩ := I.tuple (show SqT X.F H a2 ws from t2.imp .inl id)
    obtain ⟨l, k2⟩ := all2_run ih2 al s1 s2 w1 w2
    refine GQ.rc_tupG (items := us1.toArray) (items2 := us2.toArray) (by simpa using l) hu (fun _ s' => s' = s) p1 p2 (fun i h1 h2 s' e => ?_) (fun s' e => by rw [e]; exact k) rfl
    subst e
    have := k2 i (by simpa using h1) (by simpa using h2) E (fun r s'' => r = true ∧ s'' = s') ⟨rfl, rfl⟩
    simpa using this
  · cases (show x = _ from ra); cases (show y = _ from rb)
    cases (show v = Value.ref p from rx); cases (show u = Value.ref q from ry)
    obtain ⟨vs, a1, r1⟩ := rh p _ e1
    obtain ⟨ws, a2, r2⟩ := rh q _ e2
    obtain ⟨us1, w1, p1, _⟩ := I.list (SqL.of (K := X.F) a1)
    obtain ⟨us2, w2, p2, _⟩ := I.list (SqL.of (K := X.F) a2)
    obtain ⟨l, k2⟩ := all2_run ih2 al r1 r2 w1 w2
    refine SeqAt.rcP_lists (e := fun _ => true) p1.isList p2.isList (by simpa using l) hu (fun j h1 h2 => ?_) E Q ?_
    · have := k2 j (by simpa using h1) (by simpa using h2)
      simpa using this
    · rw [show ((List.range us1.toArray.size).all fun _ => true) = true from List.all_eq_true.mpr fun _ _ => rfl]
      exact k
  · cases (show x = _ from ra); cases (show y = _ from rb)
    cases (show v = Value.ref p from rx); cases (show u = Value.ref q from ry)
    obtain ⟨ks, a1, pa⟩ := dct0.mp (rh p _ e1)
    obtain ⟨ls, a2, pb⟩ := dct0.mp (rh q _ e2)
    obtain ⟨_, ya, va, ka, da⟩ := dk_of I.hok a1
    obtain ⟨_, yb, vb, kb, db⟩ := dk_of I.hok a2
    have n1 : kvs.length = va.length := (Paired.length pa).trans ka.length
    have n2 : kws.length = vb.length := (Paired.length pb).trans kb.length
    refine PySem.W.rcP_dicts (knd := mixKind X.prog X.w) (r := r') ya yb da db hu (fun hl => hitsD_run I ih pb kb (hits (by omega)) pa ka) E Q ?_
    rw [← n1, ← n2]
    exact k
theorem eqD_run (I : Inv X pins σ H s) (rh : RH X.F H h) : ∀ (n : Nat) (A : Around), A.units + n + 179 < cLine → ∀ (a b : SD) (x y : V) (v u : Value) (r : Bool), M.EqD n h a b r → Rep X.F H a x → Rep X.F H b y → RelV x v → RelV y u → SeqAt.EqP X.prog X.w A s v u r
  | 0, _, _, _, _, _, _, _, _, _, h, _, _, _, _ => (show False from h).elim
  | n + 1, A, hu, a, b, x, y, v, u, r, q, ra, rb, rx, ry => by
    rcases q with ⟨p1, p2, dp, rfl⟩ | ⟨p, rfl, rfl, rfl⟩ | q
    · obtain ⟨as, r1⟩ := Dp.reads I _ x v (rep_dp p1 ra) rx
      obtain ⟨bs, r2⟩ := Dp.reads I _ y u (rep_dp p2 rb) ry
      rw [← eqv_py a b p1 p2]
      refine (SeqAt.eqAt_reads _ _ A s v u as bs r1 r2 (rep_can p1 ra) (rep_can p2 rb) ?_).eqP
      have : min (toPy a).depth (toPy b).depth ≤ 170 + n := by
        rcases dp with dp | dp
        · exact Nat.le_trans (Nat.min_le_left _ _) (py_depth _ _ dp)
        · exact Nat.le_trans (Nat.min_le_right _ _) (py_depth _ _ dp)
      omega
    · cases (show x = _ from ra); cases (show y = _ from rb)
      cases (show v = Value.ref p from rx); cases (show u = Value.ref p from ry)
      exact (SeqAt.EqAt.same _).eqP
    · have step := fun E Q k => eqS_run I rh (A := A) (by omega) (fun a b x y v u r z => eqD_run I rh n A.in1 (by show A.units + 1 + n + 179 < cLine; omega) a b x y v u r z) q ra rb rx ry E Q k
      rcases q with ⟨xs, ys, rfl, rfl, al, rfl⟩ | ⟨p, q, xs, ys, rfl, rfl, ne, e1, e2, al, rfl⟩ | ⟨p, q, kvs, kws, r', rfl, rfl, ne, e1, e2, hits, rfl⟩
      · obtain ⟨a1, vs, e1, t1, s1⟩ := ra
        obtain ⟨a2, ws, e2, t2, s2⟩ := rb
        subst e1; subst e2
        cases (show v = Value.ref a1 from rx); cases (show u = Value.ref a2 from ry)
        by_cases e : a1 = a2
        · subst e; exact (SeqAt.EqAt.same _).eqP
        · exact SeqAt.eqP_refs e step
      · cases (show x = _ from ra); cases (show y = _ from rb)
        cases (show v = Value.ref p from rx); cases (show u = Value.ref q from ry)
        exact SeqAt.eqP_refs ne step
      · cases (show x = _ from ra); cases (show y = _ from rb)
        cases (show v = Value.ref p from rx); cases (show u = Value.ref q from ry)
        exact SeqAt.eqP_refs ne step
end
theorem op_eqS {X : L2.Cx} (hu : X.A.units + 200 < cLine) : OpR X (compareOp .Eq) (rEqS X.F) := by
  intro pins s σ H x y v u Q I rx ry h
  obtain ⟨hh, a, b, r, rh, ra, rb, e, q⟩ := h
  exact eqS_run I rh (A := X.A) (by omega) (fun a b x y v u r z => eqD_run I rh 20 X.A.in1 (by show X.A.units + 1 + 20 + 179 < cLine; omega) a b x y v u r z) e ra rb rx ry _ _ ⟨.bl r, H, I, rfl, q⟩
/-! != of two dicts -/
def rNeS (K : Fr) : R2 := fun x y H Q => ∃ (h : M.AH) (a b : SD), RH K H h ∧ Rep K H a x ∧ Rep K H b y ∧ M.neD a b h fun r => Q (.bl r) H
theorem ne_dicts {κ : Type} [DecidableEq κ] {prog : Program} {w : World} {knd : PySem.KeyKind prog w κ} {A : Around} {s : Shared} {a b : Addr} {ka kb : List (κ × Value)} {r : Bool} (ha : (a == sysModules) = false) (hb : (b == sysModules) = false)
    (da : s.heap.DictOf knd a ka) (db : s.heap.DictOf knd b kb) (hu : A.units < cLine) (hits : ka.length = kb.length → PySem.W.KeqHitsP prog w A.in1 s kb ka r) {E Q : Value → Shared → Prop} (h : Q (.bool (!(ka.length == kb.length && r))) s) : wpAny (model prog w) A (compareOp .NotEq (.ref a) (.ref b)) Q E s := by
  have e1 := F.slot_dict_ne
  refine wpAny_richCompare_same_room (op := .NotEq) da.typeIs db.typeIs e1 (wpAny_call_entry e1 da.typeIs F.entry_dict_ne ?_ (F.args_dict_ne_2 _ _)) hu
  show wpAny _ _ (Builtin.Dict.dictSlotArgs "__ne__" ⟨[.ref a, .ref b], []⟩ >>= _) _ _ s
  refine wpAny_bind ?_
  unfold Builtin.Dict.dictSlotArgs
  refine wpAny_bind (wpAny_notOrdered_dict da.typeIs ?_)
  show wpAny _ _ (pure (Value.ref a, Value.ref b)) _ _ s
  refine wpAny_pure (wpAny_bind (wpAny_isInstance (T := "dict") db.typeIs F.sub_dict_dict ?_))
  simp only [Bool.not_true, Bool.false_eq_true, if_false]
  refine wpAny_bind (wpAny_pure (wpAny_bind (wpAny_pure (wpAny_bind (PySem.W.samePairsP ha hb da db hits ?_)))))
  refine wpAny_pure ⟨_, rfl, (fun x => nomatch x), ?_⟩
  simpa using h
theorem op_neS {X : L2.Cx} (hu : X.A.units + 200 < cLine) : OpR X (compareOp .NotEq) (rNeS X.F) := by
  intro pins s σ H x y v u Q I rx ry h
  obtain ⟨hh, a, b, rh, ra, rb, p, q, kvs, kws, r', rfl, rfl, e1, e2, hits, q0⟩ := h
  cases (show x = _ from ra); cases (show y = _ from rb)
  cases (show v = Value.ref p from rx); cases (show u = Value.ref q from ry)
  obtain ⟨ks, a1, pa⟩ := dct0.mp (rh p _ e1)
  obtain ⟨ls, a2, pb⟩ := dct0.mp (rh q _ e2)
  obtain ⟨_, ya, va, ka, da⟩ := dk_of I.hok a1
  obtain ⟨_, yb, vb, kb, db⟩ := dk_of I.hok a2
  have n1 : kvs.length = va.length := (Paired.length pa).trans ka.length
  have n2 : kws.length = vb.length := (Paired.length pb).trans kb.length
  refine ne_dicts (knd := mixKind X.prog X.w) (r := r') ya yb da db (by omega) (fun hl => hitsD_run I (fun a b x y v u r z => eqD_run I rh 20 X.A.in1 (by show X.A.units + 1 + 20 + 179 < cLine; omega) a b x y v u r z) pb kb (hits (by omega)) pa ka) ?_
  rw [← n1, ← n2]
  exact ⟨.bl _, H, I, rfl, q0⟩
/-! ### dicts with nested keys -/
mutual
theorem nK_inj : ∀ (a b : SD), M.pureD a = true → M.pureD b = true → nK a = nK b → a = b
  | .non, b, _, q, e => by cases b <;> simp [M.pureD, nK] at q e ⊢
  | .int i, b, _, q, e => by cases b <;> simp [M.pureD, nK] at q e ⊢; exact e
  | .str s, b, _, q, e => by cases b <;> simp [M.pureD, nK] at q e ⊢; exact sV_inj e
  | .tup xs, b, p, q, e => by
    cases b <;> simp [M.pureD, nK] at p q e ⊢
    exact nKs_inj xs _ p q e
  | .bl _, _, p, _, _ => by simp [M.pureD] at p
  | .ref _, _, p, _, _ => by simp [M.pureD] at p
  | .rol _, _, p, _, _ => by simp [M.pureD] at p
theorem nKs_inj : ∀ (as bs : List SD), M.pureDs as = true → M.pureDs bs = true → nKs as = nKs bs → as = bs
  | [], bs, _, _, e => by cases bs <;> simp [nKs] at e ⊢
  | a :: as, bs, p, q, e => by
    cases bs with
    | nil => simp [nKs] at e
    | cons b bs =>
      simp only [M.pureDs, Bool.and_eq_true] at p q
      simp only [nKs, List.cons.injEq] at e ⊢
      exact ⟨nK_inj a b p.1 q.1 e.1, nKs_inj as bs p.2 q.2 e.2⟩
end
mutual
theorem nk_depth : ∀ (n : Nat) (d : SD), M.plain n d = true → (nK d).depth ≤ n
  | _, .non, _ => by simp [nK, NestedKey.depth]
  | _, .int _, _ => by simp [nK, NestedKey.depth]
  | _, .str _, _ => by simp [nK, NestedKey.depth]
  | _, .bl _, _ => by simp [nK, NestedKey.depth]
  | _, .ref _, _ => by simp [nK, NestedKey.depth]
  | _, .rol _, _ => by simp [nK, NestedKey.depth]
  | 0, .tup ds, h => by simp [M.plain] at h
  | n + 1, .tup ds, h => by
    simp only [M.plain] at h
    simp only [nK, NestedKey.depth]
    exact Nat.succ_le_succ (nks_depth n ds h)
theorem nks_depth : ∀ (n : Nat) (ds : List SD), M.plains n ds = true → NestedKey.depthAll (nKs ds) ≤ n
  | _, [], _ => by simp [nKs, NestedKey.depthAll]
  | n, d :: ds, h => by
    simp only [M.plains, Bool.and_eq_true] at h
    simp only [nKs, NestedKey.depthAll]
    exact Nat.max_le.mpr ⟨nk_depth n d h.1, nks_depth n ds h.2⟩
end
section
variable {X : L2.Cx} {pins : List (Addr × Obj)} {σ : L2.St} {s : Shared}
mutual
theorem rep_ni (I : Inv X pins σ H s) : ∀ (d : SD) (v : V) (u : Value), M.pureD d = true → Rep X.F H d v → RelV v u → NestedIs s.heap (nK d) u
  | .non, v, u, _, r, ru => by cases (show v = _ from r); cases (show u = _ from ru); exact .none
  | .int i, v, u, _, r, ru => by
    cases (show v = _ from r)
    obtain ⟨t, rfl⟩ := (show ∃ t, u = Value.int i t from ru)
    exact .int i t
  | .str x, v, u, _, r, ru => by
    cases (show v = _ from r.1)
    obtain ⟨t, rfl⟩ := (show ∃ t, u = Value.str (sV x) t from ru)
    exact .text _ t
  | .tup ds, v, u, p, ⟨a, vs, e, t, rs⟩, ru => by
    subst e
    cases (show u = Value.ref a from ru)
    obtain ⟨us, w, ⟨o, h1, h2, n, h3⟩, _⟩ := I.tuple (show SqT X.K H a vs from t.imp .inl id)
    exact .tup h1 h2 h3 (reps_ni I ds vs us (by simpa only [M.pureD] using p) rs w)
  | .bl _, _, _, p, _, _ => by simp [M.pureD] at p
  | .ref _, _, _, p, _, _ => by simp [M.pureD] at p
  | .rol _, _, _, p, _, _ => by simp [M.pureD] at p
theorem reps_ni (I : Inv X pins σ H s) : ∀ (ds : List SD) (vs : List V) (us : List Value), M.pureDs ds = true → Reps X.F H ds vs → Vals vs us → NestedAll s.heap (nKs ds) us
  | [], vs, us, _, r, w => by cases (show vs = [] from r); cases w; exact .nil
  | d :: ds, _, us, p, ⟨v, r, e, a, b⟩, w => by
    subst e
    simp only [M.pureDs, Bool.and_eq_true] at p
    cases w with
    | cons w1 w2 => exact .cons (rep_ni I d v _ p.1 a w1) (reps_ni I ds r _ p.2 b w2)
end
theorem nk_pure {d : SD} (h : M.nkOk d = true) : M.pureD d = true ∧ M.plain 8 d = true := by
  cases d with
  | tup ds =>
    simp only [M.nkOk, Bool.and_eq_true] at h
    exact ⟨by simp only [M.pureD]; exact h.1, by simp only [M.plain]; exact h.2⟩
  | _ => simp [M.nkOk] at h
theorem nk_is (I : Inv X pins σ H s) {d : SD} {a : Addr} (h : M.nkOk d = true) (r : Rep X.F H d (.ref a)) : (nestedKind X.prog X.w).is s.heap (nK d) a :=
  ⟨rep_ni I d _ _ (nk_pure h).1 r rfl, nk_depth 8 d (nk_pure h).2⟩
end
abbrev PN (K : Fr) (H : Hp) := fun (x : SD × SD) (p : NestedKey × Addr × V) => p.1 = nK x.1 ∧ M.nkOk x.1 = true ∧ Rep K H x.1 (.ref p.2.1) ∧ Rep K H x.2 p.2.2
abbrev PY := fun (p : NestedKey × Addr × V) (q : NestedKey × Addr × Value) => p.1 = q.1 ∧ p.2.1 = q.2.1 ∧ RelV p.2.2 q.2.2
def putX (k : NestedKey) (v : V) (x : NestedKey × Addr × V) : NestedKey × Addr × V := if x.1 = k then (x.1, x.2.1, v) else x
def storedX (xs : List (NestedKey × Addr × V)) (k : NestedKey) (a : Addr) (v : V) : List (NestedKey × Addr × V) := if (xs.any fun x => decide (x.1 = k)) = true then xs.map (putX k v) else xs ++ [(k, a, v)]
theorem storedX_len {xs : List (NestedKey × Addr × V)} {k : NestedKey} {a : Addr} {v : V} : (storedX xs k a v).length ≤ xs.length + 1 := by
  unfold storedX
  split <;> simp
theorem ent_any {xs : List (NestedKey × Addr × V)} {ys : List (NestedKey × Addr × Value)} (r : Paired PY xs ys) (k : NestedKey) : (xs.any fun x => decide (x.1 = k)) = (atKey ys k).isSome := by
  induction r with
  | nil => rfl
  | @cons p q ps qs h t ih =>
    rw [List.any_cons, ih]
    unfold atKey
    rw [List.find?_cons]
    by_cases e : q.1 = k
    · simp [h.1, e]
    · simp [h.1, e]
theorem ent_stored {xs : List (NestedKey × Addr × V)} {ys : List (NestedKey × Addr × Value)} (r : Paired PY xs ys) (k : NestedKey) (a : Addr) {v : V} {u : Value} (ru : RelV v u) : Paired PY (storedX xs k a v) (storedH ys k a u) := by
  unfold storedX storedH
  rw [ent_any r k]
  split
  · have rep : ∀ {ps qs}, Paired PY ps qs → Paired PY (ps.map (putX k v)) (qs.map (putAt k u)) := by
      intro ps qs r
      induction r with
      | nil => exact .nil
      | @cons p q ps qs h t ih =>
        rw [List.map_cons, List.map_cons]
        refine .cons ?_ ih
        unfold putX putAt
        by_cases e : p.1 = k
        · rw [if_pos e, if_pos (h.1.symm.trans e)]; exact ⟨h.1, h.2.1, ru⟩
        · rw [if_neg e, if_neg (fun z => e (h.1.trans z))]; exact h
    exact rep r
  · exact Paired.snoc r ⟨rfl, rfl, ru⟩
theorem nkey_iff {d d' : SD} (h : M.nkOk d = true) (h' : M.nkOk d' = true) : nK d = nK d' ↔ d = d' := ⟨nK_inj _ _ (nk_pure h).1 (nk_pure h').1, fun e => by rw [e]⟩
theorem nk_get {kvs : List (SD × SD)} {xs : List (NestedKey × Addr × V)} {ys : List (NestedKey × Addr × Value)} (r : Paired (PN K H) kvs xs) (ry : Paired PY xs ys) {d : SD} (hd : M.nkOk d = true) :
    (M.kvGet kvs d = none ∧ atKey ys (nK d) = none) ∨ ∃ e v p, M.kvGet kvs d = some e ∧ atKey ys (nK d) = some p ∧ Rep K H e v ∧ RelV v p.2 := by
  induction r generalizing ys with
  | nil => cases ry; exact .inl ⟨rfl, rfl⟩
  | @cons x p ks ps h t ih =>
    cases ry with
    | @cons _ q _ qs hq tq =>
      by_cases e : x.1 = d
      · refine .inr ⟨x.2, p.2.2, q.2, by simp [M.kvGet, List.find?_cons, e], ?_, h.2.2.2, hq.2.2⟩
        have : q.1 = nK d := by rw [← hq.1, h.1, e]
        simp [atKey, List.find?_cons, this]
      · have ne : ¬ q.1 = nK d := fun z => e ((nkey_iff h.2.1 hd).mp (by rw [← h.1, hq.1, z]))
        have e3 : M.kvGet (x :: ks) d = M.kvGet ks d := by simp [M.kvGet, List.find?_cons, e]
        have e4 : atKey (q :: qs) (nK d) = atKey qs (nK d) := by simp [atKey, List.find?_cons, ne]
        rw [e3, e4]
        exact ih tq
theorem nk_put {kvs : List (SD × SD)} {xs : List (NestedKey × Addr × V)} (r : Paired (PN K H) kvs xs) {d e : SD} {a : Addr} {v : V} (hd : M.nkOk d = true) (rd : Rep K H d (.ref a)) (re : Rep K H e v) : Paired (PN K H) (M.kvPut kvs d e) (storedX xs (nK d) a v) := by
  have an : (kvs.any fun kv => decide (kv.1 = d)) = xs.any fun x => decide (x.1 = nK d) := by
    induction r with
    | nil => rfl
    | @cons x p ks ps h t ih =>
      rw [List.any_cons, List.any_cons, ih, h.1]
      congr 1
      rw [decide_eq_decide]
      exact (nkey_iff h.2.1 hd).symm
  unfold M.kvPut storedX
  rw [an]
  split
  · have rep : ∀ {ks ps}, Paired (PN K H) ks ps → Paired (PN K H) (ks.map fun kv => if kv.1 = d then (kv.1, e) else kv) (ps.map (putX (nK d) v)) := by
      intro ks ps r
      induction r with
      | nil => exact .nil
      | @cons x p ks ps h t ih =>
        rw [List.map_cons, List.map_cons]
        refine .cons ?_ ih
        unfold putX
        by_cases z : x.1 = d
        · rw [if_pos z, if_pos (by rw [h.1, z])]; exact ⟨h.1, h.2.1, h.2.2.1, re⟩
        · rw [if_neg z, if_neg (by rw [h.1]; exact fun y => z ((nkey_iff h.2.1 hd).mp y))]; exact h
    exact rep r
  · exact Paired.snoc r ⟨rfl, hd, rd, re⟩
section
variable {X : L2.Cx} {pins : List (Addr × Obj)} {σ : L2.St} {s : Shared}
theorem ent_ok {h1 h2 : Heap} {P : Program} {w : World} {a : Addr} {xs : List (NestedKey × Addr × V)} (e : EntO P w a xs h1) (st : ∀ o, h1.get? a = some o → h2.get? a = some o) : EntO P w a xs h2 := by
  obtain ⟨z, y, ys, r, o, es, ep, g, q⟩ := e
  exact ⟨z, y, ys, r, o, es, ep, st _ g, q⟩
theorem ent_dict (I : Inv X pins σ H s) {p : Addr} {kvs : List (SD × SD)} {xs : List (NestedKey × Addr × V)} (e : H p = some (.ext (EntO X.prog X.w p xs))) (pr : Paired (PN X.F H) kvs xs) :
    xs.length ≤ sizeLine ∧ (p == sysModules) = false ∧ ∃ ys, Paired PY xs ys ∧ s.heap.DictOfH (nestedKind X.prog X.w) p ys := by
  obtain ⟨⟨z, y, ys, r, o, es, ep, g, c, dd, ee, nd⟩, _⟩ := I.hok p _ e
  refine ⟨z, y, ys, r, o, es, ep, g, c, dd, ee, ?_, nd⟩
  have all : ∀ {ks ps qs}, Paired (PN X.F H) ks ps → Paired PY ps qs → ∀ q ∈ qs, (nestedKind X.prog X.w).is s.heap q.1 q.2.1 := by
    intro ks ps qs r
    induction r generalizing qs with
    | nil => intro r2; cases r2; exact fun q hq => nomatch hq
    | @cons x p ks ps h t ih =>
      intro r2
      cases r2 with
      | @cons _ q _ qs hq tq =>
        intro q' hq'
        rcases List.mem_cons.mp hq' with e | hq'
        · subst e
          rw [← hq.1, ← hq.2.1, h.1]
          exact nk_is I h.2.1 h.2.2.1
        · exact ih tq q' hq'
  exact all pr r
def rNin (K : Fr) (neg : Bool) : R2 := fun x y H Q => ∃ a kvs d b, y = .ref a ∧ x = .ref b ∧ ObRep K H a (.dcn kvs) ∧ M.nkOk d = true ∧ Rep K H d x ∧ Q (.bl (if neg then !(M.kvGet kvs d).isSome else (M.kvGet kvs d).isSome)) H
theorem op_nin {X : Cx} (hu : X.A.units + 200 < cLine) : OpR X (compareOp .In) (rNin X.F false) := by
  intro pins s σ H x y v u Q I rx ry h
  obtain ⟨a, kvs, d, b, rfl, rfl, ⟨xs, e, pr⟩, hd, rd, q⟩ := h
  obtain rfl : u = Value.ref a := ry
  obtain rfl : v = Value.ref b := rx
  obtain ⟨z, hy, ys, py, dd⟩ := ent_dict I e pr
  refine wpAny_in_heap (knd := nestedKind X.prog X.w) (by show X.A.units + 1 + 8 < cLine; omega) (nk_is I hd rd) hy dd ?_
  refine ⟨.bl _, H, I.tok _, rfl, ?_⟩
  rcases nk_get pr py hd with ⟨e1, e2⟩ | ⟨_, _, _, e1, e2, _⟩
  · rw [e1] at q; rw [e2]; exact q
  · rw [e1] at q; rw [e2]; exact q
theorem op_nnotin {X : Cx} (hu : X.A.units + 200 < cLine) : OpR X (compareOp .NotIn) (rNin X.F true) := by
  intro pins s σ H x y v u Q I rx ry h
  obtain ⟨a, kvs, d, b, rfl, rfl, ⟨xs, e, pr⟩, hd, rd, q⟩ := h
  obtain rfl : u = Value.ref a := ry
  obtain rfl : v = Value.ref b := rx
  obtain ⟨z, hy, ys, py, dd⟩ := ent_dict I e pr
  refine wpAny_notIn_heap (knd := nestedKind X.prog X.w) (by show X.A.units + 1 + 8 < cLine; omega) (nk_is I hd rd) hy dd ?_
  refine ⟨.bl _, H, I.tok _, rfl, ?_⟩
  rcases nk_get pr py hd with ⟨e1, e2⟩ | ⟨_, _, _, e1, e2, _⟩
  · rw [e1] at q; rw [e2]; exact q
  · rw [e1] at q; rw [e2]; exact q
end
/-! ### comparisons -/
def cop : M.Cop → CmpOp
  | .eq => .Eq | .ne => .NotEq | .lt => .Lt | .le => .LtE | .gt => .Gt | .ge => .GtE | .isin => .In | .notin => .NotIn | .is_ => .Is | .isnt => .IsNot | .nes => .NotEq
def rLtS : R2 := fun x y H Q => ∃ i j, x = .str i ∧ y = .str j ∧ Q (.bl (decide (i.cps.toList < j.cps.toList))) H
def rCmp (K : Fr) : M.Cop → R2
  | .eq => fun x y H Q => (scal x y = true ∧ Q (.bl (decide (x = y))) H) ∨ rEqP K x y H Q ∨ rEqS K x y H Q
  | .ne => fun x y H Q => (scal x y = true ∧ Q (.bl (!decide (x = y))) H) ∨ rNeP K x y H Q
  | .lt => fun x y H Q => (rI0 fun i j => .bl (decide (i < j))) x y H Q ∨ rLtS x y H Q ∨ rLtD K x y H Q
  | .le => rI0 fun i j => .bl (decide (i ≤ j))
  | .gt => rI0 fun i j => .bl (decide (j < i))
  | .ge => rI0 fun i j => .bl (decide (j ≤ i))
  | .isin => fun x y H Q => rDin false x y H Q ∨ rLin K false x y H Q ∨ rIn K false x y H Q ∨ rNin K false x y H Q
  | .notin => fun x y H Q => rDin true x y H Q ∨ rLin K true x y H Q ∨ rIn K true x y H Q ∨ rNin K true x y H Q
  | .is_ => fun x y H Q => (y = .non ∧ Q (.bl (decide (x = .non))) H) ∨ rIsB x y H Q
  | .isnt => fun x y H Q => (y = .non ∧ Q (.bl (!decide (x = .non))) H) ∨ rNotB x y H Q
  | .nes => rNeS K
theorem op_cmp {X : Cx} (hu : X.A.units + 200 < cLine) (o : M.Cop) : OpR X (compareOp (cop o)) (rCmp X.F o) := by
  cases o
  · exact op_eq.or ((op_eqP hu).or (op_eqS hu))
  · exact op_ne.or (op_neP hu)
  · exact op_lt.or (op_lt_str.or (op_ltD hu))
  · exact op_le
  · exact op_gt
  · exact op_ge
  · exact (op_din (by omega)).or ((op_lin hu).or (op_in_seq.or (op_nin hu)))
  · exact (op_dnotin (by omega)).or ((op_lnotin hu).or (op_notIn_seq.or (op_nnotin hu)))
  · exact op_isN.or op_isBl
  · exact op_notN.or op_notBl
  · exact op_neS hu
theorem rep_non {d : SD} {v : V} (r : Rep K H d v) : decide (v = .non) = decide (d = .non) := by
  cases d with
  | non => cases (show v = _ from r); simp
  | bl _ => cases (show v = _ from r); simp
  | int _ => cases (show v = _ from r); simp
  | str _ => cases (show v = _ from r.1); simp
  | ref _ => cases (show v = _ from r); simp
  | tup _ => obtain ⟨a, vs, e, _⟩ := r; subst e; simp
  | rol _ => obtain ⟨a, vs, e, _⟩ := r; subst e; simp
theorem flat_eq {a b : SD} {x y : V} (fa : M.flat a = true) (fb : M.flat b = true) (ra : Rep K H a x) (rb : Rep K H b y) : flatV x = true ∧ eqV x y = decide (a = b) := by
  cases a <;> simp [M.flat] at fa
  · cases (show x = _ from ra)
    cases b <;> simp [M.flat] at fb
    · cases (show y = _ from rb); simp [flatV, eqV]
    · cases (show y = _ from rb); simp [flatV, eqV]
    · cases (show y = _ from rb.1); simp [flatV, eqV]
  · cases (show x = _ from ra)
    cases b <;> simp [M.flat] at fb
    · cases (show y = _ from rb); simp [flatV, eqV]
    · cases (show y = _ from rb); simp [flatV, eqV, Bool.beq_eq_decide_eq]
    · cases (show y = _ from rb.1); simp [flatV, eqV]
  · cases (show x = _ from ra.1)
    cases b <;> simp [M.flat] at fb
    · cases (show y = _ from rb); simp [flatV, eqV]
    · cases (show y = _ from rb); simp [flatV, eqV]
    · cases (show y = _ from rb.1)
      simp only [flatV, eqV, Bool.beq_eq_decide_eq, decide_eq_decide, true_and, M.D.str.injEq]
      exact ⟨sV_inj, fun e => by rw [e]⟩
theorem flat_any {x : SD} {v : V} (fx : M.flat x = true) (rx : Rep K H x v) : ∀ {xs : List SD} {vs : List V}, xs.all M.flat = true → Reps K H xs vs → vs.all flatV = true ∧ inV v vs = xs.any fun y => decide (y = x)
  | [], vs, _, r => by cases (show vs = _ from r); exact ⟨rfl, rfl⟩
  | y :: ys, vs, fa, ⟨w, r, e, a, b⟩ => by
    subst e
    rw [List.all_cons] at fa
    obtain ⟨f1, f2⟩ := ba fa
    obtain ⟨h1, h2⟩ := flat_any fx rx f2 b
    obtain ⟨h3, h4⟩ := flat_eq f1 fx a rx
    refine ⟨by rw [List.all_cons, h3, h1]; rfl, ?_⟩
    show (w :: r).any _ = _
    rw [List.any_cons, List.any_cons, h4]
    exact congrArg _ h2
theorem mem_ok {neg : Bool} {dx dy : SD} {x y : V} {P : Bool → Prop} (rh : RH K H h) (rx : Rep K H dx x) (ry : Rep K H dy y) (q : M.memOk dx dy h P) (k : ∀ b, P b → Q (.bl (if neg then !b else b)) H) :
    rDin neg x y H Q ∨ rLin K neg x y H Q ∨ rIn K neg x y H Q ∨ rNin K neg x y H Q := by
  cases dy with
  | ref p =>
    cases (show y = _ from ry)
    simp only [M.memOk] at q
    cases e : h p with
    | none => rw [e] at q; exact q.elim
    | some o =>
      rw [e] at q
      cases o with
      | dct kd kvs =>
        obtain ⟨kk, q⟩ := q
        obtain ⟨ov, g, r⟩ := dget_ok (rh p _ e) kk rx
        refine .inl ⟨p, ov, rfl, g, k _ ?_⟩
        rcases r with ⟨e1, e2⟩ | ⟨_, _, e1, e2, _⟩
        · rw [e1] at q; rw [e2]; exact q
        · rw [e1] at q; rw [e2]; exact q
      | rdct kd kvs =>
        obtain ⟨kk, q⟩ := q
        obtain ⟨ov, g, r⟩ := dget_rok (rh p _ e) kk rx
        refine .inl ⟨p, ov, rfl, g, k _ ?_⟩
        rcases r with ⟨e1, e2⟩ | ⟨_, _, e1, e2, _⟩
        · rw [e1] at q; rw [e2]; exact q
        · rw [e1] at q; rw [e2]; exact q
      | lst xs =>
        obtain ⟨p1, p2, dp, q⟩ := q
        obtain ⟨vs, a1, r1⟩ := rh p _ e
        refine .inr (.inl ⟨toPy dx, toPys xs, rep_dp p1 rx, .lst (SqL.of a1) (reps_dp p2 r1), rep_can p1 rx, reps_can p2 r1, ?_, ?_⟩)
        · rcases dp with dp | dp
          · exact .inl (Nat.le_succ_of_le (py_depth _ _ dp))
          · exact .inr (Nat.le_succ_of_le (pys_depth _ _ dp))
        · rw [any_py xs dx p2 p1]
          exact k _ q
      | dcn kvs =>
        obtain ⟨kk, q⟩ := q
        have rx' := rx
        cases dx with
        | tup ds =>
          obtain ⟨b, vs, rfl, _⟩ := rx
          refine .inr (.inr (.inr ⟨p, kvs, _, b, rfl, rfl, rh p _ e, kk, rx', k _ q⟩))
        | _ => simp [M.nkOk] at kk
      | _ => exact q.elim
  | tup xs =>
    obtain ⟨a, vs, e, t, rs⟩ := ry
    subst e
    obtain ⟨f1, f2, q⟩ := q
    obtain ⟨h1, h2⟩ := flat_any f1 rx f2 rs
    refine .inr (.inr (.inl ⟨a, vs, rfl, .inr (t.imp .inl id), ?_, h1, ?_⟩))
    · exact (flat_eq f1 f1 rx rx).1
    · rw [h2]
      exact k _ q
  | _ => exact False.elim q
theorem cmpInt_inv {f : Int → Int → Bool} {dx dy : SD} {P : Bool → Prop} (q : M.cmpInt f dx dy P) : ∃ a b, dx = .int a ∧ dy = .int b ∧ P (f a b) := by
  cases dx with
  | int a => cases dy with
    | int b => exact ⟨a, b, rfl, rfl, q⟩
    | _ => exact False.elim q
  | _ => exact False.elim q
theorem cmpLt_inv {dx dy : SD} {P : Bool → Prop} (q : M.cmpLt dx dy P) : (∃ a b, dx = .int a ∧ dy = .int b ∧ P (decide (a < b))) ∨ (∃ a b, dx = .str a ∧ dy = .str b ∧ P (decide (a < b))) ∨ ∃ xs ys, dx = .tup xs ∧ dy = .tup ys ∧ M.cmpbs xs ys = true ∧ M.pureDs xs = true ∧ M.pureDs ys = true ∧ (M.plains 190 xs = true ∨ M.plains 190 ys = true) ∧ P (M.ltDs xs ys) := by
  cases dx with
  | int a => cases dy with
    | int b => exact .inl ⟨a, b, rfl, rfl, q⟩
    | _ => exact False.elim q
  | str a => cases dy with
    | str b => exact .inr (.inl ⟨a, b, rfl, rfl, q⟩)
    | _ => exact False.elim q
  | tup a => cases dy with
    | tup b => exact .inr (.inr ⟨a, b, rfl, rfl, q⟩)
    | _ => exact False.elim q
  | _ => exact False.elim q
theorem isNon_inv {dx dy : SD} {P : Bool → Prop} (q : M.isNon dx dy P) : (dy = .non ∧ P (decide (dx = .non))) ∨ ∃ a b, dx = .bl a ∧ dy = .bl b ∧ P (decide (a = b)) := by
  cases dy with
  | non => exact .inl ⟨rfl, q⟩
  | bl b => cases dx with
    | bl a => exact .inr ⟨a, b, rfl, rfl, q⟩
    | _ => exact False.elim q
  | _ => exact False.elim q
theorem cmp_ok {o : M.Cop} {dx dy : SD} {x y : V} {P : Bool → Prop} (rh : RH K H h) (rx : Rep K H dx x) (ry : Rep K H dy y) (q : M.opCmp o dx dy h P) (k : ∀ b, P b → Q (.bl b) H) : rCmp K o x y H Q := by
  cases o with
  | eq =>
    simp only [M.opCmp] at q
    rcases q with q | ⟨r, q, qq⟩
    · rcases eqk rh rx ry q with ⟨a, b, rfl, rfl, q⟩ | ⟨d, e, h1, h2, h3, h4, h5, q⟩
      · exact .inl ⟨rfl, k _ (by simpa using q)⟩
      · exact .inr (.inl ⟨d, e, h1, h2, h3, h4, h5, k _ q⟩)
    · exact .inr (.inr ⟨h, dx, dy, r, rh, rx, ry, q, k _ qq⟩)
  | ne =>
    simp only [M.opCmp] at q
    rcases eqk rh rx ry q with ⟨a, b, rfl, rfl, q⟩ | ⟨d, e, h1, h2, h3, h4, h5, q⟩
    · exact .inl ⟨rfl, k _ (by simpa using q)⟩
    · exact .inr ⟨d, e, h1, h2, h3, h4, h5, k _ q⟩
  | lt =>
    simp only [M.opCmp] at q
    rcases cmpLt_inv q with ⟨a, b, rfl, rfl, q⟩ | ⟨a, b, rfl, rfl, q⟩ | ⟨a, b, rfl, rfl, c, p1, p2, dp, q⟩
    · cases (show x = _ from rx); cases (show y = _ from ry)
      exact .inl ⟨a, b, rfl, rfl, k _ q⟩
    · cases (show x = _ from rx.1); cases (show y = _ from ry.1)
      exact .inr (.inl ⟨_, _, rfl, rfl, k _ (by rw [sV_cps, sV_cps]; exact q)⟩)
    · have p1' : M.pureD (.tup a) = true := by simpa only [M.pureD] using p1
      have p2' : M.pureD (.tup b) = true := by simpa only [M.pureD] using p2
      refine .inr (.inr ⟨.tup a, .tup b, by simpa only [M.cmpb] using c, p1', p2', rep_can p1' rx, rep_can p2' ry, ?_, rep_dp p1' rx, rep_dp p2' ry, ?_⟩)
      · rcases dp with dp | dp
        · exact .inl (Nat.le_trans (py_depth 191 _ (by simpa only [M.plain] using dp)) (by omega))
        · exact .inr (Nat.le_trans (py_depth 191 _ (by simpa only [M.plain] using dp)) (by omega))
      · have e : M.ltD (.tup a) (.tup b) = M.ltDs a b := by simp only [M.ltD]
        rw [e]
        exact k _ q
  | le =>
    simp only [M.opCmp] at q
    obtain ⟨a, b, rfl, rfl, q⟩ := cmpInt_inv q
    cases (show x = _ from rx); cases (show y = _ from ry)
    exact ⟨a, b, rfl, rfl, k _ q⟩
  | gt =>
    simp only [M.opCmp] at q
    obtain ⟨a, b, rfl, rfl, q⟩ := cmpInt_inv q
    cases (show x = _ from rx); cases (show y = _ from ry)
    exact ⟨a, b, rfl, rfl, k _ q⟩
  | ge =>
    simp only [M.opCmp] at q
    obtain ⟨a, b, rfl, rfl, q⟩ := cmpInt_inv q
    cases (show x = _ from rx); cases (show y = _ from ry)
    exact ⟨a, b, rfl, rfl, k _ q⟩
  | isin =>
    simp only [M.opCmp] at q
    exact mem_ok (neg := false) rh rx ry q fun b hb => k b hb
  | notin =>
    simp only [M.opCmp] at q
    exact mem_ok (neg := true) rh rx ry q fun b hb => k _ hb
  | is_ =>
    simp only [M.opCmp] at q
    rcases isNon_inv q with ⟨rfl, q⟩ | ⟨a, b, rfl, rfl, q⟩
    · cases (show y = _ from ry)
      exact .inl ⟨rfl, k _ (by rw [rep_non rx]; exact q)⟩
    · cases (show x = _ from rx); cases (show y = _ from ry)
      exact .inr ⟨a, b, rfl, rfl, k _ q⟩
  | isnt =>
    simp only [M.opCmp] at q
    rcases isNon_inv q with ⟨rfl, q⟩ | ⟨a, b, rfl, rfl, q⟩
    · cases (show y = _ from ry)
      exact .inl ⟨rfl, k _ (by rw [rep_non rx]; exact q)⟩
    · cases (show x = _ from rx); cases (show y = _ from ry)
      exact .inr ⟨a, b, rfl, rfl, k _ q⟩
  | nes =>
    simp only [M.opCmp] at q
    obtain ⟨p, p2, kvs, kws, r, e1, e2, e3, e4, e5, q⟩ := q
    exact ⟨h, dx, dy, rh, rx, ry, p, p2, kvs, kws, r, e1, e2, e3, e4, e5, k _ q⟩
end
end Snd
end
section
/-! Sound4: items, slices, built-in functions, methods, stores. -/
namespace Snd
open PySem L2 PySem.Spec PyProof.Rows
section
variable {K : Fr} {H H1 H' : Hp} {h h1 h' : M.AH} {Qa : M.VQ} {Q : VK} {qb : Bool → Prop}
theorem atI_eq {α : Type} (xs : List α) (i : Int) : M.atI xs i = L2.atI xs i := by
  unfold M.atI L2.atI ixN
  by_cases h0 : 0 ≤ i
  · rw [if_pos h0, if_pos h0]
    by_cases h1 : i < xs.length
    · rw [if_pos h1]; rfl
    · rw [if_neg h1]
      exact List.getElem?_eq_none (by omega)
  · rw [if_neg h0, if_neg h0]
    by_cases h1 : -(xs.length : Int) ≤ i
    · rw [if_pos h1, if_pos h1]; rfl
    · rw [if_neg h1, if_neg h1]; rfl
theorem atI_rep {ds : List SD} {vs : List V} {i : Int} {d : SD} (r : Reps K H ds vs) (e : M.atI ds i = some d) : ∃ v, L2.atI vs i = some v ∧ Rep K H d v := by
  rw [atI_eq] at e
  have hl := r.length
  unfold L2.atI at e ⊢
  rw [hl]
  cases z : ixN ds.length i with
  | none => rw [z] at e; cases e
  | some j =>
    rw [z] at e
    obtain ⟨v, h1, h2⟩ := r.get (i := j) (d := d) e
    exact ⟨v, h1, h2⟩
def rIxD : R2 := fun x y H Q => ∃ a v, x = .ref a ∧ DGet H a y (some v) ∧ Q v H
theorem ix_dict {X : Cx} (hu : X.A.units + 1 < cLine) : IxR X rIxD := by
  intro value slice pins s σ H x y v u Q I rx ry h hs
  obtain ⟨a, w, rfl, g, q⟩ := h
  cases rx
  exact tail_any (dict_typeIs I g) PySem.F.slot_dict_getitem.lookup (d_getItem hu I g ry fun w' s3 I3 rw' => ⟨w, H, I3, rw', q⟩) hs
/-- a dict with nested keys -/
def rIxN (K : Fr) : R2 := fun x y H Q => ∃ a b kvs d e, x = .ref a ∧ y = .ref b ∧ ObRep K H a (.dcn kvs) ∧ M.nkOk d = true ∧ Rep K H d y ∧ M.kvGet kvs d = some e ∧ ∀ v, Rep K H e v → Q v H
theorem ix_nest {X : Cx} (hu : X.A.units + 200 < cLine) : IxR X (rIxN X.F) := by
  intro value slice pins s σ H x y v u Q I rx ry h hs
  obtain ⟨a, b, kvs, d, e, rfl, rfl, ⟨xs, eo, pr⟩, hd, rd, ge, q⟩ := h
  cases rx
  cases (show u = Value.ref b from ry)
  obtain ⟨z, hy, ys, py, dd⟩ := ent_dict I eo pr
  rcases nk_get pr py hd with ⟨e1, _⟩ | ⟨e', v', p, e1, e2, re, rv⟩
  · rw [ge] at e1; cases e1
  · rw [ge] at e1
    cases e1
    exact tail_any dd.typeIs PySem.F.slot_dict_getitem.lookup (wpAny_getItem_heap (knd := nestedKind X.prog X.w) (by show X.A.units + 1 + 8 < cLine; omega) (nk_is I hd rd) dd e2 ⟨v', H, I.tok _, rv, q v' re⟩) hs
def rIx4 (K : Fr) : R2 := fun x y H Q => rIx K x y H Q ∨ rIxD x y H Q ∨ rIxN K x y H Q
theorem ix_all {X : Cx} (hu : X.A.units + 200 < cLine) : IxR X (rIx4 X.F) := ix_seq.or ((ix_dict (by omega)).or (ix_nest hu))
theorem ixAt_inv {ds : List SD} {dy : SD} (q : M.ixAt ds dy h Qa) : ∃ i d, dy = .int i ∧ M.atI ds i = some d ∧ Qa d h := by
  cases dy with
  | int i =>
    simp only [M.ixAt] at q
    cases e : M.atI ds i with
    | none => rw [e] at q; exact q.elim
    | some d => rw [e] at q; exact ⟨i, d, rfl, e, q⟩
  | _ => exact False.elim q
theorem rol_sql {a : Addr} {vs : List V} (t : (∃ o, H a = some (.frz o (.lst vs))) ∨ KLst K a vs) : SqL K H a vs := t.imp (fun ⟨o, e⟩ => .inr ⟨o, e⟩) id
theorem ix_ok {dx dy : SD} {x y : V} (rh : RH K H h) (rx : Rep K H dx x) (ry : Rep K H dy y) (q : M.opIx dx dy h Qa) (k : Kont K H h Qa Q) : rIx4 K x y H Q := by
  have hl := line_eq
  cases dx with
  | tup ds =>
    obtain ⟨a, vs, e, t, rs⟩ := rx
    subst e
    obtain ⟨i, d, rfl, e, q⟩ := ixAt_inv (show M.ixAt ds dy h Qa from q)
    cases (show y = _ from ry)
    obtain ⟨v, e2, r⟩ := atI_rep rs e
    exact .inl (.inr (.inl ⟨a, vs, i, v, rfl, rfl, t.imp .inl id, e2, k.now rh q r⟩))
  | rol ds =>
    obtain ⟨a, vs, e, t, rs⟩ := rx
    subst e
    obtain ⟨i, d, rfl, e, q⟩ := ixAt_inv (show M.ixAt ds dy h Qa from q)
    cases (show y = _ from ry)
    obtain ⟨v, e2, r⟩ := atI_rep rs e
    exact .inl (.inl ⟨a, vs, i, v, rfl, rfl, rol_sql t, e2, k.now rh q r⟩)
  | str s =>
    cases dy with
    | int i =>
      obtain ⟨rx, ok⟩ := rx
      subst rx
      cases (show y = _ from ry)
      obtain ⟨hz, q⟩ := (show s.length ≤ M.LINE ∧ _ from q)
      cases e : M.atI s i with
      | none => rw [e] at q; exact q.elim
      | some c =>
        rw [e] at q
        refine .inl (.inr (.inr ⟨sV s, i, c, rfl, rfl, by rw [sV_len, hl]; exact hz, ?_, k.now rh q ⟨rfl, ?_⟩⟩))
        · rw [sV_cps, ← atI_eq]; exact e
        · intro z hz2
          have : z = c := by simpa using hz2
          subst this
          rw [atI_eq] at e
          obtain ⟨j, _, hj, _⟩ := atI_get e
          exact ok _ (List.mem_of_getElem? hj)
    | _ => exact False.elim q
  | ref p =>
    cases (show x = _ from rx)
    simp only [M.opIx] at q
    cases e : h p with
    | none => rw [e] at q; exact q.elim
    | some o =>
      rw [e] at q
      cases o with
      | lst xs =>
        obtain ⟨vs, a1, r1⟩ := rh p _ e
        obtain ⟨i, d, rfl, e3, q⟩ := ixAt_inv (show M.ixAt xs dy h Qa from q)
        cases (show y = _ from ry)
        obtain ⟨v, e2, r⟩ := atI_rep r1 e3
        exact .inl (.inl ⟨p, vs, i, v, rfl, rfl, SqL.of a1, e2, k.now rh q r⟩)
      | dct kd kvs =>
        obtain ⟨kk, q⟩ := q
        obtain ⟨ov, g, r⟩ := dget_ok (rh p _ e) kk ry
        rcases r with ⟨e1, e2⟩ | ⟨d, w, e1, e2, r⟩
        · rw [e1] at q; exact q.elim
        · rw [e1] at q; subst e2
          exact .inr (.inl ⟨p, w, rfl, g, k.now rh q r⟩)
      | rdct kd kvs =>
        obtain ⟨kk, q⟩ := q
        obtain ⟨ov, g, r⟩ := dget_rok (rh p _ e) kk ry
        rcases r with ⟨e1, e2⟩ | ⟨d, w, e1, e2, r⟩
        · rw [e1] at q; exact q.elim
        · rw [e1] at q; subst e2
          exact .inr (.inl ⟨p, w, rfl, g, k.now rh q r⟩)
      | dcn kvs =>
        obtain ⟨kk, q⟩ := q
        have ry' := ry
        cases dy with
        | tup ds =>
          obtain ⟨b, vs, rfl, _⟩ := ry
          cases g : M.kvGet kvs (.tup ds) with
          | none => rw [g] at q; exact q.elim
          | some d =>
            rw [g] at q
            exact .inr (.inr ⟨p, b, kvs, _, d, rfl, rfl, rh p _ e, kk, ry', g, fun v rv => k.now rh q rv⟩)
        | _ => simp [M.nkOk] at kk
      | _ => exact q.elim
  | _ => exact False.elim q

/-! ### slices -/
theorem clip_lo (n d : Nat) (o : Option Int) : M.clip n d o = if o = none then d else HT.sIx n d o := by
  cases o with
  | none => rfl
  | some i =>
    rw [if_neg (by simp)]
    have e := HT.clip_eq i n d
    show (if i < 0 then (i + n).toNat else min i.toNat n) = _
    split
    · rename_i hi
      rw [if_pos hi] at e
      omega
    · rename_i hi
      rw [if_neg hi] at e
      omega
theorem cut_eq {α : Type} (xs : List α) (lo hi : Option Int) : M.cut xs lo hi = (xs.drop (HT.sIx xs.length 0 lo)).take (HT.sIx xs.length xs.length hi - HT.sIx xs.length 0 lo) := by
  have h1 : M.clip xs.length 0 lo = HT.sIx xs.length 0 lo := by
    rw [clip_lo]; split
    · rename_i e; rw [e, HT.sIx_none]
    · rfl
  have h2 : M.clip xs.length xs.length hi = HT.sIx xs.length xs.length hi := by
    rw [clip_lo]; split
    · rename_i e; rw [e, HT.sIx_none]
    · rfl
  unfold M.cut
  rw [h1, h2]
theorem cut_rep {ds : List SD} {vs : List V} {lo hi : Option Int} (r : Reps K H ds vs) : Reps K H (M.cut ds lo hi) (cutV vs lo hi) := by
  rw [cut_eq, ← r.length]
  exact (r.drop _).take _
def rSlTW (K : Fr) : V → Option Int → Option Int → Hp → VK → Prop := fun x lo hi H Q => ∃ a xs, x = .ref a ∧ SqT K H a xs ∧ (HT.sIx xs.length 0 lo = 0 ∧ HT.sIx xs.length xs.length hi = xs.length) ∧ Q (.ref a) H
def rSl (K : Fr) : V → Option Int → Option Int → Hp → VK → Prop := fun x lo hi H Q => rSlT K x lo hi H Q ∨ rSlL K x lo hi H Q ∨ rSlS x lo hi H Q
theorem sl_all {X : Cx} : SlR X (rSl X.F) := sl_tup.or (sl_list.or sl_str)
def slPart (ds : List SD) (lo hi : Option Int) : Prop := ¬ (M.clip ds.length 0 lo = 0 ∧ M.clip ds.length ds.length hi = ds.length)
theorem sl_ok {dx : SD} {x : V} {lo hi : Option Int} (rh : RH K H h) (rx : Rep K H dx x) (q : M.opSl dx lo hi h Qa) (k : Kont K H h Qa Q) : rSl K x lo hi H Q := by
  have hl := line_eq
  cases dx with
  | tup ds =>
    obtain ⟨a, vs, e, t, rs⟩ := rx
    subst e
    obtain ⟨np, q⟩ := q
    have ln := rs.length
    have h1 : M.clip ds.length 0 lo = HT.sIx ds.length 0 lo := by
      rw [clip_lo]; split
      · rename_i e; rw [e, HT.sIx_none]
      · rfl
    have h2 : M.clip ds.length ds.length hi = HT.sIx ds.length ds.length hi := by
      rw [clip_lo]; split
      · rename_i e; rw [e, HT.sIx_none]
      · rfl
    refine .inl ⟨a, vs, rfl, t.imp .inl id, by rw [ln, ← h1, ← h2]; exact np, fun p hn => ?_⟩
    exact k _ _ _ _ q (frm_hid hn) ⟨p, _, rfl, .inl upd_same, (cut_rep rs).kp (kp_new hn)⟩ (rh_hid rh hn)
  | rol ds =>
    obtain ⟨a, vs, e, t, rs⟩ := rx
    subst e
    refine .inr (.inl ⟨a, vs, rfl, rol_sql t, fun p hn => ?_⟩)
    exact k _ _ _ _ (q p (rh.none hn)) (frm_new hn) rfl (rh_new rh hn ⟨_, upd_same, (cut_rep rs).kp (kp_new hn)⟩)
  | str s =>
    obtain ⟨rx, ok⟩ := rx
    subst rx
    obtain ⟨hz, q⟩ := q
    refine .inr (.inr ⟨sV s, rfl, by rw [sV_len, hl]; exact hz, ?_⟩)
    have e : cutS (sV s) lo hi = sV (M.cut s lo hi) := by
      unfold cutS
      rw [sV_len, sV_cps, cut_eq]
      rfl
    rw [e]
    refine k.now rh q ⟨rfl, fun c hc => ok c ?_⟩
    unfold M.cut at hc
    exact List.mem_of_mem_drop (List.mem_of_mem_take hc)
  | ref p =>
    cases (show x = _ from rx)
    simp only [M.opSl] at q
    cases e : h p with
    | none => rw [e] at q; exact q.elim
    | some o =>
      rw [e] at q
      cases o with
      | lst xs =>
        obtain ⟨vs, a1, r1⟩ := rh p _ e
        refine .inr (.inl ⟨p, vs, rfl, SqL.of a1, fun l hn => ?_⟩)
        exact k _ _ _ _ (q l (rh.none hn)) (frm_new hn) rfl (rh_new rh hn ⟨_, upd_same, (cut_rep r1).kp (kp_new hn)⟩)
      | _ => exact q.elim
  | _ => exact False.elim q

/-! ### built-in functions -/
theorem arg1_inv {ds : List SD} {f : SD → Prop} (q : M.arg1 ds f) : ∃ d, ds = [d] ∧ f d := by
  match ds, q with
  | [d], q => exact ⟨d, rfl, q⟩
theorem arg2_inv {ds : List SD} {f : SD → SD → Prop} (q : M.arg2 ds f) : ∃ d e, ds = [d, e] ∧ f d e := by
  match ds, q with
  | [d, e], q => exact ⟨d, e, rfl, q⟩
theorem anInt_inv {d : SD} {f : Int → Prop} (q : M.anInt d f) : ∃ i, d = .int i ∧ f i := by
  cases d with
  | int i => exact ⟨i, rfl, q⟩
  | _ => exact False.elim q
theorem aSome_inv {α : Type} {o : Option α} {f : α → Prop} (q : M.aSome o f) : ∃ a, o = some a ∧ f a := by
  cases o with
  | some a => exact ⟨a, rfl, q⟩
  | none => exact False.elim q
theorem aLst_inv {d : SD} {f : Nat → List SD → Prop} (q : M.aLst d h f) : ∃ p xs, d = .ref p ∧ h p = some (.lst xs) ∧ f p xs := by
  cases d with
  | ref p =>
    simp only [M.aLst] at q
    cases e : h p with
    | none => rw [e] at q; exact q.elim
    | some o => rw [e] at q; cases o with
      | lst xs => exact ⟨p, xs, rfl, e, q⟩
      | _ => exact q.elim
  | _ => exact False.elim q
theorem aDct_inv {d : SD} {f : Nat → Nat → List (SD × SD) → Prop} (q : M.aDct d h f) : ∃ p k kvs, d = .ref p ∧ h p = some (.dct k kvs) ∧ f p k kvs := by
  cases d with
  | ref p =>
    simp only [M.aDct] at q
    cases e : h p with
    | none => rw [e] at q; exact q.elim
    | some o => rw [e] at q; cases o with
      | dct k xs => exact ⟨p, k, xs, rfl, e, q⟩
      | _ => exact q.elim
  | _ => exact False.elim q
theorem aDctR_inv {d : SD} {f : Nat → Nat → List (SD × SD) → Prop} (q : M.aDctR d h f) : ∃ p k kvs, d = .ref p ∧ (h p = some (.dct k kvs) ∨ h p = some (.rdct k kvs)) ∧ f p k kvs := by
  cases d with
  | ref p =>
    simp only [M.aDctR] at q
    cases e : h p with
    | none => rw [e] at q; exact q.elim
    | some o => rw [e] at q; cases o with
      | dct k xs => exact ⟨p, k, xs, rfl, .inl e, q⟩
      | rdct k xs => exact ⟨p, k, xs, rfl, .inr e, q⟩
      | _ => exact q.elim
  | _ => exact False.elim q
theorem toInt_inv {d : SD} {f : Int → Prop} (q : M.toInt d f) : (∃ i, d = .int i ∧ f i) ∨ ∃ b, d = .bl b ∧ f (if b then 1 else 0) := by
  cases d with
  | int i => exact .inl ⟨i, rfl, q⟩
  | bl b => exact .inr ⟨b, rfl, q⟩
  | _ => exact False.elim q
theorem seq_rep {d : SD} {v : V} {xs : List SD} (rh : RH K H h) (r : Rep K H d v) (e : M.seqOf d h = some xs) : ∃ p vs, v = .ref p ∧ ((SqL K H p vs ∧ ∀ zs, d ≠ .tup zs) ∨ (SqT K H p vs ∧ d = .tup xs)) ∧ Reps K H xs vs := by
  cases d with
  | tup ds =>
    simp only [M.seqOf, Option.some.injEq] at e
    subst e
    obtain ⟨a, vs, e, t, rs⟩ := r
    exact ⟨a, vs, e, .inr ⟨t.imp .inl id, rfl⟩, rs⟩
  | rol ds =>
    simp only [M.seqOf, Option.some.injEq] at e
    subst e
    obtain ⟨a, vs, e, t, rs⟩ := r
    exact ⟨a, vs, e, .inl ⟨rol_sql t, fun _ z => by cases z⟩, rs⟩
  | ref p =>
    simp only [M.seqOf] at e
    cases e1 : h p with
    | none => rw [e1] at e; cases e
    | some o => rw [e1] at e; cases o with
      | lst ys =>
        simp only [Option.some.injEq] at e
        subst e
        obtain ⟨vs, a1, r1⟩ := rh p _ e1
        exact ⟨p, vs, r, .inl ⟨SqL.of a1, fun _ z => by cases z⟩, r1⟩
      | _ => cases e
  | _ => simp [M.seqOf] at e
theorem ints_rep : ∀ {xs : List SD} {vs : List V} {ns : List Int}, M.intsOf xs = some ns → Reps K H xs vs → vs = ns.map V.int
  | [], vs, ns, e, r => by simp only [M.intsOf, Option.some.injEq] at e; subst e; exact r
  | d :: ds, vs, ns, e, ⟨v, w, ev, a, b⟩ => by
    subst ev
    cases d with
    | int i =>
      simp only [M.intsOf] at e
      cases z : M.intsOf ds with
      | none => rw [z] at e; cases e
      | some ms =>
        rw [z] at e
        simp only [Option.map_some, Option.some.injEq] at e
        subst e
        rw [ints_rep z b, show v = V.int i from a]
        rfl
    | _ => simp [M.intsOf] at e
theorem bls_rep : ∀ {xs : List SD} {vs : List V} {ns : List Bool}, M.bls xs = some ns → Reps K H xs vs → vs = ns.map V.bl
  | [], vs, ns, e, r => by simp only [M.bls, Option.some.injEq] at e; subst e; exact r
  | d :: ds, vs, ns, e, ⟨v, w, ev, a, b⟩ => by
    subst ev
    cases d with
    | bl i =>
      simp only [M.bls] at e
      cases z : M.bls ds with
      | none => rw [z] at e; cases e
      | some ms =>
        rw [z] at e
        simp only [Option.map_some, Option.some.injEq] at e
        subst e
        rw [bls_rep z b, show v = V.bl i from a]
        rfl
    | _ => simp [M.bls] at e
theorem reps1 {d : SD} {vs : List V} (r : Reps K H [d] vs) : ∃ v, vs = [v] ∧ Rep K H d v := by
  obtain ⟨v, w, e, a, b⟩ := r
  cases (show w = _ from b)
  exact ⟨v, e, a⟩
theorem reps2 {d e : SD} {vs : List V} (r : Reps K H [d, e] vs) : ∃ v w, vs = [v, w] ∧ Rep K H d v ∧ Rep K H e w := by
  obtain ⟨v, w, ev, a, b⟩ := r
  obtain ⟨u, e2, c⟩ := reps1 b
  subst e2
  exact ⟨v, u, ev, a, c⟩

theorem lenOk_inv {d : SD} {f : Nat → Prop} (q : M.lenOk d h f) : (∃ s, d = .str s ∧ s.length ≤ M.LINE ∧ f s.length) ∨ (∃ xs, M.seqOf d h = some xs ∧ f xs.length) ∨ ∃ p k kvs, d = .ref p ∧ (h p = some (.dct k kvs) ∨ h p = some (.rdct k kvs)) ∧ f kvs.length := by
  cases d with
  | str s => exact .inl ⟨s, rfl, q.1, q.2⟩
  | non => exact .inr (.inl (aSome_inv (o := M.seqOf .non h) (f := fun xs => f xs.length) q))
  | bl b => exact .inr (.inl (aSome_inv (o := M.seqOf (.bl b) h) (f := fun xs => f xs.length) q))
  | int b => exact .inr (.inl (aSome_inv (o := M.seqOf (.int b) h) (f := fun xs => f xs.length) q))
  | tup b => exact .inr (.inl (aSome_inv (o := M.seqOf (.tup b) h) (f := fun xs => f xs.length) q))
  | rol b => exact .inr (.inl (aSome_inv (o := M.seqOf (.rol b) h) (f := fun xs => f xs.length) q))
  | ref b =>
    simp only [M.lenOk] at q
    cases e : h b with
    | none => rw [e] at q; exact q.elim
    | some o => rw [e] at q; cases o with
      | lst xs => exact .inr (.inl ⟨xs, by simp only [M.seqOf, e], q⟩)
      | dct k xs => exact .inr (.inr ⟨b, k, xs, rfl, .inl e, q⟩)
      | rdct k xs => exact .inr (.inr ⟨b, k, xs, rfl, .inr e, q⟩)
      | _ => exact q.elim
theorem call_lenD {X : L2.Cx} : CallR X (.builtin "len") (fun xs H Q => (∃ x n, xs = [x] ∧ LenV X.F x H n ∧ Q (.int n) H) ∨ ∃ (a : Addr) (kvs : List (Key × V)), xs = [.ref a] ∧ Rd H a (.dK kvs) ∧ Q (.int kvs.length) H) := by
  intro pins s σ H xs us Q I rv h
  rcases h with h | ⟨a, kvs, rfl, rd, q⟩
  · exact call_len pins s σ H xs us Q I rv h
  · obtain ⟨u, rfl, ru⟩ := rv.one
    obtain rfl : u = Value.ref a := ru
    exact d_len I rd fun t s3 I3 => ⟨.int _, H, I3, ⟨t, rfl⟩, q⟩
theorem keys_rep {H' : Hp} : ∀ {kvs : List (SD × SD)} {ps : List (Key × V)}, Paired (PR K H R0) kvs ps → Reps K H' (kvs.map (·.1)) (ps.map fun kv => kV kv.1)
  | _, _, .nil => rfl
  | _, _, @Paired.cons _ _ _ x p xs ps h t => by
    refine ⟨kV p.1, _, rfl, ?_, keys_rep t⟩
    obtain ⟨⟨h1, h2⟩, _⟩ := h
    obtain ⟨a, b⟩ := x
    cases a <;> simp [keyV] at h1
    · rw [← h1]; rfl
    · rw [← h1]; exact ⟨rfl, h2 _ rfl⟩
theorem keys_strs : ∀ {kvs : List (SD × SD)} {ps : List (Key × V)} {ss : List M.Sx}, Paired (PR K H R0) kvs ps → M.strsOf (kvs.map (·.1)) = some ss → ps.map (·.1) = (ss.map sV).map Sum.inr ∧ ∀ s ∈ ss, sOk s
  | _, _, ss, .nil, e => by
    have e : M.strsOf [] = some ss := e
    simp only [M.strsOf, Option.some.injEq] at e
    subst e
    exact ⟨rfl, fun _ h => nomatch h⟩
  | _, _, ss, @Paired.cons _ _ _ x p xs ps h t, e => by
    obtain ⟨⟨h1, h2⟩, h3⟩ := h
    clear h3
    obtain ⟨a, b⟩ := x
    rw [List.map_cons] at e
    cases a <;> try (simp [M.strsOf] at e; done)
    rename_i s
    simp only [M.strsOf] at e
    cases z : M.strsOf (xs.map (·.1)) with
    | none => rw [z] at e; cases e
    | some r =>
      rw [z] at e
      simp only [Option.map_some, Option.some.injEq] at e
      subst e
      obtain ⟨i1, i2⟩ := keys_strs t z
      simp only [keyV, Option.some.injEq] at h1
      refine ⟨by rw [List.map_cons, List.map_cons, List.map_cons, i1, ← h1], fun y hy => ?_⟩
      rcases List.mem_cons.mp hy with e | hy
      · rw [e]; exact h2 s rfl
      · exact i2 y hy
theorem perm_sV {ys : List Str} {ss : List M.Sx} (h : ys.Perm (ss.map sV)) : ∃ ys' : List M.Sx, ys = ys'.map sV ∧ ys'.Perm ss := by
  refine ⟨ys.map fun s => s.cps.toList, ?_, ?_⟩
  · rw [List.map_map]
    have : (sV ∘ fun s : Str => s.cps.toList) = id := by funext s; cases s; simp [sV]
    rw [this, List.map_id]
  · have := h.map fun s : Str => s.cps.toList
    rw [List.map_map] at this
    have e : ((fun s : Str => s.cps.toList) ∘ sV) = id := by funext s; simp [sV]
    rw [e, List.map_id] at this
    exact this
theorem reps_strs {H' : Hp} : ∀ {ss : List M.Sx}, (∀ s ∈ ss, sOk s) → Reps K H' (ss.map M.D.str) (ss.map (V.str ∘ sV))
  | [], _ => rfl
  | s :: ss, h => ⟨_, _, rfl, ⟨rfl, h s List.mem_cons_self⟩, reps_strs fun t ht => h t (List.mem_cons_of_mem _ ht)⟩
inductive BK where | b (id : String) | t (T : String)
def bltK : M.Blt → Option BK
  | .len => some (.b "len") | .min2 => some (.b "min") | .max2 => some (.b "max") | .int1 => some (.t "int") | .abs => some (.b "abs") | .sum => some (.b "sum") | .all => some (.b "all") | .any => some (.b "any")
  | .list => some (.t "list") | .tuple => some (.t "tuple") | .dict1 => some (.t "dict") | .klist => some (.t "list") | .max1 => some (.b "max") | .sorted => some (.b "sorted") | .sortd => some (.b "sorted") | _ => none
def BK.val : BK → Value
  | .b id => .builtin id
  | .t T => .type T
def BK.name : BK → Str
  | .b id => Str.ofString id
  | .t T => Str.ofString T
/-- a list of less than two items -/
def rSortO (K : Fr) : List V → Hp → VK → Prop := fun xs H Q => ∃ (a : Addr) (vs : List V), xs = [V.ref a] ∧ SqL K H a vs ∧ vs.length < 2 ∧ ∀ p, H p = none → Q (.ref p) (upd H p (.lst vs))
theorem perm_short {α : Type} {l m : List α} (p : l.Perm m) (h : m.length < 2) : l = m := by
  match m, h with
  | [], _ => exact List.perm_nil.mp p
  | [x], _ => exact List.perm_singleton.mp p
  | _ :: _ :: l, h => exact absurd h (by simp)
theorem cr_sortO {X : L2.Cx} : CallR X (.builtin "sorted") (rSortO X.F) := by
  intro pins s σ H xs us Q I r h
  obtain ⟨a, vs, rfl, hs, h2, q⟩ := h
  obtain ⟨its, rv, hl, hz⟩ := I.list hs
  obtain ⟨u, rfl, ru⟩ := vals1 r
  obtain rfl : u = Value.ref a := ru
  refine SrtO.sorted_ord (ltv := fun _ _ => false) ⟨(fun _ _ h => by cases h), (fun _ _ _ _ _ => rfl)⟩ hl.isList (by rw [← rv.length]; exact hz) (fun h3 => absurd h3 (by rw [← rv.length]; omega)) fun out hs hb => ?_
  have e := perm_short hb.perm (by rw [← rv.length]; exact h2)
  subst e
  obtain ⟨n, hn⟩ := sortedAll_at s.heap out out.toArray
  exact ⟨.ref _, upd H (s.heap.objs.size + 1) (.lst vs), I.laid (t' := s.toks) (fun _ _ => sortedAll_old) (Nat.le_succ _) ⟨hz, out, n, rv, hn⟩, rfl, q _ (I.hok.fresh (Nat.le_succ _))⟩
def rSortDS : List V → Hp → VK → Prop := fun xs H Q => ∃ (a : Addr) (kvs : List (Key × V)) (ks : List Str), xs = [.ref a] ∧ Rd H a (.dK kvs) ∧ kvs.map (·.1) = ks.map Sum.inr ∧ ks.length < 64 ∧ ∀ ys p, ys.Perm ks → sortedS ys = true → H p = none → Q (.ref p) (upd H p (.lst (ys.map V.str)))
def rSortD (K : Fr) : List V → Hp → VK → Prop := fun xs H Q => rSortO K xs H Q ∨ rSortedS K xs H Q ∨ rSortedI K xs H Q ∨ rSortT K xs H Q ∨ rSortDS xs H Q
def rBlt (K : Fr) : M.Blt → List V → Hp → VK → Prop
  | .len => fun xs H Q => (∃ x n, xs = [x] ∧ LenV K x H n ∧ Q (.int n) H) ∨ ∃ (a : Addr) (kvs : List (Key × V)), xs = [.ref a] ∧ Rd H a (.dK kvs) ∧ Q (.int kvs.length) H
  | .min2 => fun xs H Q => ∃ i j, xs = [.int i, .int j] ∧ Q (.int (if j < i then j else i)) H
  | .max2 => fun xs H Q => ∃ i j, xs = [.int i, .int j] ∧ Q (.int (if j > i then j else i)) H
  | .int1 => fun xs H Q => (∃ i, xs = [.int i] ∧ Q (.int i) H) ∨ ∃ k, xs = [.bl k] ∧ Q (.int (if k then 1 else 0)) H
  | .abs => fun xs H Q => ∃ i, xs = [.int i] ∧ Q (.int (if i < 0 then -i else i)) H
  | .sum => rSum K
  | .all => rAll K
  | .any => rAny K
  | .list => fun xs H Q => ∃ p ys, xs = [.ref p] ∧ (SqL K H p ys ∨ SqT K H p ys) ∧ ∀ l, H l = none → Q (.ref l) (upd H l (.lst ys))
  | .tuple => fun xs H Q => ∃ p ys, xs = [.ref p] ∧ ((SqL K H p ys ∧ ∀ l, H l = none → Q (.ref l) (upd H l (.tup ys))) ∨ (SqT K H p ys ∧ Q (.ref p) H))
  | .dict1 => fun xs H Q => ∃ (a : Addr) (kvs : List (Key × V)), xs = [.ref a] ∧ Rd H a (.dK kvs) ∧ ∀ p, H p = none → Q (.ref p) (upd H p (.dK kvs))
  | .klist => fun xs H Q => ∃ (a : Addr) (kvs : List (Key × V)), xs = [.ref a] ∧ Rd H a (.dK kvs) ∧ ∀ p, H p = none → Q (.ref p) (upd H p (.lst (kvs.map fun kv => kV kv.1)))
  | .max1 => rMax K
  | .sorted => fun xs H Q => ∃ (a : Addr) (kvs : List (Key × V)) (ks : List Str), xs = [.ref a] ∧ Rd H a (.dK kvs) ∧ kvs.map (·.1) = ks.map Sum.inr ∧ ks.length < 64 ∧ ∀ ys p, ys.Perm ks → sortedS ys = true → H p = none → Q (.ref p) (upd H p (.lst (ys.map V.str)))
  | .sortd => rSortD K
  | _ => fun _ _ _ => False
theorem call_blt {X : Cx} (hc : X.calm = true) (hu : X.A.units + 200 < cLine) (b : M.Blt) {bk : BK} (e : bltK b = some bk) : CallR X bk.val (rBlt X.F b) := by
  cases b <;> simp only [bltK, Option.some.injEq, reduceCtorEq] at e <;> subst e
  · exact call_lenD
  · exact call_min2 hc
  · exact call_max2 hc
  · exact call_int1
  · exact call_abs
  · exact cr_sum hc
  · exact cr_all hc
  · exact cr_any hc
  · exact call_list_of
  · exact call_tuple_of
  · exact call_sortedD hc
  · exact call_dictD
  · exact cr_max hc
  · exact call_listD hc
  · exact cr_sortO.or (cr_sortedS.or (cr_sortedI.or ((cr_sortT hu).or (call_sortedD hc))))
theorem strs_rep : ∀ {xs : List SD} {vs : List V} {ns : List M.Sx}, M.strsOf xs = some ns → Reps K H xs vs → (vs = ns.map fun s => V.str (sV s)) ∧ ∀ s ∈ ns, sOk s
  | [], vs, ns, e, r => by simp only [M.strsOf, Option.some.injEq] at e; subst e; exact ⟨r, fun s hs => nomatch hs⟩
  | d :: ds, vs, ns, e, ⟨v, w, ev, a, b⟩ => by
    subst ev
    cases d with
    | str i =>
      simp only [M.strsOf] at e
      cases z : M.strsOf ds with
      | none => rw [z] at e; cases e
      | some ms =>
        rw [z] at e
        simp only [Option.map_some, Option.some.injEq] at e
        subst e
        obtain ⟨h1, h2⟩ := strs_rep z b
        refine ⟨by rw [h1, show v = V.str (sV i) from a.1]; rfl, fun s hs => ?_⟩
        rcases List.mem_cons.mp hs with q | q
        · subst q; exact a.2
        · exact h2 s q
    | _ => simp [M.strsOf] at e
theorem sorted_pw : ∀ {ss : List M.Sx}, sortedS (ss.map sV) = true → (ss.map M.D.str).Pairwise (fun a b => M.ltD b a = false)
  | [], _ => List.Pairwise.nil
  | [x], _ => List.pairwise_singleton _ _
  | x :: y :: r, h => by
    have h' : (!ltCps (sV y).cps.toList (sV x).cps.toList && risingS (sV y) (r.map sV)) = true := h
    obtain ⟨h1, h2⟩ := ba h'
    have ih := sorted_pw (ss := y :: r) h2
    have e1 : ¬ y < x := by simpa [ltCps_eq, sV_cps] using h1
    refine List.pairwise_cons.mpr ⟨fun z hz => ?_, ih⟩
    rcases List.mem_cons.mp (show z ∈ M.D.str y :: r.map M.D.str from hz) with e | hz
    · subst e; simpa [M.ltD] using e1
    · have h3 := List.rel_of_pairwise_cons ih hz
      obtain ⟨t, _, rfl⟩ := List.mem_map.mp hz
      have e2 : ¬ t < y := by simpa [M.ltD] using h3
      have : ¬ t < x := fun z => by
        have a1 : x ≤ y := e1
        have a2 : y ≤ t := e2
        exact (List.le_trans a1 a2) z
      simpa [M.ltD] using this
theorem perm_strs {ys : List Str} {ss : List M.Sx} (h : ys.Perm (ss.map sV)) : ∃ ys' : List M.Sx, ys = ys'.map sV ∧ ys'.Perm ss := perm_sV h
theorem ints_pw {ns : List Int} (h : ns.Pairwise (· ≤ ·)) : (ns.map M.D.int).Pairwise (fun a b => M.ltD b a = false) :=
  List.pairwise_map.mpr (h.imp fun z => by simpa [M.ltD] using z)
theorem reps_zip : ∀ {ds : List SD} {vs : List V}, Reps K H ds vs → vs.length = ds.length ∧ ∀ p ∈ vs.zip ds, Rep K H p.2 p.1
  | [], vs, r => by cases (show vs = [] from r); exact ⟨rfl, fun p h => nomatch h⟩
  | d :: ds, vs, ⟨v, us, e, a, b⟩ => by
    subst e
    obtain ⟨h1, h2⟩ := reps_zip b
    refine ⟨by simp [h1], fun p hp => ?_⟩
    rcases List.mem_cons.mp (show p ∈ (v, d) :: us.zip ds from hp) with z | z
    · subst z; exact a
    · exact h2 p z
theorem reps_of : ∀ {ps : List (V × SD)}, (∀ p ∈ ps, Rep K H p.2 p.1) → Reps K H (ps.map (·.2)) (ps.map (·.1))
  | [], _ => rfl
  | p :: ps, h => ⟨_, _, rfl, h p List.mem_cons_self, reps_of fun q hq => h q (List.mem_cons_of_mem _ hq)⟩
theorem strs_map : ∀ {xs : List SD} {ss : List M.Sx}, M.strsOf xs = some ss → xs = ss.map M.D.str
  | [], ss, e => by simp only [M.strsOf, Option.some.injEq] at e; subst e; rfl
  | x :: xs, ss, e => by
    cases x <;> try (simp [M.strsOf] at e; done)
    simp only [M.strsOf] at e
    cases z : M.strsOf xs with
    | none => rw [z] at e; cases e
    | some r =>
      rw [z] at e
      simp only [Option.map_some, Option.some.injEq] at e
      subst e
      rw [strs_map z]
      rfl
theorem ints_map : ∀ {xs : List SD} {ns : List Int}, M.intsOf xs = some ns → xs = ns.map M.D.int
  | [], ss, e => by simp only [M.intsOf, Option.some.injEq] at e; subst e; rfl
  | x :: xs, ss, e => by
    cases x <;> try (simp [M.intsOf] at e; done)
    simp only [M.intsOf] at e
    cases z : M.intsOf xs with
    | none => rw [z] at e; cases e
    | some r =>
      rw [z] at e
      simp only [Option.map_some, Option.some.injEq] at e
      subst e
      rw [ints_map z]
      rfl
theorem reps_intsL : ∀ ns : List Int, Reps K H (ns.map M.D.int) (ns.map V.int)
  | [] => rfl
  | n :: ns => ⟨_, _, rfl, rfl, reps_intsL ns⟩
theorem pw_short {xs : List SD} (h : xs.length < 2) : xs.Pairwise (fun a b => M.ltD b a = false) := by
  match xs, h with
  | [], _ => exact List.Pairwise.nil
  | [x], _ => exact List.pairwise_singleton _ _
  | _ :: _ :: l, h => exact absurd h (by simp)
theorem sortP_inv {d : SD} {f : List SD → Prop} (q : M.sortP d h f) : ∃ p, d = .ref p ∧ ((∃ xs, h p = some (.lst xs) ∧ M.sortOk xs ∧ f xs) ∨ ∃ kvs, (h p = some (.dct 0 kvs) ∨ h p = some (.rdct 0 kvs)) ∧ (∃ ss, M.strsOf (kvs.map (·.1)) = some ss ∧ ss.length < 64) ∧ f (kvs.map (·.1))) := by
  cases d with
  | ref p =>
    refine ⟨p, rfl, ?_⟩
    cases e : h p with
    | none => simp only [M.sortP, e] at q
    | some o =>
      cases o with
      | lst xs => simp only [M.sortP, e] at q; exact .inl ⟨xs, rfl, q⟩
      | dct kd kvs =>
        cases kd with
        | zero => simp only [M.sortP, e] at q; exact .inr ⟨kvs, .inl rfl, q⟩
        | succ n => simp only [M.sortP, e] at q
      | rdct kd kvs =>
        cases kd with
        | zero => simp only [M.sortP, e] at q; exact .inr ⟨kvs, .inr rfl, q⟩
        | succ n => simp only [M.sortP, e] at q
      | _ => simp only [M.sortP, e] at q
  | _ => exact False.elim q
theorem sortd_ok {ds : List SD} {vs : List V} (rh : RH K H h) (r : Reps K H ds vs) (q : M.opBlt .sortd ds h Qa) (k : Kont K H h Qa Q) : rSortD K vs H Q := by
  simp only [M.opBlt] at q
  obtain ⟨d, rfl, q⟩ := arg1_inv q
  obtain ⟨v, rfl, rv⟩ := reps1 r
  obtain ⟨p, rfl, z0⟩ := sortP_inv q
  cases (show v = _ from rv)
  clear q
  rcases z0 with ⟨xs, e, so, q⟩ | ⟨kvs, e, ⟨ss, e2, l64⟩, q⟩
  · obtain ⟨vs, a1, r1⟩ := rh p _ e
    have fin : ∀ (ys : List SD) (ws : List V), ys.Perm xs → ys.Pairwise (fun a b => M.ltD b a = false) → Reps K H ys ws → ∀ l, H l = none → Q (.ref l) (upd H l (.lst ws)) := fun ys ws pm pw rw l hn =>
      k _ _ _ _ (q ys pm pw l (rh.none hn)) (frm_new hn) rfl (rh_new rh hn ⟨_, upd_same, rw.kp (kp_new hn)⟩)
    rcases so with so | ⟨ss, e2, l64⟩ | ⟨ns, e2⟩ | so
    · exact .inl ⟨p, vs, rfl, SqL.of a1, by rw [r1.length]; exact so, fin xs vs (.refl _) (pw_short so) r1⟩
    · obtain ⟨ev, ok⟩ := strs_rep e2 r1
      have ex := strs_map e2
      refine .inr (.inl ⟨p, ss.map sV, rfl, ?_, by simpa using l64, fun ys l pm so hn => ?_⟩)
      · rw [List.map_map]
        have : vs = ss.map (V.str ∘ sV) := ev
        rw [← this]; exact SqL.of a1
      · obtain ⟨ys', rfl, pm'⟩ := perm_sV pm
        have := fin (ys'.map M.D.str) (ys'.map (V.str ∘ sV)) (by rw [ex]; exact pm'.map _) (sorted_pw so) (reps_strs fun s hs => ok s (pm'.mem_iff.mp hs)) l hn
        rw [List.map_map]
        exact this
    · have ev := ints_rep e2 r1
      subst ev
      have ex := ints_map e2
      exact .inr (.inr (.inl ⟨p, ns, rfl, SqL.of a1, fun ys l pm so hn => fin (ys.map M.D.int) (ys.map V.int) (by rw [ex]; exact pm.map _) (ints_pw so) (reps_intsL ys) l hn⟩))
    · obtain ⟨z1, z2⟩ := reps_zip r1
      refine .inr (.inr (.inr (.inl ⟨p, vs, xs, rfl, SqL.of a1, reps_dp so.1 r1, so, reps_can so.1 r1, fun ps pm sp l hn => ?_⟩)))
      refine fin (ps.map (·.2)) (ps.map (·.1)) ?_ sp (reps_of fun x hx => z2 x (pm.mem_iff.mp hx)) l hn
      have := pm.map (·.2)
      rw [List.map_snd_zip (by omega)] at this
      exact this
  · obtain ⟨_, ps, a1, pr⟩ := rd_dct (e.imp (rh p _) (rh p _))
    obtain ⟨k1, k2⟩ := keys_strs pr e2
    have ex := strs_map e2
    refine .inr (.inr (.inr (.inr ⟨p, ps, ss.map sV, rfl, a1, k1, by simpa using l64, fun ys l hp so hn => ?_⟩)))
    obtain ⟨ys', rfl, hp'⟩ := perm_sV hp
    refine k _ _ _ _ (q (ys'.map M.D.str) (by rw [ex]; exact hp'.map _) (sorted_pw so) l (rh.none hn)) (frm_new hn) rfl (rh_new rh hn ⟨_, upd_same, ?_⟩)
    rw [List.map_map]
    exact reps_strs fun s hs => k2 s (hp'.mem_iff.mp hs)
theorem blt_ok {b : M.Blt} {ds : List SD} {vs : List V} (rh : RH K H h) (r : Reps K H ds vs) (q : M.opBlt b ds h Qa) (k : Kont K H h Qa Q) : rBlt K b vs H Q := by
  have hl := line_eq
  by_cases bs : b = .sortd
  · subst bs
    exact sortd_ok rh r q k
  cases b <;> simp only [M.opBlt] at q
  case len =>
    obtain ⟨d, rfl, q1⟩ := arg1_inv q
    obtain ⟨v, rfl, rv⟩ := reps1 r
    rcases lenOk_inv q1 with ⟨s, rfl, hz, q⟩ | ⟨xs, e, q⟩ | ⟨p, kd, kvs, rfl, e, q⟩
    · refine .inl ⟨v, s.length, rfl, ?_, k.now rh q rfl⟩
      cases (show v = _ from rv.1)
      exact ⟨by rw [sV_len, hl]; exact hz, (sV_len s).symm⟩
    · obtain ⟨p, ws, ev, t, rs⟩ := seq_rep rh rv e
      subst ev
      refine .inl ⟨_, xs.length, rfl, ?_, k.now rh q rfl⟩
      rcases t with ⟨t, _⟩ | ⟨t, _⟩
      · exact .inl ⟨ws, t, rs.length.symm⟩
      · exact .inr ⟨ws, t, rs.length.symm⟩
    · cases (show v = _ from rv)
      obtain ⟨rfl, ps, rd, pr⟩ := rd_dct (e.imp (rh p _) (rh p _))
      have ln := Paired.length pr
      exact .inr ⟨p, ps, rfl, rd, k.now rh q (by show V.int _ = V.int _; rw [ln])⟩
  case min2 =>
    obtain ⟨d, e, rfl, q⟩ := arg2_inv q
    obtain ⟨v, w, rfl, rv, rw'⟩ := reps2 r
    obtain ⟨i, rfl, q⟩ := anInt_inv q
    obtain ⟨j, rfl, q⟩ := anInt_inv q
    cases (show v = _ from rv); cases (show w = _ from rw')
    exact ⟨i, j, rfl, k.now rh q rfl⟩
  case max2 =>
    obtain ⟨d, e, rfl, q⟩ := arg2_inv q
    obtain ⟨v, w, rfl, rv, rw'⟩ := reps2 r
    obtain ⟨i, rfl, q⟩ := anInt_inv q
    obtain ⟨j, rfl, q⟩ := anInt_inv q
    cases (show v = _ from rv); cases (show w = _ from rw')
    exact ⟨i, j, rfl, k.now rh q rfl⟩
  case int1 =>
    obtain ⟨d, rfl, q⟩ := arg1_inv q
    obtain ⟨v, rfl, rv⟩ := reps1 r
    rcases toInt_inv q with ⟨i, rfl, q⟩ | ⟨i, rfl, q⟩
    · cases (show v = _ from rv)
      exact .inl ⟨i, rfl, k.now rh q rfl⟩
    · cases (show v = _ from rv)
      exact .inr ⟨i, rfl, k.now rh q rfl⟩
  case abs =>
    obtain ⟨d, rfl, q⟩ := arg1_inv q
    obtain ⟨v, rfl, rv⟩ := reps1 r
    obtain ⟨i, rfl, q⟩ := anInt_inv q
    cases (show v = _ from rv)
    exact ⟨i, rfl, k.now rh q rfl⟩
  case sum =>
    obtain ⟨d, rfl, q⟩ := arg1_inv q
    obtain ⟨v, rfl, rv⟩ := reps1 r
    obtain ⟨p, xs, rfl, e, q⟩ := aLst_inv q
    obtain ⟨ns, e2, q⟩ := aSome_inv q
    cases (show v = _ from rv)
    obtain ⟨vs, a1, r1⟩ := rh p _ e
    have := ints_rep e2 r1
    subst this
    exact ⟨p, ns, rfl, SqL.of a1, k.now rh q rfl⟩
  case all =>
    obtain ⟨d, rfl, q⟩ := arg1_inv q
    obtain ⟨v, rfl, rv⟩ := reps1 r
    obtain ⟨p, xs, rfl, e, q⟩ := aLst_inv q
    obtain ⟨ns, e2, q⟩ := aSome_inv q
    cases (show v = _ from rv)
    obtain ⟨vs, a1, r1⟩ := rh p _ e
    have := bls_rep e2 r1
    subst this
    exact ⟨p, ns, rfl, SqL.of a1, k.now rh q rfl⟩
  case any =>
    obtain ⟨d, rfl, q⟩ := arg1_inv q
    obtain ⟨v, rfl, rv⟩ := reps1 r
    obtain ⟨p, xs, rfl, e, q⟩ := aLst_inv q
    obtain ⟨ns, e2, q⟩ := aSome_inv q
    cases (show v = _ from rv)
    obtain ⟨vs, a1, r1⟩ := rh p _ e
    have := bls_rep e2 r1
    subst this
    exact ⟨p, ns, rfl, SqL.of a1, k.now rh q rfl⟩
  case list =>
    obtain ⟨d, rfl, q⟩ := arg1_inv q
    obtain ⟨v, rfl, rv⟩ := reps1 r
    obtain ⟨xs, e, q⟩ := aSome_inv q
    obtain ⟨p, ws, ev, t, rs⟩ := seq_rep rh rv e
    subst ev
    refine ⟨p, ws, rfl, t.imp (·.1) (·.1), fun l hn => ?_⟩
    exact k _ _ _ _ (q l (rh.none hn)) (frm_new hn) rfl (rh_new rh hn ⟨_, upd_same, rs.kp (kp_new hn)⟩)
  case tuple =>
    obtain ⟨d, rfl, q⟩ := arg1_inv q
    obtain ⟨v, rfl, rv⟩ := reps1 r
    obtain ⟨xs, e, q⟩ := aSome_inv q
    obtain ⟨p, ws, ev, t, rs⟩ := seq_rep rh rv e
    subst ev
    refine ⟨p, ws, rfl, ?_⟩
    rcases t with ⟨t, _⟩ | ⟨t, e3⟩
    · refine .inl ⟨t, fun l hn => ?_⟩
      exact k _ _ _ _ q (frm_hid hn) ⟨l, ws, rfl, .inl upd_same, rs.kp (kp_new hn)⟩ (rh_hid rh hn)
    · subst e3
      exact .inr ⟨t, k.now rh q rv⟩
  case dict1 =>
    obtain ⟨d, rfl, q⟩ := arg1_inv q
    obtain ⟨v, rfl, rv⟩ := reps1 r
    obtain ⟨p, kd, kvs, rfl, e1, q⟩ := aDctR_inv q
    cases (show v = _ from rv)
    obtain ⟨rfl, ps, a1, pr⟩ := rd_dct (e1.imp (rh p _) (rh p _))
    refine ⟨p, ps, rfl, a1, fun l hn => ?_⟩
    exact k _ _ _ _ (q l (rh.none hn)) (frm_new hn) rfl (rh_new rh hn (dct0.mpr ⟨ps, upd_same, Paired.mapP pr fun _ _ z => ⟨z.1, z.2.kp (kp_new hn)⟩⟩))
  case klist =>
    obtain ⟨d, rfl, q⟩ := arg1_inv q
    obtain ⟨v, rfl, rv⟩ := reps1 r
    obtain ⟨p, kd, kvs, rfl, e1, q⟩ := aDctR_inv q
    cases (show v = _ from rv)
    obtain ⟨rfl, ps, a1, pr⟩ := rd_dct (e1.imp (rh p _) (rh p _))
    refine ⟨p, ps, rfl, a1, fun l hn => ?_⟩
    exact k _ _ _ _ (q l (rh.none hn)) (frm_new hn) rfl (rh_new rh hn ⟨_, upd_same, keys_rep pr⟩)
  case max1 =>
    obtain ⟨d, rfl, q⟩ := arg1_inv q
    obtain ⟨v, rfl, rv⟩ := reps1 r
    obtain ⟨p, xs, rfl, e, q⟩ := aLst_inv q
    obtain ⟨ns, e2, q0, q⟩ := aSome_inv q
    cases (show v = _ from rv)
    obtain ⟨vs, a1, r1⟩ := rh p _ e
    have := ints_rep e2 r1
    subst this
    exact ⟨p, ns, rfl, SqL.of a1, List.length_pos_iff.mpr q0, fun m h1 h2 => k.now rh (q m h1 h2) rfl⟩
  case sortd => exact absurd rfl bs
  case sorted =>
    obtain ⟨d, rfl, q⟩ := arg1_inv q
    obtain ⟨v, rfl, rv⟩ := reps1 r
    obtain ⟨p, kd, kvs, rfl, e1, q⟩ := aDctR_inv q
    obtain ⟨ss, e2, q0, q⟩ := aSome_inv q
    cases (show v = _ from rv)
    obtain ⟨rfl, ps, a1, pr⟩ := rd_dct (e1.imp (rh p _) (rh p _))
    obtain ⟨k1, k2⟩ := keys_strs pr e2
    refine ⟨p, ps, ss.map sV, rfl, a1, k1, by simpa using q0, fun ys l hp _ hn => ?_⟩
    obtain ⟨ys', rfl, hp'⟩ := perm_sV hp
    refine k _ _ _ _ (q ys' hp' l (rh.none hn)) (frm_new hn) rfl (rh_new rh hn ⟨_, upd_same, ?_⟩)
    rw [List.map_map]
    exact reps_strs fun s hs => k2 s (hp'.mem_iff.mp hs)

/-! ### isinstance -/
def tyS : M.Ty → String
  | .int => "int" | .bool => "bool" | .tuple => "tuple" | .str => "str" | .list => "list" | .dict => "dict"
theorem isi_ok {d : SD} {t : M.Ty} {v : V} {b : Bool} (rh : RH K H h) (r : Rep K H d v) (e : M.opIsi d t h = some b) (q : Q (.bl b) H) : rIsi K [v, .ty (tyS t)] H Q := by
  have go : ∀ (T : String), TyX K H v (.type T) → kitB T (tyS t) = some b → rIsi K [v, .ty (tyS t)] H Q := fun T ty k => ⟨v, _, _, _, b, rfl, .ty _, ty, kit_ty k, q⟩
  cases d with
  | non =>
    cases (show v = _ from r)
    refine ⟨_, _, _, _, b, rfl, .ty _, .base .non, ?_, q⟩
    cases t <;> simp only [M.opIsi, Option.some.injEq] at e <;> subst e <;> rfl
  | bl y =>
    cases (show v = _ from r)
    refine go "bool" (.base (.bl y)) ?_
    cases t <;> simp only [M.opIsi, Option.some.injEq] at e <;> subst e <;> decide +kernel
  | int y =>
    cases (show v = _ from r)
    refine go "int" (.base (.int y)) ?_
    cases t <;> simp only [M.opIsi, Option.some.injEq] at e <;> subst e <;> decide +kernel
  | str y =>
    cases (show v = _ from r.1)
    refine go "str" (.base (.str _)) ?_
    cases t <;> simp only [M.opIsi, Option.some.injEq] at e <;> subst e <;> decide +kernel
  | tup y =>
    obtain ⟨a, vs, e1, tt, rs⟩ := r
    subst e1
    refine go "tuple" ?_ ?_
    · rcases tt with tt | ⟨o, its, n, e1, e2, _⟩
      · exact .base (.tup tt)
      · exact .kTuple e1 e2
    · cases t <;> simp only [M.opIsi, Option.some.injEq] at e <;> subst e <;> decide +kernel
  | ref p =>
    cases (show v = _ from r)
    simp only [M.opIsi] at e
    cases z : h p with
    | none => rw [z] at e; cases e
    | some o =>
      rw [z] at e
      cases o with
      | lst xs =>
        obtain ⟨vs, a1, r1⟩ := rh p _ z
        refine go "list" (.base (.lst a1)) ?_
        cases t <;> simp only [Option.some.injEq] at e <;> subst e <;> decide +kernel
      | dct kd kvs =>
        cases kd with
        | succ _ => cases e
        | zero =>
          obtain ⟨ps, a1, _⟩ := dct0.mp (rh p _ z)
          refine go "dict" (.base (.dK a1)) ?_
          cases t <;> simp only [Option.some.injEq] at e <;> subst e <;> decide +kernel
      | _ => cases e
  | rol _ => simp [M.opIsi] at e

/-! ### methods -/
/-- list.extend by a tuple, whatever else the tuple's object holds -/
theorem ext_tup (l b : Addr) (xs ys : Array Value) (n m : Nat) (dd : Option Addr) (sl : Array (Option Value)) (h1 : ¬(!xs.isEmpty && Builtin.List.listTooLong (xs.size + ys.size)) = true) (h2 : xs.size ≤ sizeLine) (h3 : xs.size + ys.size ≤ sizeLine + 1) :
    Meets (Builtin.«list.extend» ⟨[.ref l, .ref b], []⟩) (fun _ R s => s.heap.get? l = some { cls := .type "list", dict := none, data := .seq xs n, slots := #[] } ∧
      s.heap.get? b = some { cls := .type "tuple", dict := dd, data := .seq ys m, slots := sl } ∧
      R (.ok (.ret Value.none)) { s with heap := s.heap.update l (Obj.mapSeq fun x => x ++ ys), toks := s.toks }) := .of_wp fun prog w A R s h => by
    obtain ⟨hp, g, d, tk, os⟩ := s
    obtain ⟨hl, hb, h⟩ := h
    have f1 := AutoSeq1.idx_int
    have f2 := AutoSeq1.sub_tuple_tuple
    have f3 := AutoSeq1.sub_list_list
    have f4 := AutoSeq1.sub_tuple_list
    have f5 := AutoSeq1.sub_list_tuple
    have h4 : (xs ++ ys).size ≤ sizeLine + 1 := by rw [Array.size_append]; exact h3
    wp_walk using (wpAny_updateSeq hl rfl (hz := h2) (_hz' := h4)), AutoSeq1.wpAny_loadPart' hl, AutoSeq1.wpAny_loadPart' hb
    exact ⟨_, rfl, h⟩
def rExtT (K : Fr) : V → List V → Hp → VK → Prop := fun x vs H Q => ∃ l b xs zs, x = .ref l ∧ vs = [.ref b] ∧ H l = some (.lst xs) ∧ SqT K H b zs ∧ xs.length + zs.length ≤ sizeLine ∧ Q .non (upd H l (.lst (xs ++ zs)))
theorem mt_extT {X : Cx} : MtR X "list.extend" (rExtT X.F) := by
  intro pins s σ H x vs v us Q I rx rv h
  obtain ⟨l, b, xs, zs, rfl, rfl, hH, hB, hz, q⟩ := h
  cases rx
  obtain ⟨u, rfl, ru⟩ := rv.one
  cases ru
  obtain ⟨z, its, n, r, hl, e⟩ := I.lstM hH
  obtain ⟨its2, r2, ⟨o, e2, c2, m, d2⟩, _⟩ := I.tuple hB
  obtain ⟨oc, od, dt, osl⟩ := o
  dsimp only at c2 d2
  subst c2 d2
  have hsz : its.toArray.size + its2.toArray.size ≤ sizeLine := by
    have a1 := r.length
    have a2 := r2.length
    rw [List.size_toArray, List.size_toArray]; omega
  have hlong : ¬ (!its.toArray.isEmpty && Builtin.List.listTooLong (its.toArray.size + its2.toArray.size)) = true := by
    rw [notLongL hsz, Bool.and_false]
    exact Bool.false_ne_true
  refine call_meets F.slot_list_extend ⟨_, e, rfl⟩ F.entry_list_extend (F.args_list_extend_2 _ _) (ext_tup l b its.toArray its2.toArray n m od osl hlong (by omega) (by omega)) ⟨e, e2, ?_⟩
  refine ⟨.non, _, I.lset (its' := its ++ its2) hH e (by simp) (r.append r2) ?_, rfl, q⟩
  rw [List.length_append]
  omega
def mthT : M.Mth → Option (String × String × Str)
  | .append => some ("list", "list.append", "append") | .pop => some ("list", "list.pop", "pop") | .popAt => some ("list", "list.pop", "pop") | .extend => some ("list", "list.extend", "extend")
  | .reverse => some ("list", "list.reverse", "reverse") | .clear => some ("list", "list.clear", "clear") | .get1 => some ("dict", "dict.get", "get") | .get2 => some ("dict", "dict.get", "get")
  | .update => some ("dict", "dict.update", "update") | .insert => some ("list", "list.insert", "insert") | .dclear => some ("dict", "dict.clear", "clear") | .join => some ("str", "str.join", "join") | .index => some ("list", "list.index", "index") | .extendT => some ("list", "list.extend", "extend") | _ => none
def rUpd : V → List V → Hp → VK → Prop := fun x vs H Q => ∃ (a b : Addr) (ks ls : List (Key × V)), x = .ref a ∧ vs = [.ref b] ∧ a ≠ b ∧ H a = some (.dK ks) ∧ H b = some (.dK ls) ∧ ks.length + ls.length ≤ sizeLine ∧ Q .non (upd H a (.dK (mergeK ks ls)))
theorem mt_update {X : Cx} : MtR X "dict.update" rUpd := by
  intro pins s σ H x vs v us Q I rx rv h
  obtain ⟨a, b, ks, ls, rfl, rfl, hne, ha, hb, hz, q⟩ := h
  cases rx
  obtain ⟨u, rfl, ru⟩ := rv.one
  obtain rfl : u = Value.ref b := ru
  obtain ⟨_, ya, va, ra, da⟩ := dk_of I.hok ha
  obtain ⟨_, yb, vb, rb, db⟩ := dk_of I.hok hb
  refine call_meetsIn PySem.F.slot_dict_update da.typeIs PySem.F.entry_dict_update (PySem.F.args_dict_update_2 _ _) (meets_dict_update (mixKind X.prog X.w) a b hne yb) ⟨va, vb, da, db, by rw [← ra.length, ← rb.length]; exact hz, fun h' d1 d2 hs => ?_⟩
  have rm := KV.merge rb ra
  have hl : (mergeK ks ls).length ≤ sizeLine := by have := length_mergeK ls ks; omega
  obtain ⟨o1, ho1, _⟩ := Heap.dictOf_iff.mp d1
  exact ⟨.non, _, d_write I (by rw [ha]; trivial) hs ⟨_, ho1⟩ (dk_new hl ya rm d1), rfl, q⟩
def rGet1 : V → List V → Hp → VK → Prop := fun x vs H Q => ∃ a y o, x = .ref a ∧ vs = [y] ∧ DGet H a y o ∧ Q (o.getD .non) H
def rGet2 : V → List V → Hp → VK → Prop := fun x vs H Q => ∃ a y z o, x = .ref a ∧ vs = [y, z] ∧ DGet H a y o ∧ Q (o.getD z) H
theorem mt_get1 {X : Cx} (hu : X.A.units + 1 < cLine) : MtR X "dict.get" rGet1 := by
  intro pins s σ H x vs v us Q I rx rv h
  obtain ⟨a, y, o, rfl, rfl, g, q⟩ := h
  cases rx
  obtain ⟨u, rfl, ru⟩ := rv.one
  exact d_get1 hu I g ru fun w' s3 I3 rw' => ⟨_, H, I3, rw', q⟩
theorem mt_get2 {X : Cx} (hu : X.A.units + 1 < cLine) : MtR X "dict.get" rGet2 := by
  intro pins s σ H x vs v us Q I rx rv h
  obtain ⟨a, y, z, o, rfl, rfl, g, q⟩ := h
  cases rx
  obtain ⟨u, u2, rfl, ru, ru2⟩ := rv.two
  exact d_get2 hu I g ru ru2 fun w' s3 I3 rw' => ⟨_, H, I3, rw', q⟩
def rMth (K : Fr) : M.Mth → V → List V → Hp → VK → Prop
  | .append => rAppend | .pop => rPop | .popAt => rPopAt | .extend => rExtend | .reverse => rReverse | .clear => rClear | .get1 => rGet1 | .get2 => rGet2 | .update => rUpd
  | .insert => fun x vs H Q => ∃ (l : Addr) (xs : List V) (i : Int) (y : V), x = .ref l ∧ vs = [.int i, y] ∧ H l = some (.lst xs) ∧ xs.length < sizeLine ∧ 0 ≤ i ∧ i < 2 ^ 63 ∧ Q .non (upd H l (.lst (xs.take i.toNat ++ [y] ++ xs.drop i.toNat)))
  | .dclear => rDClear
  | .extendT => rExtT K
  | .index => rIndex K
  | .join => fun x xs H Q => ∃ a p, ∃ ys : List Str, x = .str a ∧ xs = [.ref p] ∧ (SqL K H p (ys.map V.str) ∨ SqT K H p (ys.map V.str)) ∧ (ys.map (·.length)).sum + ys.length * a.length ≤ 16777216 ∧ Q (.str (Txt.join a ys)) H
  | _ => fun _ _ _ _ => False
structure MFact (m : M.Mth) (T id : String) (nm : Str) : Prop where
  pa : PlainAttrs T
  slot : Slot T nm id
  ty : typeOf (.builtin id) = pure (.type "method_descriptor")
theorem mth_fact {m : M.Mth} {T id : String} {nm : Str} (e : mthT m = some (T, id, nm)) : MFact m T id nm := by
  cases m <;> simp only [mthT, Option.some.injEq, Prod.mk.injEq, reduceCtorEq] at e <;> obtain ⟨rfl, rfl, rfl⟩ := e
  · exact ⟨PySem.F.plainAttrs_list, PySem.F.slot_list_append, PySem.F.type_list_append⟩
  · exact ⟨PySem.F.plainAttrs_list, PySem.F.slot_list_pop, PySem.F.type_list_pop⟩
  · exact ⟨PySem.F.plainAttrs_list, PySem.F.slot_list_pop, PySem.F.type_list_pop⟩
  · exact ⟨PySem.F.plainAttrs_list, PySem.F.slot_list_extend, PySem.F.type_list_extend⟩
  · exact ⟨PySem.F.plainAttrs_list, PySem.F.slot_list_insert, PySem.F.type_list_insert⟩
  · exact ⟨PySem.F.plainAttrs_list, PySem.F.slot_list_reverse, PySem.F.type_list_reverse⟩
  · exact ⟨PySem.F.plainAttrs_list, PySem.F.slot_list_clear, PySem.F.type_list_clear⟩
  · exact ⟨PySem.F.plainAttrs_dict, PySem.F.slot_dict_get, PySem.F.type_dict_get⟩
  · exact ⟨PySem.F.plainAttrs_dict, PySem.F.slot_dict_get, PySem.F.type_dict_get⟩
  · exact ⟨PySem.F.plainAttrs_dict, PySem.F.slot_dict_update, PySem.F.type_dict_update⟩
  · exact ⟨PySem.F.plainAttrs_str, PySem.F.slot_str_join, PySem.F.type_str_join⟩
  · exact ⟨PySem.F.plainAttrs_list, PySem.F.slot_list_index, PySem.F.type_list_index⟩
  · exact ⟨PySem.F.plainAttrs_dict, PySem.F.slot_dict_clear, PySem.F.type_dict_clear⟩
  · exact ⟨PySem.F.plainAttrs_list, PySem.F.slot_list_extend, PySem.F.type_list_extend⟩
theorem mth_rule {X : Cx} (hu : X.A.units + 1 < cLine) {m : M.Mth} {T id : String} {nm : Str} (e : mthT m = some (T, id, nm)) : MtR X id (rMth X.F m) := by
  cases m <;> simp only [mthT, Option.some.injEq, Prod.mk.injEq, reduceCtorEq] at e <;> obtain ⟨rfl, rfl, rfl⟩ := e
  · exact mt_append
  · exact mt_pop
  · exact mt_popAt
  · exact mt_extend
  · exact mt_insert
  · exact mt_reverse
  · exact mt_clear
  · exact mt_get1 hu
  · exact mt_get2 hu
  · exact mt_update
  · exact mt_join
  · exact mt_index
  · exact mtd_clear
  · exact mt_extT
theorem recv_ok {m : M.Mth} {T id : String} {nm : Str} (e : mthT m = some (T, id, nm)) {d : SD} {v : V} (rh : RH K H h) (r : Rep K H d v) (q : M.recvOk m d h) : tyV K T v H := by
  have lst : M.aLst d h (fun _ _ => True) → tyV K "list" v H := fun q => by
    obtain ⟨p, xs, rfl, e1, _⟩ := aLst_inv q
    cases (show v = _ from r)
    obtain ⟨vs, a1, r1⟩ := rh p _ e1
    exact .inl ⟨rfl, vs, SqL.of a1⟩
  have dct : M.aDct d h (fun _ _ _ => True) → tyV K "dict" v H := fun q => by
    obtain ⟨p, kd, xs, rfl, e1, _⟩ := aDct_inv q
    cases (show v = _ from r)
    have o := rh p _ e1
    match kd, o with
    | 0, ⟨ps, a1, _⟩ => exact .inr (.inr (.inl ⟨rfl, .inl ⟨ps, a1⟩⟩))
  cases m <;> simp only [mthT, Option.some.injEq, Prod.mk.injEq, reduceCtorEq] at e <;> obtain ⟨rfl, rfl, rfl⟩ := e
  · exact lst q
  · exact lst q
  · exact lst q
  · exact lst q
  · exact lst q
  · exact lst q
  · exact lst q
  · exact dct q
  · exact dct q
  · exact dct q
  · cases d with
    | str s => cases (show v = _ from r.1); exact rfl
    | _ => exact False.elim q
  · exact lst q
  · exact dct q
  · exact lst q
theorem lst_put {p : Addr} {xs ys : List SD} {ws : List V} {d : SD} {v : V} (rh : RH K H h) (e : h p = some (.lst xs)) (q : Qa d (M.up h p (.lst ys))) (k : Kont K H h Qa Q) (rd : Rep K H d v) (rs : Reps K H ys ws) :
    Q v (upd H p (.lst ws)) := by
  have kp : Kp H (upd H p (.lst ws)) := kp_put rh e
  exact k _ _ _ _ q (frm_put e) (rd.kp kp) (rh_put rh e ⟨_, upd_same, rs.kp kp⟩)
theorem Reps.erase : ∀ (n : Nat) {ds : List SD} {vs : List V}, Reps K H ds vs → Reps K H (ds.eraseIdx n) (vs.eraseIdx n)
  | _, [], _, r => by cases (show _ = _ from r); exact rfl
  | 0, d :: ds, _, ⟨v, r, e, a, b⟩ => by subst e; exact b
  | n + 1, d :: ds, _, ⟨v, r, e, a, b⟩ => by subst e; exact ⟨v, _, rfl, a, Reps.erase n b⟩
theorem kv_merge : ∀ {more kvs : List (SD × SD)} {ls ks : List (Key × V)}, Paired (PR K H R0) more ls → Paired (PR K H R0) kvs ks → Paired (PR K H R0) (M.mergeL kvs more) (mergeK ks ls) := by
  intro more kvs ls ks r
  induction r generalizing kvs ks with
  | nil => intro q; exact q
  | @cons x p xs ps h t ih =>
    intro q
    exact ih (kv_put kr0 q h.1 h.2)
theorem joinS_eq (s : M.Sx) : ∀ ss : List M.Sx, TL.joinL s ss = M.joinS s ss
  | [] => rfl
  | [_] => rfl
  | p :: q :: r => by
    show p ++ (s ++ TL.joinL s (q :: r)) = p ++ (s ++ M.joinS s (q :: r))
    rw [joinS_eq s (q :: r)]
theorem joinS_ok {s : M.Sx} (os : sOk s) : ∀ {ss : List M.Sx}, (∀ t ∈ ss, sOk t) → sOk (M.joinS s ss)
  | [], _ => fun c hc => nomatch hc
  | [p], h => h p List.mem_cons_self
  | p :: q :: r, h => fun c hc => by
    rcases List.mem_append.mp hc with z | z
    · exact h p List.mem_cons_self c z
    · rcases List.mem_append.mp z with z | z
      · exact os c z
      · exact joinS_ok os (fun t ht => h t (List.mem_cons_of_mem _ ht)) c z
theorem mth_ok {m : M.Mth} {d : SD} {v : V} {ds : List SD} {vs : List V} (rh : RH K H h) (rd : Rep K H d v) (r : Reps K H ds vs) (q : M.opMth m d ds h Qa) (k : Kont K H h Qa Q) : rMth K m v vs H Q := by
  have hl := line_eq
  cases m <;> simp only [M.opMth] at q
  case append =>
    obtain ⟨e, rfl, q⟩ := arg1_inv q
    obtain ⟨w, rfl, rw'⟩ := reps1 r
    obtain ⟨p, xs, rfl, e1, hz, q⟩ := aLst_inv q
    cases (show v = _ from rd)
    obtain ⟨ws, a1, r1⟩ := rh p _ e1
    have ln := r1.length
    exact ⟨p, ws, w, rfl, rfl, a1, by omega, lst_put rh e1 q k rfl (r1.append (.one rw'))⟩
  case pop =>
    obtain ⟨rfl, q⟩ := q
    cases (show vs = _ from r)
    obtain ⟨p, xs, rfl, e1, q⟩ := aLst_inv q
    obtain ⟨y, e2, q⟩ := aSome_inv q
    cases (show v = _ from rd)
    obtain ⟨ws, a1, r1⟩ := rh p _ e1
    have ln := r1.length
    obtain ⟨w, e3, ry⟩ := r1.get e2
    exact ⟨p, ws, w, rfl, rfl, a1, by rw [ln]; exact e3, lst_put rh e1 q k ry r1.dropLast⟩
  case popAt =>
    obtain ⟨e, rfl, q⟩ := arg1_inv q
    obtain ⟨i, rfl, q⟩ := anInt_inv q
    obtain ⟨w, rfl, rw'⟩ := reps1 r
    cases (show w = _ from rw')
    obtain ⟨p, xs, rfl, e1, ⟨i0, i1⟩, q⟩ := aLst_inv q
    obtain ⟨y, e2, q⟩ := aSome_inv q
    cases (show v = _ from rd)
    obtain ⟨ws, a1, r1⟩ := rh p _ e1
    have ln := r1.length
    obtain ⟨w, e3, ry⟩ := r1.get e2
    have hlt : i.toNat < ws.length := (List.getElem?_eq_some_iff.mp e3).1
    refine ⟨p, ws, i, i.toNat, w, rfl, rfl, a1, by omega, by omega, ?_, e3, lst_put rh e1 q k ry (r1.erase _)⟩
    exact seqIndex_of (by omega) (by omega)
  case update =>
    obtain ⟨e, rfl, q⟩ := arg1_inv q
    obtain ⟨w, rfl, rw'⟩ := reps1 r
    obtain ⟨p, kd, kvs, rfl, e1, q⟩ := aDct_inv q
    obtain ⟨p2, kd2, more, rfl, e2, hne, rfl, rfl, hz, q⟩ := aDct_inv q
    cases (show v = _ from rd); cases (show w = _ from rw')
    obtain ⟨ks, a1, r1⟩ := dct0.mp (rh p _ e1)
    obtain ⟨ls, a2, r2⟩ := dct0.mp (rh p2 _ e2)
    have n1 := Paired.length r1
    have n2 := Paired.length r2
    have kp : Kp H (upd H p (.dK (mergeK ks ls))) := kp_put rh e1
    refine ⟨p, p2, ks, ls, rfl, rfl, hne, a1, a2, by omega, k _ _ _ _ q (frm_put e1) rfl (rh_put rh e1 (dct0.mpr ⟨_, upd_same, ?_⟩))⟩
    exact Paired.mapP (kv_merge r2 r1) fun _ _ z => ⟨z.1, z.2.kp kp⟩
  case insert =>
    obtain ⟨y, e, rfl, q⟩ := arg2_inv q
    obtain ⟨i, rfl, q⟩ := anInt_inv q
    obtain ⟨w, u, rfl, rw', ru⟩ := reps2 r
    cases (show w = _ from rw')
    obtain ⟨p, xs, rfl, e1, ⟨i0, i1⟩, hz, q⟩ := aLst_inv q
    cases (show v = _ from rd)
    obtain ⟨ws, a1, r1⟩ := rh p _ e1
    have ln := r1.length
    exact ⟨p, ws, i, u, rfl, rfl, a1, by omega, i0, by omega, lst_put rh e1 q k rfl (((r1.take _).append (.one ru)).append (r1.drop _))⟩
  case index =>
    obtain ⟨e, rfl, q⟩ := arg1_inv q
    obtain ⟨i, rfl, q⟩ := anInt_inv q
    obtain ⟨w, rfl, rw'⟩ := reps1 r
    cases (show w = _ from rw')
    obtain ⟨p, xs, rfl, e1, q⟩ := aLst_inv q
    obtain ⟨ns, e2, hi, q⟩ := aSome_inv q
    cases (show v = _ from rd)
    obtain ⟨ws, a1, r1⟩ := rh p _ e1
    obtain rfl := ints_rep e2 r1
    have hlt := List.idxOf_lt_length_of_mem hi
    have hz : ns[ns.idxOf i]? = some i := by
      rw [List.getElem?_eq_getElem hlt]
      simp
    refine ⟨p, _, _, ns.idxOf i, V.int i, rfl, rfl, SqL.of a1, rfl, ?_, by rw [List.getElem?_map, hz]; rfl, ?_, ?_, k.now rh q rfl⟩
    · simp [flatV]
    · simp [eqV]
    · intro m z' hm hz'
      rw [List.getElem?_map] at hz'
      cases e3 : ns[m]? with
      | none => rw [e3] at hz'; cases hz'
      | some j =>
        rw [e3] at hz'
        cases hz'
        have : j ≠ i := fun c => by
          subst c
          obtain ⟨l, e4⟩ := List.getElem?_eq_some_iff.mp e3
          have := List.not_of_lt_findIdx (p := (· == j)) (xs := ns) (i := m) hm
          simp [e4] at this
        simp [eqV, this]
  case dclear =>
    obtain ⟨rfl, q⟩ := q
    cases (show vs = _ from r)
    obtain ⟨p, kd, kvs, rfl, e1, rfl, q⟩ := aDct_inv q
    cases (show v = _ from rd)
    obtain ⟨ks, a1, r1⟩ := dct0.mp (rh p _ e1)
    exact ⟨p, ks, rfl, rfl, a1, k _ _ _ _ q (frm_put e1) rfl (rh_put rh e1 (dct0.mpr ⟨[], upd_same, .nil⟩))⟩
  case join =>
    obtain ⟨e, rfl, q⟩ := arg1_inv q
    obtain ⟨w, rfl, rw'⟩ := reps1 r
    cases d with
    | str s =>
      obtain ⟨xs, e1, q⟩ := aSome_inv q
      obtain ⟨ss, e2, hz, q⟩ := aSome_inv q
      obtain ⟨rd, os⟩ := rd
      cases (show v = _ from rd)
      obtain ⟨p, ws, ev, t, rs⟩ := seq_rep rh rw' e1
      subst ev
      obtain ⟨e3, oks⟩ := strs_rep e2 rs
      subst e3
      refine ⟨sV s, p, ss.map sV, rfl, rfl, ?_, ?_, ?_⟩
      · have : (ss.map sV).map V.str = ss.map fun s => V.str (sV s) := by rw [List.map_map]; rfl
        rw [this]
        exact t.imp (·.1) (·.1)
      · rw [List.map_map, List.length_map, sV_len]
        have : (ss.map ((fun x : Str => x.length) ∘ sV)) = ss.map (·.length) := List.map_congr_left fun x _ => sV_len x
        rw [this]
        exact hz
      · have : Txt.join (sV s) (ss.map sV) = sV (M.joinS s ss) := (SX.join_S s ss).trans (by rw [joinS_eq]; rfl)
        rw [this]
        refine k.now rh q ⟨rfl, ?_⟩
        exact joinS_ok os oks
    | _ => exact False.elim q
  case extend =>
    obtain ⟨e, rfl, q⟩ := arg1_inv q
    obtain ⟨w, rfl, rw'⟩ := reps1 r
    obtain ⟨p, xs, rfl, e1, q⟩ := aLst_inv q
    obtain ⟨p2, ys, rfl, e2, hz, q⟩ := aLst_inv q
    cases (show v = _ from rd); cases (show w = _ from rw')
    obtain ⟨ws, a1, r1⟩ := rh p _ e1
    obtain ⟨zs, a2, r2⟩ := rh p2 _ e2
    have ln := r1.length
    have ln2 := r2.length
    exact ⟨p, p2, ws, zs, rfl, rfl, a1, a2, by omega, lst_put rh e1 q k rfl (r1.append r2)⟩
  case extendT =>
    obtain ⟨e, rfl, q⟩ := arg1_inv q
    obtain ⟨w, rfl, rw'⟩ := reps1 r
    obtain ⟨p, xs, rfl, e1, q⟩ := aLst_inv q
    cases (show v = _ from rd)
    cases e with
    | tup ys =>
      obtain ⟨hz, q⟩ := (show xs.length + ys.length ≤ M.LINE ∧ _ from q)
      obtain ⟨a, zs, e2, t, r2⟩ := rw'
      subst e2
      obtain ⟨ws, a1, r1⟩ := rh p _ e1
      have ln := r1.length
      have ln2 := r2.length
      exact ⟨p, a, ws, zs, rfl, rfl, a1, t.imp .inl id, by omega, lst_put rh e1 q k rfl (r1.append r2)⟩
    | _ => exact False.elim q
  case reverse =>
    obtain ⟨rfl, q⟩ := q
    cases (show vs = _ from r)
    obtain ⟨p, xs, rfl, e1, q⟩ := aLst_inv q
    cases (show v = _ from rd)
    obtain ⟨ws, a1, r1⟩ := rh p _ e1
    exact ⟨p, ws, rfl, rfl, a1, lst_put rh e1 q k rfl r1.rev⟩
  case clear =>
    obtain ⟨rfl, q⟩ := q
    cases (show vs = _ from r)
    obtain ⟨p, xs, rfl, e1, q⟩ := aLst_inv q
    cases (show v = _ from rd)
    obtain ⟨ws, a1, r1⟩ := rh p _ e1
    exact ⟨p, ws, rfl, rfl, a1, lst_put rh e1 q k rfl rfl⟩
  case get1 =>
    obtain ⟨e, rfl, q⟩ := arg1_inv q
    obtain ⟨w, rfl, rw'⟩ := reps1 r
    obtain ⟨p, kd, kvs, rfl, e1, kk, q⟩ := aDct_inv q
    cases (show v = _ from rd)
    obtain ⟨ov, g, z⟩ := dget_ok (rh p _ e1) kk rw'
    refine ⟨p, w, ov, rfl, rfl, g, ?_⟩
    rcases z with ⟨z1, z2⟩ | ⟨x, y, z1, z2, z3⟩
    · rw [z1] at q; rw [z2]; exact k.now rh q rfl
    · rw [z1] at q; rw [z2]; exact k.now rh q z3
  case get2 =>
    obtain ⟨e, f, rfl, q⟩ := arg2_inv q
    obtain ⟨w, u, rfl, rw', ru⟩ := reps2 r
    obtain ⟨p, kd, kvs, rfl, e1, kk, q⟩ := aDct_inv q
    cases (show v = _ from rd)
    obtain ⟨ov, g, z⟩ := dget_ok (rh p _ e1) kk rw'
    refine ⟨p, w, u, ov, rfl, rfl, g, ?_⟩
    rcases z with ⟨z1, z2⟩ | ⟨x, y, z1, z2, z3⟩
    · rw [z1] at q; rw [z2]; exact k.now rh q ru
    · rw [z1] at q; rw [z2]; exact k.now rh q z3

/-! ### o[i] = v -/
def rSetD : TSet := fun o i v H Q => ∃ p H', o = .ref p ∧ DPut H p i v H' ∧ Q H'
theorem PSet.or {X : Cx} {t t' : TSet} (a : PSet X t) (b : PSet X t') : PSet X (fun o i v H Q => t o i v H Q ∨ t' o i v H Q) := by
  intro pins s σ H o i v ov iv u Q I r1 r2 r3 q
  rcases q with q | q
  · exact a pins s σ H o i v ov iv u Q I r1 r2 r3 q
  · exact b pins s σ H o i v ov iv u Q I r1 r2 r3 q
theorem set_dict {X : Cx} (hu : X.A.units + 1 < cLine) : PSet X rSetD := by
  intro pins s σ H o i v ov iv u Q I r1 r2 r3 q
  obtain ⟨p, H', rfl, g, q⟩ := q
  cases r1
  exact d_setItem hu I g r2 r3 fun s4 I4 => ⟨H', I4, q⟩
/-- a dict with nested keys -/
def rSetN (K : Fr) : TSet := fun o i v H Q => ∃ a b kvs d e, o = .ref a ∧ i = .ref b ∧ ObRep K H a (.dcn kvs) ∧ M.nkOk d = true ∧ Rep K H d i ∧ Rep K H e v ∧ kvs.length < M.LINE ∧ ∀ H' : Hp, (∃ u, H' = upd H a u ∧ (∀ vs, u ≠ .tup vs)) → ObRep K H' a (.dcn (M.kvPut kvs d e)) → Q H'
theorem set_nest {X : Cx} (hu : X.A.units + 200 < cLine) : PSet X (rSetN X.F) := by
  intro pins s σ H o i v ov iv u Q I r1 r2 r3 q
  obtain ⟨a, b, kvs, d, e, rfl, rfl, ⟨xs, eo, pr⟩, hd, rd, re, hz, q⟩ := q
  cases r1
  cases (show iv = Value.ref b from r2)
  obtain ⟨z, hy, ys, py, dd⟩ := ent_dict I eo pr
  have hl := line_eq
  have n1 := Paired.length pr
  have n2 := Paired.length py
  refine wpAny_setItem_heap (knd := nestedKind X.prog X.w) (hsz := by omega) (by show X.A.units + 1 + 8 < cLine; omega) (nk_is I hd rd) dd fun h' dd' hs => ?_
  obtain ⟨q1, es, ep, hq, h2, h3, h4, _, h5⟩ := dd'
  have ln := storedX_len (xs := xs) (k := nK d) (a := b) (v := v)
  have en : EntO X.prog X.w a (storedX xs (nK d) b v) h' := ⟨by omega, hy, _, ent_stored py (nK d) b r3, q1, es, ep, hq, h2, h3, h4, h5⟩
  have I2 := d_write (t' := s.toks + (nestedKind X.prog X.w).draws (nK d)) (ob := .ext (EntO X.prog X.w a (storedX xs (nK d) b v))) I (by rw [eo]; exact True.intro) hs ⟨q1, hq⟩ ⟨en, ⟨q1, hq⟩, fun h1 h2 e st => ent_ok e st⟩
  have kp : Kp H (upd H a (.ext (EntO X.prog X.w a (storedX xs (nK d) b v)))) := ⟨fun c vs ec => by rw [upd_ne (ne_of ec eo (fun z => nomatch z))]; exact ec, fun c o u ec => by rw [upd_ne (ne_of ec eo (fun z => nomatch z))]; exact ec⟩
  exact ⟨_, I2, q _ ⟨_, rfl, fun vs z => by cases z⟩ ⟨_, upd_same, Paired.mapP (nk_put pr hd rd re) fun _ _ z => ⟨z.1, z.2.1, z.2.2.1.kp kp, z.2.2.2.kp kp⟩⟩⟩
def rSet (K : Fr) : TSet := fun o i v H Q => rSetL o i v H Q ∨ rSetD o i v H Q ∨ rSetN K o i v H Q
theorem set_all {X : Cx} (hu : X.A.units + 200 < cLine) : PSet X (rSet X.F) := PSet.or set_list (PSet.or (set_dict (by omega)) (set_nest hu))
def KontH (K : Fr) (H : Hp) (h : M.AH) (Qa : M.AH → Prop) (Q : Hp → Prop) : Prop := ∀ h' H', Qa h' → Frm H h H' h' → RH K H' h' → Q H'
theorem set_ok {Qa : M.AH → Prop} {Q : Hp → Prop} {dx dy dv : SD} {x y v : V} (rh : RH K H h) (rx : Rep K H dx x) (ry : Rep K H dy y) (rv : Rep K H dv v) (q : M.opSet dx dy dv h Qa) (k : KontH K H h Qa Q) : rSet K x y v H Q := by
  cases dx with
  | ref p =>
    cases (show x = _ from rx)
    simp only [M.opSet] at q
    cases e : h p with
    | none => rw [e] at q; exact q.elim
    | some o => rw [e] at q; cases o with
      | lst xs =>
        obtain ⟨i, rfl, ⟨h0, h1⟩, q⟩ := anInt_inv q
        cases (show y = _ from ry)
        obtain ⟨ws, a1, r1⟩ := rh p _ e
        have ln := r1.length
        have kp : Kp H (upd H p (.lst (ws.set i.toNat v))) := kp_put rh e
        refine .inl ⟨p, ws, i, i.toNat, rfl, rfl, a1, ?_, k _ _ q (frm_put e) (rh_put rh e ⟨_, upd_same, (Reps.set rv _ r1).kp kp⟩)⟩
        unfold ixN
        rw [if_pos h0, if_pos (by omega)]
      | dct kd kvs =>
        obtain ⟨kk, hz, q⟩ := q
        obtain ⟨H', g, f, rh'⟩ := dput_ok (rh p _ e) kk ry rv hz e rh
        exact .inr (.inl ⟨p, H', rfl, g, k _ _ q f rh'⟩)
      | dcn kvs =>
        obtain ⟨kk, hz, q⟩ := q
        have ry' := ry
        cases dy with
        | tup ds =>
          obtain ⟨b, vs, rfl, _⟩ := ry
          refine .inr (.inr ⟨p, b, kvs, _, dv, rfl, rfl, rh p _ e, kk, ry', rv, hz, fun H' ⟨u, eu, nt⟩ ob => ?_⟩)
          subst eu
          exact k _ _ q (frm_put e) (rh_put rh e ob)
        | _ => simp [M.nkOk] at kk
      | _ => exact q.elim
  | _ => exact False.elim q
end
end Snd
end
section
/-! ZipL: list(zip(a, b)) of two tuples. -/
namespace ZL
open PySem PySem.Calls PyProof.Rows PySem.Spec PySem.W
section
variable {prog : Program} {w : World} {A : Around} {E : Value → Shared → Prop} {s : Shared}
/-- next of a zip of tuples whose last tuple is still held -/
theorem held_item {z TI TO T i1 i2 l1 l2 : Addr} {f : Bool} {oT : Obj} {k1 k2 : Nat} {xs ys : Array Value} {x y : Value} {Q : Value → Shared → Prop} (D : ZipApart z TI TO i1 i2 l1 l2)
    (hz : IsZipHeld s.heap z TI TO T f) (hT : s.heap.get? T = some oT) (tI : IsPair s.heap TI (.ref i1) (.ref i2))
    (g1 : s.heap.IsTupleIter i1 l1 k1) (g2 : s.heap.IsTupleIter i2 l2 k2) (t1 : s.heap.IsTuple l1 xs) (t2 : s.heap.IsTuple l2 ys) (hx : xs[k1]? = some x) (hy : ys[k2]? = some y)
    (hQ : ∀ h', IsZipHeld h' z TI TO T true → h'.IsTupleIter i1 l1 (k1 + 1) → h'.IsTupleIter i2 l2 (k2 + 1) → IsPair h' s.heap.objs.size x y → h'.objs.size = s.heap.objs.size + 1 →
      (∀ c o, c ≠ z → c ≠ i1 → c ≠ i2 → s.heap.get? c = some o → h'.get? c = some o) → Q (.ref s.heap.objs.size) { s with heap := h' }) :
    wpAny (model prog w) A (Builtin.«zip.__next__» ⟨[.ref z], []⟩) (fun fin r => ∃ v, fin = .done (.ret v) ∧ Q v r) E s := by
  show wpAny _ _ (field (.ref z) 2 >>= _) _ _ _; refine wpAny_bind (wpAny_field hz rfl (x := .bool false) rfl ?_)
  show wpAny _ _ (field (.ref z) 3 >>= _) _ _ _; refine wpAny_bind (wpAny_field hz rfl (x := .ref TI) rfl ?_); refine wpAny_bind (wpAny_seqItems tI rfl ?_)
  show wpAny _ _ (Builtin.SmallTypes.ownedTupleIsFree (.ref z) >>= _) _ _ _; refine wpAny_bind (wpAny_tupleHeld_zip hz hT fun m1 z1 s1 => ?_)
  simp only [Bool.false_eq_true, if_false]; refine wpAny_bind ?_; rw [← Array.forIn_toList]; simp only [List.forIn_cons, List.forIn_nil]
  refine wpAny_bind (wpAny_bind (wpAny_holding ?_)); show wpAny _ _ (Builtin.SmallTypes.nextOf (.ref i1) >>= _) _ _ _
  refine wpAny_bind (RZ.nextOf_tuple_item (s := { s with heap := m1 }) (g1.extBut s1.extBut D.i1z) (t1.extBut s1.extBut D.l1z) hx fun m2 g1' s2 => wpAny_pure (wpAny_pure ?_))
  refine wpAny_bind (wpAny_bind (wpAny_holding ?_)); show wpAny _ _ (Builtin.SmallTypes.nextOf (.ref i2) >>= _) _ _ _
  refine wpAny_bind (RZ.nextOf_tuple_item (s := { s with heap := m2 }) ((g2.extBut s1.extBut D.i2z).extBut s2.extBut D.i12.symm) ((t2.extBut s1.extBut D.l2z).extBut s2.extBut D.l2i1) hy fun m3 g2' s3 => wpAny_pure (wpAny_pure (wpAny_pure ?_)))
  show wpAny _ _ (newTuple [x, y] >>= _) _ _ _; refine wpAny_bind (wpAny_newTuple ?_)
  have hsz : m3.objs.size = s.heap.objs.size := by rw [s3.1, s2.1, s1.1]
  have z3 : IsZipHeld m3 z TI TO T true := s3.extBut _ _ D.i2z.symm (s2.extBut _ _ D.i1z.symm z1)
  have kp : ∀ c o, c ≠ z → c ≠ i1 → c ≠ i2 → s.heap.get? c = some o → m3.get? c = some o := fun c o a b d e => s3.extBut _ _ d (s2.extBut _ _ b (s1.extBut _ _ a e))
  have g13 : m3.IsTupleIter i1 l1 (k1 + 1) := g1'.extBut s3.extBut D.i12
  refine wpAny_pure ⟨_, rfl, ?_⟩; show Q (.ref m3.objs.size) _
  have hp : IsPair (m3.push { cls := .type "tuple", data := .seq #[x, y] }) m3.objs.size x y := Heap.get?_push_size _ rfl
  have hn : (m3.push { cls := .type "tuple", data := .seq #[x, y] }).objs.size = m3.objs.size + 1 := Heap.size_push ..
  rw [hsz] at hp hn ⊢
  exact hQ _ (Heap.get?_push_of_some _ z3) (g13.at fun o e => Heap.get?_push_of_some _ e) (g2'.at fun o e => Heap.get?_push_of_some _ e) hp hn fun c o a b d e => Heap.get?_push_of_some _ (kp c o a b d e)
theorem held_end {z TI TO T i1 i2 l1 l2 : Addr} {f : Bool} {oT : Obj} {k1 k2 : Nat} {xs ys : Array Value} {Q : Fin → Shared → Prop} (hh : A.handled = none) (D : ZipApart z TI TO i1 i2 l1 l2)
    (hz : IsZipHeld s.heap z TI TO T f) (hT : s.heap.get? T = some oT) (tI : IsPair s.heap TI (.ref i1) (.ref i2))
    (g1 : s.heap.IsTupleIter i1 l1 k1) (g2 : s.heap.IsTupleIter i2 l2 k2) (t1 : s.heap.IsTuple l1 xs) (t2 : s.heap.IsTuple l2 ys) (hend : xs[k1]? = none ∨ ys[k2]? = none)
    (hE : ∀ h' e, (∀ c o, c ≠ z → c ≠ i1 → c ≠ i2 → s.heap.get? c = some o → h'.get? c = some o) → (∃ o, h'.get? e = some o ∧ o.cls = .type "StopIteration") → E (.ref e) { s with heap := h' }) :
    wpAny (model prog w) A (Builtin.«zip.__next__» ⟨[.ref z], []⟩) Q E s := by
  show wpAny _ _ (field (.ref z) 2 >>= _) _ _ _; refine wpAny_bind (wpAny_field hz rfl (x := .bool false) rfl ?_)
  show wpAny _ _ (field (.ref z) 3 >>= _) _ _ _; refine wpAny_bind (wpAny_field hz rfl (x := .ref TI) rfl ?_); refine wpAny_bind (wpAny_seqItems tI rfl ?_)
  show wpAny _ _ (Builtin.SmallTypes.ownedTupleIsFree (.ref z) >>= _) _ _ _; refine wpAny_bind (wpAny_tupleHeld_zip hz hT fun m1 z1 s1 => ?_)
  simp only [Bool.false_eq_true, if_false]; refine wpAny_bind ?_; rw [← Array.forIn_toList]; simp only [List.forIn_cons, List.forIn_nil]
  refine wpAny_bind (wpAny_bind (wpAny_holding ?_)); show wpAny _ _ (Builtin.SmallTypes.nextOf (.ref i1) >>= _) _ _ _
  cases hx : xs[k1]? with
  | none => exact wpAny_bind (RZ.nextOf_tuple_end (s := { s with heap := m1 }) hh (g1.extBut s1.extBut D.i1z) (t1.extBut s1.extBut D.l1z) hx fun m2 e s2 he => hE m2 e (fun c o a b _ q => s2 _ _ b (s1.extBut _ _ a q)) he)
  | some x =>
    have hy : ys[k2]? = none := hend.resolve_left fun q => by rw [hx] at q; cases q
    refine wpAny_bind (RZ.nextOf_tuple_item (s := { s with heap := m1 }) (g1.extBut s1.extBut D.i1z) (t1.extBut s1.extBut D.l1z) hx fun m2 g1' s2 => wpAny_pure (wpAny_pure ?_))
    refine wpAny_bind (wpAny_bind (wpAny_holding ?_)); show wpAny _ _ (Builtin.SmallTypes.nextOf (.ref i2) >>= _) _ _ _
    exact wpAny_bind (RZ.nextOf_tuple_end (s := { s with heap := m2 }) hh ((g2.extBut s1.extBut D.i2z).extBut s2.extBut D.i12.symm) ((t2.extBut s1.extBut D.l2z).extBut s2.extBut D.l2i1) hy fun m3 e s3 he => hE m3 e (fun c o a b d q => s3 _ _ d (s2.extBut _ _ b (s1.extBut _ _ a q))) he)
/-- how far a zip of two tuples is -/
def Zst (z TI TO i1 i2 l1 l2 S : Addr) (xs ys : Array Value) (i : Nat) (h : Heap) : Prop :=
  IsPair h TI (.ref i1) (.ref i2) ∧ h.IsTupleIter i1 l1 i ∧ h.IsTupleIter i2 l2 i ∧ h.IsTuple l1 xs ∧ h.IsTuple l2 ys ∧
  ((i = 0 ∧ IsZip h z TI TO .none ∧ ∃ a b, IsPair h TO a b) ∨ ∃ T f oT, IsZipHeld h z TI TO T f ∧ h.get? T = some oT ∧ S < T)
def Out (wr : List Addr) (h h' : Heap) : Prop := ∀ b o, b ∉ wr → h.get? b = some o → h'.get? b = some o
theorem z_item {z TI TO i1 i2 l1 l2 S : Addr} {xs ys : Array Value} {i : Nat} {x y : Value} {Q : Option Value → Shared → Prop} (D : ZipApart z TI TO i1 i2 l1 l2) (hzS : z < S) (hi1S : i1 < S) (hi2S : i2 < S) (st : Zst z TI TO i1 i2 l1 l2 S xs ys i s.heap)
    (hS : S < s.heap.objs.size) (hx : xs[i]? = some x) (hy : ys[i]? = some y)
    (hQ : ∀ h', Zst z TI TO i1 i2 l1 l2 S xs ys (i + 1) h' → h'.get? s.heap.objs.size = some { cls := .type "tuple", data := .seq #[x, y] } → s.heap.objs.size < h'.objs.size → Out [z, TO, i1, i2] s.heap h' → Q (some (.ref s.heap.objs.size)) { s with heap := h' }) :
    wpAny (model prog w) A (pyNext (.ref z)) Q E s := by
  obtain ⟨tI, g1, g2, t1, t2, st⟩ := st
  rcases st with ⟨rfl, hz, a, b, tO⟩ | ⟨T, f, oT, hz, hT, hST⟩
  · refine RZ.pyNext_zipT_item D hz tI tO g1 g2 t1 t2 hx hy fun h' a1 a2 a3 a4 a5 a6 hk => hQ h' ⟨hk _ _ D.TIz D.TITO D.TIi1 D.TIi2 tI, a3, a4, t1.at fun o e => hk _ o D.l1z D.l1TO D.l1i1 D.l1i2 e, t2.at fun o e => hk _ o D.l2z D.l2TO D.l2i1 D.l2i2 e, .inr ⟨_, false, _, a1, a5, hS⟩⟩ a5 (by omega) fun c o hc e => ?_
    simp only [List.mem_cons, List.not_mem_nil, or_false, not_or] at hc
    exact hk c o hc.1 hc.2.1 hc.2.2.1 hc.2.2.2 e
  · have hTy : s.TypeIs (.ref z) "zip" := ⟨_, hz, rfl⟩
    unfold pyNext
    refine wpAny_bind (wpAny_attempt (wpAny_callSpecial?_slot (name := Str.ofString "__next__") hTy F.slot_zip_next (wpAny_call_entry F.slot_zip_next hTy F.entry_zip_next (held_item D hz hT tI g1 g2 t1 t2 hx hy fun h' a1 a3 a4 a5 a6 hk => wpAny_pure ?_) (F.args_zip_next_1 _))))
    have nz : T ≠ z ∧ T ≠ i1 ∧ T ≠ i2 := ⟨Nat.ne_of_gt (Nat.lt_trans hzS hST), Nat.ne_of_gt (Nat.lt_trans hi1S hST), Nat.ne_of_gt (Nat.lt_trans hi2S hST)⟩
    refine hQ h' ⟨hk _ _ D.TIz D.TIi1 D.TIi2 tI, a3, a4, t1.at fun o e => hk _ o D.l1z D.l1i1 D.l1i2 e, t2.at fun o e => hk _ o D.l2z D.l2i1 D.l2i2 e, .inr ⟨T, true, oT, a1, hk _ _ nz.1 nz.2.1 nz.2.2 hT, hST⟩⟩ a5 (by omega) fun c o hc e => ?_
    simp only [List.mem_cons, List.not_mem_nil, or_false, not_or] at hc
    exact hk c o hc.1 hc.2.2.1 hc.2.2.2 e
theorem z_done {z TI TO i1 i2 l1 l2 S : Addr} {xs ys : Array Value} {i : Nat} {Q : Option Value → Shared → Prop} (hh : A.handled = none) (D : ZipApart z TI TO i1 i2 l1 l2) (st : Zst z TI TO i1 i2 l1 l2 S xs ys i s.heap) (he : xs[i]? = none ∨ ys[i]? = none)
    (hQ : ∀ h', Out [z, TO, i1, i2] s.heap h' → Q none { s with heap := h' }) : wpAny (model prog w) A (pyNext (.ref z)) Q E s := by
  obtain ⟨tI, g1, g2, t1, t2, st⟩ := st
  rcases st with ⟨rfl, hz, a, b, tO⟩ | ⟨T, f, oT, hz, hT, hST⟩
  · refine RZ.pyNext_zipT_end hh D hz tI tO g1 g2 t1 t2 he fun h' hk => hQ h' fun c o hc e => ?_
    simp only [List.mem_cons, List.not_mem_nil, or_false, not_or] at hc
    exact hk c o hc.1 hc.2.1 hc.2.2.1 hc.2.2.2 e
  · have hTy : s.TypeIs (.ref z) "zip" := ⟨_, hz, rfl⟩
    unfold pyNext
    refine wpAny_bind (wpAny_attempt (wpAny_callSpecial?_slot (name := Str.ofString "__next__") hTy F.slot_zip_next (wpAny_call_entry F.slot_zip_next hTy F.entry_zip_next (held_end hh D hz hT tI g1 g2 t1 t2 he fun h' e hk ho => ?_) (F.args_zip_next_1 _))))
    obtain ⟨o, ho, hc⟩ := ho
    refine wpAny_bind (wpAny_isInstance (T := "StopIteration") (b := true) ⟨o, ho, hc⟩ isSubtype_stop (wpAny_pure (hQ _ fun c o hc e => ?_)))
    simp only [List.mem_cons, List.not_mem_nil, or_false, not_or] at hc
    exact hk c o hc.1 hc.2.2.1 hc.2.2.2 e
theorem Zst.keep {z TI TO i1 i2 l1 l2 S : Addr} {xs ys : Array Value} {i : Nat} {h h' : Heap} (st : Zst z TI TO i1 i2 l1 l2 S xs ys i h) (k : ∀ b o, b ≠ S → h.get? b = some o → h'.get? b = some o) (n : ∀ b, b ∈ [z, TI, TO, i1, i2, l1, l2] → b ≠ S) : Zst z TI TO i1 i2 l1 l2 S xs ys i h' := by
  obtain ⟨tI, g1, g2, t1, t2, st⟩ := st
  refine ⟨k _ _ (n _ (by simp)) tI, g1.at fun o e => k _ o (n _ (by simp)) e, g2.at fun o e => k _ o (n _ (by simp)) e, t1.at fun o e => k _ o (n _ (by simp)) e, t2.at fun o e => k _ o (n _ (by simp)) e, ?_⟩
  rcases st with ⟨e, hz, a, b, tO⟩ | ⟨T, f, oT, hz, hT, hST⟩
  · exact .inl ⟨e, k _ _ (n _ (by simp)) hz, a, b, k _ _ (n _ (by simp)) tO⟩
  · exact .inr ⟨T, f, oT, k _ _ (n _ (by simp)) hz, k _ _ (Nat.ne_of_gt hST) hT, hST⟩
end
/-- the tuples made so far: rising, above S, of the pairs -/
structure Made (xs ys : Array Value) (S : Addr) (h : Heap) (as : List Addr) : Prop where
  up : as.Pairwise (· < ·)
  hi : ∀ a ∈ as, S < a ∧ a < h.objs.size
  at_ : ∀ (j : Nat) (a : Addr), as[j]? = some a → ∃ x y, xs[j]? = some x ∧ ys[j]? = some y ∧ h.get? a = some { cls := .type "tuple", data := .seq #[x, y] }
section
variable {prog : Program} {w : World} {A : Around} {E : Value → Shared → Prop} {s : Shared} {R : Result → Shared → Prop}
theorem z_loop {z TI TO i1 i2 l1 l2 S : Addr} {xs ys : Array Value} (hh : A.handled = none) (D : ZipApart z TI TO i1 i2 l1 l2) (lt : ∀ b, b ∈ [z, TI, TO, i1, i2, l1, l2] → b < S) (hn : min xs.size ys.size ≤ sizeLine) (res : Value) {h₁ : Heap} (hS1 : S < h₁.objs.size)
    (hR : ∀ h' tk acc c as, (∀ b o, b ≠ S → b ∉ [z, TO, i1, i2] → h₁.get? b = some o → h'.get? b = some o) → h'.get? S = some { cls := .type "list", dict := none, data := .seq acc c, slots := #[] } → as.length = min xs.size ys.size → Made xs ys S h' as →
      acc.toList = as.map Value.ref → R (.ok (.ret res)) { s with heap := h', toks := tk }) :
    ∀ (k i : Nat) (h : Heap) (tk c : Nat) (acc : Array Value) (as : List Addr), min xs.size ys.size - i = k → i ≤ min xs.size ys.size → Zst z TI TO i1 i2 l1 l2 S xs ys i h → (∀ b o, b ≠ S → b ∉ [z, TO, i1, i2] → h₁.get? b = some o → h.get? b = some o) →
      h.get? S = some { cls := .type "list", dict := none, data := .seq acc c, slots := #[] } → acc.toList = as.map Value.ref → as.length = i → Made xs ys S h as →
      codeAny (model prog w) A (.builtin "list.extend.loop" ⟨[.ref S, .ref z, res], []⟩) R { s with heap := h, toks := tk } := by
  have nS : ∀ b, b ∈ [z, TI, TO, i1, i2, l1, l2] → b ≠ S := fun b hb => Nat.ne_of_lt (lt b hb)
  have wS : ∀ b, S ≤ b → b ∉ [z, TO, i1, i2] := fun b hb hm => by
    have : b ∈ [z, TI, TO, i1, i2, l1, l2] := by simp at hm ⊢; rcases hm with q | q | q | q <;> simp [q]
    exact absurd (lt b this) (Nat.not_lt.mpr hb)
  intro k
  induction k with
  | zero =>
    intro i h tk c acc as hk hi st hkeep hS hacc hal hG
    have hin : i = min xs.size ys.size := by omega
    refine codeAny_builtin PySem.F.entry_extend_loop ?_; rw [Around.under_plainId PySem.F.plain_extend_loop _]; show wpAny _ A.in1 (pyNext (.ref z) >>= _) _ _ _
    have he : xs[i]? = none ∨ ys[i]? = none := by
      rcases Nat.le_total xs.size ys.size with q | q
      · exact .inl (Array.getElem?_eq_none (by omega))
      · exact .inr (Array.getElem?_eq_none (by omega))
    refine wpAny_bind (z_done (s := { s with heap := h, toks := tk }) (A := A.in1) hh D st he fun h' ho => ?_)
    refine wpAny_pure (hR h' tk acc c as (fun b o b1 b2 e => ho b o b2 (hkeep b o b1 b2 e)) (ho S _ (wS S (Nat.le_refl _)) hS) (by omega) ⟨hG.up, fun a ha => ⟨(hG.hi a ha).1, ?_⟩, fun j a hj => ?_⟩ hacc)
    · obtain ⟨j, hj⟩ := List.mem_iff_getElem?.mp ha
      obtain ⟨x, y, _, _, e3⟩ := hG.at_ j a hj
      exact Heap.lt_size (ho a _ (wS a (Nat.le_of_lt (hG.hi a ha).1)) e3)
    · obtain ⟨x, y, e1, e2, e3⟩ := hG.at_ j a hj
      exact ⟨x, y, e1, e2, ho a _ (wS a (Nat.le_of_lt (hG.hi a (List.mem_of_getElem? hj)).1)) e3⟩
  | succ k ih =>
    intro i h tk c acc as hk hi st hkeep hS hacc hal hG
    have hix : i < xs.size := by omega
    have hiy : i < ys.size := by omega
    have ex := Array.getElem?_eq_getElem hix
    have ey := Array.getElem?_eq_getElem hiy
    have hsz : acc.size = i := by rw [← Array.length_toList, hacc, List.length_map, hal]
    have hSl : S < h.objs.size := Heap.lt_size hS
    refine codeAny_builtin PySem.F.entry_extend_loop ?_; rw [Around.under_plainId PySem.F.plain_extend_loop _]; show wpAny _ A.in1 (pyNext (.ref z) >>= _) _ _ _
    refine wpAny_bind (z_item (s := { s with heap := h, toks := tk }) D (lt z (by simp)) (lt i1 (by simp)) (lt i2 (by simp)) st hSl ex ey fun h' st' ht hz ho => ?_)
    dsimp only at ht hz ho ⊢
    have hS' := ho S _ (wS S (Nat.le_refl _)) hS
    have up : ∀ b o, b ≠ S → h'.get? b = some o → (h'.update S (Obj.mapSeq (·.push (Value.ref h.objs.size)))).get? b = some o := fun b o hb e => (Heap.get?_update_other _ _ (Ne.symm hb)).trans e
    show wpAny _ A.in1 (updateSeq S (·.push (Value.ref h.objs.size)) >>= _) _ _ _
    refine wpAny_bind ?_
    refine wpAny_updateSeq hS' rfl (wpAny_pure ⟨plainId_quiet PySem.F.plain_extend_loop _, ih (i + 1) _ tk _ (acc.push (Value.ref h.objs.size)) (as ++ [h.objs.size]) (by omega) (by omega) (st'.keep up nS)
      (fun b o b1 b2 e => up b o b1 (ho b o b2 (hkeep b o b1 b2 e))) (Heap.get?_update_self _ hS' rfl) (by rw [Array.toList_push, hacc, List.map_append]; rfl) (by rw [List.length_append, hal]; rfl) ⟨?_, ?_, ?_⟩⟩) (by rw [hsz]; omega) (by show (acc.push (Value.ref h.objs.size)).size ≤ sizeLine + 1; rw [Array.size_push, hsz]; omega)
    · refine List.pairwise_append.mpr ⟨hG.up, List.pairwise_singleton _ _, fun a ha b hb => ?_⟩
      rw [List.mem_singleton.mp hb]; exact (hG.hi a ha).2
    · intro a ha
      have sz : (h'.update S (Obj.mapSeq (·.push (Value.ref h.objs.size)))).objs.size = h'.objs.size := (Heap.SameBut.update ..).1
      rw [sz]
      rcases List.mem_append.mp ha with ha | ha
      · exact ⟨(hG.hi a ha).1, Nat.lt_trans (hG.hi a ha).2 hz⟩
      · rw [List.mem_singleton.mp ha]; exact ⟨hSl, hz⟩
    · intro j b hj
      rcases Nat.lt_trichotomy j as.length with q | q | q
      · rw [List.getElem?_append_left q] at hj
        obtain ⟨x, y, e1, e2, e3⟩ := hG.at_ j b hj
        have hb := (hG.hi b (List.mem_of_getElem? hj)).1
        exact ⟨x, y, e1, e2, up b _ (Nat.ne_of_gt hb) (ho b _ (wS b (Nat.le_of_lt hb)) e3)⟩
      · subst q
        have hb : h.objs.size = b := by simpa using hj
        subst hb
        exact ⟨_, _, by rw [hal]; exact ex, by rw [hal]; exact ey, up _ _ (Nat.ne_of_gt hSl) ht⟩
      · rw [List.getElem?_eq_none (by rw [List.length_append, List.length_singleton]; omega)] at hj; cases hj
theorem z_nolen : typeLookup (.type "zip") "__len__" = pure none := by rw [typeLookup_type, builtinLookup_eq_fast]; kernel_rfl
theorem z_nohint : typeLookup (.type "zip") "__length_hint__" = pure none := by rw [typeLookup_type, builtinLookup_eq_fast]; kernel_rfl
theorem z_hint {z : Addr} (hT : s.TypeIs (.ref z) "zip") {Q : Bool → Shared → Prop} (h : Q true s) : wpAny (model prog w) A (Builtin.List.listLengthHint (.ref z)) Q E s := by
  unfold Builtin.List.listLengthHint
  refine wpAny_bind (wpAny_specialOf hT z_nolen ?_)
  show wpAny _ A (specialOf (Value.ref z) (Str.ofString "__length_hint__") >>= _) _ _ _
  refine wpAny_bind (wpAny_specialOf hT z_nohint ?_)
  exact wpAny_pure h
theorem z_extend {z TI TO i1 i2 l1 l2 S : Addr} {xs ys : Array Value} (hh : A.handled = none) (D : ZipApart z TI TO i1 i2 l1 l2) (lt : ∀ b, b ∈ [z, TI, TO, i1, i2, l1, l2] → b < S) (hn : min xs.size ys.size ≤ sizeLine) (res : Value) (c₀ : Nat) (hS : s.heap.get? S = some { cls := .type "list", data := .seq #[] c₀ })
    (st : Zst z TI TO i1 i2 l1 l2 S xs ys 0 s.heap) (hz : ∃ f0, IsZip s.heap z TI TO f0)
    (hR : ∀ h' tk acc c as, (∀ b o, b ≠ S → b ∉ [z, TO, i1, i2] → s.heap.get? b = some o → h'.get? b = some o) → h'.get? S = some { cls := .type "list", dict := none, data := .seq acc c, slots := #[] } → as.length = min xs.size ys.size → Made xs ys S h' as →
      acc.toList = as.map Value.ref → R (.ok (.ret res)) { s with heap := h', toks := tk }) :
    wpAny (model prog w) A.in1 (Builtin.List.listExtendWith (.ref S) (.ref z) res)
      (fun fin s' => match fin with | .done f => R (.ok f) s' | .again c' => c'.quiet = true ∧ codeAny (model prog w) A c' R s') (fun e s' => R (.error e) s') s := by
  obtain ⟨f0, hz⟩ := hz
  have hT : s.TypeIs (.ref z) "zip" := ⟨_, hz, rfl⟩
  have nS : ∀ b, b ∈ [z, TI, TO, i1, i2, l1, l2] → b ≠ S := fun b hb => Nat.ne_of_lt (lt b hb)
  unfold Builtin.List.listExtendWith
  refine wpAny_bind (wpAny_typeOf hT ?_)
  have h1 : Builtin.List.listSameRef (.ref S) (.ref z) = false := by simp [Builtin.List.listSameRef, (nS z (by simp)).symm]
  have h2 : (Value.type "zip" == Value.type "list") = false := by decide
  have h3 : (Value.type "zip" == Value.type "tuple") = false := by decide
  simp only [h1, h2, h3, Bool.or_false, Bool.false_eq_true, if_false]
  refine wpAny_bind (wpAny_pyIter_zip hz ?_)
  refine wpAny_bind (wpAny_holding (z_hint hT ?_))
  simp only [Bool.true_or, if_true]
  refine wpAny_bind (wpAny_rule ?_)
  refine wpAny_bind ?_
  show wpAny _ _ (updateSeq S (·.push .none) >>= fun _ => updateSeq S (·.pop)) _ _ _
  refine wpAny_bind (wpAny_updateSeq hS rfl ?_)
  have hS₂ := Heap.get?_update_self (Obj.mapSeq (·.push Value.none)) hS rfl
  refine wpAny_updateSeq (hz := by seq_fits) hS₂ rfl ?_
  have hS₃ := Heap.get?_update_self (Obj.mapSeq (·.pop)) hS₂ rfl
  have oth : ∀ b o, b ≠ S → s.heap.get? b = some o → ((s.heap.update S (Obj.mapSeq (·.push Value.none))).update S (Obj.mapSeq (·.pop))).get? b = some o := fun b o hb e => (Heap.get?_update_other _ _ (Ne.symm hb)).trans ((Heap.get?_update_other _ _ (Ne.symm hb)).trans e)
  refine wpAny_pure ⟨plainId_quiet PySem.F.plain_extend_loop _, ?_⟩
  exact z_loop (s := s) (h₁ := s.heap) hh D lt hn res (Heap.lt_size hS) hR _ 0 _ _ _ _ [] rfl (Nat.zero_le _) (st.keep oth nS) (fun b o hb _ e => oth b o hb e) hS₃ rfl rfl ⟨List.Pairwise.nil, (fun a ha => nomatch ha), fun j a hj => by simp at hj⟩
theorem z_init {z TI TO i1 i2 l1 l2 S : Addr} {xs ys : Array Value} (hh : A.handled = none) (D : ZipApart z TI TO i1 i2 l1 l2) (lt : ∀ b, b ∈ [z, TI, TO, i1, i2, l1, l2] → b < S) (hn : min xs.size ys.size ≤ sizeLine) (hS : s.heap.get? S = some { cls := .type "list", data := .seq #[] })
    (st : Zst z TI TO i1 i2 l1 l2 S xs ys 0 s.heap) (hz : ∃ f0, IsZip s.heap z TI TO f0)
    (hR : ∀ h' tk acc c as, (∀ b o, b ≠ S → b ∉ [z, TO, i1, i2] → s.heap.get? b = some o → h'.get? b = some o) → h'.get? S = some { cls := .type "list", dict := none, data := .seq acc c, slots := #[] } → as.length = min xs.size ys.size → Made xs ys S h' as →
      acc.toList = as.map Value.ref → R (.ok (.ret .none)) { s with heap := h', toks := tk }) :
    wpAny (model prog w) A.in1 (Builtin.«list.__init__» ⟨[.ref S, .ref z], []⟩)
      (fun fin s' => match fin with | .done f => R (.ok f) s' | .again c' => c'.quiet = true ∧ codeAny (model prog w) A c' R s') (fun e s' => R (.error e) s') s := by
  have nS : ∀ b, b ∈ [z, TI, TO, i1, i2, l1, l2] → b ≠ S := fun b hb => Nat.ne_of_lt (lt b hb)
  show wpAny _ _ (do let old ← Builtin.List.listItems (.ref S); Builtin.List.listUpdate (.ref S) (fun _ => #[]); letGo old.toList.reverse; Builtin.List.listExtendWith (.ref S) (.ref z) .none) _ _ s
  refine wpAny_bind ?_; unfold Builtin.List.listItems; refine wpAny_bind (wpAny_seqItems hS rfl (wpAny_pure ?_))
  show wpAny _ _ (updateSeq S (fun _ => #[]) >>= fun _ => letGo (#[] : Array Value).toList.reverse >>= fun _ => Builtin.List.listExtendWith (.ref S) (.ref z) .none) _ _ s
  refine wpAny_bind (wpAny_updateSeq hS rfl ?_)
  have hS₂ := Heap.get?_update_self (Obj.mapSeq (fun _ => (#[] : Array Value))) hS rfl
  have oth : ∀ b o, b ≠ S → s.heap.get? b = some o → (s.heap.update S (Obj.mapSeq (fun _ => (#[] : Array Value)))).get? b = some o := fun b o hb e => (Heap.get?_update_other _ _ (Ne.symm hb)).trans e
  refine wpAny_bind (wpAny_letGo ?_)
  refine z_extend hh D lt hn .none _ hS₂ (st.keep oth nS) (hz.imp fun f0 e => oth z _ (nS z (by simp)) e) fun h' tk acc c as hk hS' hl hG hacc => ?_
  exact hR h' tk acc c as (fun b o b1 b2 e => hk b o b1 b2 (oth b o b1 e)) hS' hl hG hacc
theorem z_call {z TI TO i1 i2 l1 l2 : Addr} {xs ys : Array Value} {Q : Value → Shared → Prop} (hh : A.handled = none) (D : ZipApart z TI TO i1 i2 l1 l2) (lt : ∀ b, b ∈ [z, TI, TO, i1, i2, l1, l2] → b < s.heap.objs.size) (hn : min xs.size ys.size ≤ sizeLine)
    (hz : IsZip s.heap z TI TO .none) (tI : IsPair s.heap TI (.ref i1) (.ref i2)) (tO : IsPair s.heap TO .none .none) (g1 : s.heap.IsTupleIter i1 l1 0) (g2 : s.heap.IsTupleIter i2 l2 0) (t1 : s.heap.IsTuple l1 xs) (t2 : s.heap.IsTuple l2 ys)
    (hQ : ∀ h' tk acc c as, (∀ b o, b ∉ [z, TO, i1, i2] → s.heap.get? b = some o → h'.get? b = some o) → h'.get? s.heap.objs.size = some { cls := .type "list", dict := none, data := .seq acc c, slots := #[] } → as.length = min xs.size ys.size → Made xs ys s.heap.objs.size h' as →
      acc.toList = as.map Value.ref → Q (.ref s.heap.objs.size) { s with heap := h', toks := tk }) :
    wpAny (model prog w) A (call (.type "list") [.ref z]) Q E s := by
  refine callType_codes (Q₁ := fun obj r => obj = .ref s.heap.objs.size ∧ r = { s with heap := s.heap.push { cls := .type "list", data := .seq #[] } }) PySem.F.called_list (PySem.F.typeCall_list_1 _) PySem.F.entry_list_init (code_list_new _ ⟨rfl, rfl⟩) fun obj r hr => ?_
  obtain ⟨rfl, rfl⟩ := hr
  have hS : (s.heap.push { cls := .type "list", data := .seq #[] }).get? s.heap.objs.size = some { cls := .type "list", data := .seq #[] } := Heap.get?_push_size _ rfl
  have up : ∀ b o, s.heap.get? b = some o → (s.heap.push { cls := .type "list", data := .seq #[] }).get? b = some o := fun b o e => Heap.get?_push_of_some _ e
  refine ⟨⟨_, hS, rfl⟩, PySem.F.args_list_init_2 _ _, z_init (A := A.in1) hh D lt hn hS ⟨up _ _ tI, g1.at fun o e => up _ o e, g2.at fun o e => up _ o e, t1.at fun o e => up _ o e, t2.at fun o e => up _ o e, .inl ⟨rfl, up _ _ hz, _, _, up _ _ tO⟩⟩ ⟨_, up _ _ hz⟩ fun h' tk acc c as hk hS' hl hG hacc => ?_⟩
  exact ⟨rfl, hQ h' tk acc c as (fun b o hb e => hk b o (Nat.ne_of_lt (Heap.lt_size e)) hb (up b o e)) hS' hl hG hacc⟩
end
open L2
/-- the pairs, laid at their addresses -/
def putP : Hp → List Addr → List (V × V) → Hp
  | H, a :: as, p :: ps => putP (upd H a (.tup [p.1, p.2])) as ps
  | H, _, _ => H
theorem putP_off {b : Addr} : ∀ (as : List Addr) (ps : List (V × V)) (H : Hp), b ∉ as → putP H as ps b = H b
  | [], _, _, _ => rfl
  | _ :: _, [], _, _ => rfl
  | a :: as, p :: ps, H, h => by
    unfold putP
    rw [putP_off as ps _ (fun z => h (.tail _ z)), upd_ne (fun z => h (by rw [z]; exact .head _))]
theorem putP_at : ∀ (as : List Addr) (ps : List (V × V)) (H : Hp), as.length = ps.length → as.Nodup → Paired (fun (t : Addr) (p : V × V) => putP H as ps t = some (.tup [p.1, p.2])) as ps
  | [], [], _, _, _ => .nil
  | [], _ :: _, _, h, _ => nomatch h
  | _ :: _, [], _, h, _ => nomatch h
  | a :: as, p :: ps, H, h, hn => by
    obtain ⟨n1, n2⟩ := List.nodup_cons.mp hn
    have ih := putP_at as ps (upd H a (.tup [p.1, p.2])) (Nat.succ.inj h) n2
    exact .cons (by unfold putP; rw [putP_off as ps _ n1, upd_same]) ih
def rZipL (K : PySem.W.Frag) : V → V → Hp → VK → Prop := fun x y H Q => ∃ (a b : Addr) (xs ys : List V), x = .ref a ∧ y = .ref b ∧ SqT K H a xs ∧ SqT K H b ys ∧
  ∀ (H' : Hp) (p : Addr) (ts : List Addr), (∀ c o, H c = some o → H' c = some o) → H p = none → (∀ t ∈ ts, H t = none) → p ∉ ts → H' p = some (.lst (ts.map V.ref)) → Paired (fun (t : Addr) (q : V × V) => H' t = some (.tup [q.1, q.2])) ts (xs.zip ys) →
    (∀ c, H' c ≠ none → c = p ∨ c ∈ ts ∨ H c ≠ none) → Q (.ref p) H'
section
variable {X : Cx}
theorem vals_at {xs : List V} {us : List Value} (r : Vals xs us) : ∀ {j : Nat} {u : Value}, us[j]? = some u → ∃ x, xs[j]? = some x ∧ RelV x u := by
  unfold Vals at r
  induction r with
  | nil => intro j u e; simp at e
  | @cons a b as bs h t ih =>
    intro j u e
    cases j with
    | zero => simp at e; subst e; exact ⟨_, rfl, h⟩
    | succ j => exact ih (by simpa using e)
theorem pairs_laid {pins : List (Addr × Obj)} {σ : L2.St} {H : Hp} {s : Shared} {h' : Heap} {tk : Nat} {xs ys : List V} {us ws : List Value} {acc : Array Value} {c : Nat} {S : Addr} {as : List Addr} (I : Inv X pins σ H s) (hz : min xs.length ys.length ≤ sizeLine) (rx : Vals xs us) (ry : Vals ys ws)
    (hS0 : s.heap.objs.size ≤ S) (hk : ∀ b o, s.heap.get? b = some o → h'.get? b = some o) (hS : h'.get? S = some { cls := .type "list", dict := none, data := .seq acc c, slots := #[] }) (hl : as.length = min us.toArray.size ws.toArray.size) (hG : Made us.toArray ws.toArray S h' as) (hacc : acc.toList = as.map Value.ref) :
    ∃ H' : Hp, (∀ b o, H b = some o → H' b = some o) ∧ H S = none ∧ (∀ t ∈ as, H t = none) ∧ S ∉ as ∧ H' S = some (.lst (as.map V.ref)) ∧ Paired (fun (t : Addr) (q : V × V) => H' t = some (.tup [q.1, q.2])) as (xs.zip ys) ∧
      (∀ b, H' b ≠ none → b = S ∨ b ∈ as ∨ H b ≠ none) ∧ Inv X pins σ H' { s with heap := h', toks := tk } := by
  have lx := rx.length
  have ly := ry.length
  have lz : (xs.zip ys).length = as.length := by rw [List.length_zip, hl, List.size_toArray, List.size_toArray, lx, ly]
  have hSn : S ∉ as := fun z => Nat.lt_irrefl _ (hG.hi _ z).1
  have nd : as.Nodup := List.Pairwise.imp (fun {a b} (h : a < b) => Nat.ne_of_lt h) hG.up
  have new : ∀ t ∈ as, H t = none := fun t ht => I.hok.fresh (Nat.le_trans hS0 (Nat.le_of_lt (hG.hi t ht).1))
  have newS : H S = none := I.hok.fresh hS0
  have atP := putP_at as (xs.zip ys) (upd H S (.lst (as.map V.ref))) lz.symm nd
  have off : ∀ b, b ∉ as → b ≠ S → putP (upd H S (.lst (as.map V.ref))) as (xs.zip ys) b = H b := fun b h1 h2 => by rw [putP_off as _ _ h1, upd_ne h2]
  have low : ∀ b o, s.heap.get? b = some o → b ∉ as ∧ b ≠ S := fun b o e => ⟨fun z => absurd (Heap.lt_size e) (Nat.not_lt.mpr (Nat.le_trans hS0 (Nat.le_of_lt (hG.hi b z).1))), Nat.ne_of_lt (Nat.lt_of_lt_of_le (Heap.lt_size e) hS0)⟩
  have kp : ∀ b u, H b = some u → (putP (upd H S (.lst (as.map V.ref))) as (xs.zip ys)) b = some u := fun b u e => by
    rw [off b (fun z => by rw [new b z] at e; cases e) (fun z => by rw [z, newS] at e; cases e)]; exact e
  have eS : putP (upd H S (.lst (as.map V.ref))) as (xs.zip ys) S = some (.lst (as.map V.ref)) := by rw [putP_off as _ _ hSn, upd_same]
  refine ⟨putP (upd H S (.lst (as.map V.ref))) as (xs.zip ys), kp, newS, new, hSn, eS, atP, fun b hb => ?_, ?_⟩
  · by_cases h1 : b ∈ as
    · exact .inr (.inl h1)
    · by_cases h2 : b = S
      · exact .inl h2
      · rw [off b h1 h2] at hb; exact .inr (.inr hb)
  refine I.call' (ch := []) rfl ⟨fun b o q _ _ _ => hk b o q, fun b o q _ _ _ => ⟨o.slots, hk b o q⟩, fun b o q n _ => ?_, fun b o q _ => ⟨o, hk b o q⟩, fun b xs q => kp b _ q, fun b o u q => kp b _ q, fun b ps q => ⟨#[], by rw [kp b _ q]; simp⟩⟩ (fun b u q => ?_) I.bare fun b z => by simp at z
  · obtain ⟨z1, z2⟩ := low b o q
    rw [off b z1 z2]; exact n
  · by_cases hb : b ∈ as
    · obtain ⟨j, pk, e1, e2, e3⟩ := LiI.paired_ix atP hb
      rw [e3] at q; cases q
      obtain ⟨x, y, f1, f2, f3⟩ := hG.at_ j b e1
      obtain ⟨x', g1, g2⟩ := vals_at rx (by simpa using f1)
      obtain ⟨y', g3, g4⟩ := vals_at ry (by simpa using f2)
      have : pk = (x', y') := by
        rw [show (xs.zip ys)[j]? = some (x', y') from List.getElem?_zip_eq_some.mpr ⟨g1, g3⟩] at e2
        exact (Option.some.inj e2).symm
      subst this
      exact ⟨by show 2 ≤ sizeLine; decide, [x, y], .cons g2 (.cons g4 .nil), ⟨_, f3, rfl, _, rfl⟩⟩
    · by_cases hb2 : b = S
      · subst hb2
        rw [eS] at q; cases q
        refine ⟨by rw [List.length_map, hl, List.size_toArray, List.size_toArray, ← lx, ← ly]; exact hz, acc.toList, c, by rw [hacc]; exact LiI.vals_refs as, ?_⟩
        rw [Array.toArray_toList]; exact hS
      · rw [off b hb hb2] at q
        exact (I.hok b u q).stay (fun d v _ y => hk d v y) (fun d y => kp d _ y) fun d xs y => kp d _ y
theorem lt7 {n m a b c : Nat} (hm : m = n + 5) (la : a < n) (lb : b < n) (h : c = n + 4 ∨ c = n + 2 ∨ c = n + 3 ∨ c = n ∨ c = n + 1 ∨ c = a ∨ c = b) : c < m := by omega
theorem lt4 {n c : Nat} (h : c < n) (z : c = n + 4 ∨ c = n + 3 ∨ c = n ∨ c = n + 1) : False := by omega
def tZipL (K : PySem.W.Frag) (ta : TA) : TE := fun σ H Q => ta σ H fun vs H1 => ∃ x y, vs = [x, y] ∧ rZipL K x y H1 Q
theorem pe_lzip {e e2 : Expr} {ta : TA} {p p2 cpos pos : Pos} (hc : X.calm = true) (hg : Gl X "list") (hm : X.mg "list" = none) (hgz : Gl X "zip") (hmz : X.mg "zip" = none) (ha : PA X [e, e2] ta)
    (hs : starEach [e, e2] X.env = (false, eval e X.env) :: starEach [e2] X.env) (hpl : (backTo cpos (starEach [e2] X.env)).any (·.1) = false)
    (hso : starEach [.Call (.Name "zip" p2) [e, e2] [] cpos] X.env = (false, eval (.Call (.Name "zip" p2) [e, e2] [] cpos) X.env) :: starEach [] X.env := by rfl) :
    PE X (.Call (.Name "list" p) [.Call (.Name "zip" p2) [e, e2] [] cpos] [] pos) (tZipL X.K ta) := by
  refine ⟨fun pins s σ H Q I hq => ?_⟩
  refine wpAny_Call_Name_kw (ld_blt I hg hm (by decide +kernel : bootBuiltins "list" = some (.type "list")) ?_)
  refine PyProof.Rows.callWith_type1 ?_ hso rfl
  rw [hso]
  show wpAny _ _ (spliced ((false, eval (.Call (.Name "zip" p2) [e, e2] [] cpos) X.env) :: backTo pos (starEach [] X.env))) _ _ s
  refine Calls.spliced_cons ?_
  refine Call_ (ld_blt I hgz hmz PyProof.Rows.boot_zip (PyProof.Rows.callWith_type1 (thn (ha.run cpos pins s σ H _ I hq) fun us s1 ⟨vs, H1, I1, r1, q1⟩ => ?_) hs hpl))
  obtain ⟨x, y, rfl, a, b, xs, ys, rfl, rfl, hqx, hqy, q⟩ := q1
  cases r1 with
  | cons r rr =>
    cases rr with
    | cons r' rr =>
      cases rr
      cases r
      cases r'
      obtain ⟨us, ru, pu, hzu⟩ := I1.tuple hqx
      obtain ⟨ws, rw', pw, hzw⟩ := I1.tuple hqy
      obtain ⟨o1, ho1, _⟩ := id pu
      obtain ⟨o2, ho2, _⟩ := id pw
      have la := Heap.lt_size ho1
      have lb := Heap.lt_size ho2
      refine RZ.call_zipT (show s1.heap.IsTuple a us.toArray from pu) (show s1.heap.IsTuple b ws.toArray from pw) fun h5 hz tI tO g1 g2 hsz hk => ?_
      refine Calls.spliced_nil ?_
      have D := PySem.W.ktu_apart s1.heap.objs.size a b la lb
      have lt : ∀ c, c ∈ [s1.heap.objs.size + 4, s1.heap.objs.size + 2, s1.heap.objs.size + 3, s1.heap.objs.size, s1.heap.objs.size + 1, a, b] → c < h5.objs.size := by
        intro c hc
        simp only [List.mem_cons, List.not_mem_nil, or_false] at hc
        exact lt7 hsz la lb hc
      have hn : min us.toArray.size ws.toArray.size ≤ sizeLine := Nat.le_trans (Nat.min_le_left _ _) (by rw [List.size_toArray, ← ru.length]; exact hzu)
      refine z_call (s := { s1 with heap := h5 }) (I1.ok.hd hc) D lt hn hz tI tO g1 g2 (Heap.IsTuple.at pu fun o e => hk a o e) (Heap.IsTuple.at pw fun o e => hk b o e) fun h' tk acc c as hk' hS hl hG hacc => ?_
      have out : ∀ c o, s1.heap.get? c = some o → h'.get? c = some o := fun c o e => hk' c o (fun z => by
        have := Heap.lt_size e
        simp only [List.mem_cons, List.not_mem_nil, or_false] at z
        exact lt4 this z) (hk c o e)
      obtain ⟨H', k1, k2, k3, k4, k5, k6, k7, J⟩ := pairs_laid (tk := tk) I1 (by rw [ru.length, rw'.length]; simpa using hn) ru rw' (by show s1.heap.objs.size ≤ h5.objs.size; rw [hsz]; exact Nat.le_add_right _ _) out hS hl hG hacc
      exact ⟨.ref _, H', J, rfl, q H' _ as k1 k2 k3 k4 k5 k6 k7⟩
end
end ZL
end
section
/-! Sound5: expressions: the readings of the IR over those of the model. -/
namespace Snd
open PySem L2 PySem.Spec PyProof.Rows
abbrev WE := M.St → M.AH → M.VQ → Prop
abbrev WA := M.St → M.AH → (List SD → M.AH → Prop) → Prop
abbrev WO := M.St → M.AH → (Option Int → M.AH → Prop) → Prop
/-- a reading of the IR as one of the model -/
def lift (K : Fr) (w : WE) : TE := fun σ H Q => ∃ σa h Qa, RS K H σ σa ∧ RH K H h ∧ w σa h Qa ∧ Kont K H h Qa Q
def liftT (K : Fr) (w : WE) : TT := fun σ H Q => ∃ σa h Qa, RS K H σ σa ∧ RH K H h ∧ w σa h Qa ∧ ∀ d h', Qa d h' → ∃ b, d = .bl b ∧ ∀ H', Frm H h H' h' → RH K H' h' → Q b H'
def KontA (K : Fr) (H : Hp) (h : M.AH) (Qa : List SD → M.AH → Prop) (Q : List V → Hp → Prop) : Prop := ∀ ds h' vs H', Qa ds h' → Frm H h H' h' → Reps K H' ds vs → RH K H' h' → Q vs H'
def liftA (K : Fr) (w : WA) : TA := fun σ H Q => ∃ σa h Qa, RS K H σ σa ∧ RH K H h ∧ w σa h Qa ∧ KontA K H h Qa Q
def liftO (K : Fr) (w : WO) : TO := fun σ H Q => ∃ σa h Qa, RS K H σ σa ∧ RH K H h ∧ w σa h Qa ∧ ∀ o h' H', Qa o h' → Frm H h H' h' → RH K H' h' → Q o H'

theorem _root_.L2.PE.imp {X : L2.Cx} {e : Expr} {t t' : TE} (a : PE X e t) (i : ∀ σ H Q, t' σ H Q → t σ H Q) : PE X e t' := ⟨fun pins s σ H Q I h => a.run pins s σ H Q I (i σ H Q h)⟩
theorem _root_.L2.PT.imp {X : L2.Cx} {e : Expr} {t t' : TT} (a : PT X e t) (i : ∀ σ H Q, t' σ H Q → t σ H Q) : PT X e t' := ⟨fun pins s σ H Q I h => a.run pins s σ H Q I (i σ H Q h)⟩
theorem _root_.L2.PW.imp {X : L2.Cx} {e : Expr} {t t' : TT} (a : PW X e t) (i : ∀ σ H Q, t' σ H Q → t σ H Q) : PW X e t' := ⟨fun wh pins s σ H Q I h => a.run wh pins s σ H Q I (i σ H Q h)⟩
theorem _root_.L2.PA.imp {X : L2.Cx} {e : List Expr} {t t' : TA} (a : PA X e t) (i : ∀ σ H Q, t' σ H Q → t σ H Q) : PA X e t' := ⟨fun pos pins s σ H Q I h => a.run pos pins s σ H Q I (i σ H Q h)⟩
theorem _root_.L2.PO.imp {X : L2.Cx} {e : Option Expr} {t t' : TO} (a : PO X e t) (i : ∀ σ H Q, t' σ H Q → t σ H Q) : PO X e t' := ⟨fun pins s σ H Q I h => a.run pins s σ H Q I (i σ H Q h)⟩

section
variable {X : L2.Cx} {K : Fr} {σ : L2.St} {σa : M.St} {H H1 : Hp} {h h1 : M.AH} {w wa wb wc : WE} {Qa : M.VQ} {a b c e : Expr} {pos : Pos}
theorem lift_go {R : VK} (rs : RS K H σ σa) (rh : RH K H h) (q : w σa h Qa) (k : ∀ d h' v H', Qa d h' → Frm H h H' h' → Rep K H' d v → RH K H' h' → RS K H' σ σa → R v H') : lift K w σ H R :=
  ⟨σa, h, Qa, rs, rh, q, fun d h' v H' q f r rh' => k d h' v H' q f r rh' (rs.kp (f.kp rh))⟩
theorem liftA_go {w : WA} {Qa : List SD → M.AH → Prop} {R : List V → Hp → Prop} (rs : RS K H σ σa) (rh : RH K H h) (q : w σa h Qa) (k : ∀ d h' v H', Qa d h' → Frm H h H' h' → Reps K H' d v → RH K H' h' → RS K H' σ σa → R v H') : liftA K w σ H R :=
  ⟨σa, h, Qa, rs, rh, q, fun d h' v H' q f r rh' => k d h' v H' q f r rh' (rs.kp (f.kp rh))⟩

/-! ### names and constants -/
theorem s_var {i : Nat} {x : Str} (hN : X.N[i]? = some x) (hv : Vis X.env.scope x) (hd : (x == ("__debug__" : Str)) = false) (hcd : (x == ("__classdict__" : Str)) = false) :
    PE X (.Name x pos) (lift X.F fun σ h Q => match σ[i]? with | some (some d) => Q d h | _ => False) := by
  refine (pe_var hN hv hd hcd).imp fun σ H Q ⟨σa, h, Qa, rs, rh, q, k⟩ => ?_
  dsimp only at q
  cases e : σa[i]? with
  | none => rw [e] at q; exact q.elim
  | some o => cases o with
    | none => rw [e] at q; exact q.elim
    | some d =>
      rw [e] at q
      obtain ⟨v, e2, r⟩ := rs.2 i d e
      exact ⟨v, e2, k.now rh q r⟩
theorem s_const {v : V} {d : SD} (p : PE X e (tC v)) (r : ∀ H, Rep X.F H d v) : PE X e (lift X.F fun _ h Q => Q d h) :=
  p.imp fun σ H Q ⟨σa, h, Qa, rs, rh, q, k⟩ => k.now rh q (r H)

/-! ### operators -/
theorem s_bin {o : M.Bop} (ha : PE X a (lift X.F wa)) (hb : PE X b (lift X.F wb)) : PE X (.BinOp a (bop o) b pos) (lift X.F fun σ h Q => wa σ h fun x h1 => wb σ h1 fun y h2 => M.opBin o x y h2 Q) := by
  refine (pe_op (op_bin o) ha hb).imp fun σ H Q ⟨σa, h, Qa, rs, rh, q, k⟩ => ?_
  exact lift_go rs rh q fun dx h1 x H1 q1 f1 r1 rh1 rs1 => lift_go rs1 rh1 q1 fun dy h2 y H2 q2 f2 r2 rh2 rs2 =>
    bin_ok rh2 (r1.kp (f2.kp rh1)) r2 q2 (k.go (f1.trans f2))
theorem s_neg (ha : PE X a (lift X.F wa)) : PE X (.UnaryOp .USub a pos) (lift X.F fun σ h Q => wa σ h fun x h1 => match x with | .int i => Q (.int (-i)) h1 | _ => False) := by
  refine (pe_un un_neg ha).imp fun σ H Q ⟨σa, h, Qa, rs, rh, q, k⟩ => ?_
  refine lift_go rs rh q fun dx h1 x H1 q1 f1 r1 rh1 rs1 => ?_
  cases dx with
  | int i =>
    cases (show x = _ from r1)
    exact ⟨i, rfl, (k.go f1).now rh1 q1 rfl⟩
  | _ => exact q1.elim
theorem s_not (ha : PE X a (lift X.F wa)) : PE X (.UnaryOp .Not a pos) (lift X.F fun σ h Q => wa σ h fun x h1 => match x with | .bl b => Q (.bl (!b)) h1 | _ => False) := by
  refine (pe_not ha).imp fun σ H Q ⟨σa, h, Qa, rs, rh, q, k⟩ => ?_
  refine lift_go rs rh q fun dx h1 x H1 q1 f1 r1 rh1 rs1 => ?_
  cases dx with
  | bl i =>
    cases (show x = _ from r1)
    exact ⟨i, rfl, (k.go f1).now rh1 q1 rfl⟩
  | _ => exact q1.elim
theorem t_not (ha : PT X a (liftT X.F wa)) : PT X (.UnaryOp .Not a pos) (liftT X.F fun σ h Q => wa σ h fun x h1 => match x with | .bl b => Q (.bl (!b)) h1 | _ => False) := by
  refine (pt_not ha).imp fun σ H Q ⟨σa, h, Qa, rs, rh, q, k⟩ => ?_
  refine ⟨σa, h, _, rs, rh, q, fun d h' q1 => ?_⟩
  cases d with
  | bl b =>
    obtain ⟨b', e, kk⟩ := k _ _ q1
    cases e
    exact ⟨b, rfl, fun H' f rh' => kk H' f rh'⟩
  | _ => exact q1.elim
theorem s_cmp (hu : X.A.units + 200 < cLine) {o : M.Cop} (hm : behindInMarks (cop o) b = false) (ha : PE X a (lift X.F wa)) (hb : PE X b (lift X.F wb)) :
    PE X (.Compare a [cop o] [b] pos) (lift X.F fun σ h Q => wa σ h fun x h1 => wb σ h1 fun y h2 => M.opCmp o x y h2 fun c => Q (.bl c) h2) := by
  refine (pe_cmpR (op_cmp hu o) ha hb hm).imp fun σ H Q ⟨σa, h, Qa, rs, rh, q, k⟩ => ?_
  exact lift_go rs rh q fun dx h1 x H1 q1 f1 r1 rh1 rs1 => lift_go rs1 rh1 q1 fun dy h2 y H2 q2 f2 r2 rh2 rs2 =>
    cmp_ok rh2 (r1.kp (f2.kp rh1)) r2 q2 fun b hb => (k.go (f1.trans f2)).now rh2 hb rfl
theorem t_cmp (hu : X.A.units + 200 < cLine) {o : M.Cop} (hm : behindInMarks (cop o) b = false) (ha : PE X a (lift X.F wa)) (hb : PE X b (lift X.F wb)) :
    PT X (.Compare a [cop o] [b] pos) (liftT X.F fun σ h Q => wa σ h fun x h1 => wb σ h1 fun y h2 => M.opCmp o x y h2 fun c => Q (.bl c) h2) := by
  refine (pt_cmpR (op_cmp hu o) ha hb hm).imp fun σ H Q ⟨σa, h, Qa, rs, rh, q, k⟩ => ?_
  exact lift_go rs rh q fun dx h1 x H1 q1 f1 r1 rh1 rs1 => lift_go rs1 rh1 q1 fun dy h2 y H2 q2 f2 r2 rh2 rs2 =>
    cmp_ok rh2 (r1.kp (f2.kp rh1)) r2 q2 fun b hb => by
      obtain ⟨b', e, kk⟩ := k _ _ hb
      cases e
      exact ⟨b, rfl, kk H2 (f1.trans f2) rh2⟩
theorem s_chn (hu : X.A.units + 200 < cLine) {o o' : M.Cop} (hm : lastMarks [cop o, cop o'] [b, c] = false) (ha : PE X a (lift X.F wa)) (hb : PE X b (lift X.F wb)) (hc : PE X c (lift X.F wc)) :
    PE X (.Compare a [cop o, cop o'] [b, c] pos) (lift X.F fun σ h Q => wa σ h fun x h1 => wb σ h1 fun y h2 => M.opCmp o x y h2 fun k => match k with
    | true => wc σ h2 fun z h3 => M.opCmp o' y z h3 fun k' => Q (.bl k') h3
    | false => Q (.bl false) h2) := by
  refine (pe_chain (op_cmp hu o) (op_cmp hu o') ha hb hc hm).imp fun σ H Q ⟨σa, h, Qa, rs, rh, q, k⟩ => ?_
  exact lift_go rs rh q fun dx h1 x H1 q1 f1 r1 rh1 rs1 => lift_go rs1 rh1 q1 fun dy h2 y H2 q2 f2 r2 rh2 rs2 =>
    cmp_ok rh2 (r1.kp (f2.kp rh1)) r2 q2 fun b hb => ⟨b, rfl, by
      cases b with
      | true =>
        refine lift_go rs2 rh2 hb fun dz h3 z H3 q3 f3 r3 rh3 rs3 => ?_
        exact cmp_ok rh3 (r2.kp (f3.kp rh2)) r3 q3 fun b' hb' => (k.go ((f1.trans f2).trans f3)).now rh3 hb' rfl
      | false => exact (k.go (f1.trans f2)).now rh2 hb rfl⟩
theorem t_chn (hu : X.A.units + 200 < cLine) {o o' : M.Cop} (hm : lastMarks [cop o, cop o'] [b, c] = false) (ha : PE X a (lift X.F wa)) (hb : PE X b (lift X.F wb)) (hc : PE X c (lift X.F wc)) :
    PT X (.Compare a [cop o, cop o'] [b, c] pos) (liftT X.F fun σ h Q => wa σ h fun x h1 => wb σ h1 fun y h2 => M.opCmp o x y h2 fun k => match k with
    | true => wc σ h2 fun z h3 => M.opCmp o' y z h3 fun k' => Q (.bl k') h3
    | false => Q (.bl false) h2) := by
  refine (pt_chain (op_cmp hu o) (op_cmp hu o') ha hb hc hm).imp fun σ H Q ⟨σa, h, Qa, rs, rh, q, k⟩ => ?_
  exact lift_go rs rh q fun dx h1 x H1 q1 f1 r1 rh1 rs1 => lift_go rs1 rh1 q1 fun dy h2 y H2 q2 f2 r2 rh2 rs2 =>
    cmp_ok rh2 (r1.kp (f2.kp rh1)) r2 q2 fun b hb => ⟨b, rfl, by
      cases b with
      | true =>
        refine lift_go rs2 rh2 hb fun dz h3 z H3 q3 f3 r3 rh3 rs3 => ?_
        exact cmp_ok rh3 (r2.kp (f3.kp rh2)) r3 q3 fun b' hb' => by
          obtain ⟨b'', e, kk⟩ := k _ _ hb'
          cases e
          exact ⟨b', rfl, kk H3 ((f1.trans f2).trans f3) rh3⟩
      | false =>
        obtain ⟨b'', e, kk⟩ := k _ _ hb
        cases e
        exact ⟨false, rfl, kk H2 (f1.trans f2) rh2⟩⟩
theorem s_ite (hc : PT X c (liftT X.F wc)) (ha : PE X a (lift X.F wa)) (hb : PE X b (lift X.F wb)) :
    PE X (.IfExp c a b pos) (lift X.F fun σ h Q => wc σ h fun x h1 => match x with
    | .bl true => wa σ h1 Q
    | .bl false => wb σ h1 Q
    | _ => False) := by
  refine (pe_ifExp hc ha hb).imp fun σ H Q ⟨σa, h, Qa, rs, rh, q, k⟩ => ?_
  refine ⟨σa, h, _, rs, rh, q, fun d h' q1 => ?_⟩
  cases d with
  | bl b =>
    refine ⟨b, rfl, fun H' f rh' => ?_⟩
    cases b with
    | true => exact lift_go (rs.kp (f.kp rh)) rh' q1 fun d h2 v H2 q2 f2 r2 rh2 _ => k _ _ _ _ q2 (f.trans f2) r2 rh2
    | false => exact lift_go (rs.kp (f.kp rh)) rh' q1 fun d h2 v H2 q2 f2 r2 rh2 _ => k _ _ _ _ q2 (f.trans f2) r2 rh2
  | _ => exact q1.elim
theorem pt_plain (ha : PE X e (lift X.F wa)) (he : ∀ whole, isTrue e X.env whole = (do let v ← whole; standAt e.pos; holding [v] (truthy v))) : PT X e (liftT X.F wa) := by
  refine (pt_val ha he).imp fun σ H Q ⟨σa, h, Qa, rs, rh, q, k⟩ => ?_
  refine ⟨σa, h, Qa, rs, rh, q, fun d h' v H' q1 f r rh' => ?_⟩
  obtain ⟨b, rfl, kk⟩ := k d h' q1
  exact ⟨b, r, kk H' f rh'⟩

/-! ### items, slices -/
theorem s_ix (hu : X.A.units + 200 < cLine) (hs : PlainIx b) (ha : PE X a (lift X.F wa)) (hb : PE X b (lift X.F wb)) : PE X (.Subscript a b pos) (lift X.F fun σ h Q => wa σ h fun x h1 => wb σ h1 fun y h2 => M.opIx x y h2 Q) := by
  refine (pe_ix (ix_all (by omega)) ha hb hs).imp fun σ H Q ⟨σa, h, Qa, rs, rh, q, k⟩ => ?_
  exact lift_go rs rh q fun dx h1 x H1 q1 f1 r1 rh1 rs1 => lift_go rs1 rh1 q1 fun dy h2 y H2 q2 f2 r2 rh2 rs2 =>
    ix_ok rh2 (r1.kp (f2.kp rh1)) r2 q2 (k.go (f1.trans f2))
theorem s_part (he : PE X e (lift X.F w)) : PO X (some e) (liftO X.F fun σ h Q => w σ h fun d h1 => match d with | .int n => Q (some n) h1 | _ => False) := by
  refine (po_some he).imp fun σ H Q ⟨σa, h, Qa, rs, rh, q, k⟩ => ?_
  refine lift_go rs rh q fun d h1 v H1 q1 f1 r1 rh1 _ => ?_
  cases d with
  | int i =>
    cases (show v = _ from r1)
    exact ⟨i, rfl, k _ _ _ q1 f1 rh1⟩
  | _ => exact q1.elim
theorem s_nopart : PO X none (liftO X.F fun _ h Q => Q none h) := po_none.imp fun σ H Q ⟨σa, h, Qa, rs, rh, q, k⟩ => k _ _ _ q .refl rh
theorem s_sl {lo hi : Option Expr} {wl wh : WO} {p2 : Pos} (ha : PE X a (lift X.F wa)) (hl : PO X lo (liftO X.F wl)) (hh : PO X hi (liftO X.F wh)) :
    PE X (.Subscript a (.Slice lo hi none p2) pos) (lift X.F fun σ h Q => wa σ h fun x h1 => wl σ h1 fun l h2 => wh σ h2 fun u h3 => M.opSl x l u h3 Q) := by
  refine (pe_slice sl_all ha hl hh).imp fun σ H Q ⟨σa, h, Qa, rs, rh, q, k⟩ => ?_
  refine lift_go rs rh q fun dx h1 x H1 q1 f1 r1 rh1 rs1 => ?_
  refine ⟨σa, h1, _, rs1, rh1, q1, fun l h2 H2 q2 f2 rh2 => ?_⟩
  refine ⟨σa, h2, _, rs1.kp (f2.kp rh1), rh2, q2, fun u h3 H3 q3 f3 rh3 => ?_⟩
  exact sl_ok rh3 ((r1.kp (f2.kp rh1)).kp (f3.kp rh2)) q3 (k.go ((f1.trans f2).trans f3))

theorem s_rev {p1 p2 p3 : Pos} {k0 : Nat} (ha : PE X a (lift X.F wa)) : PE X (.Subscript a (.Slice none none (some (.UnaryOp .USub (.Constant (.int 1) k0 p1) p2)) p3) pos) (lift X.F fun σ h Q => wa σ h fun x h1 => M.aLst x h1 fun _ xs => ∀ r, h1 r = none → Q (.ref r) (M.up h1 r (.lst xs.reverse))) := by
  refine (pe_revL ha).imp fun σ H Q ⟨σa, h, Qa, rs, rh, q, k⟩ => ?_
  refine lift_go rs rh q fun dx h1 x H1 q1 f1 r1 rh1 rs1 => ?_
  obtain ⟨p, xs, rfl, e1, q⟩ := aLst_inv q1
  cases (show x = _ from r1)
  obtain ⟨ws, a1, r2⟩ := rh1 p _ e1
  refine ⟨p, ws, rfl, SqL.of a1, fun l hn => ?_⟩
  exact k _ _ _ _ (q l (rh1.none hn)) (f1.trans (frm_new hn)) rfl (rh_new rh1 hn ⟨_, upd_same, r2.rev.kp (kp_new hn)⟩)

/-! ### argument lists, displays -/
theorem s_nil : PA X [] (liftA X.F fun _ h Q => Q [] h) := pa_nil.imp fun σ H Q ⟨σa, h, Qa, rs, rh, q, k⟩ => k _ _ _ _ q .refl rfl rh
theorem s_cons {es : List Expr} {wr : WA} (hs : starEach (e :: es) X.env = (false, eval e X.env) :: starEach es X.env) (he : PE X e (lift X.F w)) (hr : PA X es (liftA X.F wr)) :
    PA X (e :: es) (liftA X.F fun σ h Q => w σ h fun d h1 => wr σ h1 fun ds h2 => Q (d :: ds) h2) := by
  refine (pa_cons he hr hs).imp fun σ H Q ⟨σa, h, Qa, rs, rh, q, k⟩ => ?_
  exact lift_go rs rh q fun d h1 v H1 q1 f1 r1 rh1 rs1 => liftA_go rs1 rh1 q1 fun ds h2 vs H2 q2 f2 r2 rh2 _ => k _ _ _ _ q2 (f1.trans f2) (Reps.cons (r1.kp (f2.kp rh1)) r2) rh2
theorem s_tup {es : List Expr} {wr : WA} {x1} (hr : PA X es (liftA X.F wr)) : PE X (.Tuple es x1 pos) (lift X.F fun σ h Q => wr σ h fun ds h1 => ds.length ≤ M.LINE ∧ Q (.tup ds) h1) := by
  refine (pe_tup hr).imp fun σ H Q ⟨σa, h, Qa, rs, rh, q, k⟩ => ?_
  refine liftA_go rs rh q fun ds h1 vs H1 ⟨hz, q1⟩ f1 r1 rh1 _ => ⟨by rw [r1.length, line_eq]; exact hz, fun p hn => ?_⟩
  exact k _ _ _ _ q1 (f1.trans (frm_hid hn)) ⟨p, vs, rfl, .inl upd_same, r1.kp (kp_new hn)⟩ (rh_hid rh1 hn)
theorem s_lst {es : List Expr} {wr : WA} (hr : PA X es (liftA X.F wr)) : PE X (.List es pos) (lift X.F fun σ h Q => wr σ h fun ds h1 => ds.length ≤ M.LINE ∧ ∀ r, h1 r = none → Q (.ref r) (M.up h1 r (.lst ds))) := by
  refine (pe_lst hr).imp fun σ H Q ⟨σa, h, Qa, rs, rh, q, k⟩ => ?_
  refine liftA_go rs rh q fun ds h1 vs H1 ⟨hz, q1⟩ f1 r1 rh1 _ => ⟨by rw [r1.length, line_eq]; exact hz, fun p hn => ?_⟩
  exact k _ _ _ _ (q1 p (rh1.none hn)) (f1.trans (frm_new hn)) rfl (rh_new rh1 hn ⟨_, upd_same, r1.kp (kp_new hn)⟩)
theorem s_dct : PE X (.Dict [] [] pos) (lift X.F fun _ h Q => ∀ r, h r = none → Q (.ref r) (M.up h r (.dct 0 []))) := by
  refine pe_dnewK.imp fun σ H Q ⟨σa, h, Qa, rs, rh, q, k⟩ => ?_
  intro d hn
  exact k _ _ _ _ (q d (rh.none hn)) (frm_new hn) rfl (rh_new rh hn (dct0.mpr ⟨[], upd_same, .nil⟩))

def tDNewN (P : Program) (w : World) : TE := fun _ H Q => ∀ p, H p = none → Q (.ref p) (upd H p (.ext (EntO P w p [])))
theorem ent_empty {P : Program} {w : World} {H : Hp} (h : Heap) (hb : sysModules < h.objs.size) : ObjOk P w H (h.push { cls := .type "dict", data := .dict #[] }) h.objs.size (.ext (EntO P w h.objs.size [])) := by
  obtain ⟨o, es, ep, h1, h2, h3, h4, _, h5⟩ := Heap.DictOfH.new (knd := nestedKind P w) h
  exact ⟨⟨Nat.zero_le _, beq_eq_false_iff_ne.mpr (Ne.symm (Nat.ne_of_lt hb)), [], .nil, o, es, ep, h1, h2, h3, h4, h5⟩, ⟨o, h1⟩, fun _ _ e st => ent_ok e st⟩
theorem pe_dnewN : PE X (.Dict [] [] pos) (tDNewN X.prog X.w) := ⟨fun pins s σ H Q I h =>
  wpAny_Dict_empty ⟨.ref s.heap.objs.size, _, I.laid (a := s.heap.objs.size) (o := .ext (EntO X.prog X.w s.heap.objs.size [])) (t' := s.toks) (fun _ _ q => Heap.get?_push_of_some _ q) (Nat.le_refl _) (ent_empty s.heap I.big), rfl, h _ (I.hok.fresh (Nat.le_refl _))⟩⟩
theorem s_dcn : PE X (.Dict [] [] pos) (lift X.F fun _ h Q => ∀ r, h r = none → Q (.ref r) (M.up h r (.dcn []))) := by
  refine pe_dnewN.imp fun σ H Q ⟨σa, h, Qa, rs, rh, q, k⟩ => ?_
  intro d hn
  exact k _ _ _ _ (q d (rh.none hn)) (frm_new hn) rfl (rh_new rh hn ⟨[], upd_same, .nil⟩)
theorem frm_ext {H' : Hp} {p : Addr} {ob : M.Ob} (k1 : ∀ c o, H c = some o → H' c = some o) (hp : H p = none) : Frm H h H' (M.up h p ob) := fun a o e n => ⟨k1 a o e, up_ne (ne_of_none e hp)⟩
theorem rh_ext {H' : Hp} {p : Addr} {ob : M.Ob} (r : RH K H h) (k1 : ∀ c o, H c = some o → H' c = some o) (hp : H p = none) (o : ObRep K H' p ob) : RH K H' (M.up h p ob) := fun a u e => by
  by_cases z : a = p
  · subst z; rw [up_same] at e; cases e; exact o
  · rw [up_ne z] at e
    have x := r a u e
    obtain ⟨w, e1, _⟩ := x.some
    exact x.kp ⟨fun b vs q => k1 b _ q, fun b o w q => k1 b _ q⟩ (by rw [e1]; exact k1 a _ e1)
theorem zip_rep {H' : Hp} : ∀ {ds es : List SD} {xs ys : List V} {ts : List Addr}, Reps K H' ds xs → Reps K H' es ys → Paired (fun (t : Addr) (q : V × V) => H' t = some (.tup [q.1, q.2])) ts (xs.zip ys) → Reps K H' (M.zipL ds es) (ts.map V.ref) := by
  intro ds
  induction ds with
  | nil =>
    intro es xs ys ts r1 r2 pr
    cases (show xs = _ from r1)
    cases pr
    exact rfl
  | cons d ds ih =>
    intro es xs ys ts r1 r2 pr
    obtain ⟨v, r, e, a, b⟩ := r1
    subst e
    cases es with
    | nil =>
      cases (show ys = _ from r2)
      cases pr
      exact rfl
    | cons d2 es =>
      obtain ⟨v2, r', e, a2, b2⟩ := r2
      subst e
      cases pr with
      | cons h t => exact ⟨_, _, rfl, ⟨_, _, rfl, .inl h, .cons a (.one a2)⟩, ih b b2 t⟩
theorem aTup_inv {d : SD} {f : List SD → Prop} (q : M.aTup d f) : ∃ xs, d = .tup xs ∧ f xs := by
  cases d with
  | tup i => exact ⟨i, rfl, q⟩
  | _ => exact False.elim q
theorem s_lzip {e e2 : Expr} {p p2 cpos : Pos} {wr : WA} (hc : X.calm = true) (hg : Gl X "list") (hm : X.mg "list" = none) (hgz : Gl X "zip") (hmz : X.mg "zip" = none) (ha : PA X [e, e2] (liftA X.F wr))
    (hs : starEach [e, e2] X.env = (false, eval e X.env) :: starEach [e2] X.env) (hpl : (backTo cpos (starEach [e2] X.env)).any (·.1) = false) :
    PE X (.Call (.Name "list" p) [.Call (.Name "zip" p2) [e, e2] [] cpos] [] pos) (lift X.F fun σ h Q => wr σ h fun ds h2 => M.arg2 ds fun x y => M.aTup x fun xs => M.aTup y fun ys => ∀ r, h2 r = none → Q (.ref r) (M.up h2 r (.lst (M.zipL xs ys)))) := by
  refine (ZL.pe_lzip hc hg hm hgz hmz ha hs hpl).imp fun σ H Q ⟨σa, h, Qa, rs, rh, q, k⟩ => ?_
  refine ⟨σa, h, _, rs, rh, q, ?_⟩
  rintro ds h2 vs H2 q f r rh2
  obtain ⟨x, y, rfl, q⟩ := arg2_inv q
  obtain ⟨xs, rfl, q⟩ := aTup_inv q
  obtain ⟨ys, rfl, q⟩ := aTup_inv q
  obtain ⟨v, w, rfl, ⟨a1, us, rfl, t1, r1⟩, ⟨a2, ws, rfl, t2, r2⟩⟩ := reps2 r
  refine ⟨_, _, rfl, a1, a2, us, ws, rfl, rfl, t1.imp .inl id, t2.imp .inl id, fun H' p ts k1 k2 k3 k4 k5 k6 k7 => ?_⟩
  have kp : Kp H2 H' := ⟨fun b vs q => k1 b _ q, fun b o w q => k1 b _ q⟩
  exact k _ _ _ _ (q p (rh2.none k2)) (f.trans (frm_ext k1 k2)) rfl (rh_ext rh2 k1 k2 ⟨_, k5, zip_rep (r1.kp kp) (r2.kp kp) k6⟩)
/-! ### list(range(..)) -/
theorem rgV_rep (lo hi : Int) : Reps K H (M.rangeL lo hi) (rgV lo hi) := by
  unfold M.rangeL rgV
  generalize List.range (hi - lo).toNat = l
  induction l with
  | nil => exact rfl
  | cons i l ih => exact ⟨_, _, rfl, rfl, ih⟩
theorem aRng_inv1 {d : SD} {f : Int → Int → Prop} (q : M.aRng [d] f) : ∃ n, d = .int n ∧ -(2 ^ 62) ≤ n ∧ n ≤ M.LINE ∧ f 0 n := by
  cases d with
  | int n => exact ⟨n, rfl, q.1.1, q.1.2, q.2⟩
  | _ => exact False.elim q
theorem aRng_inv2 {d e : SD} {f : Int → Int → Prop} (q : M.aRng [d, e] f) : ∃ a b, d = .int a ∧ e = .int b ∧ -(2 ^ 62) ≤ a ∧ a ≤ M.LINE ∧ -(2 ^ 62) ≤ b ∧ b ≤ M.LINE ∧ (b - a).toNat ≤ M.LINE ∧ f a b := by
  cases d with
  | int a => cases e with
    | int b => exact ⟨a, b, rfl, rfl, q.1.1.1, q.1.1.2, q.1.2.1, q.1.2.2.1, q.1.2.2.2, q.2⟩
    | _ => exact False.elim q
  | _ => exact False.elim q
theorem s_lrng1 {p p2 cpos : Pos} (hc : X.calm = true) (hg : Gl X "list") (hm : X.mg "list" = none) (hgr : Gl X "range") (hmr : X.mg "range" = none) (ha : PE X a (lift X.F wa)) (hs : starEach [a] X.env = (false, eval a X.env) :: starEach [] X.env) :
    PE X (.Call (.Name "list" p) [.Call (.Name "range" p2) [a] [] cpos] [] pos) (lift X.F fun σ h Q => wa σ h fun d h1 => M.aRng [d] fun lo hi => ∀ r, h1 r = none → Q (.ref r) (M.up h1 r (.lst (M.rangeL lo hi)))) := by
  refine (pe_listRg hc hg hm (prg_1 hgr hmr ha hs)).imp fun σ H Q ⟨σa, h, Qa, rs, rh, q, k⟩ => ?_
  refine lift_go rs rh q fun d h1 v H1 q1 f1 r1 rh1 _ => ?_
  have hl : M.LINE = 16777216 := rfl
  obtain ⟨n, rfl, n0, n1, q1⟩ := aRng_inv1 q1
  cases (show v = _ from r1)
  exact ⟨n, rfl, ⟨by omega, by omega, by omega, by omega, by omega⟩, fun l hn => k _ _ _ _ (q1 l (rh1.none hn)) (f1.trans (frm_new hn)) rfl (rh_new rh1 hn ⟨_, upd_same, rgV_rep 0 n⟩)⟩
theorem s_lrng2 {p p2 cpos : Pos} (hc : X.calm = true) (hg : Gl X "list") (hm : X.mg "list" = none) (hgr : Gl X "range") (hmr : X.mg "range" = none) (ha : PE X a (lift X.F wa)) (hb : PE X b (lift X.F wb)) (hs : starEach [a, b] X.env = (false, eval a X.env) :: starEach [b] X.env) (hs2 : starEach [b] X.env = (false, eval b X.env) :: starEach [] X.env) (hp : (backTo cpos (starEach [b] X.env)).any (·.1) = false) :
    PE X (.Call (.Name "list" p) [.Call (.Name "range" p2) [a, b] [] cpos] [] pos) (lift X.F fun σ h Q => wa σ h fun d h1 => wb σ h1 fun e h2 => M.aRng [d, e] fun lo hi => ∀ r, h2 r = none → Q (.ref r) (M.up h2 r (.lst (M.rangeL lo hi)))) := by
  refine (pe_listRg hc hg hm (prg_2 hgr hmr ha hb hs hs2 hp)).imp fun σ H Q ⟨σa, h, Qa, rs, rh, q, k⟩ => ?_
  refine lift_go rs rh q fun d h1 v H1 q1 f1 r1 rh1 rs1 => lift_go rs1 rh1 q1 fun e h2 w H2 q2 f2 r2 rh2 _ => ?_
  have hl : M.LINE = 16777216 := rfl
  obtain ⟨m, n, rfl, rfl, n0, n1, n2, n3, n4, q2⟩ := aRng_inv2 q2
  cases (show v = _ from r1); cases (show w = _ from r2)
  exact ⟨m, n, rfl, rfl, ⟨by omega, by omega, by omega, by omega, by omega⟩, fun l hn => k _ _ _ _ (q2 l (rh2.none hn)) ((f1.trans f2).trans (frm_new hn)) rfl (rh_new rh2 hn ⟨_, upd_same, rgV_rep m n⟩)⟩
/-! ### dict displays -/
theorem keys_get : ∀ {kvs : List (SD × SD)}, M.keysOk 0 kvs = true → ∀ {ps : List (V × V)}, Paired (fun (x : SD × SD) (p : V × V) => Rep K H x.1 p.1 ∧ Rep K H x.2 p.2) kvs ps → ∃ ks : List (Key × V), ps = ks.map (fun kv => (kV kv.1, kv.2)) ∧ Paired (PR K H R0) kvs ks
  | [], _, _, r => by cases r; exact ⟨[], rfl, .nil⟩
  | x :: kvs, ok, _, r => by
    cases r with
    | @cons _ p _ ps h t =>
      simp only [M.keysOk] at ok
      obtain ⟨o1, o2⟩ := ba ok
      obtain ⟨ks, e, pr⟩ := keys_get o2 t
      obtain ⟨k, ek⟩ := keyOk0 o1
      have ev := keyV_rep ek h.1
      refine ⟨(k, p.2) :: ks, ?_, .cons ⟨⟨ek, rep_str h.1⟩, h.2⟩ pr⟩
      rw [List.map_cons, ← e, ← ev]
def wPs : List (WE × WE) → WA
  | [], _, h, Q => Q [] h
  | (wk, wv) :: r, σ, h, Q => wk σ h fun d h1 => wv σ h1 fun e h2 => wPs r σ h2 fun ds h3 => Q (d :: e :: ds) h3
theorem tp_go : ∀ (ws : List (WE × WE)) {σ : L2.St} {σa : M.St} {H : Hp} {h : M.AH} {Qa : List SD → M.AH → Prop} {R : List (V × V) → Hp → Prop}, RS K H σ σa → RH K H h → wPs ws σa h Qa →
    (∀ ds h' H' ps kvs, Qa ds h' → Frm H h H' h' → RH K H' h' → M.pairUp ds = some kvs → Paired (fun (x : SD × SD) (p : V × V) => Rep K H' x.1 p.1 ∧ Rep K H' x.2 p.2) kvs ps → ps.length = ws.length → R ps H') →
    tPairs (ws.map fun w => (lift K w.1, lift K w.2)) σ H R
  | [], σ, σa, H, h, Qa, R, rs, rh, q, k => k [] h H [] [] q .refl rh rfl .nil rfl
  | (wk, wv) :: r, σ, σa, H, h, Qa, R, rs, rh, q, k => by
    show lift K wk σ H _
    refine lift_go rs rh q fun d h1 x H1 q1 f1 r1 rh1 rs1 => ?_
    refine lift_go rs1 rh1 q1 fun e h2 y H2 q2 f2 r2 rh2 rs2 => ?_
    refine tp_go r rs2 rh2 q2 fun ds h3 H3 ps kvs q3 f3 rh3 pu pr ln => ?_
    have k3 := f3.kp rh2
    have k2 := f2.kp rh1
    refine k (d :: e :: ds) h3 H3 ((x, y) :: ps) ((d, e) :: kvs) q3 ((f1.trans f2).trans f3) rh3 (by simp only [M.pairUp, pu]; rfl) (.cons ⟨(r1.kp k2).kp k3, r2.kp k3⟩ pr) (by simp [ln])
theorem s_dsp {ks : List (Option Expr)} {vs : List Expr} {ws : List (WE × WE)} (hp : PPs X pos ks vs (ws.map fun w => (lift X.F w.1, lift X.F w.2))) (hall : ks.all (·.isSome) = true) (hl : ks.length = vs.length) (h0 : ks ≠ []) (h15 : ks.length ≤ 15) (hw : ws.length ≤ 15) :
    PE X (.Dict ks vs pos) (lift X.F fun σ h Q => ∀ r, h r = none → wPs ws σ (M.up h r (.dct 0 [])) fun ds h2 => h2 r = some (.dct 0 []) ∧ M.aSome (M.pairUp ds) fun kvs => M.keysOk 0 kvs = true ∧ Q (.ref r) (M.up h2 r (.dct 0 (M.mergeL [] kvs)))) := by
  refine (pe_disp hp hall hl h0 h15).imp fun σ H Q ⟨σa, h, Qa, rs, rh, q, k⟩ => ?_
  intro p hn
  have f0 : Frm H h (upd H p (.dK [])) (M.up h p (.dct 0 [])) := frm_new hn
  have rh0 : RH X.F (upd H p (.dK [])) (M.up h p (.dct 0 [])) := rh_new rh hn (dct0.mpr ⟨[], upd_same, .nil⟩)
  refine tp_go ws (rs.kp (f0.kp rh)) rh0 (q p (rh.none hn)) fun ds h2 H2 ps kvs q2 f2 rh2 pu pr ln => ?_
  obtain ⟨e2, q2⟩ := q2
  rw [pu] at q2
  obtain ⟨ok, q2⟩ := q2
  obtain ⟨ks2, e3, pk⟩ := keys_get ok pr
  obtain ⟨qs, e4, pe4⟩ := dct0.mp (rh2 p _ e2)
  cases pe4
  refine ⟨e4, ks2, e3, by rw [e3, List.length_map] at ln; omega, ?_⟩
  have kp : Kp H2 (upd H2 p (.dK (mergeK [] ks2))) := kp_put rh2 e2
  exact k _ _ _ _ q2 ((f0.trans f2).trans (frm_put e2)) rfl (rh_put rh2 e2 (dct0.mpr ⟨_, upd_same, Paired.mapP (kv_merge pk .nil) fun _ _ z => ⟨z.1, z.2.kp kp⟩⟩))
/-! ### calls -/
theorem s_blt {x : Str} {p : Pos} {es : List Expr} {wr : WA} {b : M.Blt} {bk : BK} (hcalm : X.calm = true) (hu : X.A.units + 200 < cLine) (eb : bltK b = some bk) (hx : x = bk.name) (hg : Gl X x) (hm : X.mg x = none)
    (he : starEach (e :: es) X.env = (false, eval e X.env) :: starEach es X.env) (hpl : (backTo pos (starEach es X.env)).any (·.1) = false) (hr : PA X (e :: es) (liftA X.F wr)) :
    PE X (.Call (.Name x p) (e :: es) [] pos) (lift X.F fun σ h Q => wr σ h fun ds h1 => M.opBlt b ds h1 Q) := by
  subst hx
  have key : PE X (.Call (.Name bk.name p) (e :: es) [] pos) (tCB (rBlt X.F b) (liftA X.F wr)) := by
    have cr := call_blt (X := X) hcalm hu b eb
    cases b <;> simp only [bltK, Option.some.injEq, reduceCtorEq] at eb <;> subst eb
    all_goals first
      | exact pe_callB cr hg hm (by decide +kernel) hr (by decide +kernel) (by decide +kernel) he hpl
      | exact pe_callTy cr hg hm (by decide +kernel) hr (by decide +kernel) (by decide +kernel) he hpl
  refine key.imp fun σ H Q ⟨σa, h, Qa, rs, rh, q, k⟩ => ?_
  exact liftA_go rs rh q fun ds h1 vs H1 q1 f1 r1 rh1 _ => blt_ok rh1 r1 q1 (k.go f1)
theorem s_isi {t : M.Ty} {p p2 : Pos} {xt : Str} (hg : Gl X "isinstance") (hm : X.mg "isinstance" = none) (hxt : xt = Str.ofString (tyS t)) (hg2 : Gl X xt) (hm2 : X.mg xt = none)
    (he : starEach [a, .Name xt p2] X.env = (false, eval a X.env) :: starEach [.Name xt p2] X.env) (ha : PE X a (lift X.F wa)) :
    PE X (.Call (.Name "isinstance" p) [a, .Name xt p2] [] pos) (lift X.F fun σ h Q => wa σ h fun x h1 => match M.opIsi x t h1 with | some b => Q (.bl b) h1 | none => False) := by
  subst hxt
  have pt : PE X (.Name (Str.ofString (tyS t)) p2) (tC (.ty (tyS t))) := by
    cases t <;> exact pe_bltn (v := .ty _) hg2 hm2 (u := .type _) (by decide +kernel) rfl (by decide +kernel) (by decide +kernel)
  refine (pe_callB call_isi hg hm (by decide +kernel) (pa_cons ha (pa_cons pt pa_nil) he) (by decide +kernel) (by decide +kernel) he rfl).imp fun σ H Q ⟨σa, h, Qa, rs, rh, q, k⟩ => ?_
  refine lift_go rs rh q fun dx h1 x H1 q1 f1 r1 rh1 rs1 => ?_
  cases e : M.opIsi dx t h1 with
  | none => rw [e] at q1; exact q1.elim
  | some b =>
    rw [e] at q1
    exact isi_ok rh1 r1 e ((k.go f1).now rh1 q1 rfl)
theorem s_mth0 (hu : X.A.units + 200 < cLine) {m : M.Mth} {T id : String} {nm nm2 : Str} {apos cpos : Pos} (em : mthT m = some (T, id, nm)) (hnm : nm2 = nm) (hbase : attributeBase a nm X.env (eval a X.env) = eval a X.env) (hline : (apos.endLine == cpos.line) = true) (ha : PE X a (lift X.F wa)) :
    PE X (.Call (.Attribute a nm2 apos) [] [] cpos) (lift X.F fun σ h Q => wa σ h fun x h1 => M.recvOk m x h1 ∧ M.opMth m x [] h1 Q) := by
  subst hnm
  have F := mth_fact em
  refine (pe_bm0 F.pa F.slot F.ty (mth_rule (by omega) em) ha hbase hline).imp fun σ H Q ⟨σa, h, Qa, rs, rh, q, k⟩ => ?_
  exact lift_go rs rh q fun dx h1 x H1 ⟨q0, q1⟩ f1 r1 rh1 rs1 => ⟨recv_ok em rh1 r1 q0, mth_ok (ds := []) (vs := []) rh1 r1 rfl q1 (k.go f1)⟩
theorem s_mth (hu : X.A.units + 200 < cLine) {m : M.Mth} {T id : String} {nm nm2 : Str} {apos cpos : Pos} {es : List Expr} {wr : WA} (em : mthT m = some (T, id, nm)) (hnm : nm2 = nm) (hbase : attributeBase a nm X.env (eval a X.env) = eval a X.env)
    (hfew : ((backTo cpos (starEach (e :: es) X.env)).all (fun x => !x.1) && (backToKw cpos (keywordEach [] X.env)).all (fun x => x.1.isSome)
      && decide ((e :: es).length + ([] : List Keyword).length + (if ([] : List Keyword).isEmpty then 0 else 1) < 30)) = true)
    (hline : (apos.endLine == cpos.line) = true) (hs : starEach (e :: es) X.env = (false, eval e X.env) :: starEach es X.env) (hplain : (backTo cpos (starEach es X.env)).any (·.1) = false) (ha : PE X a (lift X.F wa)) (hr : PA X (e :: es) (liftA X.F wr)) :
    PE X (.Call (.Attribute a nm2 apos) (e :: es) [] cpos) (lift X.F fun σ h Q => wa σ h fun x h1 => M.recvOk m x h1 ∧ wr σ h1 fun ds h2 => M.opMth m x ds h2 Q) := by
  subst hnm
  have F := mth_fact em
  refine (pe_bm F.pa F.slot F.ty (mth_rule (by omega) em) ha hr hbase hfew hline hs hplain).imp fun σ H Q ⟨σa, h, Qa, rs, rh, q, k⟩ => ?_
  refine lift_go rs rh q fun dx h1 x H1 ⟨q0, q1⟩ f1 r1 rh1 rs1 => ⟨recv_ok em rh1 r1 q0, ?_⟩
  exact liftA_go rs1 rh1 q1 fun ds h2 vs H2 q2 f2 r2 rh2 _ => mth_ok rh2 (r1.kp (f2.kp rh1)) r2 q2 (k.go (f1.trans f2))
/-- what a def of the program promises -/
def spC (K : Fr) (P : M.Prog) (n : Nat) (f : M.Sx) : Sp := fun vs H Q _ => ∃ ds h Qa xx, Reps K H ds vs ∧ RH K H h ∧ M.run P n f ds h Qa xx ∧ Kont K H h Qa Q
theorem s_call {x : Str} {p : Pos} {es : List Expr} {wr : WA} {P : M.Prog} {n : Nat} {f : M.Sx} {fa : Addr} {fd : FuncData} {ps : List Str} {xx : M.XP} (F : FnOk X.prog X.w X.F X.mg X.base CX0 n fa fd ps (spC X.F P n f)) (hroom : Room n X.A) (hg : Gl X x) (hm : X.mg x = some (.ref fa))
    (hk : PySem.W.keepIn X.F (.ref fa) = true) (hb : Binds X.F fd ps []) (hdb : (x == ("__debug__" : Str)) = false)
    (he : starEach (e :: es) X.env = (false, eval e X.env) :: starEach es X.env) (hpl : (backTo pos (starEach es X.env)).any (·.1) = false) (hr : PA X (e :: es) (liftA X.F wr)) :
    PE X (.Call (.Name x p) (e :: es) [] pos) (lift X.F fun σ h Q => wr σ h fun ds h1 => M.run P n f ds h1 Q xx) := by
  refine (pe_call F hroom hg hm hk hb .nil pass0 hr hdb he hpl).imp fun σ H Q ⟨σa, h, Qa, rs, rh, q, k⟩ => ?_
  refine liftA_go rs rh q fun ds h1 vs H1 q1 f1 r1 rh1 _ => ?_
  exact ⟨ds, h1, Qa, xx, by rw [List.append_nil]; exact r1, rh1, q1, k.go f1⟩
theorem s_call0 {x : Str} {p : Pos} {P : M.Prog} {n : Nat} {f : M.Sx} {fa : Addr} {fd : FuncData} {ps : List Str} {xx : M.XP} (F : FnOk X.prog X.w X.F X.mg X.base CX0 n fa fd ps (spC X.F P n f)) (hroom : Room n X.A) (hg : Gl X x) (hm : X.mg x = some (.ref fa))
    (hk : PySem.W.keepIn X.F (.ref fa) = true) (hb : Binds X.F fd ps []) (hdb : (x == ("__debug__" : Str)) = false) :
    PE X (.Call (.Name x p) [] [] pos) (lift X.F fun σ h Q => M.run P n f [] h Q xx) := by
  refine (pe_call0 F hroom hg hm hk hb .nil pass0 hdb).imp fun σ H Q ⟨σa, h, Qa, rs, rh, q, k⟩ => ?_
  exact ⟨[], h, Qa, xx, rfl, rh, q, k⟩
theorem reps_nons {K : Fr} {H : Hp} : ∀ k : Nat, Reps K H (List.replicate k .non) (List.replicate k V.non)
  | 0 => rfl
  | k + 1 => ⟨_, _, rfl, rfl, reps_nons k⟩
theorem s_callD {x : Str} {p : Pos} {es : List Expr} {wr : WA} {P : M.Prog} {n k : Nat} {f : M.Sx} {fa : Addr} {fd : FuncData} {ps : List Str} {ds0 : List Value} {xx : M.XP} (F : FnOk X.prog X.w X.F X.mg X.base CX0 n fa fd ps (spC X.F P n f)) (hroom : Room n X.A) (hg : Gl X x) (hm : X.mg x = some (.ref fa))
    (hk : PySem.W.keepIn X.F (.ref fa) = true) (hd : Vals (List.replicate k V.non) ds0) (hb : Binds X.F fd ps ds0) (hdb : (x == ("__debug__" : Str)) = false)
    (he : starEach (e :: es) X.env = (false, eval e X.env) :: starEach es X.env) (hpl : (backTo pos (starEach es X.env)).any (·.1) = false) (hr : PA X (e :: es) (liftA X.F wr)) :
    PE X (.Call (.Name x p) (e :: es) [] pos) (lift X.F fun σ h Q => wr σ h fun ds h1 => M.run P n f (ds ++ List.replicate k .non) h1 Q xx) := by
  refine (pe_call F hroom hg hm hk hb hd pass0 hr hdb he hpl).imp fun σ H Q ⟨σa, h, Qa, rs, rh, q, k⟩ => ?_
  refine liftA_go rs rh q fun ds h1 vs H1 q1 f1 r1 rh1 _ => ?_
  exact ⟨_, h1, Qa, xx, r1.append (reps_nons _), rh1, q1, k.go f1⟩
end
end Snd
end
section
/-! Sound6: what is walked, targets, comprehensions, statements. -/
namespace Snd
open PySem L2 PySem.Spec PyProof.Rows
section
variable {X : L2.Cx} {K : Fr} {σ : L2.St} {σa : M.St} {H H1 : Hp} {h h1 : M.AH} {w wa wb wc : WE} {Qa : M.VQ} {a b c e : Expr} {pos : Pos} {tg : Expr}
/-- an iterator of the model bears the items xs, as long as ok holds -/
def Walks (K : Fr) (H1 : Hp) (J : It) (xs : List SD) (ok : M.AH → Prop) : Prop := ∀ (i : Nat) (H : Hp) (h : M.AH), Kp H1 H → Fz H1 H → RH K H h → ok h →
  (i < xs.length → J.go i H) ∧ (xs.length ≤ i → J.stop i H) ∧ ∀ x H', J.yld i H x H' → ∀ d, xs[i]? = some d → Rep K H' d x ∧ Frm H h H' h ∧ RH K H' h
theorem PI.imp' {t t' : TI} (a : PI X tg e t) (i : ∀ σ H Q, t' σ H Q → t σ H Q) : PI X tg e t' := ⟨fun pins s σ H Q I h => a.run pins s σ H Q I (i σ H Q h)⟩
def liftI (K : Fr) (k : M.Itk) (w : WA) : TI := fun σ H R => ∃ σa h Qd, RS K H σ σa ∧ RH K H h ∧ w σa h Qd ∧ ∀ ds h1, Qd ds h1 → ∃ QW : List SD → (M.AH → Prop) → Prop, M.walk k ds h1 QW ∧
  ∀ xs ok J H1, QW xs ok → Frm H h H1 h1 → RH K H1 h1 → Walks K H1 J xs ok → R J H1
/-- a list, a tuple, a text -/
def iSeq (K : Fr) (tl : TE) : TI := fun σ H R => tl σ H fun x H1 => (∃ a, x = .ref a ∧ (∃ xs, SqL K H1 a xs) ∧ R (Itl K a) H1) ∨ (∃ a, x = .ref a ∧ (∃ xs, SqT K H1 a xs) ∧ R (Itt K a) H1) ∨ ∃ z, x = .str z ∧ R (Its z) H1
theorem pi_seq {l : Expr} {tl : TE} (hl : PE X l tl) : PI X tg l (iSeq X.F tl) := by
  refine ⟨fun pins s σ H R I hw => thn (hl.run pins s σ H _ I hw) ?_⟩
  rintro v s1 ⟨x, H1, J, rv, q⟩
  rcases q with ⟨ad, rfl, ⟨xs, hx⟩, q⟩ | ⟨ad, rfl, ⟨xs, hx⟩, q⟩ | ⟨z, rfl, q⟩
  · cases rv
    obtain ⟨its, r, p, hz⟩ := J.list hx
    exact wpAny_pyIter_list p.isList (pi_one (tk := s1.toks) J _ (turn_list ad _) ⟨_, Heap.get?_push_size _ rfl, rfl, rfl⟩ q)
  · cases rv
    obtain ⟨its, r, p, hz⟩ := J.tuple hx
    exact wpAny_pyIter_tuple (show s1.heap.IsTuple ad its.toArray from p) (pi_one (tk := s1.toks) J _ (turn_tuple ad _) ⟨_, Heap.get?_push_size _ rfl, rfl, rfl⟩ q)
  · obtain ⟨t, rfl⟩ := rv
    cases wide : z.cps.all (· < 128)
    · exact wpAny_pyIter_wide wide (pi_one (tk := s1.toks) J _ (turn_str _ z t "str_iterator" (.inr rfl)) ⟨_, Heap.get?_push_size _ rfl, rfl, rfl⟩ q)
    · exact wpAny_pyIter_ascii wide (pi_one (tk := s1.toks) J _ (turn_str _ z t "str_ascii_iterator" (.inl rfl)) ⟨_, Heap.get?_push_size _ rfl, rfl, rfl⟩ q)
theorem sql_inj {p : Addr} {vs ws : List V} (e : H p = some (.lst vs)) (h : SqL K H p ws) (no : ¬ KLst K p ws) : ws = vs := by
  rcases h with (h | ⟨o, h⟩) | h
  · rw [e] at h; cases h; rfl
  · rw [e] at h; cases h
  · exact absurd h no
/-- a list's items at a turn: what the walk yields is what stands there -/
theorem walks_lst {p : Addr} {xs : List SD} : Walks K H1 (Itl K p) xs (fun h' => h' p = some (.lst xs)) := by
  intro i H h kp fz rh ok
  obtain ⟨vs, e, r⟩ := rh p _ ok
  have ln := r.length
  refine ⟨fun hi => ⟨vs, vs[i]'(by omega), SqL.of e, by simp⟩, fun hi => ⟨vs, SqL.of e, by omega⟩, ?_⟩
  rintro x H' ⟨rfl, y⟩ d hd
  obtain ⟨v, h1, h2⟩ := r.get hd
  have := y vs (SqL.of e)
  rw [h1] at this
  cases this
  exact ⟨h2, .refl, rh⟩
theorem walks_rol {p : Addr} {xs : List SD} {vs : List V} (t : (∃ o, H1 p = some (.frz o (.lst vs))) ∨ KLst K p vs) (r : Reps K H1 xs vs) : Walks K H1 (Itl K p) xs (fun _ => True) := by
  intro i H h kp fz rh ok
  have ln := r.length
  have hs : SqL K H p vs := rol_sql (t.imp (fun ⟨o, e⟩ => ⟨o, kp.2 _ _ _ e⟩) id)
  refine ⟨fun hi => ⟨vs, vs[i]'(by omega), hs, by simp⟩, fun hi => ⟨vs, hs, by omega⟩, ?_⟩
  rintro x H' ⟨rfl, y⟩ d hd
  obtain ⟨v, h1, h2⟩ := (r.kp kp).get hd
  have := y vs hs
  rw [h1] at this
  cases this
  exact ⟨h2, .refl, rh⟩
theorem walks_tup {p : Addr} {xs : List SD} {vs : List V} (t : H1 p = some (.tup vs) ∨ KTup K p vs) (r : Reps K H1 xs vs) : Walks K H1 (Itt K p) xs (fun _ => True) := by
  intro i H h kp fz rh ok
  have ln := r.length
  have hs : SqT K H p vs := (t.imp (kp.1 _ _) id).imp .inl id
  refine ⟨fun hi => ⟨vs, vs[i]'(by omega), hs, by simp⟩, fun hi => ⟨vs, hs, by omega⟩, ?_⟩
  rintro x H' ⟨rfl, y⟩ d hd
  obtain ⟨v, h1, h2⟩ := (r.kp kp).get hd
  have := y vs hs
  rw [h1] at this
  cases this
  exact ⟨h2, .refl, rh⟩
theorem walks_str {s : M.Sx} (ok : sOk s) : Walks K H1 (Its (sV s)) (s.map fun c => .str [c]) (fun _ => True) := by
  intro i H h kp fz rh _
  have sz : (sV s).cps.size = s.length := by simp [sV]
  refine ⟨fun hi => by show i < (sV s).cps.size; rw [sz]; simpa using hi, fun hi => by show (sV s).cps.size ≤ i; rw [sz]; simpa using hi, ?_⟩
  rintro x H' ⟨rfl, c, hc, rfl⟩ d hd
  rw [List.getElem?_map] at hd
  have e : s[i]? = some c := by
    rw [← Array.getElem?_toList, sV_cps] at hc
    exact hc
  rw [e] at hd
  simp only [Option.map_some, Option.some.injEq] at hd
  subst hd
  exact ⟨⟨rfl, fun z hz => by
    have : z = c := by simpa using hz
    subst this
    exact ok _ (List.mem_of_getElem? e)⟩, .refl, rh⟩
theorem walks_rng (lo hi : Int) (n : Nat) (hn : n = (hi - lo).toNat) : Walks K H1 (Itr lo n) (M.rangeL lo hi) (fun _ => True) := by
  intro i H h kp fz rh _
  have ln : (M.rangeL lo hi).length = n := by simp [M.rangeL, hn]
  refine ⟨fun q => by show i < n; omega, fun q => by show n ≤ i; omega, ?_⟩
  rintro x H' ⟨rfl, rfl⟩ d hd
  have hi : i < n := by rw [← ln]; exact (List.getElem?_eq_some_iff.mp hd).1
  simp only [M.rangeL, List.getElem?_map] at hd
  rw [List.getElem?_range (by omega)] at hd
  simp only [Option.map_some, Option.some.injEq] at hd
  subst hd
  exact ⟨rfl, .refl, rh⟩
theorem enumL_get : ∀ (xs : List SD) (k i : Nat) (d : SD), (M.enumL k xs)[i]? = some d → ∃ x, xs[i]? = some x ∧ d = .tup [.int ((k + i : Nat) : Int), x]
  | [], k, i, d, e => by simp [M.enumL] at e
  | x :: xs, k, 0, d, e => by
    simp only [M.enumL, List.getElem?_cons_zero, Option.some.injEq] at e
    exact ⟨x, rfl, e.symm⟩
  | x :: xs, k, i + 1, d, e => by
    simp only [M.enumL, List.getElem?_cons_succ] at e
    obtain ⟨y, h1, h2⟩ := enumL_get xs (k + 1) i d e
    refine ⟨y, by simpa using h1, ?_⟩
    rw [h2]
    have : k + 1 + i = k + (i + 1) := by omega
    rw [this]
theorem enumL_len : ∀ (xs : List SD) (k : Nat), (M.enumL k xs).length = xs.length
  | [], _ => rfl
  | x :: xs, k => by simp [M.enumL, enumL_len xs (k + 1)]
theorem walks_enum {p : Addr} {xs : List SD} : Walks K H1 (Ite K p) (M.enumL 0 xs) (fun h' => h' p = some (.lst xs)) := by
  intro i H h kp fz rh ok
  obtain ⟨vs, e, r⟩ := rh p _ ok
  have ln := r.length
  have ln2 := enumL_len xs 0
  refine ⟨fun hi => ⟨vs, vs[i]'(by omega), SqL.of e, by simp⟩, fun hi => ⟨vs, SqL.of e, by omega⟩, ?_⟩
  rintro x H' ⟨T, y, rfl, hn, rfl, hy⟩ d hd
  obtain ⟨z, h1, rfl⟩ := enumL_get xs 0 i d hd
  obtain ⟨v, h2, h3⟩ := r.get h1
  have := hy vs (SqL.of e)
  rw [h2] at this
  cases this
  refine ⟨⟨T, _, rfl, .inl upd_same, Reps.cons (by simp [Rep]) (.one (h3.kp (kp_new hn)))⟩, frm_hid hn, rh_hid rh hn⟩

theorem i_seq (hl : PE X e (lift X.F w)) : PI X tg e (liftI X.F .seq fun σ h Q => w σ h fun d h1 => Q [d] h1) := by
  refine PI.imp' (pi_seq hl) fun σ H R ⟨σa, h, Qd, rs, rh, q, k⟩ => ?_
  refine lift_go rs rh q fun d h1 v H1 q1 f1 r1 rh1 _ => ?_
  obtain ⟨QW, hw, kk⟩ := k _ _ q1
  cases d with
  | tup xs =>
    obtain ⟨ad, vs, ev, t, rr⟩ := r1
    exact .inr (.inl ⟨ad, ev, ⟨vs, t.imp .inl id⟩, kk _ _ _ _ hw f1 rh1 (walks_tup t rr)⟩)
  | rol xs =>
    obtain ⟨ad, vs, ev, t, rr⟩ := r1
    exact .inl ⟨ad, ev, ⟨vs, rol_sql t⟩, kk _ _ _ _ hw f1 rh1 (walks_rol t rr)⟩
  | str s => exact .inr (.inr ⟨sV s, r1.1, kk _ _ _ _ hw f1 rh1 (walks_str r1.2)⟩)
  | ref p =>
    simp only [M.walk] at hw
    cases e1 : h1 p with
    | none => rw [e1] at hw; exact hw.elim
    | some o => rw [e1] at hw; cases o with
      | lst xs =>
        obtain ⟨vs, e2, rr⟩ := rh1 p _ e1
        exact .inl ⟨p, r1, ⟨vs, SqL.of e2⟩, kk _ _ _ _ hw f1 rh1 walks_lst⟩
      | _ => exact hw.elim
  | _ => exact hw.elim
theorem walk_rng_inv {ds : List SD} {QW : List SD → (M.AH → Prop) → Prop} (q : M.walk .rng ds h QW) : (∃ n, ds = [.int n] ∧ -(2 ^ 62) ≤ n ∧ n < 2 ^ 62 ∧ QW (M.rangeL 0 n) fun _ => True) ∨
    (∃ a b, ds = [.int a, .int b] ∧ (-(2 ^ 62) ≤ a ∧ a < 2 ^ 62 ∧ -(2 ^ 62) ≤ b ∧ b < 2 ^ 62) ∧ QW (M.rangeL a b) fun _ => True) ∨
    ∃ a b c, ds = [.int a, .int b, .int c] ∧ (c = -1 ∧ -(2 ^ 62) ≤ a ∧ a < 2 ^ 62 ∧ -(2 ^ 62) ≤ b ∧ b < 2 ^ 62) ∧ QW (M.rangeL (b + 1) (a + 1)).reverse fun _ => True := by
  match ds with
  | [] => exact False.elim q
  | [d] => cases d with
    | int n => exact .inl ⟨n, rfl, q⟩
    | _ => exact False.elim q
  | [d, e] => cases d with
    | int a => cases e with
      | int b => exact .inr (.inl ⟨a, b, rfl, q⟩)
      | _ => exact False.elim q
    | _ => cases e <;> exact False.elim q
  | [d, e, f] => cases d with
    | int a => cases e with
      | int b => cases f with
        | int c => exact .inr (.inr ⟨a, b, c, rfl, q⟩)
        | _ => exact False.elim q
      | _ => cases f <;> exact False.elim q
    | _ => cases e <;> cases f <;> exact False.elim q
  | d :: e :: f :: g :: r => cases d <;> cases e <;> cases f <;> exact False.elim q
theorem i_rng1 {p : Pos} (hg : Gl X "range") (hm : X.mg "range" = none) (hs : starEach [a] X.env = [(false, eval a X.env)]) (ha : PE X a (lift X.F wa)) :
    PI X tg (.Call (.Name "range" p) [a] [] pos) (liftI X.F .rng fun σ h Q => wa σ h fun d h1 => Q [d] h1) := by
  refine PI.imp' (pi_range1 hg hm (pa_cons ha pa_nil hs) hs) fun σ H R ⟨σa, h, Qd, rs, rh, q, k⟩ => ?_
  refine lift_go rs rh q fun d h1 v H1 q1 f1 r1 rh1 _ => ?_
  obtain ⟨QW, hw, kk⟩ := k _ _ q1
  rcases walk_rng_inv hw with ⟨n, e, h1, h2, hw2⟩ | ⟨x, y, e, _⟩ | ⟨x, y, z, e, _⟩
  · cases e
    cases (show v = _ from r1)
    exact ⟨n, rfl, h1, h2, kk _ _ _ _ hw2 f1 rh1 (walks_rng 0 n _ (by simp))⟩
  · cases e
  · cases e
theorem i_rng2 {p : Pos} (hg : Gl X "range") (hm : X.mg "range" = none) (hs : starEach [a, b] X.env = [(false, eval a X.env), (false, eval b X.env)]) (hs2 : starEach [b] X.env = [(false, eval b X.env)]) (ha : PE X a (lift X.F wa)) (hb : PE X b (lift X.F wb)) :
    PI X tg (.Call (.Name "range" p) [a, b] [] pos) (liftI X.F .rng fun σ h Q => wa σ h fun d h1 => wb σ h1 fun d2 h2 => Q [d, d2] h2) := by
  refine PI.imp' (pi_range2 hg hm (pa_cons ha (pa_cons hb pa_nil hs2) (by rw [hs, hs2])) hs hs2) fun σ H R ⟨σa, h, Qd, rs, rh, q, k⟩ => ?_
  refine lift_go rs rh q fun d h1 v H1 q1 f1 r1 rh1 rs1 => lift_go rs1 rh1 q1 fun d2 h2 v2 H2 q2 f2 r2 rh2 rs2 => ?_
  obtain ⟨QW, hw, kk⟩ := k _ _ q2
  rcases walk_rng_inv hw with ⟨n, e, h1, h2, hw2⟩ | ⟨x, y, e, hb, hw2⟩ | ⟨x, y, z, e, _⟩
  · cases e
  · cases e
    cases (show v = _ from r1); cases (show v2 = _ from r2)
    exact ⟨x, y, rfl, hb, kk _ _ _ _ hw2 (f1.trans f2) rh2 (walks_rng x y _ rfl)⟩
  · cases e
theorem walks_rng3 (a b : Int) : Walks K H1 (Itc a (-1) (a - b).toNat) (M.rangeL (b + 1) (a + 1)).reverse (fun _ => True) := by
  intro i H h kp fz rh _
  have lr : (M.rangeL (b + 1) (a + 1)).length = (a - b).toNat := by simp [M.rangeL]; omega
  have ln : (M.rangeL (b + 1) (a + 1)).reverse.length = (a - b).toNat := by rw [List.length_reverse, lr]
  refine ⟨fun q => by show i < (a - b).toNat; omega, fun q => by show (a - b).toNat ≤ i; omega, ?_⟩
  rintro x H' ⟨rfl, rfl⟩ d hd
  have hi : i < (a - b).toNat := by rw [← ln]; exact (List.getElem?_eq_some_iff.mp hd).1
  rw [List.getElem?_reverse (by omega), lr] at hd
  simp only [M.rangeL, List.getElem?_map] at hd
  rw [List.getElem?_range (by omega)] at hd
  simp only [Option.map_some, Option.some.injEq] at hd
  subst hd
  have : a + ((i : Nat) : Int) * (-1) = b + 1 + (((a - b).toNat - 1 - i : Nat) : Int) := by omega
  rw [this]
  exact ⟨rfl, .refl, rh⟩
theorem i_rng3 {p : Pos} (hg : Gl X "range") (hm : X.mg "range" = none) (hs : starEach [a, b, c] X.env = [(false, eval a X.env), (false, eval b X.env), (false, eval c X.env)]) (hs2 : starEach [b, c] X.env = [(false, eval b X.env), (false, eval c X.env)]) (hs3 : starEach [c] X.env = [(false, eval c X.env)])
    (ha : PE X a (lift X.F wa)) (hb : PE X b (lift X.F wb)) (hc : PE X c (lift X.F wc)) :
    PI X tg (.Call (.Name "range" p) [a, b, c] [] pos) (liftI X.F .rng fun σ h Q => wa σ h fun d h1 => wb σ h1 fun d2 h2 => wc σ h2 fun d3 h3 => Q [d, d2, d3] h3) := by
  refine PI.imp' (pi_range3 hg hm (pa_cons ha (pa_cons hb (pa_cons hc pa_nil hs3) (by rw [hs2, hs3])) (by rw [hs, hs2])) (by rw [hs, hs2]) (by rw [hs2]; rfl)) fun σ H R ⟨σa, h, Qd, rs, rh, q, k⟩ => ?_
  refine lift_go rs rh q fun d h1 v H1 q1 f1 r1 rh1 rs1 => lift_go rs1 rh1 q1 fun d2 h2 v2 H2 q2 f2 r2 rh2 rs2 => lift_go rs2 rh2 q2 fun d3 h3 v3 H3 q3 f3 r3 rh3 rs3 => ?_
  obtain ⟨QW, hw, kk⟩ := k _ _ q3
  rcases walk_rng_inv hw with ⟨n, e, h1, h2, hw2⟩ | ⟨x, y, e, _⟩ | ⟨x, y, z, e, ⟨hz, h1, h2, h4, h5⟩, hw2⟩
  · cases e
  · cases e
  · cases e
    cases (show v = _ from r1); cases (show v2 = _ from r2); cases (show v3 = _ from r3)
    subst hz
    exact ⟨x, y, -1, (x - y).toNat, rfl, RgC.neg h1 h2 h4 h5, kk _ _ _ _ hw2 ((f1.trans f2).trans f3) rh3 (walks_rng3 x y)⟩
theorem walk_enum_inv {ds : List SD} {QW : List SD → (M.AH → Prop) → Prop} (q : M.walk .enum ds h QW) : ∃ p xs, ds = [.ref p] ∧ h p = some (.lst xs) ∧ QW (M.enumL 0 xs) fun h' => h' p = some (.lst xs) := by
  match ds with
  | [] => exact False.elim q
  | [d] => cases d with
    | ref p =>
      simp only [M.walk] at q
      cases e : h p with
      | none => rw [e] at q; exact q.elim
      | some o => rw [e] at q; cases o with
        | lst xs => exact ⟨p, xs, rfl, e, q⟩
        | _ => exact q.elim
    | _ => exact False.elim q
  | d :: e :: r => cases d <;> exact False.elim q
theorem i_enum {p tpos : Pos} {elts : List Expr} {kk : Nat} (hg : Gl X "enumerate") (hm : X.mg "enumerate" = none) (hs : starEach [a] X.env = [(false, eval a X.env)]) (ha : PE X a (lift X.F wa)) :
    PI X (.Tuple elts kk tpos) (.Call (.Name "enumerate" p) [a] [] pos) (liftI X.F .enum fun σ h Q => wa σ h fun d h1 => Q [d] h1) := by
  refine PI.imp' (pi_enum hg hm (pa_cons ha pa_nil hs) hs) fun σ H R ⟨σa, h, Qd, rs, rh, q, k⟩ => ?_
  refine lift_go rs rh q fun d h1 v H1 q1 f1 r1 rh1 _ => ?_
  obtain ⟨QW, hw, kk⟩ := k _ _ q1
  obtain ⟨p, xs, e, e1, hw2⟩ := walk_enum_inv hw
  cases e
  cases (show v = _ from r1)
  obtain ⟨vs, e2, rr⟩ := rh1 p _ e1
  exact ⟨p, vs, rfl, SqL.of e2, kk _ _ _ _ hw2 f1 rh1 walks_enum⟩

/-! ### targets -/
def gNames : List Nat → TGs
  | [] => gNil
  | i :: is => gCons (gName i) (gNames is)
def gOf (K : Fr) : M.Tgt → TG
  | .nm i => gName i
  | .tp ts => gTup K ts.length (gNames ts)
theorem rs_set {i : Nat} {d : SD} {v : V} (rs : RS K H σ σa) (r : Rep K H d v) : RS K H (σ.set i (some v)) (σa.set i (some d)) := by
  refine ⟨by simpa using rs.1, fun j e q => ?_⟩
  by_cases z : i = j
  · subst z
    by_cases hl : i < σa.length
    · rw [List.getElem?_set_self hl] at q
      cases q
      exact ⟨v, by rw [List.getElem?_set_self (by rw [rs.1]; exact hl)], r⟩
    · rw [List.getElem?_eq_none (by simpa using hl)] at q; cases q
  · rw [List.getElem?_set_ne z] at q
    obtain ⟨u, e1, e2⟩ := rs.2 j e q
    exact ⟨u, by rw [List.getElem?_set_ne z]; exact e1, e2⟩
theorem setTs_ok : ∀ {is : List Nat} {ds : List SD} {vs : List V} {σ : L2.St} {σa σb : M.St} {Q : L2.St → Hp → Prop}, M.setT.setTs is ds σa = some σb → RS K H σ σa → Reps K H ds vs → (∀ σ', RS K H σ' σb → Q σ' H) → gNames is vs σ H Q
  | [], [], vs, σ, σa, σb, Q, e, rs, r, k => by
    simp only [M.setT.setTs, Option.some.injEq] at e
    subst e
    exact ⟨r, k σ rs⟩
  | [], _ :: _, vs, σ, σa, σb, Q, e, _, _, _ => by simp [M.setT.setTs] at e
  | _ :: _, [], vs, σ, σa, σb, Q, e, _, _, _ => by simp [M.setT.setTs] at e
  | i :: is, d :: ds, vs, σ, σa, σb, Q, e, rs, ⟨v, r, ev, r1, r2⟩, k => by
    simp only [M.setT.setTs] at e
    exact ⟨v, r, ev, setTs_ok e (rs_set rs r1) r2 k⟩
theorem setTs_len : ∀ {is : List Nat} {ds : List SD} {σa σb : M.St}, M.setT.setTs is ds σa = some σb → is.length = ds.length
  | [], [], _, _, _ => rfl
  | [], _ :: _, _, _, e => by simp [M.setT.setTs] at e
  | _ :: _, [], _, _, e => by simp [M.setT.setTs] at e
  | i :: is, d :: ds, _, _, e => by simp only [M.setT.setTs] at e; simp [setTs_len e]
theorem setT_ok {t : M.Tgt} {d : SD} {v : V} {σb : M.St} {Q : L2.St → Hp → Prop} (e : M.setT t d σa = some σb) (rs : RS K H σ σa) (r : Rep K H d v) (k : ∀ σ', RS K H σ' σb → Q σ' H) : gOf K t v σ H Q := by
  cases t with
  | nm i =>
    simp only [M.setT, Option.some.injEq] at e
    subst e
    exact k _ (rs_set rs r)
  | tp ts =>
    cases d with
    | tup ds =>
      obtain ⟨ad, vs, ev, t, rr⟩ := r
      exact ⟨ad, vs, ev, t.imp .inl id, by rw [rr.length, setTs_len e], setTs_ok e rs rr k⟩
    | _ => simp [M.setT] at e
theorem wipe_rs (rs : RS K H σ σa) : ∀ vs : List Nat, RS K H (wipe σ vs) (M.forget σa vs)
  | [] => rs
  | v :: vs => by
    have ih := wipe_rs rs vs
    unfold wipe M.forget
    refine ⟨by simpa using ih.1, fun j e q => ?_⟩
    by_cases z : v = j
    · subst z
      by_cases hl : v < (M.forget σa vs).length
      · rw [List.getElem?_set_self hl] at q; cases q
      · rw [List.getElem?_eq_none (by simpa using hl)] at q; cases q
    · rw [List.getElem?_set_ne z] at q
      obtain ⟨u, e1, e2⟩ := ih.2 j e q
      exact ⟨u, by rw [List.getElem?_set_ne z]; exact e1, e2⟩
/-- storing to a comprehension's own names, then forgetting them -/
theorem wipe_set {i : Nat} {v : Option V} : ∀ {vs : List Nat} {σ : L2.St}, i ∈ vs → wipe (σ.set i v) vs = wipe σ vs
  | j :: vs, σ, hm => by
    unfold wipe
    by_cases z : i ∈ vs
    · rw [wipe_set z]
    · have e : j = i := by
        rcases List.mem_cons.mp hm with e | e
        · exact e.symm
        · exact absurd e z
      subst e
      have : ∀ {ws : List Nat} {τ : L2.St}, j ∉ ws → wipe (τ.set j v) ws = (wipe τ ws).set j v := by
        intro ws
        induction ws with
        | nil => intro τ _; rfl
        | cons k ws ih =>
          intro τ hk
          unfold wipe
          rw [ih (fun q => hk (List.mem_cons_of_mem _ q)), List.set_comm]
          exact fun q => hk (by rw [← q]; exact List.mem_cons_self)
      rw [this z, List.set_set]
theorem wipe_wipe : ∀ {vs : List Nat} {σ : L2.St}, wipe (wipe σ vs) vs = wipe σ vs := by
  have gen : ∀ {ws vs : List Nat} {σ : L2.St}, (∀ i ∈ ws, i ∈ vs) → wipe (wipe σ ws) vs = wipe σ vs := by
    intro ws
    induction ws with
    | nil => intro vs σ _; rfl
    | cons k ws ih =>
      intro vs σ hk
      show wipe ((wipe σ ws).set k none) vs = _
      rw [wipe_set (hk k List.mem_cons_self), ih (fun i hi => hk i (List.mem_cons_of_mem _ hi))]
  intro vs σ
  exact gen fun i hi => hi
def tgtIn (own : List Nat) : M.Tgt → Bool
  | .nm i => own.contains i
  | .tp ts => ts.all fun i => own.contains i
theorem gNames_wipe {own : List Nat} : ∀ {is : List Nat} {vs : List V} {σ : L2.St} {Q : L2.St → Hp → Prop}, (is.all fun i => own.contains i) = true → gNames is vs σ H Q → gNames is vs σ H fun σ' H' => wipe σ' own = wipe σ own ∧ Q σ' H'
  | [], _, _, _, _, ⟨e, q⟩ => ⟨e, rfl, q⟩
  | i :: is, vs, σ, Q, hi, ⟨v, r, e, q⟩ => by
    rw [List.all_cons] at hi
    obtain ⟨h1, h2⟩ := ba hi
    refine ⟨v, r, e, ?_⟩
    have q' := gNames_wipe h2 (show gNames is r (σ.set i (some v)) H Q from q)
    have e2 : wipe (σ.set i (some v)) own = wipe σ own := wipe_set (by simpa using h1)
    rw [e2] at q'
    exact q'
theorem gOf_wipe {own : List Nat} {t : M.Tgt} {v : V} {Q : L2.St → Hp → Prop} (ht : tgtIn own t = true) (q : gOf K t v σ H Q) : gOf K t v σ H fun σ' H' => wipe σ' own = wipe σ own ∧ Q σ' H' := by
  cases t with
  | nm i => exact ⟨wipe_set (by simpa [tgtIn] using ht), q⟩
  | tp ts =>
    obtain ⟨ad, xs, e, s, hl, q⟩ := q
    exact ⟨ad, xs, e, s, hl, gNames_wipe ht q⟩

/-! ### a comprehension -/
def tWith (K : Fr) (w : WE) : TT := liftT K w
theorem lc_ok {k : M.Itk} {wsrc : WA} {wif : WE} {welt : WE} {t : M.Tgt} {own : List Nat} {Q : VK} (ht : tgtIn own t = true)
    (q : lift K (fun σ h Q => wsrc σ h fun ds h1 => M.walk k ds h1 fun xs ok =>
      M.compW xs ok (fun x h2 yes no => match M.setT t x (M.forget σ own) with
        | some σ' => wif σ' h2 fun c h3 => match c with
          | .bl true => welt σ' h3 yes
          | .bl false => no h3
          | _ => False
        | none => False) (fun acc h2 => ∀ r, h2 r = none → Q (.ref r) (M.up h2 r (.lst acc))) h1) σ H Q) :
    tLc (liftI K k wsrc) (gOf K t) (liftT K wif) (lift K welt) own σ H Q := by
  obtain ⟨σa, h, Qa, rs, rh, q, kk⟩ := q
  have hl := line_eq
  refine ⟨σa, h, _, rs, rh, q, fun ds h1 q1 => ⟨_, q1, fun xs ok J H1 cw f1 rh1 wk => ?_⟩⟩
  intro D hD
  obtain ⟨P, p0, pok, hz, step, done⟩ := cw
  have rs1 := rs.kp (f1.kp rh)
  have kp0 : Kp H1 (upd H1 D (.lst [])) := kp_new hD
  have hD1 : h1 D = none := rh1.none hD
  -- the invariant: the new list is hidden
  let W : Nat → Nat → Hp → Prop := fun i m H' => m = xs.length - i ∧ i ≤ xs.length ∧ ∃ h' acc av, RH K H' h' ∧ Frm (upd H1 D (.lst [])) h1 (upd H' D (.lst [])) h' ∧ H' D = some (.lst av) ∧ h' D = none ∧ Reps K H' acc av ∧ P i acc h'
  have kpW : ∀ {H' : Hp} {h' : M.AH} {av : List V}, Frm (upd H1 D (.lst [])) h1 (upd H' D (.lst [])) h' → RH K (upd H1 D (.lst [])) h1 → Kp H1 H' := fun {H' h' av} f r => by
    refine ⟨fun ad vs e => ?_, fun ad ob u e => ?_⟩
    · have ne := ne_of_none e hD
      have := (f.kp r).1 ad vs (by rw [upd_ne ne]; exact e)
      rw [upd_ne ne] at this; exact this
    · have ne := ne_of_none e hD
      have := (f.kp r).2 ad ob u (by rw [upd_ne ne]; exact e)
      rw [upd_ne ne] at this; exact this
  have rh1' : RH K (upd H1 D (.lst [])) h1 := rh_hid rh1 hD
  refine ⟨W, ⟨xs.length, by simp, Nat.zero_le _, h1, [], [], rh1', by rw [upd_upd]; exact .refl, upd_same, hD1, rfl, p0⟩, ?_⟩
  rintro i m H' ⟨rfl, hi, h', acc, av, rh', f', hDv, hDn, ra, p⟩
  obtain ⟨hok, hacc⟩ := pok i acc h' p
  have kp' : Kp H1 H' := kpW (av := av) f' rh1'
  have fz' : Fz H1 H' := fun ad ob u e => by
    have ne := ne_of_none e hD
    have := (f'.fz rh1') ad ob u (by rw [upd_ne ne]; exact e)
    rw [upd_ne ne] at this; exact this
  obtain ⟨wg, ws, wy⟩ := wk i H' h' kp' fz' rh' hok
  have frmBack : ∀ {H2 : Hp} {h2 : M.AH}, Frm H' h' H2 h2 → Frm (upd H1 D (.lst [])) h1 (upd H2 D (.lst [])) h2 := fun {H2 h2} f2 ad o e n => by
    obtain ⟨e1, n1⟩ := f' ad o e n
    by_cases z : ad = D
    · subst z
      obtain ⟨_, n2⟩ := f2 ad _ hDv (.none hDn)
      rw [upd_same] at e1
      exact ⟨by rw [upd_same]; exact e1, n2.trans n1⟩
    · rw [upd_ne z] at e1 ⊢
      obtain ⟨e2, n2⟩ := f2 ad o e1 (n.eq n1)
      exact ⟨e2, n2.trans n1⟩
  by_cases hlt : i < xs.length
  · refine .inr ⟨wg hlt, fun H2 => W (i + 1) (xs.length - (i + 1)) H2, fun H2 hw => ⟨_, by omega, hw⟩, fun x H2 y => ?_⟩
    obtain ⟨rx, f2, rh2⟩ := wy x H2 y _ (List.getElem?_eq_getElem hlt)
    have sp := step i _ acc h' (List.getElem?_eq_getElem hlt) p
    dsimp only at sp
    cases e : M.setT t xs[i] (M.forget σa own) with
    | none => rw [e] at sp; exact sp.elim
    | some σb =>
      rw [e] at sp
      have rsw : RS K H2 (wipe σ own) (M.forget σa own) := wipe_rs ((rs1.kp kp').kp (f2.kp rh')) own
      have g := setT_ok (Q := fun σ2 H3 => H3 = H2 ∧ RS K H2 σ2 σb) e rsw rx fun σ' r' => ⟨rfl, r'⟩
      have g2 := gOf_wipe ht g
      have gmono : ∀ {Q1 Q2 : L2.St → Hp → Prop} {τ : L2.St} {v : V}, (∀ s Hh, Q1 s Hh → Q2 s Hh) → gOf K t v τ H2 Q1 → gOf K t v τ H2 Q2 := by
        intro Q1 Q2 τ v imp g
        have gn : ∀ {is : List Nat} {vs : List V} {τ : L2.St}, gNames is vs τ H2 Q1 → gNames is vs τ H2 Q2 := by
          intro is
          induction is with
          | nil => intro vs τ ⟨e, q⟩; exact ⟨e, imp _ _ q⟩
          | cons j js ih => intro vs τ ⟨v, r, e, q⟩; exact ⟨v, r, e, ih q⟩
        cases t with
        | nm j => exact imp _ _ g
        | tp ts => obtain ⟨ad, ys, e1, e2, e3, g⟩ := g; exact ⟨ad, ys, e1, e2, e3, gn g⟩
      refine gmono ?_ g2
      rintro σ2 H3 ⟨wp, rfl, rsb⟩
      refine ⟨wp.trans wipe_wipe, ?_⟩
      refine ⟨σb, h', _, rsb, rh2, sp, fun c h3 q3 => ?_⟩
      have fD : ∀ {H4 : Hp} {h4 : M.AH}, Frm H3 h' H4 h4 → Frm H' h' H4 h4 := fun f4 => f2.trans f4
      cases c with
      | bl b =>
        refine ⟨b, rfl, fun H4 f4 rh4 => ?_⟩
        cases b with
        | true =>
          rw [if_pos rfl]
          refine lift_go (rsb.kp (f4.kp rh2)) rh4 q3 fun d h5 v H5 q5 f5 r5 rh5 _ => ?_
          have ft := (fD f4).trans f5
          obtain ⟨e5, n5⟩ := ft D _ hDv (.none hDn)
          rw [hDn] at n5
          have ra5 := ra.kp (ft.kp rh')
          have ln := ra.length
          refine ⟨av, e5, by omega, rfl, by omega, h5, acc ++ [d], av ++ [v], ?_, ?_, upd_same, n5, ?_, q5⟩
          · refine fun ad o ea => (rh5 ad o ea).kp ?_ ?_
            · refine ⟨fun ad vs e => ?_, fun ad ob u e => ?_⟩
              · rw [upd_ne (fun z => by subst z; rw [e5] at e; cases e)]; exact e
              · rw [upd_ne (fun z => by subst z; rw [e5] at e; cases e)]; exact e
            · exact upd_ne (fun z => by subst z; rw [n5] at ea; cases ea)
          · rw [upd_upd]; exact frmBack ft
          · have kp5 : Kp H5 (upd H5 D (.lst (av ++ [v]))) := by
              refine ⟨fun ad vs e => ?_, fun ad ob u e => ?_⟩
              · rw [upd_ne (fun z => by subst z; rw [e5] at e; cases e)]; exact e
              · rw [upd_ne (fun z => by subst z; rw [e5] at e; cases e)]; exact e
            exact (ra5.append (.one r5)).kp kp5
        | false =>
          rw [if_neg Bool.false_ne_true]
          have ft := fD f4
          obtain ⟨e4, n4⟩ := ft D _ hDv (.none hDn)
          rw [hDn] at n4
          exact ⟨rfl, by omega, h3, acc, av, rh4, frmBack ft, e4, n4, ra.kp (ft.kp rh'), q3⟩
      | _ => exact q3.elim
  · have e : i = xs.length := by omega
    subst e
    refine .inl ⟨ws (Nat.le_refl _), ?_⟩
    have dn := done acc h' p D hDn
    refine kk _ _ _ _ dn (fun ad o e n => ?_) rfl (fun ad o e => ?_)
    · obtain ⟨e1, n1⟩ := f1 ad o e n
      have ne := ne_of_none e1 hD
      obtain ⟨e2, n2⟩ := f' ad o (by rw [upd_ne ne]; exact e1) (n.eq n1)
      rw [upd_ne ne] at e2
      exact ⟨e2, by rw [up_ne ne, n2, n1]⟩
    · by_cases z : ad = D
      · subst z
        rw [up_same] at e
        cases e
        exact ⟨av, hDv, ra⟩
      · rw [up_ne z] at e
        exact rh' ad o e

/-! ### statements -/
structure KontS (K : Fr) (H : Hp) (h : M.AH) (R : M.Ends) (D : L2.Ends) : Prop where
  nx : ∀ σa h' σ H', R.nx σa h' → Frm H h H' h' → RS K H' σ σa → RH K H' h' → D.nx σ H'
  rt : Kont K H h R.rt D.rt
  bk : ∀ σa h' σ H', R.bk σa h' → Frm H h H' h' → RS K H' σ σa → RH K H' h' → D.bk σ H'
  ct : ∀ σa h' σ H', R.ct σa h' → Frm H h H' h' → RS K H' σ σa → RH K H' h' → D.ct σ H'
theorem KontS.go {R : M.Ends} {D : L2.Ends} (k : KontS K H h R D) (f : Frm H h H1 h1) : KontS K H1 h1 R D :=
  ⟨fun σa h' σ H' q f' => k.nx σa h' σ H' q (f.trans f'), k.rt.go f, fun σa h' σ H' q f' => k.bk σa h' σ H' q (f.trans f'), fun σa h' σ H' q f' => k.ct σa h' σ H' q (f.trans f')⟩
abbrev WS := M.Ends → M.St → M.AH → Prop
def liftS (K : Fr) (w : WS) : TS := fun D σ H => ∃ σa h R, RS K H σ σa ∧ RH K H h ∧ w R σa h ∧ KontS K H h R D
theorem _root_.L2.PS.imp {X : L2.Cx} {e : Stmt} {t t' : TS} (a : PS X e t) (i : ∀ D σ H, t' D σ H → t D σ H) : PS X e t' := ⟨fun pins s σ H D I h => a.run pins s σ H D I (i D σ H h)⟩
theorem _root_.L2.PSs.imp {X : L2.Cx} {e : List Stmt} {t t' : TS} (a : PSs X e t) (i : ∀ D σ H, t' D σ H → t D σ H) : PSs X e t' := ⟨fun pins s σ H D I h => a.run pins s σ H D I (i D σ H h)⟩
variable {st : Stmt} {ss : List Stmt} {ws ws2 : WS}
theorem liftS_go {R : M.Ends} {D : L2.Ends} (rs : RS K H σ σa) (rh : RH K H h) (q : ws R σa h) (k : KontS K H h R D) : liftS K ws D σ H := ⟨σa, h, R, rs, rh, q, k⟩
theorem ss_nil : PSs X [] (liftS X.F fun R σ h => R.nx σ h) := pss_nil.imp fun D σ H ⟨σa, h, R, rs, rh, q, k⟩ => k.nx _ _ _ _ q .refl rs rh
theorem ss_cons (h1 : PS X st (liftS X.F ws)) (h2 : PSs X ss (liftS X.F ws2)) : PSs X (st :: ss) (liftS X.F fun R σ h => ws { R with nx := fun σ' h' => ws2 R σ' h' } σ h) := by
  refine (pss_cons h1 h2).imp fun D σ H ⟨σa, h, R, rs, rh, q, k⟩ => ?_
  exact liftS_go rs rh q ⟨fun σb h' σ' H' q' f rs' rh' => liftS_go rs' rh' q' (k.go f), k.rt, k.bk, k.ct⟩
theorem ss_pass : PS X (.Pass pos) (liftS X.F fun R σ h => R.nx σ h) := ps_pass.imp fun D σ H ⟨σa, h, R, rs, rh, q, k⟩ => k.nx _ _ _ _ q .refl rs rh
theorem ss_brk : PS X (.Break pos) (liftS X.F fun R σ h => R.bk σ h) := ps_break.imp fun D σ H ⟨σa, h, R, rs, rh, q, k⟩ => k.bk _ _ _ _ q .refl rs rh
theorem ss_cont : PS X (.Continue pos) (liftS X.F fun R σ h => R.ct σ h) := ps_continue.imp fun D σ H ⟨σa, h, R, rs, rh, q, k⟩ => k.ct _ _ _ _ q .refl rs rh
theorem ss_expr (hs : swapsWith e none pos.line X.env = pure false) (he : PE X e (lift X.F w)) : PS X (.Expr e pos) (liftS X.F fun R σ h => w σ h fun _ h1 => R.nx σ h1) := by
  refine (ps_expr he hs).imp fun D σ H ⟨σa, h, R, rs, rh, q, k⟩ => ?_
  exact lift_go rs rh q fun d h1 v H1 q1 f1 r1 rh1 rs1 => k.nx _ _ _ _ q1 f1 rs1 rh1
theorem ss_ret (he : PE X e (lift X.F w)) : PS X (.Return (some e) pos) (liftS X.F fun R σ h => w σ h R.rt) := by
  refine (ps_ret he).imp fun D σ H ⟨σa, h, R, rs, rh, q, k⟩ => ?_
  exact lift_go rs rh q fun d h1 v H1 q1 f1 r1 rh1 rs1 => k.rt _ _ _ _ q1 f1 r1 rh1
theorem ss_retN : PS X (.Return none pos) (liftS X.F fun R σ h => R.rt .non h) := ps_retN.imp fun D σ H ⟨σa, h, R, rs, rh, q, k⟩ => k.rt _ _ _ _ q .refl rfl rh
theorem ss_ife {ls rs' : List Stmt} (hc : PT X c (liftT X.F wc)) (ha : PSs X ls (liftS X.F ws)) (hb : PSs X rs' (liftS X.F ws2)) : PS X (.If c ls rs' pos) (liftS X.F fun R σ h => wc σ h fun d h1 => match d with
    | .bl b => (match b with
      | true => ws R σ h1
      | false => ws2 R σ h1)
    | _ => False) := by
  refine (ps_if hc ha hb).imp fun D σ H ⟨σa, h, R, rs, rh, q, k⟩ => ?_
  refine ⟨σa, h, _, rs, rh, q, fun d h' q1 => ?_⟩
  cases d with
  | bl b =>
    refine ⟨b, rfl, fun H' f rh' => ?_⟩
    cases b with
    | true => exact liftS_go (rs.kp (f.kp rh)) rh' q1 (k.go f)
    | false => exact liftS_go (rs.kp (f.kp rh)) rh' q1 (k.go f)
  | _ => exact q1.elim
theorem ss_whl (hp : PassesOwn (model X.prog X.w) X.A X.env X.xe) (hc : PT X c (liftT X.F wc)) (hb : PSs X ss (liftS X.F ws)) : PS X (.While c ss [] pos) (liftS X.F fun R σ h => ∃ W : Nat → M.St → M.AH → Prop, (∃ m, W m σ h) ∧ ∀ m σ h, W m σ h → wc σ h fun d h1 => match d with
    | .bl b => (match b with
      | true => ws { nx := fun σ' h' => ∃ m', m' < m ∧ W m' σ' h', ct := fun σ' h' => ∃ m', m' < m ∧ W m' σ' h', bk := R.nx, rt := R.rt } σ h1
      | false => R.nx σ h1)
    | _ => False) := by
  refine (ps_while hp hc hb).imp fun D σ H ⟨σa, h, R, rs, rh, ⟨W, ⟨m, w0⟩, step⟩, k⟩ => ?_
  refine ⟨fun m σ H' => ∃ σa h', RS X.F H' σ σa ∧ RH X.F H' h' ∧ Frm H h H' h' ∧ W m σa h', ⟨m, σa, h, rs, rh, .refl, w0⟩, ?_⟩
  rintro m σ H' ⟨σa, h', rs, rh, f, w⟩
  refine ⟨σa, h', _, rs, rh, step m σa h' w, fun d h1 q1 => ?_⟩
  cases d with
  | bl b =>
    refine ⟨b, rfl, fun H1 f1 rh1 => ?_⟩
    have rs1 := rs.kp (f1.kp rh)
    cases b with
    | true =>
      refine iteT ?_
      refine ⟨fun σ2 H2 => ∃ m', m' < m ∧ ∃ σa h', RS X.F H2 σ2 σa ∧ RH X.F H2 h' ∧ Frm H h H2 h' ∧ W m' σa h', fun σ2 H2 z => z, ?_⟩
      refine liftS_go rs1 rh1 q1 ⟨?_, k.rt.go (f.trans f1), ?_, ?_⟩
      · rintro σb h2 σ2 H2 ⟨m', hm, w'⟩ f2 rs2 rh2
        exact ⟨m', hm, σb, h2, rs2, rh2, (f.trans f1).trans f2, w'⟩
      · intro σb h2 σ2 H2 z f2 rs2 rh2
        exact k.nx _ _ _ _ z ((f.trans f1).trans f2) rs2 rh2
      · rintro σb h2 σ2 H2 ⟨m', hm, w'⟩ f2 rs2 rh2
        exact ⟨m', hm, σb, h2, rs2, rh2, (f.trans f1).trans f2, w'⟩
    | false =>
      refine iteF ?_
      exact k.nx _ _ _ _ q1 (f.trans f1) rs1 rh1
  | _ => exact q1.elim
theorem gOf_mono {t : M.Tgt} {Q1 Q2 : L2.St → Hp → Prop} {τ : L2.St} {v : V} (imp : ∀ s, Q1 s H → Q2 s H) (g : gOf K t v τ H Q1) : gOf K t v τ H Q2 := by
  have gn : ∀ {is : List Nat} {vs : List V} {τ : L2.St}, gNames is vs τ H Q1 → gNames is vs τ H Q2 := by
    intro is
    induction is with
    | nil => intro vs τ ⟨e, q⟩; exact ⟨e, imp _ q⟩
    | cons j js ih => intro vs τ ⟨v, r, e, q⟩; exact ⟨v, r, e, ih q⟩
  cases t with
  | nm j => exact imp _ g
  | tp ts => obtain ⟨ad, ys, e1, e2, e3, g⟩ := g; exact ⟨ad, ys, e1, e2, e3, gn g⟩
theorem ss_for {k : M.Itk} {t : M.Tgt} {wsrc : WA} {iter : Expr} (hp : PassesOwn (model X.prog X.w) X.A X.env X.xe) (hcalm : X.calm = true) (hi : PI X tg iter (liftI X.F k wsrc)) (hg : PG X tg (gOf X.F t)) (hb : PSs X ss (liftS X.F ws)) (hs : ∀ x, foldedSetIterable iter X.env x = pure x) :
    PS X (.For tg iter ss [] pos) (liftS X.F fun R σ h => wsrc σ h fun ds h1 => M.walk k ds h1 fun xs ok =>
      M.loopW xs ok (fun x σ h P => match M.setT t x σ with
        | some σ' => ws { nx := P, ct := P, bk := R.nx, rt := R.rt } σ' h
        | none => False) R.nx σ h1) := by
  refine (ps_for hp hcalm hi hg hb hs).imp fun D σ H ⟨σa, h, R, rs, rh, q, kk⟩ => ?_
  refine ⟨σa, h, _, rs, rh, q, fun ds h1 q1 => ⟨_, q1, fun xs ok J H1 lw f1 rh1 wk => ?_⟩⟩
  obtain ⟨P, p0, pok, step, done⟩ := lw
  let W : Nat → Nat → L2.St → Hp → Prop := fun i m σ2 H' => m = xs.length - i ∧ i ≤ xs.length ∧ ∃ σb h', RS X.F H' σ2 σb ∧ RH X.F H' h' ∧ Frm H1 h1 H' h' ∧ P i σb h'
  refine ⟨W, ⟨xs.length, by simp, Nat.zero_le _, σa, h1, rs.kp (f1.kp rh), rh1, .refl, p0⟩, ?_⟩
  rintro i m σ2 H' ⟨rfl, hi, σb, h', rs2, rh2, f2, p⟩
  have hok := pok i σb h' p
  obtain ⟨wg, wst, wy⟩ := wk i H' h' (f2.kp rh1) (f2.fz rh1) rh2 hok
  by_cases hlt : i < xs.length
  · refine .inr ⟨wg hlt, fun σ3 H3 => W (i + 1) (xs.length - (i + 1)) σ3 H3, fun σ3 H3 z => ⟨_, by omega, z⟩, fun x H3 y => ?_⟩
    obtain ⟨rx, f3, rh3⟩ := wy x H3 y _ (List.getElem?_eq_getElem hlt)
    have sp := step i _ σb h' (List.getElem?_eq_getElem hlt) p
    dsimp only at sp
    cases e : M.setT t xs[i] σb with
    | none => rw [e] at sp; exact sp.elim
    | some σc =>
      rw [e] at sp
      have rs3 := rs2.kp (f3.kp rh2)
      refine setT_ok e rs3 rx fun σ4 rs4 => ?_
      have ft := (f1.trans f2).trans f3
      refine liftS_go rs4 rh3 sp ⟨?_, kk.rt.go ft, ?_, ?_⟩
      · intro σd h4 σ5 H5 z f5 rs5 rh5
        exact ⟨rfl, by omega, σd, h4, rs5, rh5, (f2.trans f3).trans f5, z⟩
      · intro σd h4 σ5 H5 z f5 rs5 rh5
        exact kk.nx _ _ _ _ z (ft.trans f5) rs5 rh5
      · intro σd h4 σ5 H5 z f5 rs5 rh5
        exact ⟨rfl, by omega, σd, h4, rs5, rh5, (f2.trans f3).trans f5, z⟩
  · have e : i = xs.length := by omega
    subst e
    exact .inl ⟨wst (Nat.le_refl _), kk.nx _ _ _ _ (done _ _ p) (f1.trans f2) rs2 rh2⟩
theorem ss_asg {t : M.Tgt} (he : PE X e (lift X.F w)) (hg : PG X tg (gOf X.F t)) (hs : swapsWithSole [tg] e pos.line X.env = pure false) (hw : swappedStores [tg] e X.env = pure none) (h1 : (assignEach [tg] X.env).map (·.2) = [assign tg X.env]) :
    PS X (.Assign [tg] e pos) (liftS X.F fun R σ h => w σ h fun d h1 => match M.setT t d σ with | some σ' => R.nx σ' h1 | none => False) := by
  refine (ps_asg he hg hs hw h1).imp fun D σ H ⟨σa, h, R, rs, rh, q, k⟩ => ?_
  refine lift_go rs rh q fun d h1 v H1 q1 f1 r1 rh1 rs1 => ?_
  cases e1 : M.setT t d σa with
  | none => rw [e1] at q1; exact q1.elim
  | some σb =>
    rw [e1] at q1
    exact setT_ok e1 rs1 r1 fun σ' rs' => k.nx _ _ _ _ q1 f1 rs' rh1
theorem ss_six {o i : Expr} {wo wi : WE} {p' : Pos} (hu : X.A.units + 200 < cLine) (he : PE X e (lift X.F w)) (ho : PE X o (lift X.F wo)) (hi : PE X i (lift X.F wi))
    (ha : ∀ v, assign (.Subscript o i p') X.env v = (do
      let ov ← holding [v] (eval o X.env)
      let iv ← holding [v, ov] (eval i X.env)
      standAt p'
      holding [v, ov, iv] (setItem ov iv v)
      release [v, ov, iv] [])) (hs : swapsWithSole [.Subscript o i p'] e pos.line X.env = pure false) (hw : swappedStores [.Subscript o i p'] e X.env = pure none) (h1 : (assignEach [.Subscript o i p'] X.env).map (·.2) = [assign (.Subscript o i p') X.env]) :
    PS X (.Assign [.Subscript o i p'] e pos) (liftS X.F fun R σ h => w σ h fun v h1 => wo σ h1 fun x h2 => wi σ h2 fun y h3 => M.opSet x y v h3 fun h4 => R.nx σ h4) := by
  refine (ps_asg he (pg_sub ho hi (set_all (by omega)) ha) hs hw h1).imp fun D σ H ⟨σa, h, R, rs, rh, q, k⟩ => ?_
  refine lift_go rs rh q fun dv h1 v H1 q1 f1 r1 rh1 rs1 => lift_go rs1 rh1 q1 fun dx h2 x H2 q2 f2 r2 rh2 rs2 => lift_go rs2 rh2 q2 fun dy h3 y H3 q3 f3 r3 rh3 rs3 => ?_
  refine set_ok rh3 (r2.kp (f3.kp rh2)) r3 ((r1.kp (f2.kp rh1)).kp (f3.kp rh2)) q3 fun h4 H4 q4 f4 rh4 => ?_
  exact k.nx _ _ _ _ q4 (((f1.trans f2).trans f3).trans f4) (rs3.kp (f4.kp rh3)) rh4
def iop : M.Bop → Operator := bop
theorem op_iadd : OpR X (inplaceOp .Add) (fun x y H Q => (rI0 fun i j => .int (i + j)) x y H Q ∨ rAddS x y H Q) := iop_add.or iop_add_str
end
end Snd
end
section
/-! Sound6b: locked dicts and their walks; reversed; zip. -/
namespace Snd
open PySem L2 PySem.Spec PyProof.Rows
section
variable {X : L2.Cx} {K : Fr} {σ : L2.St} {σa : M.St} {H H1 : Hp} {h h1 : M.AH} {w wa wb wc : WE} {Qa : M.VQ} {a b c e : Expr} {pos : Pos} {tg : Expr}
theorem walks_rev {p : Addr} {xs : List SD} {vs : List V} (e0 : H1 p = some (.lst vs)) (r0 : Reps K H1 xs vs) : Walks K H1 (Itv K p vs.length) xs.reverse (fun h' => h' p = some (.lst xs)) := by
  intro i H h kp fz rh ok
  obtain ⟨ws, e, r⟩ := rh p _ ok
  have ln := r.length
  have ln0 := r0.length
  refine ⟨fun hi => ⟨by simp at hi; omega, ws, ws[vs.length - 1 - i]'(by simp at hi; omega), SqL.of e, by simp⟩, fun hi => by simp at hi; show vs.length ≤ i; omega, ?_⟩
  rintro x H' ⟨rfl, y⟩ d hd
  have hi : i < xs.length := by have := (List.getElem?_eq_some_iff.mp hd).1; simpa using this
  rw [List.getElem?_reverse hi] at hd
  obtain ⟨v, h1, h2⟩ := r.get hd
  have := y ws (SqL.of e)
  rw [show vs.length - 1 - i = xs.length - 1 - i by omega, h1] at this
  cases this
  exact ⟨h2, .refl, rh⟩
theorem walks_revT {p : Addr} {xs : List SD} {vs : List V} (t : H1 p = some (.tup vs) ∨ KTup K p vs) (r : Reps K H1 xs vs) : Walks K H1 (RT.ItvT K p vs.length) xs.reverse (fun _ => True) := by
  intro i H h kp fz rh ok
  have ln := r.length
  have hs : SqT K H p vs := (t.imp (kp.1 _ _) id).imp .inl id
  refine ⟨fun hi => ⟨by simp at hi; omega, vs, vs[vs.length - 1 - i]'(by simp at hi; omega), hs, by simp⟩, fun hi => by simp at hi; show vs.length ≤ i; omega, ?_⟩
  rintro x H' ⟨rfl, y⟩ d hd
  have hi : i < xs.length := by have := (List.getElem?_eq_some_iff.mp hd).1; simpa using this
  rw [List.getElem?_reverse hi] at hd
  obtain ⟨v, h1, h2⟩ := (r.kp kp).get hd
  have := y vs hs
  rw [show vs.length - 1 - i = xs.length - 1 - i by omega, h1] at this
  cases this
  exact ⟨h2, .refl, rh⟩
theorem zipL_get : ∀ (xs ys : List SD) (i : Nat) (d : SD), (M.zipL xs ys)[i]? = some d → ∃ x y, xs[i]? = some x ∧ ys[i]? = some y ∧ d = .tup [x, y]
  | [], _, i, d, e => by simp [M.zipL] at e
  | _ :: _, [], i, d, e => by simp [M.zipL] at e
  | x :: xs, y :: ys, 0, d, e => by simp [M.zipL] at e; exact ⟨x, y, rfl, rfl, e.symm⟩
  | x :: xs, y :: ys, i + 1, d, e => by
    obtain ⟨a, b, h1, h2, h3⟩ := zipL_get xs ys i d (by simpa [M.zipL] using e)
    exact ⟨a, b, by simpa using h1, by simpa using h2, h3⟩
theorem zipL_len : ∀ (xs ys : List SD), (M.zipL xs ys).length = min xs.length ys.length
  | [], _ => by simp [M.zipL]
  | _ :: _, [] => by simp [M.zipL]
  | x :: xs, y :: ys => by simp [M.zipL, zipL_len xs ys]
theorem walks_zipT {p q : Addr} {xs ys : List SD} {vs ws : List V} (t1 : H1 p = some (.tup vs) ∨ KTup K p vs) (t2 : H1 q = some (.tup ws) ∨ KTup K q ws) (r1 : Reps K H1 xs vs) (r2 : Reps K H1 ys ws) : Walks K H1 (RZ.ItzT K p q) (M.zipL xs ys) (fun _ => True) := by
  intro i H h kp fz rh ok
  have ln1 := r1.length
  have ln2 := r2.length
  have lz := zipL_len xs ys
  have hs1 : SqT K H p vs := (t1.imp (kp.1 _ _) id).imp .inl id
  have hs2 : SqT K H q ws := (t2.imp (kp.1 _ _) id).imp .inl id
  refine ⟨fun hi => ⟨vs, ws, vs[i]'(by omega), ws[i]'(by omega), hs1, hs2, by simp, by simp⟩, fun hi => ⟨vs, ws, hs1, hs2, by omega⟩, ?_⟩
  rintro x H' ⟨T, y, z, rfl, hn, rfl, hy, hz⟩ d hd
  obtain ⟨d1, d2, g1, g2, rfl⟩ := zipL_get xs ys i d hd
  obtain ⟨v1, g3, g4⟩ := (r1.kp kp).get g1
  obtain ⟨v2, g5, g6⟩ := (r2.kp kp).get g2
  have e1 := hy vs hs1
  have e2 := hz ws hs2
  rw [g3] at e1; cases e1
  rw [g5] at e2; cases e2
  exact ⟨⟨T, _, rfl, .inl upd_same, Reps.cons (g4.kp (kp_new hn)) (.one (g6.kp (kp_new hn)))⟩, frm_hid hn, rh_hid rh hn⟩
section
variable {p : Addr} {od : Obj} {kvs : List (SD × SD)} {ps : List (Key × V)}
theorem pr_get (pr : Paired (PR K H R0) kvs ps) {i : Nat} {x : SD × SD} (e : kvs[i]? = some x) : ∃ q, ps[i]? = some q ∧ R0 x.1 q.1 ∧ Rep K H x.2 q.2 := by
  obtain ⟨y, h1, h2⟩ := LiI.paired_get pr e
  exact ⟨y, h1, h2.1, h2.2⟩
theorem R0.rep {d : SD} {k : Key} (r : R0 d k) : Rep K H d (kV k) := by
  obtain ⟨e, s⟩ := r
  cases d <;> simp [keyV] at e
  · subst e; exact rfl
  · subst e; exact ⟨rfl, s _ rfl⟩
theorem walks_keys (e0 : H1 p = some (.frz od (.dK ps))) (pr : Paired (PR K H1 R0) kvs ps) : Walks K H1 (Itk p od ps) (kvs.map (·.1)) (fun _ => True) := by
  intro i H h kp fz rh ok
  have ln := Paired.length pr
  have e := fz _ _ _ e0
  refine ⟨fun hi => ⟨e, by simp at hi; omega⟩, fun hi => ⟨e, by simp at hi; omega⟩, ?_⟩
  rintro x H' ⟨rfl, k, v, h1, rfl⟩ d hd
  rw [List.getElem?_map] at hd
  cases hk : kvs[i]? with
  | none => rw [hk] at hd; cases hd
  | some kv =>
    rw [hk] at hd
    cases hd
    obtain ⟨q, g1, g2, g3⟩ := pr_get pr hk
    rw [g1] at h1; cases h1
    exact ⟨g2.rep, .refl, rh⟩
theorem walks_vals (e0 : H1 p = some (.frz od (.dK ps))) (pr : Paired (PR K H1 R0) kvs ps) : Walks K H1 (Itd p od ps) (kvs.map (·.2)) (fun _ => True) := by
  intro i H h kp fz rh ok
  have ln := Paired.length pr
  have e := fz _ _ _ e0
  refine ⟨fun hi => ⟨e, by simp at hi; omega⟩, fun hi => ⟨e, by simp at hi; omega⟩, ?_⟩
  rintro x H' ⟨rfl, k, h1⟩ d hd
  rw [List.getElem?_map] at hd
  cases hk : kvs[i]? with
  | none => rw [hk] at hd; cases hd
  | some kv =>
    rw [hk] at hd
    cases hd
    obtain ⟨q, g1, g2, g3⟩ := pr_get pr hk
    rw [g1] at h1; cases h1
    exact ⟨g3.kp kp, .refl, rh⟩
theorem walks_items (e0 : H1 p = some (.frz od (.dK ps))) (pr : Paired (PR K H1 R0) kvs ps) : Walks K H1 (Iti p od ps) (kvs.map fun kv => .tup [kv.1, kv.2]) (fun _ => True) := by
  intro i H h kp fz rh ok
  have ln := Paired.length pr
  have e := fz _ _ _ e0
  refine ⟨fun hi => ⟨e, by simp at hi; omega⟩, fun hi => ⟨e, by simp at hi; omega⟩, ?_⟩
  rintro x H' ⟨T, k, v, h1, rfl, hn, rfl⟩ d hd
  rw [List.getElem?_map] at hd
  cases hk : kvs[i]? with
  | none => rw [hk] at hd; cases hd
  | some kv =>
    rw [hk] at hd
    cases hd
    obtain ⟨q, g1, g2, g3⟩ := pr_get pr hk
    rw [g1] at h1; cases h1
    exact ⟨⟨T, _, rfl, .inl upd_same, Reps.cons g2.rep (.one ((g3.kp kp).kp (kp_new hn)))⟩, frm_hid hn, rh_hid rh hn⟩
end
theorem walk_dct_inv {k : M.Itk} {ds : List SD} {f : List (SD × SD) → List SD} {QW : List SD → (M.AH → Prop) → Prop} (hk : ∀ d, M.walk k [d] h QW = match d with | .ref p => (match h p with | some (.rdct _ kvs) => QW (f kvs) fun _ => True | _ => False) | _ => False) {d : SD} (q : M.walk k [d] h QW) :
    ∃ p kd kvs, d = .ref p ∧ h p = some (.rdct kd kvs) ∧ QW (f kvs) fun _ => True := by
  rw [hk] at q
  cases d with
  | ref p =>
    simp only at q
    cases e : h p with
    | none => rw [e] at q; exact q.elim
    | some o => rw [e] at q; cases o with
      | rdct kd kvs => exact ⟨p, kd, kvs, rfl, e, q⟩
      | _ => exact q.elim
  | _ => exact False.elim q
theorem rdct_any {p : Addr} {kd : Nat} {kvs : List (SD × SD)} (o : ObRep K H p (.rdct kd kvs)) : ∃ (od : Obj) (ps : List (Key × V)), H p = some (.frz od (.dK ps)) ∧ Paired (PR K H R0) kvs ps := by
  match kd, o with
  | 0, o => exact rdct0.mp o
theorem i_keys (ha : PE X a (lift X.F wa)) : PI X tg a (liftI X.F .keys fun σ h Q => wa σ h fun d h1 => Q [d] h1) := by
  refine PI.imp' (pi_keys ha) fun σ H R ⟨σa, h, Qd, rs, rh, q, k⟩ => ?_
  refine lift_go rs rh q fun d h1 v H1 q1 f1 r1 rh1 _ => ?_
  obtain ⟨QW, hw, kk⟩ := k _ _ q1
  obtain ⟨p, kd, kvs, rfl, e1, hw2⟩ := walk_dct_inv (k := .keys) (ds := []) (f := fun kvs => kvs.map (·.1)) (fun d => by cases d <;> rfl) hw
  cases (show v = _ from r1)
  obtain ⟨od, ps, e2, pr⟩ := rdct_any (rh1 p _ e1)
  exact ⟨p, od, rfl, .inl ⟨ps, e2, kk _ _ _ _ hw2 f1 rh1 (walks_keys e2 pr)⟩⟩
theorem i_vals {apos cpos : Pos} (hbase : attributeBase a "values" X.env (eval a X.env) = eval a X.env) (hline : (apos.endLine == cpos.line) = true) (ha : PE X a (lift X.F wa)) :
    PI X tg (.Call (.Attribute a "values" apos) [] [] cpos) (liftI X.F .values fun σ h Q => wa σ h fun d h1 => Q [d] h1) := by
  refine PI.imp' (pi_values ha hbase hline) fun σ H R ⟨σa, h, Qd, rs, rh, q, k⟩ => ?_
  refine lift_go rs rh q fun d h1 v H1 q1 f1 r1 rh1 _ => ?_
  obtain ⟨QW, hw, kk⟩ := k _ _ q1
  obtain ⟨p, kd, kvs, rfl, e1, hw2⟩ := walk_dct_inv (k := .values) (ds := []) (f := fun kvs => kvs.map (·.2)) (fun d => by cases d <;> rfl) hw
  cases (show v = _ from r1)
  obtain ⟨od, ps, e2, pr⟩ := rdct_any (rh1 p _ e1)
  exact ⟨p, od, ps, rfl, e2, kk _ _ _ _ hw2 f1 rh1 (walks_vals e2 pr)⟩
theorem i_items {apos cpos tpos : Pos} {elts : List Expr} {kn : Nat} (hbase : attributeBase a "items" X.env (eval a X.env) = eval a X.env) (hline : (apos.endLine == cpos.line) = true) (ha : PE X a (lift X.F wa)) :
    PI X (.Tuple elts kn tpos) (.Call (.Attribute a "items" apos) [] [] cpos) (liftI X.F .items fun σ h Q => wa σ h fun d h1 => Q [d] h1) := by
  refine PI.imp' (pi_items ha hbase hline) fun σ H R ⟨σa, h, Qd, rs, rh, q, k⟩ => ?_
  refine lift_go rs rh q fun d h1 v H1 q1 f1 r1 rh1 _ => ?_
  obtain ⟨QW, hw, kk⟩ := k _ _ q1
  obtain ⟨p, kd, kvs, rfl, e1, hw2⟩ := walk_dct_inv (k := .items) (ds := []) (f := fun kvs => kvs.map fun kv => .tup [kv.1, kv.2]) (fun d => by cases d <;> rfl) hw
  cases (show v = _ from r1)
  obtain ⟨od, ps, e2, pr⟩ := rdct_any (rh1 p _ e1)
  exact ⟨p, od, ps, rfl, e2, kk _ _ _ _ hw2 f1 rh1 (walks_items e2 pr)⟩
theorem i_rev {p : Pos} (hg : Gl X "reversed") (hm : X.mg "reversed" = none) (hs : starEach [a] X.env = (false, eval a X.env) :: starEach [] X.env) (ha : PE X a (lift X.F wa)) :
    PI X tg (.Call (.Name "reversed" p) [a] [] pos) (liftI X.F .rev fun σ h Q => wa σ h fun d h1 => Q [d] h1) := by
  refine PI.imp' (RT.pi_revA hg hm ha hs) fun σ H R ⟨σa, h, Qd, rs, rh, q, k⟩ => ?_
  refine lift_go rs rh q fun d h1 v H1 q1 f1 r1 rh1 _ => ?_
  obtain ⟨QW, hw, kk⟩ := k _ _ q1
  cases d with
  | tup xs =>
    obtain ⟨ad, vs, ev, t, rr⟩ := r1
    exact ⟨ad, vs, ev, .inr ⟨t.imp .inl id, kk _ _ _ _ hw f1 rh1 (walks_revT t rr)⟩⟩
  | ref p =>
    simp only [M.walk] at hw
    cases e1 : h1 p with
    | none => rw [e1] at hw; exact hw.elim
    | some o => rw [e1] at hw; cases o with
      | lst xs =>
        obtain ⟨vs, e2, rr⟩ := rh1 p _ e1
        exact ⟨p, vs, r1, .inl ⟨SqL.of e2, kk _ _ _ _ hw f1 rh1 (walks_rev e2 rr)⟩⟩
      | _ => exact hw.elim
  | _ => exact hw.elim
theorem walks_rngR (n : Int) : Walks K H1 (Itc (0 + (((n - 0).toNat : Nat) : Int) - 1) (-1) (n - 0).toNat) (M.rangeL 0 n).reverse (fun _ => True) := by
  intro i H h kp fz rh _
  have ln : (M.rangeL 0 n).reverse.length = (n - 0).toNat := by simp [M.rangeL]
  refine ⟨fun q => by show i < (n - 0).toNat; omega, fun q => by show (n - 0).toNat ≤ i; omega, ?_⟩
  rintro x H' ⟨rfl, rfl⟩ d hd
  have hi : i < (n - 0).toNat := by rw [← ln]; exact (List.getElem?_eq_some_iff.mp hd).1
  have lr : (M.rangeL 0 n).length = (n - 0).toNat := by simp [M.rangeL]
  rw [List.getElem?_reverse (by omega), lr] at hd
  simp only [M.rangeL, List.getElem?_map] at hd
  rw [List.getElem?_range (by omega)] at hd
  simp only [Option.map_some, Option.some.injEq] at hd
  subst hd
  have : (0 : Int) + (((n - 0).toNat : Nat) : Int) - 1 + ((i : Nat) : Int) * (-1) = 0 + (((n - 0).toNat - 1 - i : Nat) : Int) := by omega
  rw [this]
  exact ⟨rfl, .refl, rh⟩
theorem walk_rrng_inv {ds : List SD} {QW : List SD → (M.AH → Prop) → Prop} (q : M.walk .rrng ds h QW) : ∃ n, ds = [.int n] ∧ -(2 ^ 62) ≤ n ∧ n < 2 ^ 62 ∧ QW (M.rangeL 0 n).reverse fun _ => True := by
  match ds with
  | [] => exact False.elim q
  | [d] => cases d with
    | int n => exact ⟨n, rfl, q⟩
    | _ => exact False.elim q
  | d :: e :: r => cases d <;> exact False.elim q
theorem i_rrng {p p2 pos2 : Pos} (hg : Gl X "reversed") (hm : X.mg "reversed" = none) (hg2 : Gl X "range") (hm2 : X.mg "range" = none) (hs : starEach [a] X.env = (false, eval a X.env) :: starEach [] X.env) (ha : PE X a (lift X.F wa)) :
    PI X tg (.Call (.Name "reversed" p) [.Call (.Name "range" p2) [a] [] pos2] [] pos) (liftI X.F .rrng fun σ h Q => wa σ h fun d h1 => Q [d] h1) := by
  refine PI.imp' (pi_revR hg hm (prg_1 hg2 hm2 ha hs)) fun σ H R ⟨σa, h, Qd, rs, rh, q, k⟩ => ?_
  refine lift_go rs rh q fun d h1 v H1 q1 f1 r1 rh1 _ => ?_
  obtain ⟨QW, hw, kk⟩ := k _ _ q1
  obtain ⟨n, e, h1, h2, hw2⟩ := walk_rrng_inv hw
  cases e
  cases (show v = _ from r1)
  exact ⟨n, rfl, by omega, by omega, h1, h2, kk _ _ _ _ hw2 f1 rh1 (walks_rngR n)⟩
theorem walks_zipL {p q : Addr} {xs ys : List SD} : Walks K H1 (Itz K p q) (M.zipL xs ys) (fun h' => h' p = some (.lst xs) ∧ h' q = some (.lst ys)) := by
  intro i H h kp fz rh ⟨ok1, ok2⟩
  obtain ⟨vs, e1, r1⟩ := rh p _ ok1
  obtain ⟨ws, e2, r2⟩ := rh q _ ok2
  have ln1 := r1.length
  have ln2 := r2.length
  have lz := zipL_len xs ys
  have hs1 : SqL K H p vs := SqL.of e1
  have hs2 : SqL K H q ws := SqL.of e2
  refine ⟨fun hi => ⟨vs, ws, vs[i]'(by omega), ws[i]'(by omega), hs1, hs2, by simp, by simp⟩, fun hi => ⟨vs, ws, hs1, hs2, by omega⟩, ?_⟩
  rintro x H' ⟨T, y, z, rfl, hn, rfl, hy, hz⟩ d hd
  obtain ⟨d1, d2, g1, g2, rfl⟩ := zipL_get xs ys i d hd
  obtain ⟨v1, g3, g4⟩ := r1.get g1
  obtain ⟨v2, g5, g6⟩ := r2.get g2
  have f1 := hy vs hs1
  have f2 := hz ws hs2
  rw [g3] at f1; cases f1
  rw [g5] at f2; cases f2
  refine ⟨⟨T, _, rfl, .inl upd_same, Reps.cons (g4.kp (kp_new hn)) (.one (g6.kp (kp_new hn)))⟩, frm_hid hn, rh_hid rh hn⟩
theorem walk_zip_inv {ds : List SD} {QW : List SD → (M.AH → Prop) → Prop} (q : M.walk .zip ds h QW) : (∃ xs ys, ds = [.tup xs, .tup ys] ∧ QW (M.zipL xs ys) fun _ => True) ∨ ∃ p r xs ys, ds = [.ref p, .ref r] ∧ h p = some (.lst xs) ∧ h r = some (.lst ys) ∧ QW (M.zipL xs ys) fun h' => h' p = some (.lst xs) ∧ h' r = some (.lst ys) := by
  match ds with
  | [] => exact False.elim q
  | [d] => cases d <;> exact False.elim q
  | [d, e] =>
    cases d with
    | tup xs => cases e with
      | tup ys => exact .inl ⟨xs, ys, rfl, q⟩
      | _ => exact False.elim q
    | ref p => cases e with
      | ref r =>
        simp only [M.walk] at q
        split at q
        · rename_i xs ys e1 e2
          exact .inr ⟨p, r, xs, ys, rfl, e1, e2, q⟩
        · exact q.elim
      | _ => exact False.elim q
    | _ => exact False.elim q
  | d :: e :: f :: r => cases d <;> first | exact False.elim q | (cases e <;> exact False.elim q)
theorem i_zip {p tpos : Pos} {elts : List Expr} {kn : Nat} {wr : WA} (hg : Gl X "zip") (hm : X.mg "zip" = none) (ha : PA X [a, b] (liftA X.F wr)) (hs : starEach [a, b] X.env = (false, eval a X.env) :: starEach [b] X.env) (hpl : (backTo pos (starEach [b] X.env)).any (·.1) = false) :
    PI X (.Tuple elts kn tpos) (.Call (.Name "zip" p) [a, b] [] pos) (liftI X.F .zip wr) := by
  refine PI.imp' (RZ.pi_zipA hg hm ha hs hpl) fun σ H R ⟨σa, h, Qd, rs, rh, q, k⟩ => ?_
  refine ⟨σa, h, _, rs, rh, q, fun ds h1 vs H1 q1 f1 r1 rh1 => ?_⟩
  obtain ⟨QW, hw, kk⟩ := k _ _ q1
  rcases walk_zip_inv hw with ⟨xs, ys, rfl, hw2⟩ | ⟨p1, p2, xs, ys, rfl, g1, g2, hw2⟩
  case inr =>
    obtain ⟨v, w, rfl, rv, rw'⟩ := reps2 r1
    cases (show v = _ from rv)
    cases (show w = _ from rw')
    obtain ⟨vs, e1, _⟩ := rh1 p1 _ g1
    obtain ⟨ws, e2, _⟩ := rh1 p2 _ g2
    exact ⟨p1, p2, vs, ws, rfl, .inl ⟨SqL.of e1, SqL.of e2, kk _ _ _ _ hw2 f1 rh1 walks_zipL⟩⟩
  obtain ⟨v, w, rfl, ⟨a1, us, rfl, t1, s1⟩, ⟨a2, ws, rfl, t2, s2⟩⟩ := reps2 r1
  exact ⟨a1, a2, us, ws, rfl, .inr ⟨t1.imp .inl id, t2.imp .inl id, kk _ _ _ _ hw2 f1 rh1 (walks_zipT t1 t2 s1 s2)⟩⟩

/-! ### a dict locked for a while -/
theorem lockAt_inv {i : Nat} {f : Nat → Nat → List (SD × SD) → Prop} (q : M.lockAt σa i h f) : ∃ p kd kvs, σa[i]? = some (some (.ref p)) ∧ h p = some (.dct kd kvs) ∧ f p kd kvs := by
  unfold M.lockAt at q
  cases e : σa[i]? with
  | none => rw [e] at q; exact q.elim
  | some o => rw [e] at q; cases o with
    | none => exact q.elim
    | some d => cases d with
      | ref p =>
        simp only at q
        cases e1 : h p with
        | none => rw [e1] at q; exact q.elim
        | some o => rw [e1] at q; cases o with
          | dct kd kvs => exact ⟨p, kd, kvs, rfl, e1, q⟩
          | _ => exact q.elim
      | _ => exact q.elim
structure Lck (K : Fr) (H : Hp) (h : M.AH) (p : Addr) (kd : Nat) (kvs : List (SD × SD)) (ps : List (Key × V)) : Prop where
  e : H p = some (.dK ps)
  kp : ∀ od, Kp H (upd H p (.frz od (.dK ps)))
  rh : ∀ od, RH K (upd H p (.frz od (.dK ps))) (M.up h p (.rdct kd kvs))
  back : ∀ od H' h', Frm (upd H p (.frz od (.dK ps))) (M.up h p (.rdct kd kvs)) H' h' → RH K H' h' → H' p = some (.frz od (.dK ps)) ∧ Frm H h (upd H' p (.dK ps)) (M.up h' p (.dct kd kvs)) ∧ RH K (upd H' p (.dK ps)) (M.up h' p (.dct kd kvs)) ∧ Kp H' (upd H' p (.dK ps))
theorem lck {p : Addr} {kd : Nat} {kvs : List (SD × SD)} (rh : RH K H h) (e : h p = some (.dct kd kvs)) : ∃ ps, Lck K H h p kd kvs ps := by
  have z : kd = 0 := by
    have o := rh p _ e
    match kd, o with
    | 0, _ => rfl
  subst z
  · obtain ⟨ps, e1, pr⟩ := dct0.mp (rh p _ e)
    have kp : ∀ od, Kp H (upd H p (.frz od (.dK ps))) := fun od => kp_put rh e
    have rhl : ∀ od, RH K (upd H p (.frz od (.dK ps))) (M.up h p (.rdct 0 kvs)) := fun od => rh_put rh e (rdct0.mpr ⟨od, ps, upd_same, Paired.mapP pr fun _ _ z => ⟨z.1, z.2.kp (kp od)⟩⟩)
    refine ⟨ps, e1, kp, rhl, fun od H' h' f rh' => ?_⟩
    obtain ⟨f1, f2⟩ := f p _ upd_same (fun o z => by rw [up_same] at z; cases z; rfl)
    rw [up_same] at f2
    have kb : Kp H' (upd H' p (.dK ps)) := kp_put rh' f2
    obtain ⟨od2, ps2, e3, pr2⟩ := rdct0.mp (rh' p _ f2)
    rw [f1] at e3
    cases e3
    exact ⟨f1, frm_lock e rfl f, rh_put rh' f2 (dct0.mpr ⟨ps, upd_same, Paired.mapP pr2 fun _ _ z => ⟨z.1, z.2.kp kb⟩⟩), kb⟩
theorem s_lock {i : Nat} (he : PE X e (lift X.F w)) : PE X e (lift X.F fun σ h Q => M.lockAt σ i h fun p kd kvs => w σ (M.up h p (.rdct kd kvs)) fun d h' => Q d (M.up h' p (.dct kd kvs))) := by
  refine (pe_lock he).imp fun σ H Q ⟨σa, h, Qa, rs, rh, q, k⟩ => ?_
  obtain ⟨p, kd, kvs, e0, e1, q⟩ := lockAt_inv q
  obtain ⟨ps, L⟩ := lck rh e1
  refine ⟨p, _, L.e, trivial, fun od => ?_⟩
  refine ⟨σa, _, _, rs.kp (L.kp od), L.rh od, q, fun d h' v H' q' f r rh' => ?_⟩
  obtain ⟨b1, b2, b3, b4⟩ := L.back od H' h' f rh'
  exact ⟨b1, k _ _ _ _ q' b2 (r.kp b4) b3⟩
theorem ss_lock {i : Nat} {st : Stmt} {ws : WS} (hs : PS X st (liftS X.F ws)) : PS X st (liftS X.F fun R σ h => M.lockAt σ i h fun p kd kvs => ws { nx := fun σ' h' => R.nx σ' (M.up h' p (.dct kd kvs)), rt := fun d h' => R.rt d (M.up h' p (.dct kd kvs)), bk := fun σ' h' => R.bk σ' (M.up h' p (.dct kd kvs)), ct := fun σ' h' => R.ct σ' (M.up h' p (.dct kd kvs)) } σ (M.up h p (.rdct kd kvs))) := by
  refine (ps_lock hs).imp fun D σ H ⟨σa, h, R, rs, rh, q, k⟩ => ?_
  obtain ⟨p, kd, kvs, e0, e1, q⟩ := lockAt_inv q
  obtain ⟨ps, L⟩ := lck rh e1
  refine ⟨p, _, L.e, trivial, fun od => ?_⟩
  refine liftS_go (rs.kp (L.kp od)) (L.rh od) q ⟨?_, ?_, ?_, ?_⟩
  · intro σb h' σ' H' z f rs' rh'
    obtain ⟨b1, b2, b3, b4⟩ := L.back od H' h' f rh'
    exact ⟨b1, k.nx _ _ _ _ z b2 (rs'.kp b4) b3⟩
  · intro d h' v H' z f r rh'
    obtain ⟨b1, b2, b3, b4⟩ := L.back od H' h' f rh'
    exact ⟨b1, k.rt _ _ _ _ z b2 (r.kp b4) b3⟩
  · intro σb h' σ' H' z f rs' rh'
    obtain ⟨b1, b2, b3, b4⟩ := L.back od H' h' f rh'
    exact ⟨b1, k.bk _ _ _ _ z b2 (rs'.kp b4) b3⟩
  · intro σb h' σ' H' z f rs' rh'
    obtain ⟨b1, b2, b3, b4⟩ := L.back od H' h' f rh'
    exact ⟨b1, k.ct _ _ _ _ z b2 (rs'.kp b4) b3⟩
end
end Snd
end
section
/-! Sound6c: min with default, or of a value, the tables of the module. -/
namespace Snd
open PySem L2 PySem.Spec PyProof.Rows
section
variable {X : L2.Cx} {K : Fr} {σ : L2.St} {σa : M.St} {H H1 : Hp} {h h1 : M.AH} {w wa wb wc : WE} {Qa : M.VQ} {a b c e : Expr} {pos : Pos}
/-! ### min(xs, default=None) of numbers -/
def rMinN (K : Fr) : List V → List V → Hp → VK → Prop := fun vs zs H Q => ∃ (a : Addr) (ns : List Int), vs = [V.ref a] ∧ zs = [.non] ∧ SqL K H a (ns.map V.int) ∧ (ns = [] → Q .non H) ∧ ∀ m, m ∈ ns → (∀ y, y ∈ ns → m ≤ y) → Q (.int m) H
theorem ints_all {hp : Heap} : ∀ {us : List Value} {ns : List Int}, IntsAre us ns → ReadsAll hp us (ns.map PyData.int) []
  | _, _, .nil => .nil
  | _, _, .cons n t r => .cons (as := []) (.int n t) (ints_all r)
theorem fold_min : ∀ (ns : List Int) (n : Int), (ns.foldl min n ∈ n :: ns) ∧ ∀ y ∈ n :: ns, ns.foldl min n ≤ y
  | [], n => by simp
  | k :: r, n => by
    rw [List.foldl_cons]
    obtain ⟨h1, h2⟩ := fold_min r (min n k)
    refine ⟨?_, fun y hy => ?_⟩
    · rcases List.mem_cons.mp h1 with e | e
      · rw [e]
        rcases Int.le_total n k with l | l
        · rw [Int.min_eq_left l]; exact List.mem_cons_self
        · rw [Int.min_eq_right l]; exact List.mem_cons_of_mem _ List.mem_cons_self
      · exact List.mem_cons_of_mem _ (List.mem_cons_of_mem _ e)
    · have h3 := h2 _ List.mem_cons_self
      rcases List.mem_cons.mp hy with e | hy
      · subst e; exact Int.le_trans h3 (Int.min_le_left _ _)
      · rcases List.mem_cons.mp hy with e | hy
        · subst e; exact Int.le_trans h3 (Int.min_le_right _ _)
        · exact h2 y (List.mem_cons_of_mem _ hy)
theorem alike_ints (ns : List Int) : PySem.W.AlikeAll (ns.map PyData.int) := by
  refine ⟨fun x hx y hy => ?_, fun x hx => ?_⟩
  · obtain ⟨i, _, rfl⟩ := List.mem_map.mp hx
    obtain ⟨j, _, rfl⟩ := List.mem_map.mp hy
    rfl
  · obtain ⟨i, _, rfl⟩ := List.mem_map.mp hx
    exact fun z => nomatch z
theorem depth_ints : ∀ ns : List Int, PyData.depthAll (ns.map PyData.int) = 0
  | [] => rfl
  | n :: ns => by
    have := depth_ints ns
    rw [List.map_cons]
    simp only [PyData.depthAll, PyData.depth, this]
    rfl
theorem cr_minN (hc : X.calm = true) (hu : X.A.units + 200 < cLine) : CallRK X (.builtin "min") [Str.ofString "default"] (rMinN X.F) := by
  intro pins s σ H vs zs us ws Q I r rz h
  obtain ⟨a, ns, rfl, rfl, hs, q0, q⟩ := h
  obtain rfl := Vals.ref1 r
  obtain ⟨its, rv, hl, _⟩ := I.list hs
  have ez : ws = [Value.none] := by
    cases rz with
    | cons r t => cases t; cases (show _ = Value.none from r); rfl
  subst ez
  have hi := rv.ints
  refine PySem.W.min_list_default (xs := ns.map PyData.int) (as := []) (d := Value.none) (I.ok.hd hc) hl.isList (ints_all hi) (alike_ints ns) (by rw [depth_ints]; omega) (fun e0 h' tk hk => ?_) (fun y ys i v h' tk bs e1 _ rd hk => ?_)
  · exact ⟨.non, H, I.kept hk, rfl, q0 (by simpa using e0)⟩
  · cases ns with
    | nil => cases e1
    | cons n r =>
      rw [List.map_cons, List.cons.injEq] at e1
      obtain ⟨rfl, rfl⟩ := e1
      rw [PySem.W.minD_ints] at rd
      obtain ⟨h1, h2⟩ := fold_min r n
      cases rd
      exact ⟨.int _, H, I.kept hk, ⟨_, rfl⟩, q _ h1 h2⟩
theorem minD_inv {ds : List SD} (q : M.minD ds h Qa) : ∃ p xs ns, ds = [.ref p] ∧ h p = some (.lst xs) ∧ M.intsOf xs = some ns ∧ (ns = [] → Qa .non h) ∧ ∀ m, m ∈ ns → (∀ y, y ∈ ns → m ≤ y) → Qa (.int m) h := by
  obtain ⟨d, rfl, q⟩ := arg1_inv q
  obtain ⟨p, xs, rfl, e, q⟩ := aLst_inv q
  obtain ⟨ns, e2, q⟩ := aSome_inv q
  exact ⟨p, xs, ns, rfl, e, e2, q⟩
theorem s_mnd {p kp np : Pos} {j : Nat} {es : List Expr} {wr : WA} (hcalm : X.calm = true) (hu : X.A.units + 200 < cLine) (hg : Gl X "min") (hm : X.mg "min" = none)
    (he : starEach (e :: es) X.env = (false, eval e X.env) :: starEach es X.env) (hpl : (backTo pos (starEach (e :: es) X.env)).any (·.1) = false) (hr : PA X (e :: es) (liftA X.F wr)) :
    PE X (.Call (.Name "min" p) (e :: es) [⟨some "default", .Constant .none j np, kp⟩] pos) (lift X.F fun σ h Q => wr σ h fun ds h1 => M.minD ds h1 Q) := by
  refine (pe_callBK (ks := [Str.ofString "default"]) (cr_minN hcalm hu) hg hm (by decide +kernel) hr (pk_cons pe_non pk_nil) (by decide +kernel) (by decide +kernel) (by rw [he]; rfl) hpl (by rfl) (by rfl) (by rfl)).imp fun σ H Q ⟨σa, h, Qa, rs, rh, q, k⟩ => ?_
  refine liftA_go rs rh q fun ds h1 vs H1 q1 f1 r1 rh1 _ => ?_
  obtain ⟨pp, xs, ns, rfl, e1, e2, q0, q2⟩ := minD_inv q1
  obtain ⟨v, rfl, rv⟩ := reps1 r1
  cases (show v = _ from rv)
  obtain ⟨us, a1, r2⟩ := rh1 pp _ e1
  have := ints_rep e2 r2
  subst this
  exact ⟨pp, ns, rfl, rfl, SqL.of a1, fun z => (k.go f1).now rh1 (q0 z) rfl, fun m m1 m2 => (k.go f1).now rh1 (q2 m m1 m2) rfl⟩
/-! ### a or b, of None and numbers -/
theorem s_orv (ha : PE X a (lift X.F wa)) (hb : PE X b (lift X.F wb)) : PE X (.BoolOp .Or [a, b] pos) (lift X.F fun σ h Q => wa σ h fun x h1 => match x with
    | .non => wb σ h1 Q
    | .int i => (i ≠ 0 → Q (.int i) h1) ∧ (i = 0 → wb σ h1 Q)
    | _ => False) := by
  have one : PE X (.BoolOp .Or [b] pos) (lift X.F wb) := pe_one hb
  refine (pe_orT ha one).imp fun σ H Q ⟨σa, h, Qa, rs, rh, q, k⟩ => ?_
  refine lift_go rs rh q fun dx h1 x H1 q1 f1 r1 rh1 rs1 => ?_
  cases dx with
  | non =>
    cases (show x = _ from r1)
    exact ⟨false, rfl, ⟨σa, h1, Qa, rs1, rh1, q1, k.go f1⟩⟩
  | int i =>
    cases (show x = _ from r1)
    refine ⟨i != 0, rfl, ?_⟩
    by_cases e : i = 0
    · subst e
      exact ⟨σa, h1, Qa, rs1, rh1, q1.2 rfl, k.go f1⟩
    · rw [if_pos (by simpa using e)]
      exact (k.go f1).now rh1 (q1.1 e) rfl
  | _ => exact q1.elim
/-! ### slices of tuples, whole ones too -/
theorem slw_ok {dx : SD} {x : V} {lo hi : Option Int} {Q : VK} (rh : RH K H h) (rx : Rep K H dx x) (q : M.opSlW dx lo hi h Qa) (k : Kont K H h Qa Q) : rSlA K x lo hi H Q := by
  cases dx with
  | tup ds =>
    obtain ⟨a, vs, e, t, rs⟩ := rx
    subst e
    have ln := rs.length
    have q : Qa (.tup (M.cut ds lo hi)) h := q
    refine ⟨a, vs, rfl, t.imp .inl id, fun hw => ?_, fun _ p hn => k _ _ _ _ q (frm_hid hn) ⟨p, _, rfl, .inl upd_same, (cut_rep rs).kp (kp_new hn)⟩ (rh_hid rh hn)⟩
    have e : M.cut ds lo hi = ds := by
      rw [ln] at hw
      rw [cut_eq, hw.1, hw.2]
      simp
    rw [e] at q
    exact k.now rh q ⟨a, vs, rfl, t, rs⟩
  | _ => exact False.elim q
theorem s_slw {lo hi : Option Expr} {wl wh : WO} {p2 : Pos} (ha : PE X a (lift X.F wa)) (hl : PO X lo (liftO X.F wl)) (hh : PO X hi (liftO X.F wh)) :
    PE X (.Subscript a (.Slice lo hi none p2) pos) (lift X.F fun σ h Q => wa σ h fun x h1 => wl σ h1 fun l h2 => wh σ h2 fun u h3 => M.opSlW x l u h3 Q) := by
  refine (pe_slice sl_tupA ha hl hh).imp fun σ H Q ⟨σa, h, Qa, rs, rh, q, k⟩ => ?_
  refine lift_go rs rh q fun dx h1 x H1 q1 f1 r1 rh1 rs1 => ⟨σa, h1, _, rs1, rh1, q1, fun l h2 H2 q2 f2 rh2 => ⟨σa, h2, _, rs1.kp (f2.kp rh1), rh2, q2, fun u h3 H3 q3 f3 rh3 => ?_⟩⟩
  exact slw_ok rh3 ((r1.kp (f2.kp rh1)).kp (f3.kp rh2)) q3 (k.go ((f1.trans f2).trans f3))
/-! ### t[:0:-1] of tuples: the tail turned about -/
section
open PySem.Calls
variable {prog : Program} {w : World} {A : Around} {E : Value → Shared → Prop} {s : Shared}
theorem places_tl (n : Nat) : Builtin.Slice.slicePlaces ((n : Int) - 1) (min 0 ((n : Int) - 1)) (-1) = n - 1 := by
  unfold Builtin.Slice.slicePlaces
  have h1 : ¬ ((-1 : Int) > 0) := by omega
  simp only [h1, if_false]
  have e : (- -1 : Int) = 1 := by decide
  rw [e, Int.ediv_one]
  split <;> omega
theorem pick_all (ys : List Value) : (List.range ys.length).filterMap (fun m => ys[m]?) = ys := by
  have := PySem.W.krv_all ys.toArray
  simpa using this
theorem filt_congr {α β : Type} {f g : α → Option β} : ∀ {l : List α}, (∀ x ∈ l, f x = g x) → l.filterMap f = l.filterMap g
  | [], _ => rfl
  | x :: r, h => by
    rw [List.filterMap_cons, List.filterMap_cons, h x List.mem_cons_self, filt_congr fun y hy => h y (List.mem_cons_of_mem _ hy)]
theorem pick_tl (xs : Array Value) : ((List.range (xs.size - 1)).filterMap fun (m : Nat) => xs[(((xs.size : Int) - 1) + (m : Int) * -1).toNat]?).toArray = xs.toList.tail.reverse.toArray := by
  congr 1
  have l2 : xs.toList.tail.reverse.length = xs.size - 1 := by simp
  conv => rhs; rw [← pick_all xs.toList.tail.reverse, l2]
  refine filt_congr fun m hm => ?_
  have hm := List.mem_range.mp hm
  have l1 : xs.toList.tail.length = xs.size - 1 := by simp
  rw [List.getElem?_reverse (by omega), l1]
  have : (((xs.size : Int) - 1) + (m : Int) * -1).toNat = xs.size - 1 - m := by omega
  rw [this, List.getElem?_tail, ← Array.getElem?_toList]
  congr 1
  omega
theorem getItem_tuple_tl {t sl : Addr} {items : Array Value} {vl vu vs : Value} {Q : Value → Shared → Prop} (ht : IsTup s.heap t items) (hs : s.heap.IsSliceOf sl vl vu vs) (pl : IsPart vl none) (pu : IsPart vu (some 0)) (ps : IsPart vs (some (-1)))
    (h : Q (.ref s.heap.objs.size) { s with heap := s.heap.push { cls := .type "tuple", data := .seq items.toList.tail.reverse.toArray } })
    (hsz : items.size ≤ sizeLine) : wpAny (model prog w) A (getItem (.ref t) (.ref sl)) Q E s := by
  have htake : sizeOk (.seq items.toList.tail.reverse.toArray) := by
    show items.toList.tail.reverse.toArray.size ≤ sizeLine
    simp
    omega
  obtain ⟨os, hos, hcs, hds⟩ := id hs
  have hTs : s.TypeIs (.ref sl) "slice" := ⟨os, hos, hcs⟩
  unfold getItem
  try with_reducible refine wpAny_holding ?_
  first | refine wpAny_bind (wpAny_pure ?_) | skip
  refine wpAny_bind (wpAny_sequenceKey ht.typeIs (by decide) ?_)
  refine wpAny_bind (wpAny_callSpecial?_slot (name := Str.ofString "__getitem__") ht.typeIs PyProof.Rows.slot_tuple_getitem
    (wpAny_call_entry PyProof.Rows.slot_tuple_getitem ht.typeIs entry_tuple_getitem ?_ (args_tuple_getitem _ _)))
  show wpAny _ _ (Builtin.Tuple.tupleItemsOf (.ref t) >>= _) _ _ s
  refine wpAny_bind (tupleItemsOf_ ht ?_)
  refine wpAny_bind (wpAny_typeOf hTs ?_)
  rw [if_pos (by decide)]
  refine wpAny_bind ?_
  unfold Builtin.Slice.sliceApplied Builtin.Slice.sliceFields
  refine wpAny_bind (wpAny_bind (wpAny_field hos hds (x := vl) rfl (wpAny_bind (wpAny_field hos hds (x := vu) rfl (wpAny_bind (wpAny_field hos hds (x := vs) rfl (wpAny_pure ?_)))))))
  refine wpAny_bind (HT.slicePart_ ps ?_)
  show wpAny _ _ (if ((-1 : Int) == 0) = true then _ else _) _ _ s
  rw [if_neg (by decide)]
  refine wpAny_bind (HT.slicePart_ pl (wpAny_bind (HT.slicePart_ pu (wpAny_bind (wpAny_pure ?_)))))
  show wpAny _ _ (pure (((items.size : Int) - 1), (-1 : Int), Builtin.Slice.slicePlaces ((items.size : Int) - 1) (min 0 ((items.size : Int) - 1)) (-1))) _ _ s
  rw [places_tl]
  refine wpAny_pure ?_
  have hno : ¬ (((((items.size : Int) - 1)) == 0 && (-1 : Int) == 1 && (items.size - 1) == items.size) = true) := by
    simp
  show wpAny _ _ (if ((((items.size : Int) - 1)) == 0 && (-1 : Int) == 1 && (items.size - 1) == items.size) = true then _ else _) _ _ s
  rw [if_neg hno, pick_tl]
  first
    | exact wpAny_bind (m := Builtin.Tuple.tupleExact _) (wpAny_newObj_type (wpAny_pure ⟨_, rfl, wpAny_pure h⟩) htake)
    | exact wpAny_bind (m := Builtin.Tuple.tupleExact _) (wpAny_newObj_type (wpAny_bind (wpAny_pure (wpAny_pure ⟨_, rfl, wpAny_pure h⟩))) htake)
    | exact wpAny_bind (wpAny_bind (m := Builtin.Tuple.tupleExact _) (wpAny_newObj_type (wpAny_pure (wpAny_pure ⟨_, rfl, wpAny_pure h⟩)) htake))
    | exact wpAny_bind (wpAny_bind (m := Builtin.Tuple.tupleExact _) (wpAny_newObj_type (wpAny_pure ⟨_, rfl, wpAny_pure h⟩) htake))
end
theorem pe_tlr {k0 k1 : Nat} {te : TE} {p0 p1 p2 p3 pos : Pos} (he : PE X a te) : PE X (.Subscript a (.Slice none (some (.Constant (.int 0) k0 p0)) (some (.UnaryOp .USub (.Constant (.int 1) k1 p1) p2)) p3) pos) (fun σ H Q => te σ H fun x H1 => ∃ a xs, x = .ref a ∧ SqT X.F H1 a xs ∧ ∀ p, H1 p = none → Q (.ref p) (upd H1 p (.tup xs.tail.reverse))) := by
  refine ⟨fun pins s σ H Q I h => ?_⟩
  refine Subscript_ (thn (he.run pins s σ H _ I h) fun v s1 ⟨x, H1, I1, r1, q1⟩ => ?_)
  obtain ⟨a, xs, ex, hx, q⟩ := q1
  subst ex
  cases r1
  have hst : PO X (some (.UnaryOp .USub (.Constant (.int 1) k1 p1) p2)) (tPart (tUn (rU fun i => .int (-i)) (tC (.int 1)))) := po_some (pe_un un_neg pe_int)
  have hup : PO X (some (.Constant (.int 0) k0 p0)) (tPart (tC (.int 0))) := po_some pe_int
  refine wpAny_Slice (thn (po_none.run pins s1 σ H1 (fun o H2 => o = none ∧ H2 = H1) I1 ⟨rfl, rfl⟩) fun vl s2 ⟨l, H2, I2, pl, el, e2⟩ => ?_)
  subst el e2
  refine thn (hup.run pins s2 σ H2 (fun o H3 => o = some 0 ∧ H3 = H2) I2 ⟨0, rfl, rfl, rfl⟩) fun vu s3 ⟨u, H3, I3, pu, eu, e3⟩ => ?_
  subst eu e3
  refine thn (hst.run pins s3 σ H3 (fun o H4 => o = some (-1) ∧ H4 = H3) I3 ⟨1, rfl, -1, rfl, rfl, rfl⟩) fun vs s4 ⟨o, H4, I4, ps, eo, e4⟩ => ?_
  subst eo e4
  have I5 : Inv X pins σ H4 { s4 with heap := s4.heap.push { cls := .type "slice", data := .fields #[vl, vu, vs] } } := I4.kept (t' := s4.toks) fun b ob q => Heap.get?_push_of_some _ q
  obtain ⟨its, r, ht, hz⟩ := I5.tuple hx
  have hlen := r.length
  show wpAny (model X.prog X.w) X.A (subscriptTail _ (.Slice none (some (.Constant (.int 0) k0 p0)) (some (.UnaryOp .USub (.Constant (.int 1) k1 p1) p2)) p3) (.ref a) (.ref s4.heap.objs.size)) (EP X pins σ Q) X.xe { s4 with heap := s4.heap.push { cls := .type "slice", data := .fields #[vl, vu, vs] } }
  refine tail_any (ops := [.ref a, .ref s4.heap.objs.size]) ht.typeIs PyProof.Rows.slot_tuple_getitem.lookup ?_ (by with_unfolding_all rfl)
  refine getItem_tuple_tl ht (Heap.IsSliceOf.new _ vl vu vs) pl pu ps ?_ (by rw [List.size_toArray]; omega)
  refine ⟨.ref _, _, I5.laid (t' := s4.toks) (o := .tup xs.tail.reverse) (fun b ob q => Heap.get?_push_of_some _ q) (Nat.le_refl _) ?_, rfl, q _ (I5.hok.fresh (Nat.le_refl _))⟩
  have lt : xs.tail.reverse.length ≤ sizeLine := by simp; omega
  have vt : Vals xs.tail.reverse its.tail.reverse := by
    refine Vals.reverse ?_
    cases r with
    | nil => exact .nil
    | cons _ r => exact r
  exact ⟨lt, _, vt, IsTup.new _ _⟩
theorem Reps.tail : ∀ {ds : List SD} {vs : List V}, Reps K H ds vs → Reps K H ds.tail vs.tail
  | [], _, e => by subst e; rfl
  | _ :: _, _, ⟨w, r, e, _, b⟩ => by subst e; exact b
theorem s_tlr {k0 k1 : Nat} {p0 p1 p2 p3 : Pos} (ha : PE X a (lift X.F wa)) : PE X (.Subscript a (.Slice none (some (.Constant (.int 0) k0 p0)) (some (.UnaryOp .USub (.Constant (.int 1) k1 p1) p2)) p3) pos) (lift X.F fun σ h Q => wa σ h fun x h1 => M.aTup x fun xs => Q (.tup xs.tail.reverse) h1) := by
  refine (pe_tlr ha).imp fun σ H Q ⟨σa, h, Qa, rs, rh, q, k⟩ => ?_
  refine lift_go rs rh q fun dx h1 x H1 q1 f1 r1 rh1 rs1 => ?_
  cases dx with
  | tup ds =>
    obtain ⟨a, vs, e, t, r2⟩ := r1
    subst e
    have q1 : Qa (.tup ds.tail.reverse) h1 := q1
    refine ⟨a, vs, rfl, t.imp .inl id, fun p hn => ?_⟩
    exact k _ _ _ _ q1 (f1.trans (frm_hid hn)) ⟨p, _, rfl, .inl upd_same, (r2.tail.rev).kp (kp_new hn)⟩ (rh_hid rh1 hn)
  | _ => exact False.elim q1
/-! ### the tables of the module -/
theorem s_tix {x : Str} {p : Pos} {ad : Addr} {tab : List (M.Sx × M.Sx)} (hs : PlainIx b) (hg : Gl X x) (hm : X.mg x = some (.ref ad)) (hd : (x == ("__debug__" : Str)) = false) (ht : ∀ s t, tab.lookup s = some t → KDct X.F X.w ad (sV s) (.str (sV t)) ∧ sOk t) (hb : PE X b (lift X.F wb)) :
    PE X (.Subscript (.Name x p) b pos) (lift X.F fun σ h Q => wb σ h fun x h1 => match x with
    | .str s => (match tab.lookup s with
      | some t => Q (.str t) h1
      | none => False)
    | _ => False) := by
  refine (pe_ix ix_kdict (pe_glob (v := .ref ad) hg hm rfl hd) hb hs).imp fun σ H Q ⟨σa, h, Qa, rs, rh, q, k⟩ => ?_
  refine lift_go rs rh q fun dx h1 x H1 q1 f1 r1 rh1 rs1 => ?_
  cases dx with
  | str s =>
    cases (show x = _ from r1.1)
    dsimp only at q1
    cases e : tab.lookup s with
    | none => rw [e] at q1; exact q1.elim
    | some t =>
      rw [e] at q1
      obtain ⟨k1, k2⟩ := ht s t e
      exact ⟨ad, sV s, .str (sV t), rfl, rfl, k1, (k.go f1).now rh1 q1 ⟨rfl, k2⟩⟩
  | _ => exact q1.elim
theorem s_gint {x : Str} {p : Pos} {i : Int} (hg : Gl X x) (hm : ∃ t, X.mg x = some (.int i t)) (hd : (x == ("__debug__" : Str)) = false) : PE X (.Name x p) (lift X.F fun _ h Q => Q (.int i) h) := by
  obtain ⟨t, e⟩ := hm
  exact s_const (d := .int i) (pe_glob (v := .int i) hg e ⟨t, rfl⟩ hd) fun H => rfl
end
end Snd
end
section
/-! Sound6d: instances of the program's classes. -/
namespace Snd
open PySem L2 PySem.Spec PyProof.Rows
section
variable {X : L2.Cx} {K : Fr} {σ : L2.St} {σa : M.St} {H H1 : Hp} {h h1 : M.AH} {w wa wo : WE} {wr : WA} {Qa : M.VQ} {a e o : Expr} {es : List Expr} {pos apos : Pos}
abbrev PI1 (K : Fr) (H : Hp) (C : Addr) := fun (x : M.Sx × SD) (p : Str × V) => p.1 = sV x.1 ∧ NoAttr K.K C p.1 ∧ Rep K H x.2 p.2
theorem ins_inv {d : SD} {f : Nat → M.Sx → List (M.Sx × SD) → Prop} (q : M.aIns d h f) : ∃ p c fs, d = .ref p ∧ h p = some (.ins c fs) ∧ f p c fs := by
  cases d with
  | ref p =>
    simp only [M.aIns] at q
    cases e : h p with
    | none => rw [e] at q; exact q.elim
    | some o =>
      rw [e] at q
      cases o with
      | ins c fs => exact ⟨p, c, fs, rfl, e, q⟩
      | _ => exact q.elim
  | _ => exact False.elim q
theorem pi_lookup {C : Addr} {fs : List (M.Sx × SD)} {ps : List (Str × V)} (r : Paired (PI1 K H C) fs ps) (f : M.Sx) :
    (fs.lookup f = none ∧ ps.lookup (sV f) = none) ∨ ∃ d v, fs.lookup f = some d ∧ ps.lookup (sV f) = some v ∧ NoAttr K.K C (sV f) ∧ Rep K H d v := by
  induction r with
  | nil => exact .inl ⟨rfl, rfl⟩
  | @cons x p xs ps hx t ih =>
    obtain ⟨g, d⟩ := x
    obtain ⟨g', v⟩ := p
    obtain ⟨e1, e2, e3⟩ := hx
    dsimp only at e1 e2 e3
    subst e1
    rw [List.lookup_cons, List.lookup_cons]
    by_cases z : f = g
    · subst z
      rw [beq_self_eq_true, beq_self_eq_true]
      exact .inr ⟨d, v, rfl, rfl, e2, e3⟩
    · have z1 : (f == g) = false := beq_eq_false_iff_ne.mpr z
      have z2 : (sV f == sV g) = false := beq_eq_false_iff_ne.mpr fun y => z (sV_inj y)
      rw [z1, z2]
      exact ih
theorem pi_put {C : Addr} {fs : List (M.Sx × SD)} {ps : List (Str × V)} (r : Paired (PI1 K H C) fs ps) {f : M.Sx} {d : SD} {v : V} (na : NoAttr K.K C (sV f)) (rd : Rep K H d v) : Paired (PI1 K H C) (M.putA f d fs) (putF (sV f) v ps) := by
  induction r with
  | nil => exact .cons ⟨rfl, na, rd⟩ .nil
  | @cons x p xs ps hx t ih =>
    obtain ⟨g, d'⟩ := x
    obtain ⟨g', v'⟩ := p
    obtain ⟨e1, e2, e3⟩ := hx
    dsimp only at e1 e2 e3
    subst e1
    unfold M.putA putF
    by_cases z : g = f
    · subst z
      rw [if_pos rfl, if_pos rfl]
      exact .cons ⟨rfl, e2, rd⟩ t
    · rw [if_neg z, if_neg fun y => z (sV_inj y)]
      exact .cons ⟨rfl, e2, e3⟩ ih
/-- e.f -/
theorem s_fld {f : M.Sx} {nm : Str} (hn : nm = sV f) (hb : attributeBase e nm X.env (eval e X.env) = eval e X.env) (ha : PE X e (lift X.F w)) :
    PE X (.Attribute e nm pos) (lift X.F fun σ h Q => w σ h fun x h1 => M.aIns x h1 fun _ _ fs => M.aSome (fs.lookup f) fun v => Q v h1) := by
  subst hn
  refine (pe_fld ha hb).imp fun σ H Q ⟨σa, h, Qa, rs, rh, q, k⟩ => ?_
  refine lift_go rs rh q fun dx h1 x H1 q1 f1 r1 rh1 rs1 => ?_
  obtain ⟨p, c, fs, rfl, e, q2⟩ := ins_inv q1
  cases (show x = _ from r1)
  obtain ⟨C, dx, ps, eH, mg, cl, pr⟩ := rh1 p _ e
  rcases pi_lookup pr f with ⟨l, _⟩ | ⟨d, v, l, l2, na, rv⟩
  · rw [l] at q2; exact q2.elim
  · rw [l] at q2
    exact ⟨p, C, dx, ps, v, rfl, eH, cl, na, l2, (k.go f1).now rh1 q2 rv⟩
/-- o.f = e -/
theorem s_sfld {c f : M.Sx} {nm : Str} {C : Addr} {p' : Pos} (hn : nm = sV f) (hm : X.mg (sV c) = some (.ref C)) (na : NoAttr X.K C (sV f)) (he : PE X e (lift X.F w)) (ho : PE X o (lift X.F wo)) (hs : swapsWith e (some (.Attribute o nm p')) pos.line X.env = pure false) :
    PS X (.Assign [.Attribute o nm p'] e pos) (liftS X.F fun R σ h => w σ h fun v h1 => wo σ h1 fun x h2 => M.aIns x h2 fun p c' fs => c' = c ∧ fs.length < 1000 ∧ R.nx σ (M.up h2 p (.ins c (M.putA f v fs)))) := by
  subst hn
  refine (ps_fld ho he hs).imp fun D σ H ⟨σa, h, R, rs, rh, q, k⟩ => ?_
  refine lift_go rs rh q fun dv h1 v H1 q1 f1 r1 rh1 rs1 => lift_go rs1 rh1 q1 fun dx h2 x H2 q2 f2 r2 rh2 rs2 => ?_
  obtain ⟨p, c', fs, rfl, e, rfl, hl, q3⟩ := ins_inv q2
  cases (show x = _ from r2)
  obtain ⟨C', dx, ps, eH, mg, cl, pr⟩ := rh2 p _ e
  rw [show X.F.mg = X.mg from rfl, hm] at mg
  cases mg
  have kp : Kp H2 (upd H2 p (.ins C dx (putF (sV f) v ps))) := kp_put rh2 e
  have n1 := Paired.length pr
  refine ⟨p, C, dx, ps, rfl, eH, cl, na, by omega, k.nx _ _ _ _ q3 ((f1.trans f2).trans (frm_put e)) (rs2.kp kp) (rh_put rh2 e ⟨C, dx, _, upd_same, hm, cl, Paired.mapP (pi_put pr na (r1.kp (f2.kp rh1))) fun _ _ z => ⟨z.1, z.2.1, z.2.2.kp kp⟩⟩)⟩
theorem meth_ht {env : Env} {nm : Str} {args : List Expr} (hbase : attributeBase o nm env (eval o env) = eval o env)
    (hfew : ((backTo pos (starEach args env)).all (fun x => !x.1) && (backToKw pos (keywordEach [] env)).all (fun x => x.1.isSome)
      && decide (args.length + ([] : List Keyword).length + (if ([] : List Keyword).isEmpty then 0 else 1) < 30)) = true) (hline : (apos.endLine == pos.line) = true) :
    ∃ pl, eval (.Call (.Attribute o nm apos) args [] pos) env = (do
      let ov ← eval o env
      standAt apos.atName
      let (f, first) ← holding [ov] (getMethod ov nm pl)
      callWith pos f first (backTo pos (starEach args env)) (backToKw pos (keywordEach [] env))) := by
  rw [arm_eval_Call, hbase]
  have hform : methodCallForm (args.length + ([] : List Keyword).length) (backTo pos (starEach args env)) (backToKw pos (keywordEach [] env)) = true := hfew
  have hpos : methodCallPos true o env apos pos = pure pos := by unfold methodCallPos; simp [hline]
  unfold methodCall
  rw [hform, hpos]
  exact ⟨_, rfl⟩
/-- o.m(..) -/
theorem s_mcall {P : M.Prog} {n : Nat} {c m : M.Sx} {nm : Str} {C fa : Addr} {fd : FuncData} {ps : List Str} {xx : M.XP} (hn : nm = sV m) (hm : X.mg (sV c) = some (.ref C)) (cl : Cls X.K C) (me : Meth X.K C (sV m) fa)
    (F : FnOk X.prog X.w X.F X.mg X.base CX0 n fa fd ps (spC X.F P n (M.metN c m))) (hr : Room n X.A) (hb : Binds X.F fd ps [])
    (hbase : attributeBase o nm X.env (eval o X.env) = eval o X.env)
    (hfew : ((backTo pos (starEach (e :: es) X.env)).all (fun x => !x.1) && (backToKw pos (keywordEach [] X.env)).all (fun x => x.1.isSome)
      && decide ((e :: es).length + ([] : List Keyword).length + (if ([] : List Keyword).isEmpty then 0 else 1) < 30)) = true) (hline : (apos.endLine == pos.line) = true)
    (he : starEach (e :: es) X.env = (false, eval e X.env) :: starEach es X.env) (hpl : (backTo pos (starEach es X.env)).any (·.1) = false) (ho : PE X o (lift X.F wo)) (ha : PA X (e :: es) (liftA X.F wr)) :
    PE X (.Call (.Attribute o nm apos) (e :: es) [] pos) (lift X.F fun σ h Q => wo σ h fun x h1 => M.aIns x h1 fun p c' fs => c' = c ∧ fs.lookup m = none ∧ wr σ h1 fun ds h2 => M.run P n (M.metN c m) (.ref p :: ds) h2 Q xx) := by
  subst hn
  obtain ⟨pl, ht⟩ := meth_ht hbase hfew hline
  refine (pe_meth (pl := pl) ho cl me F hr hb .nil pass0 ha he hpl ht).imp fun σ H Q ⟨σa, h, Qa, rs, rh, q, k⟩ => ?_
  refine lift_go rs rh q fun dx h1 x H1 q1 f1 r1 rh1 rs1 => ?_
  obtain ⟨p, c', fs, rfl, e, rfl, l, q3⟩ := ins_inv q1
  cases (show x = _ from r1)
  obtain ⟨C', dx, ps', eH, mg, _, pr⟩ := rh1 p _ e
  rw [show X.F.mg = X.mg from rfl, hm] at mg
  cases mg
  rcases pi_lookup pr m with ⟨_, l2⟩ | ⟨_, _, l', _⟩
  · refine ⟨p, dx, ps', rfl, eH, l2, liftA_go rs1 rh1 q3 fun ds h2 vs H2 q4 f2 r2 rh2 _ => ?_⟩
    exact ⟨.ref p :: ds, h2, Qa, xx, ⟨_, _, rfl, rfl, by rw [List.append_nil]; exact r2⟩, rh2, q4, k.go (f1.trans f2)⟩
  · rw [l] at l'; cases l'
theorem s_mcall0 {P : M.Prog} {n : Nat} {c m : M.Sx} {nm : Str} {C fa : Addr} {fd : FuncData} {ps : List Str} {xx : M.XP} (hn : nm = sV m) (hm : X.mg (sV c) = some (.ref C)) (cl : Cls X.K C) (me : Meth X.K C (sV m) fa)
    (F : FnOk X.prog X.w X.F X.mg X.base CX0 n fa fd ps (spC X.F P n (M.metN c m))) (hr : Room n X.A) (hb : Binds X.F fd ps []) (hbase : attributeBase o nm X.env (eval o X.env) = eval o X.env) (hline : (apos.endLine == pos.line) = true) (ho : PE X o (lift X.F wo)) :
    PE X (.Call (.Attribute o nm apos) [] [] pos) (lift X.F fun σ h Q => wo σ h fun x h1 => M.aIns x h1 fun p c' fs => c' = c ∧ fs.lookup m = none ∧ M.run P n (M.metN c m) [.ref p] h1 Q xx) := by
  subst hn
  obtain ⟨pl, ht⟩ := meth_ht (args := []) hbase rfl hline
  refine (pe_meth0 (pl := pl) ho cl me F hr hb .nil pass0 ht).imp fun σ H Q ⟨σa, h, Qa, rs, rh, q, k⟩ => ?_
  refine lift_go rs rh q fun dx h1 x H1 q1 f1 r1 rh1 rs1 => ?_
  obtain ⟨p, c', fs, rfl, e, rfl, l, q3⟩ := ins_inv q1
  cases (show x = _ from r1)
  obtain ⟨C', dx, ps', eH, mg, _, pr⟩ := rh1 p _ e
  rw [show X.F.mg = X.mg from rfl, hm] at mg
  cases mg
  rcases pi_lookup pr m with ⟨_, l2⟩ | ⟨_, _, l', _⟩
  · exact ⟨p, dx, ps', rfl, eH, l2, ⟨[.ref p], h1, Qa, xx, ⟨_, _, rfl, rfl, rfl⟩, rh1, q3, k.go f1⟩⟩
  · rw [l] at l'; cases l'
/-- what a new instance is -/
theorem new_spec {P : M.Prog} {m : Nat} {c : M.Sx} {C : Addr} {xx : M.XP} {Q : VK} {ds : List SD} {vs : List V} {x dx : Addr} (hP : P (M.mkN c) = none) (hm : K.mg (sV c) = some (.ref C)) (cl : Cls K.K C) (rh : RH K H h) (r : Reps K H ds vs) (q : M.run P (m + 1) (M.mkN c) ds h Qa xx) (k : Kont K H h Qa Q)
    (nx : H x = none) (nd : H dx = none) (ne : dx ≠ x) : spC K P m (M.metN c M.sInit) (.ref x :: (vs ++ [])) (upd (upd H dx (.own x)) x (.ins C dx [])) (fun v H2 => v = .non ∧ Q (.ref x) H2) (fun _ _ _ => False) := by
  simp only [M.run] at q
  rw [hP] at q
  have n2 : (upd H dx (.own x)) x = none := by rw [upd_ne ne.symm]; exact nx
  have f1 : Frm H h (upd H dx (.own x)) h := frm_hid nd
  have rh1 : RH K (upd H dx (.own x)) h := rh_hid rh nd
  have rh2 : RH K (upd (upd H dx (.own x)) x (.ins C dx [])) (M.up h x (.ins c [])) := rh_new rh1 n2 ⟨C, dx, [], upd_same, hm, cl, .nil⟩
  refine ⟨.ref x :: ds, _, _, xx, ⟨_, _, rfl, rfl, ?_⟩, rh2, q x (rh.none nx), fun d h' v H' ⟨ed, q'⟩ f rv rh' => ⟨?_, k _ h' _ H' q' ((f1.trans (frm_new n2)).trans f) rfl rh'⟩⟩
  · rw [List.append_nil]
    exact (r.kp (kp_new nd)).kp (kp_new n2)
  · subst ed; exact rv
theorem s_new {P : M.Prog} {m : Nat} {c : M.Sx} {x : Str} {C fa : Addr} {fd : FuncData} {ps : List Str} {xx : M.XP} {p : Pos} (hP : P (M.mkN c) = none) (hx : x = sV c) (hm : X.mg (sV c) = some (.ref C)) (cl : Cls X.K C) (mk : Mk X.K C fa)
    (F : FnOk X.prog X.w X.F X.mg X.base CX0 m fa fd ps (spC X.F P m (M.metN c M.sInit))) (hr : Room (m + 1) X.A) (hb : Binds X.F fd ps []) (hg : Gl X x) (hdb : (x == ("__debug__" : Str)) = false)
    (he : starEach (e :: es) X.env = (false, eval e X.env) :: starEach es X.env) (hpl : (backTo pos (starEach es X.env)).any (·.1) = false) (ha : PA X (e :: es) (liftA X.F wr)) :
    PE X (.Call (.Name x p) (e :: es) [] pos) (lift X.F fun σ h Q => wr σ h fun ds h1 => M.run P (m + 1) (M.mkN c) ds h1 Q xx) := by
  subst hx
  refine (pe_make mk F hr hg hm hb .nil pass0 ha hdb he hpl).imp fun σ H Q ⟨σa, h, Qa, rs, rh, q, k⟩ => ?_
  refine liftA_go rs rh q fun ds h1 vs H1 q1 f1 r1 rh1 _ => ?_
  exact fun x dx nx nd ne => new_spec (K := X.F) hP hm cl rh1 r1 q1 (k.go f1) nx nd ne
theorem s_new0 {P : M.Prog} {m : Nat} {c : M.Sx} {x : Str} {C fa : Addr} {fd : FuncData} {ps : List Str} {xx : M.XP} {p : Pos} (hP : P (M.mkN c) = none) (hx : x = sV c) (hm : X.mg (sV c) = some (.ref C)) (cl : Cls X.K C) (mk : Mk X.K C fa)
    (F : FnOk X.prog X.w X.F X.mg X.base CX0 m fa fd ps (spC X.F P m (M.metN c M.sInit))) (hr : Room (m + 1) X.A) (hb : Binds X.F fd ps []) (hg : Gl X x) (hdb : (x == ("__debug__" : Str)) = false) :
    PE X (.Call (.Name x p) [] [] pos) (lift X.F fun σ h Q => M.run P (m + 1) (M.mkN c) [] h Q xx) := by
  subst hx
  refine (pe_make0 mk F hr hg hm hb .nil pass0 hdb).imp fun σ H Q ⟨σa, h, Qa, rs, rh, q, k⟩ => ?_
  exact fun x dx nx nd ne => new_spec (K := X.F) (ds := []) (vs := []) hP hm cl rh rfl q k nx nd ne
end
end Snd
end
section
/-! Sound6e: the sum of a dict's values. -/
namespace Snd
open PySem L2 PySem.Spec PyProof.Rows
def valO (p d : Addr) : HO := .ext fun h => h.IsValuesView p d
theorem valO_ok {P : Program} {w : World} {H : Hp} {h : Heap} {p d : Addr} (e : h.get? p = some { cls := .type "dict_values", data := .fields #[.ref d] }) : ObjOk P w H h p (valO p d) :=
  ⟨⟨_, e, rfl, rfl⟩, ⟨_, e⟩, fun h1 h2 x k => let ⟨o, ho, r⟩ := x; ⟨o, k o ho, r⟩⟩
section
variable {X : L2.Cx}
def rValsK : V → List V → Hp → VK → Prop := fun x xs H Q => ∃ (a : Addr) (kvs : List (Key × V)), x = .ref a ∧ xs = [] ∧ H a = some (.dK kvs) ∧ ∀ p, H p = none → Q (.ref p) (upd H p (valO p a))
theorem mt_valsK : MtR X "dict.values" rValsK := by
  intro pins s σ H x xs v us Q I rx rxs h
  obtain ⟨a, kvs, rfl, rfl, ha, q⟩ := h
  cases rx
  cases rxs
  obtain ⟨z, hd, vs, rel, dd⟩ := dk_of I.hok ha
  refine call_meetsIn PySem.F.slot_dict_values dd.mapOf.typeIs PySem.F.entry_dict_values (PySem.F.args_dict_values_1 _) (meets_dict_values (mixKind X.prog X.w) a hd) ⟨⟨vs, dd⟩, ?_⟩
  have hf : H s.heap.objs.size = none := I.hok.fresh (Nat.le_refl _)
  exact ⟨.ref s.heap.objs.size, upd H s.heap.objs.size (valO s.heap.objs.size a), I.laid (t' := s.toks) (fun b u e => Heap.get?_push_of_some _ e) (Nat.le_refl _) (valO_ok (Heap.get?_push_size _ rfl)), rfl, q _ hf⟩
theorem kdu_sum0 {prog : Program} {w : World} {A : Around} {E : Value → Shared → Prop} {s : Shared} {T : String} {r d : Addr} {n : Nat} {P : Nat → Value → Prop} {OK : Heap → Prop} {Q : Value → Shared → Prop} (K : PySem.W.KdlSrc prog w T r d n P OK) (hh : A.handled = none) (hok : OK s.heap) (val : Nat → Int) (hval : ∀ (i : Nat) (v : Value), P i v → ∃ t : Tok, v = Value.int (val i) t)
    (h : ∀ (h' : Heap) (tk : Nat) (t' : Tok), (∀ b o, s.heap.get? b = some o → h'.get? b = some o) → Q (.int (preSum val n) t') { s with heap := h', toks := tk }) :
    wpAny (model prog w) A (call (.builtin "sum") [.ref r]) Q E s := by
  refine call_sum_walkAnyS ?_
  obtain ⟨oI, St, hit, W, st⟩ := K.iter A.in1 s hh hok
  refine hit _ _ ⟨s.heap.objs.size, _, _, _, n, P, _, val, rfl, W.toS, st, fun b hb => ?_, hval, fun s' t' hm => ?_⟩
  · show b < (s.heap.push oI).objs.size
    rw [size_push']
    rcases List.mem_cons.mp hb with e | hb
    · rw [e]; exact Nat.lt_succ_self _
    · rw [List.mem_singleton.mp hb]; exact Nat.lt_succ_of_lt (K.there _ hok).2
  · have hk : ∀ b o, s.heap.get? b = some o → s'.heap.get? b = some o := fun b o e =>
      hm.heap b o (fun hI => absurd (Heap.lt_size e) (by rw [List.mem_singleton.mp hI]; exact Nat.lt_irrefl _)) (Heap.get?_push_of_some _ e)
    rw [Moved.eq_with hm]
    exact h s'.heap s'.toks t' hk
theorem pre_sum : ∀ ns : List Int, preSum (fun i => (ns[i]?).getD 0) ns.length = ns.sum := by
  have key : ∀ (ns : List Int) (j : Nat), j ≤ ns.length → preSum (fun i => (ns[i]?).getD 0) j = (ns.take j).sum := by
    intro ns j
    induction j with
    | zero => intro _; simp [preSum]
    | succ j ih =>
      intro hj
      have lj : j < ns.length := by omega
      rw [preSum, ih (by omega), List.take_add_one, List.getElem?_eq_getElem lj, List.sum_append]
      simp
  intro ns
  rw [key ns _ (Nat.le_refl _), List.take_length]
theorem kv_at : ∀ {kvs : List (Key × V)} {vs : List (Key × Value)} {ns : List Int} {i : Nat} {k : Key} {v : Value}, KV kvs vs → kvs.map (·.2) = ns.map V.int → vs[i]? = some (k, v) → ∃ t, v = Value.int ((ns[i]?).getD 0) t
  | _, _, _, i, k, v, .nil, _, e => by simp at e
  | _, _, [], _, _, _, .cons _ _, h, _ => by simp at h
  | _, _, n :: ns, 0, k, v, .cons a b, h, e => by
    simp at e h
    subst e
    have := a.2
    rw [h.1] at this
    exact this
  | _, _, n :: ns, i + 1, k, v, .cons a b, h, e => by
    simp only [List.map_cons, List.cons.injEq] at h
    obtain ⟨t, ht⟩ := kv_at (i := i) b h.2 (by simpa using e)
    exact ⟨t, by simpa using ht⟩
def rSumV : List V → Hp → VK → Prop := fun xs H Q => ∃ (p a : Addr) (kvs : List (Key × V)) (ns : List Int), xs = [.ref p] ∧ H p = some (valO p a) ∧ H a = some (.dK kvs) ∧ kvs.map (·.2) = ns.map V.int ∧ Q (.int ns.sum) H
theorem cr_sumV (hc : X.calm = true) : CallR X (.builtin "sum") rSumV := by
  intro pins s σ H xs us Q I r h
  obtain ⟨p, a, kvs, ns, rfl, hv, ha, hn, q⟩ := h
  obtain ⟨hview, _⟩ := I.hok p _ hv
  obtain ⟨z, hd, vs, rel, dd⟩ := dk_of I.hok ha
  obtain ⟨ep, hat⟩ := dd.dictAt
  rw [Vals.ref1 r]
  have l1 : kvs.length = vs.length := Paired.length rel
  have l2 : kvs.length = ns.length := by simpa using congrArg List.length hn
  refine kdu_sum0 (PySem.W.kdl_values (knd := mixKind X.prog X.w) (kvs := vs) (ep := ep)) (I.ok.hd hc) ⟨hview, hat⟩ (fun i => (ns[i]?).getD 0) (fun i v ⟨k, e⟩ => kv_at rel hn e) fun h' tk t' hk => ?_
  rw [← l1, l2, pre_sum]
  exact ⟨.int _, H, I.kept hk, ⟨_, rfl⟩, q⟩
end
section
variable {X : L2.Cx} {wa : WE} {y : Expr} {p pos apos cpos : Pos}
theorem ints_vals {K : Fr} {H : Hp} : ∀ {kvs : List (SD × SD)} {ps : List (Key × V)} {ns : List Int}, Paired (PR K H R0) kvs ps → M.intsOf (kvs.map (·.2)) = some ns → ps.map (·.2) = ns.map V.int
  | _, _, ns, .nil, h => by
    simp [M.intsOf] at h
    subst h
    rfl
  | _, _, ns, .cons (a := x) (b := q) a b, h => by
    simp only [List.map_cons] at h ⊢
    obtain ⟨k, d⟩ := x
    cases d <;> simp [M.intsOf] at h
    obtain ⟨ms, e1, rfl⟩ := h
    have := ints_vals b e1
    rw [this, show q.2 = _ from a.2]
    rfl
/-- sum(y.values()) -/
theorem s_smv {x : Str} (hx : x = ("sum" : Str)) (hcalm : X.calm = true) (hg : Gl X x) (hm : X.mg x = none) (hbase : attributeBase y "values" X.env (eval y X.env) = eval y X.env) (hline : (apos.endLine == cpos.line) = true) (ha : PE X y (lift X.F wa)) :
    PE X (.Call (.Name x p) [.Call (.Attribute y "values" apos) [] [] cpos] [] pos) (lift X.F fun σ h Q => wa σ h fun d h1 => M.aVals d h1 fun kvs => M.aSome (M.intsOf (kvs.map (·.2))) fun ns => Q (.int ns.sum) h1) := by
  subst hx
  refine (pe_callB (cr_sumV hcalm) hg hm PyProof.Rows.boot_sum (pa_cons (pe_bm0 PySem.F.plainAttrs_dict PySem.F.slot_dict_values PySem.F.type_dict_values mt_valsK ha hbase hline) pa_nil) (by decide +kernel) (by decide +kernel) rfl rfl).imp fun σ H Q ⟨σa, h, Qa, rs, rh, q, k⟩ => ?_
  refine lift_go rs rh q fun d h1 v H1 q1 f1 r1 rh1 rs1 => ?_
  cases d with
  | ref r =>
    cases (show v = _ from r1)
    simp only [M.aVals] at q1
    cases e : h1 r with
    | none => rw [e] at q1; exact q1.elim
    | some o =>
      rw [e] at q1
      match o, e, q1 with
      | .dct 0 kvs, e, q1 =>
        obtain ⟨ps, eH, pr⟩ := dct0.mp (rh1 r _ e)
        cases en : M.intsOf (kvs.map (·.2)) with
        | none => simp only [en] at q1; exact q1.elim
        | some ns =>
          simp only [en] at q1
          refine ⟨.inr (.inr (.inl ⟨rfl, .inl ⟨_, eH⟩⟩)), r, ps, rfl, rfl, eH, fun p hp => ?_⟩
          have np : r ≠ p := ne_of_none eH hp
          exact ⟨p, r, ps, ns, rfl, upd_same, by rw [upd_ne np]; exact eH, ints_vals pr en, k _ h1 _ _ q1 (f1.trans (frm_hid hp)) rfl (rh_hid rh1 hp)⟩
  | _ => exact False.elim q1
end
end Snd
end
section
/-! Sound7: the IR against the text, and the whole. -/
namespace Snd
open PySem L2 PySem.Spec PyProof.Rows

def visB (sc : Scope) (x : Str) : Bool := match sc.names.lookup x with
  | some .local => true | some .cell => true | some .free => true | _ => false
def locB (s0 : Scope) (x : Str) : Bool := match s0.names.lookup x with
  | some .local => true | some .cell => true | _ => false
def glB (sc : Scope) (x : Str) : Bool := match sc.names.lookup x with
  | some .globalImplicit => true | _ => false
def plainN (x : Str) : Bool := !(x == ("__debug__" : Str)) && !(x == ("__classdict__" : Str))
def opB (o : M.Bop) : Operator → Bool
  | .Add => (match o with | .add => true | _ => false)
  | .Sub => (match o with | .sub => true | _ => false)
  | .Mult => (match o with | .mul => true | _ => false)
  | .Mod => (match o with | .mod => true | _ => false)
  | .FloorDiv => (match o with | .fdiv => true | _ => false)
  | .Pow => (match o with | .pow => true | _ => false)
  | _ => false
theorem opB_eq {o : M.Bop} {p : Operator} (h : opB o p = true) : p = bop o := by cases p <;> cases o <;> first | rfl | cases h
def copB (o : M.Cop) : CmpOp → Bool
  | .Eq => (match o with | .eq => true | _ => false)
  | .NotEq => (match o with | .ne => true | .nes => true | _ => false)
  | .Lt => (match o with | .lt => true | _ => false)
  | .LtE => (match o with | .le => true | _ => false)
  | .Gt => (match o with | .gt => true | _ => false)
  | .GtE => (match o with | .ge => true | _ => false)
  | .In => (match o with | .isin => true | _ => false)
  | .NotIn => (match o with | .notin => true | _ => false)
  | .Is => (match o with | .is_ => true | _ => false)
  | .IsNot => (match o with | .isnt => true | _ => false)
theorem copB_eq {o : M.Cop} {p : CmpOp} (h : copB o p = true) : p = cop o := by cases p <;> cases o <;> first | rfl | cases h
def bltB (bn : List Str) (sc : Scope) (b : M.Blt) (x : Str) : Bool := match bltK b with
  | some bk => decide (x = bk.name) && bn.contains x && glB sc x
  | none => false
def mthB (m : M.Mth) (x : Str) : Bool := match mthT m with
  | some (_, _, nm) => decide (x = nm)
  | none => false
/-- not a call without arguments: super() is one -/
def recvB : Expr → Bool
  | .Call _ [] _ _ => false
  | _ => true
def ownB (N : List Str) : List Nat → Option (List (Str × Nat))
  | [] => some []
  | i :: is => match N[i]?, ownB N is with
    | some x, some r => some ((x, i) :: r)
    | _, _ => none
theorem ownB_map {N : List Str} : ∀ {is : List Nat} {r : List (Str × Nat)}, ownB N is = some r → r.map (·.2) = is
  | [], r, e => by simp only [ownB, Option.some.injEq] at e; subst e; rfl
  | i :: is, r, e => by
    simp only [ownB] at e
    cases e1 : N[i]? <;> cases e2 : ownB N is <;> simp [e1, e2] at e
    subst e
    simp [ownB_map e2]
def nmB (N : List Str) (s0 : Scope) (i : Nat) : Expr → Bool
  | .Name x _ => decide (N[i]? = some x) && locB s0 x
  | _ => false
def nmsB (N : List Str) (s0 : Scope) : List Nat → List Expr → Bool
  | [], [] => true
  | i :: is, e :: es => nmB N s0 i e && nmsB N s0 is es
  | _, _ => false
def tgB (N : List Str) (s0 : Scope) : M.Tgt → Expr → Bool
  | .nm i, e => nmB N s0 i e
  | .tp ts, .Tuple es _ _ => nmsB N s0 ts es
  | _, _ => false
def chrB (s : M.Sx) : Bool := s.all fun c => decide (c < 0x110000)
def smallB (n : Nat) : Bool := decide (n < 20)

/-- what may stand unread: what is never reached -/
@[simp] def badB : Expr → Bool
  | .Call .. => true
  | .Subscript .. => true
  | .Attribute .. => true
  | .Name .. => true
  | .BinOp .. => true
  | .Dict .. => true
  | _ => false
@[simp] def lockB : Expr → Bool
  | .Call .. => true
  | _ => false
/-- the def's names by slot, the built-in names that stand free, the program's defs -/
structure Tb where
  N : List Str
  bn : List Str
  fs : List M.Sx
  gs : List (M.Sx × Int)
  ts : List (M.Sx × List (M.Sx × M.Sx))
  cs : List M.Sx
  ms : List (M.Sx × M.Sx)
  at_ : List (M.Sx × M.Sx)
  ds : List (M.Sx × Nat)
def revB : Expr → Bool
  | .Slice none none (some (.UnaryOp .USub (.Constant (.int m) _ _) _)) _ => decide (m = 1)
  | _ => false
theorem revB_eq {j : Expr} (h : revB j = true) : ∃ k p1 p2 p3, j = .Slice none none (some (.UnaryOp .USub (.Constant (.int 1) k p1) p2)) p3 := by
  unfold revB at h
  split at h
  · have := of_decide_eq_true h
    subst this
    exact ⟨_, _, _, _, rfl⟩
  · cases h
def tlrB : Expr → Bool
  | .Slice none (some (.Constant (.int z) _ _)) (some (.UnaryOp .USub (.Constant (.int m) _ _) _)) _ => decide (z = 0) && decide (m = 1)
  | _ => false
theorem tlrB_eq {j : Expr} (h : tlrB j = true) : ∃ k0 k p0 p1 p2 p3, j = .Slice none (some (.Constant (.int 0) k0 p0)) (some (.UnaryOp .USub (.Constant (.int 1) k p1) p2)) p3 := by
  unfold tlrB at h
  split at h
  · simp only [Bool.and_eq_true, decide_eq_true_eq] at h
    obtain ⟨rfl, rfl⟩ := h
    exact ⟨_, _, _, _, _, _, rfl⟩
  · cases h
mutual
def mtE (T : Tb) : Scope → Scope → M.E → Expr → Bool
  | sc, s0, .var i, e => (match e with
    | .Name x _ => decide (T.N[i]? = some x) && visB sc x && plainN x
    | _ => false)
  | sc, s0, .int n, e => (match e with
    | .Constant (.int m) _ _ => decide (m = n)
    | _ => false)
  | sc, s0, .str s, e => (match e with
    | .Constant (.str x) _ _ => decide (x = sV s) && chrB s
    | _ => false)
  | sc, s0, .bl b, e => (match e with
    | .Constant (.bool c) _ _ => b == c
    | _ => false)
  | sc, s0, .non, e => (match e with
    | .Constant .none _ _ => true
    | _ => false)
  | sc, s0, .gint x n, e => (match e with
    | .Name y _ => decide (y = sV x) && T.gs.contains (x, n) && glB sc y && plainN y
    | _ => false)
  | sc, s0, .slw a lo hi, e => (match e with
    | .Subscript x (.Slice l u none _) _ => mtE T sc s0 a x && mtO T sc s0 lo l && mtO T sc s0 hi u
    | _ => false)
  | sc, s0, .mnd es, e => (match e with
    | .Call (.Name x _) (y :: l) [⟨kw, .Constant .none _ _, _⟩] _ => decide (x = ("min" : Str)) && decide (kw = some ("default" : Str)) && T.bn.contains x && glB sc x && mtEs T sc s0 es (y :: l)
    | _ => false)
  | sc, s0, .orv a b, e => (match e with
    | .BoolOp .Or [x, .Constant (.int i) j p] _ => mtE T sc s0 a x && mtE T sc s0 b (.Constant (.int i) j p)
    | _ => false)
  | sc, s0, .tix x tab a, e => (match e with
    | .Subscript (.Name y _) j _ => decide (y = sV x) && T.ts.contains (x, tab) && glB sc y && plainN y && mtE T sc s0 a j
    | _ => false)
  | sc, s0, .gstr _ _, e => false
  | sc, s0, .tup es, e => (match e with
    | .Tuple l _ _ => mtEs T sc s0 es l
    | _ => false)
  | sc, s0, .lst es, e => (match e with
    | .List l _ => mtEs T sc s0 es l
    | _ => false)
  | sc, s0, .dct k es, e => (match e with
    | .Dict ks vs _ => (match k, es with
      | 0, .nil => ks.isEmpty && vs.isEmpty
      | 0, .cons a r => mtPs T sc s0 (.cons a r) ks vs && decide (ks.length ≤ 15)
      | _, _ => false)
    | _ => false)
  | sc, s0, .dcn, e => (match e with
    | .Dict ks vs _ => ks.isEmpty && vs.isEmpty
    | _ => false)
  | sc, s0, .bad, e => badB e
  | sc, s0, .lock i a, e => lockB e && mtE T sc s0 a e
  | sc, s0, .lzip es, e => (match e with
    | .Call (.Name x _) [.Call (.Name z _) [a, b] [] _] [] _ => decide (x = ("list" : Str)) && T.bn.contains x && glB sc x && decide (z = ("zip" : Str)) && T.bn.contains z && glB sc z && mtEs T sc s0 es [a, b]
    | _ => false)
  | sc, s0, .lrng es, e => (match e with
    | .Call (.Name x _) [.Call (.Name z _) (y :: l) [] _] [] _ => decide (x = ("list" : Str)) && T.bn.contains x && glB sc x && decide (z = ("range" : Str)) && T.bn.contains z && glB sc z && mtEs T sc s0 es (y :: l) && decide (l.length < 2)
    | _ => false)
  | sc, s0, .rev a, e => (match e with
    | .Subscript x j _ => revB j && mtE T sc s0 a x
    | _ => false)
  | sc, s0, .tlr a, e => (match e with
    | .Subscript x j _ => tlrB j && mtE T sc s0 a x
    | _ => false)
  | sc, s0, .bin o a b, e => (match e with
    | .BinOp l op r _ => opB o op && mtE T sc s0 a l && mtE T sc s0 b r
    | _ => false)
  | sc, s0, .neg a, e => (match e with
    | .UnaryOp .USub x _ => mtE T sc s0 a x
    | _ => false)
  | sc, s0, .cmp o a b, e => (match e with
    | .Compare l [op] [r] _ => copB o op && mtE T sc s0 a l && mtE T sc s0 b r
    | _ => false)
  | sc, s0, .chn o o' a b c, e => (match e with
    | .Compare l [op, op'] [r, r'] _ => copB o op && copB o' op' && mtE T sc s0 a l && mtE T sc s0 b r && mtE T sc s0 c r'
    | _ => false)
  | sc, s0, .bop k es, e => (match e with
    | .BoolOp .And (x :: l) _ => k && mtEs T sc s0 es (x :: l) && testsB (x :: l)
    | .BoolOp .Or (x :: l) _ => !k && mtEs T sc s0 es (x :: l) && testsB (x :: l)
    | _ => false)
  | sc, s0, .not a, e => (match e with
    | .UnaryOp .Not x _ => mtE T sc s0 a x && testB x
    | _ => false)
  | sc, s0, .ite c a b, e => (match e with
    | .IfExp t l r _ => mtE T sc s0 c t && testB t && mtE T sc s0 a l && mtE T sc s0 b r
    | _ => false)
  | sc, s0, .ix a i, e => (match e with
    | .Subscript x j _ => mtE T sc s0 a x && mtE T sc s0 i j
    | _ => false)
  | sc, s0, .sl a lo hi, e => (match e with
    | .Subscript x (.Slice l u none _) _ => mtE T sc s0 a x && mtO T sc s0 lo l && mtO T sc s0 hi u
    | _ => false)
  | sc, s0, .call f es, e => (match e with
    | .Call (.Name x _) l [] _ => decide (x = sV f) && T.fs.contains f && glB sc x && plainN x && mtEs T sc s0 es l
    | _ => false)
  | sc, s0, .callD f k es, e => (match e with
    | .Call (.Name x _) (y :: l) [] _ => decide (x = sV f) && T.ds.contains (f, k) && glB sc x && plainN x && mtEs T sc s0 es (y :: l)
    | _ => false)
  | sc, s0, .smv a, e => (match e with
    | .Call (.Name x _) [.Call (.Attribute y nm apos) [] [] cpos] [] _ => decide (x = ("sum" : Str)) && T.bn.contains x && glB sc x && decide (nm = ("values" : Str)) && (apos.endLine == cpos.line) && recvB y && mtE T sc s0 a y
    | _ => false)
  | sc, s0, .fld a f, e => (match e with
    | .Attribute y nm _ => decide (nm = sV f) && recvB y && mtE T sc s0 a y
    | _ => false)
  | sc, s0, .newo c es, e => (match e with
    | .Call (.Name x _) l [] _ => decide (x = sV c) && T.cs.contains c && glB sc x && plainN x && mtEs T sc s0 es l
    | _ => false)
  | sc, s0, .mcall c m o es, e => (match e with
    | .Call (.Attribute x nm apos) l [] pos => decide (nm = sV m) && T.ms.contains (c, m) && (apos.endLine == pos.line) && recvB x && mtE T sc s0 o x && mtEs T sc s0 es l && smallB l.length
    | _ => false)
  | sc, s0, .blt b es, e => (match e with
    | .Call (.Name x _) (y :: l) [] _ => bltB T.bn sc b x && mtEs T sc s0 es (y :: l)
    | _ => false)
  | sc, s0, .isi a t, e => (match e with
    | .Call (.Name x _) [y, .Name z _] [] _ => decide (x = ("isinstance" : Str)) && T.bn.contains x && glB sc x && decide (z = Str.ofString (tyS t)) && T.bn.contains z && glB sc z && mtE T sc s0 a y
    | _ => false)
  | sc, s0, .mth m o es, e => (match e with
    | .Call (.Attribute x nm apos) l [] pos => mthB m nm && (apos.endLine == pos.line) && recvB x && mtE T sc s0 o x && mtEs T sc s0 es l && smallB l.length
    | _ => false)
  | sc, s0, .lc elt t own k src ifs, e => (match e with
    | .ListComp x [⟨tg, it, cs, a⟩] scope _ => decide (a = 0) && tgtIn own t && tgB T.N scope t tg && mtI T sc s0 k src it && tupK k t && compsB T.N sc scope own &&
        mtEs T (relS scope sc) scope ifs cs && testsB cs && decide (cs.length < 2) && mtE T (relS scope sc) scope elt x
    | _ => false)
def mtEs (T : Tb) : Scope → Scope → M.Es → List Expr → Bool
  | sc, s0, .nil, l => l.isEmpty
  | sc, s0, .cons e es, l => (match l with
    | x :: r => mtE T sc s0 e x && mtEs T sc s0 es r
    | [] => false)
def mtPs (T : Tb) : Scope → Scope → M.Es → List (Option Expr) → List Expr → Bool
  | sc, s0, .nil, ks, vs => ks.isEmpty && vs.isEmpty
  | sc, s0, .cons a .nil, ks, vs => false
  | sc, s0, .cons a (.cons b r), ks, vs => (match ks, vs with
    | some x :: ks, y :: vs => mtE T sc s0 a x && mtE T sc s0 b y && mtPs T sc s0 r ks vs
    | _, _ => false)
def mtO (T : Tb) : Scope → Scope → M.Es → Option Expr → Bool
  | sc, s0, .nil, o => o.isNone
  | sc, s0, .cons e es, o => (match o with
    | some x => mtE T sc s0 e x && (match es with
      | .nil => true
      | _ => false)
    | none => false)
def mtI (T : Tb) : Scope → Scope → M.Itk → M.Es → Expr → Bool
  | sc, s0, k, .nil, e => false
  | sc, s0, k, .cons a r, e => (match k with
    | .seq => mtE T sc s0 a e && (match r with
      | .nil => true
      | _ => false)
    | .rng => (match e with
      | .Call (.Name x _) (y :: l) [] _ => decide (x = ("range" : Str)) && T.bn.contains x && glB sc x && mtE T sc s0 a y && mtEs T sc s0 r l && decide (l.length < 3)
      | _ => false)
    | .enum => (match e with
      | .Call (.Name x _) [y] [] _ => decide (x = ("enumerate" : Str)) && T.bn.contains x && glB sc x && mtE T sc s0 a y && (match r with
        | .nil => true
        | _ => false)
      | _ => false)
    | .keys => mtE T sc s0 a e && (match r with
      | .nil => true
      | _ => false)
    | .rev => (match e with
      | .Call (.Name x _) [y] [] _ => decide (x = ("reversed" : Str)) && T.bn.contains x && glB sc x && mtE T sc s0 a y && (match r with
        | .nil => true
        | _ => false)
      | _ => false)
    | .rrng => (match e with
      | .Call (.Name x _) [.Call (.Name z _) [y] [] _] [] _ => decide (x = ("reversed" : Str)) && T.bn.contains x && glB sc x && decide (z = ("range" : Str)) && T.bn.contains z && glB sc z && mtE T sc s0 a y && (match r with
        | .nil => true
        | _ => false)
      | _ => false)
    | .zip => (match e with
      | .Call (.Name x _) [y, z] [] _ => decide (x = ("zip" : Str)) && T.bn.contains x && glB sc x && mtE T sc s0 a y && mtEs T sc s0 r [z]
      | _ => false)
    | .values => (match e with
      | .Call (.Attribute y nm apos) [] [] cpos => decide (nm = ("values" : Str)) && (apos.endLine == cpos.line) && recvB y && mtE T sc s0 a y && (match r with
        | .nil => true
        | _ => false)
      | _ => false)
    | .items => (match e with
      | .Call (.Attribute y nm apos) [] [] cpos => decide (nm = ("items" : Str)) && (apos.endLine == cpos.line) && recvB y && mtE T sc s0 a y && (match r with
        | .nil => true
        | _ => false)
      | _ => false))
def testB : Expr → Bool
  | .IfExp .. => false
  | .BoolOp .Or [_, .Constant (.int _) _ _] _ => false
  | _ => true
def testsB : List Expr → Bool
  | [] => true
  | e :: es => testB e && testsB es
/-- enumerate and its like give pairs to a pair of names -/
def tupK : M.Itk → M.Tgt → Bool
  | .enum, .tp _ => true
  | .enum, _ => false
  | .zip, .tp _ => true
  | .zip, _ => false
  | .items, .tp _ => true
  | .items, _ => false
  | _, _ => true
/-- what walks give pairs alone -/
def needT : M.Itk → Bool
  | .enum => true
  | .zip => true
  | .items => true
  | _ => false
def compsB (N : List Str) (sc scope : Scope) (own : List Nat) : Bool := match ownB N own with
  | some r => blkC N sc scope r
  | none => false
end

/-! ### what a matched expression is not -/
def okX : Expr → Bool
  | .Starred .. => false
  | .Slice .. => false
  | .Set .. => false
  | _ => true
theorem ok_mt {T : Tb} {sc s0 : Scope} {ir : M.E} {e : Expr} (h : mtE T sc s0 ir e = true) : okX e = true := by
  cases e <;> first | rfl | (cases ir <;> first | (exact absurd h (by simp [mtE, badB, lockB])))
section
variable {e : Expr} {es : List Expr} {env : Env}
theorem ok_star (h : okX e = true) : starEach (e :: es) env = (false, eval e env) :: starEach es env := by cases e <;> first | rfl | cases h
theorem ok_ix (h : okX e = true) : PlainIx e := by intro o i; cases e <;> first | rfl | cases h
theorem ok_behind (h : okX e = true) {op : CmpOp} : behindInMarks op e = false := by cases e <;> first | rfl | cases h
theorem ok_fold (h : okX e = true) {x : Value} : foldedSetIterable e env x = pure x := by cases e <;> first | rfl | cases h
theorem ok_base (h : recvB e = true) {nm : Str} : attributeBase e nm env (eval e env) = eval e env := by
  cases e <;> try rfl
  rename_i f as kw p
  cases as with
  | nil => cases h
  | cons a as => cases f <;> rfl
end
end Snd
end
section
/-! Sound8: what the IR says of a text holds of the model's run of it. -/
namespace Snd
open PySem L2 PySem.Spec PyProof.Rows

/-- the context in which a matched text runs -/
structure XOk (P : M.Prog) (n : Nat) (T : Tb) (sc s0 : Scope) (X : L2.Cx) : Prop where
  eN : X.N = T.N
  nd : X.N.Nodup
  eS : X.env.scope = sc
  st : ∀ x, locB s0 x = true → L2.Loc sc x ∧ (X.fn x = true ∨ sc.names.lookup x = some NameKind.local)
  calm : X.calm = true
  room : Room n X.A
  xe : X.xe = fun _ _ => False
  free : ∀ x ∈ T.bn, X.mg x = none
  fn : ∀ f ∈ T.fs, ∃ fa fdc ps, X.mg (sV f) = some (.ref fa) ∧ PySem.W.keepIn X.F (.ref fa) = true ∧ FnOk X.prog X.w X.F X.mg X.base CX0 n fa fdc ps (spC X.F P n f) ∧ Binds X.F fdc ps []
  gi : ∀ p ∈ T.gs, ∃ t, X.mg (sV p.1) = some (.int p.2 t)
  tb : ∀ p ∈ T.ts, ∃ a, X.mg (sV p.1) = some (.ref a) ∧ ∀ s t, p.2.lookup s = some t → KDct X.F X.w a (sV s) (.str (sV t)) ∧ sOk t
  cs : ∀ c ∈ T.cs, P (M.mkN c) = none ∧ ∃ C, X.mg (sV c) = some (.ref C) ∧ PySem.W.keepIn X.K (.ref C) = true ∧ Cls X.K C ∧ ∀ m, n = m + 1 → ∃ fa fd ps, Mk X.K C fa ∧ FnOk X.prog X.w X.F X.mg X.base CX0 m fa fd ps (spC X.F P m (M.metN c M.sInit)) ∧ Binds X.F fd ps []
  ms : ∀ q ∈ T.ms, ∃ C fa fd ps, X.mg (sV q.1) = some (.ref C) ∧ Cls X.K C ∧ Meth X.K C (sV q.2) fa ∧ FnOk X.prog X.w X.F X.mg X.base CX0 n fa fd ps (spC X.F P n (M.metN q.1 q.2)) ∧ Binds X.F fd ps []
  at_ : ∀ q ∈ T.at_, ∃ C, X.mg (sV q.1) = some (.ref C) ∧ NoAttr X.K C (sV q.2)
  ds : ∀ q ∈ T.ds, ∃ fa fdc ps us, X.mg (sV q.1) = some (.ref fa) ∧ PySem.W.keepIn X.F (.ref fa) = true ∧ FnOk X.prog X.w X.F X.mg X.base CX0 n fa fdc ps (spC X.F P n q.1) ∧ Vals (List.replicate q.2 V.non) us ∧ Binds X.F fdc ps us
section
variable {P : M.Prog} {n : Nat} {T : Tb} {sc s0 : Scope} {X : L2.Cx} {xx : M.XP}
theorem XOk.units (ok : XOk P n T sc s0 X) : X.A.units + 200 < cLine := by have := ok.room.un; have : cLine = 9900 := rfl; omega
theorem ba3 {a b c : Bool} (h : (a && b && c) = true) : a = true ∧ b = true ∧ c = true := by
  obtain ⟨h1, h2⟩ := ba h
  obtain ⟨h3, h4⟩ := ba h1
  exact ⟨h3, h4, h2⟩
theorem visB_ok {x : Str} (h : visB sc x = true) : Vis sc x := by
  unfold visB at h
  split at h
  · exact .inl (by assumption)
  · exact .inr (.inl (by assumption))
  · exact .inr (.inr (by assumption))
  · cases h
theorem glB_ok (ok : XOk P n T sc s0 X) {x : Str} (h : glB sc x = true) : Gl X x := by
  unfold glB at h
  split at h
  · show X.env.scope.names.lookup x = _
    rw [ok.eS]; assumption
  · cases h
theorem nm_ok (ok : XOk P n T sc s0 X) {i : Nat} {e : Expr} (h : nmB T.N s0 i e = true) : PG X e (gName i) := by
  cases e <;> try (cases h)
  rename_i x p
  obtain ⟨h1, h2⟩ := ba h
  have e1 : X.N[i]? = some x := by rw [ok.eN]; exact of_decide_eq_true h1
  obtain ⟨l, f⟩ := ok.st x h2
  exact pg_name ok.nd e1 (by rw [ok.eS]; exact l) (by rw [ok.eS]; exact f)
theorem nm_star {i : Nat} {e : Expr} {es : List Expr} {env : Env} (h : nmB T.N s0 i e = true) : assignEach (e :: es) env = (false, assign e env) :: assignEach es env := by
  cases e <;> first | rfl | cases h
theorem nms_ok (ok : XOk P n T sc s0 X) : ∀ {is : List Nat} {es : List Expr}, nmsB T.N s0 is es = true → PGs X es (gNames is) ∧ (assignEach es X.env).length = is.length ∧ (assignEach es X.env).findIdx? (·.1) = none
  | [], [], _ => ⟨pgs_nil, rfl, rfl⟩
  | [], _ :: _, h => by cases h
  | _ :: _, [], h => by cases h
  | i :: is, e :: es, h => by
    obtain ⟨h1, h2⟩ := ba h
    obtain ⟨a, b, c⟩ := nms_ok ok h2
    have q := nm_star (es := es) (env := X.env) h1
    refine ⟨pgs_cons (nm_ok ok h1) a (by rw [q]; rfl), by rw [q]; simp [b], ?_⟩
    rw [q, List.findIdx?_cons]
    simp [c]
theorem tg_ok (ok : XOk P n T sc s0 X) {t : M.Tgt} {e : Expr} (h : tgB T.N s0 t e = true) : PG X e (gOf X.F t) := by
  cases t with
  | nm i => exact nm_ok ok h
  | tp ts =>
    cases e <;> try (cases h)
    obtain ⟨a, b, c⟩ := nms_ok ok h
    exact pg_tup ok.calm a b c
theorem blk_ok (ok : XOk P n T sc s0 X) {scope : Scope} {own : List (Str × Nat)} (hb : BlkOk T.N sc scope own) (s : Shared) (H : Hp) (C : Addr) (cl : List (Str × Addr)) (fp : List Addr) : XOk P n T (relS scope sc) scope (X.blk s H scope (compEnvC scope cl C X.env) fp) := by
  have e : (compEnvC scope cl C X.env).scope = relS scope sc := by rw [← ok.eS]; rfl
  refine ⟨ok.eN, ok.nd, e, fun x hx => ?_, ok.calm, ok.room, rfl, ok.free, ok.fn, ok.gi, ok.tb, ok.cs, ok.ms, ok.at_, ok.ds⟩
  unfold locB at hx
  have key : ∀ k, k ≠ .free → scope.names.lookup x = some k → (relS scope sc).names.lookup x = some k := fun k hk h => lookup_relS_keep hk h
  split at hx
  · rename_i h
    exact ⟨.inl (key _ (by decide) h), .inr (key _ (by decide) h)⟩
  · rename_i h
    refine ⟨.inr (key _ (by decide) h), .inl ?_⟩
    show (scope.names.lookup x == some NameKind.cell) = true
    rw [h]; rfl
  · cases hx
theorem s_bopA {es : List Expr} {e : Expr} {pos : Pos} {wa : WE} {wb : WE} (ha : PE X e (lift X.F wa)) (hb : PE X (.BoolOp .And es pos) (lift X.F wb)) (hne : es ≠ []) :
    PE X (.BoolOp .And (e :: es) pos) (lift X.F fun σ h Q => wa σ h fun d h1 => match d with
    | .bl b => (match b == true with
      | true => wb σ h1 Q
      | false => Q (.bl b) h1)
    | _ => False) := by
  obtain ⟨e2, es2, rfl⟩ : ∃ e2 es2, es = e2 :: es2 := by cases es with
    | nil => exact absurd rfl hne
    | cons a b => exact ⟨a, b, rfl⟩
  refine (pe_and ha hb).imp fun σ H Q ⟨σa, h, Qa, rs, rh, q, k⟩ => ?_
  refine lift_go rs rh q fun d h1 v H1 q1 f1 r1 rh1 rs1 => ?_
  cases d with
  | bl b =>
    cases (show v = _ from r1)
    refine ⟨b, rfl, ?_⟩
    cases b with
    | true => exact lift_go rs1 rh1 q1 fun d h2 v H2 q2 f2 r2 rh2 _ => k _ _ _ _ q2 (f1.trans f2) r2 rh2
    | false => exact (k.go f1).now rh1 q1 rfl
  | _ => exact q1.elim
theorem s_bopO {es : List Expr} {e : Expr} {pos : Pos} {wa : WE} {wb : WE} (ha : PE X e (lift X.F wa)) (hb : PE X (.BoolOp .Or es pos) (lift X.F wb)) (hne : es ≠ []) :
    PE X (.BoolOp .Or (e :: es) pos) (lift X.F fun σ h Q => wa σ h fun d h1 => match d with
    | .bl b => (match b == false with
      | true => wb σ h1 Q
      | false => Q (.bl b) h1)
    | _ => False) := by
  obtain ⟨e2, es2, rfl⟩ : ∃ e2 es2, es = e2 :: es2 := by cases es with
    | nil => exact absurd rfl hne
    | cons a b => exact ⟨a, b, rfl⟩
  refine (pe_or ha hb).imp fun σ H Q ⟨σa, h, Qa, rs, rh, q, k⟩ => ?_
  refine lift_go rs rh q fun d h1 v H1 q1 f1 r1 rh1 rs1 => ?_
  cases d with
  | bl b =>
    cases (show v = _ from r1)
    refine ⟨b, rfl, ?_⟩
    cases b with
    | false => exact lift_go rs1 rh1 q1 fun d h2 v H2 q2 f2 r2 rh2 _ => k _ _ _ _ q2 (f1.trans f2) r2 rh2
    | true => exact (k.go f1).now rh1 q1 rfl
  | _ => exact q1.elim
/-- the last of and, or -/
theorem s_bop1 {o : BoolOp} {k : Bool} {e : Expr} {pos : Pos} {wa : WE} (ha : PE X e (lift X.F wa)) :
    PE X (.BoolOp o [e] pos) (lift X.F fun σ h Q => wa σ h fun d h1 => match d with
    | .bl b => (match b == k with
      | true => Q (.bl k) h1
      | false => Q (.bl b) h1)
    | _ => False) := by
  refine (pe_one ha).imp fun σ H Q ⟨σa, h, Qa, rs, rh, q, kk⟩ => ?_
  refine lift_go rs rh q fun d h1 v H1 q1 f1 r1 rh1 rs1 => ?_
  cases d with
  | bl b =>
    refine (kk.go f1).now rh1 ?_ r1
    cases b <;> cases k <;> exact q1
  | _ => exact q1.elim
theorem w_bopA {es : List Expr} {e : Expr} {pos : Pos} {wa : WE} {wb : WE} (ha : PT X e (liftT X.F wa)) (hb : PW X (.BoolOp .And es pos) (liftT X.F wb)) (hne : es ≠ []) :
    PW X (.BoolOp .And (e :: es) pos) (liftT X.F fun σ h Q => wa σ h fun d h1 => match d with
    | .bl b => (match b == true with
      | true => wb σ h1 Q
      | false => Q (.bl b) h1)
    | _ => False) := by
  obtain ⟨e2, es2, rfl⟩ : ∃ e2 es2, es = e2 :: es2 := by cases es with
    | nil => exact absurd rfl hne
    | cons a b => exact ⟨a, b, rfl⟩
  refine (pw_and ha hb).imp fun σ H Q ⟨σa, h, Qa, rs, rh, q, k⟩ => ?_
  refine ⟨σa, h, _, rs, rh, q, fun d h1 q1 => ?_⟩
  cases d with
  | bl b =>
    refine ⟨b, rfl, fun H1 f1 rh1 => ?_⟩
    cases b with
    | true => exact iteT ⟨σa, h1, _, rs.kp (f1.kp rh), rh1, q1, fun d h2 q2 => let ⟨b, e, kk⟩ := k d h2 q2; ⟨b, e, fun H2 f2 rh2 => kk H2 (f1.trans f2) rh2⟩⟩
    | false =>
      obtain ⟨b, e, kk⟩ := k _ _ q1
      cases e
      exact iteF (kk H1 f1 rh1)
  | _ => exact q1.elim
theorem w_bopO {es : List Expr} {e : Expr} {pos : Pos} {wa : WE} {wb : WE} (ha : PT X e (liftT X.F wa)) (hb : PW X (.BoolOp .Or es pos) (liftT X.F wb)) (hne : es ≠ []) :
    PW X (.BoolOp .Or (e :: es) pos) (liftT X.F fun σ h Q => wa σ h fun d h1 => match d with
    | .bl b => (match b == false with
      | true => wb σ h1 Q
      | false => Q (.bl b) h1)
    | _ => False) := by
  obtain ⟨e2, es2, rfl⟩ : ∃ e2 es2, es = e2 :: es2 := by cases es with
    | nil => exact absurd rfl hne
    | cons a b => exact ⟨a, b, rfl⟩
  refine (pw_or ha hb).imp fun σ H Q ⟨σa, h, Qa, rs, rh, q, k⟩ => ?_
  refine ⟨σa, h, _, rs, rh, q, fun d h1 q1 => ?_⟩
  cases d with
  | bl b =>
    refine ⟨b, rfl, fun H1 f1 rh1 => ?_⟩
    cases b with
    | false => exact iteF ⟨σa, h1, _, rs.kp (f1.kp rh), rh1, q1, fun d h2 q2 => let ⟨b, e, kk⟩ := k d h2 q2; ⟨b, e, fun H2 f2 rh2 => kk H2 (f1.trans f2) rh2⟩⟩
    | true =>
      obtain ⟨b, e, kk⟩ := k _ _ q1
      cases e
      exact iteT (kk H1 f1 rh1)
  | _ => exact q1.elim
theorem w_bop1A {k : Bool} {e : Expr} {pos : Pos} {wa : WE} (ha : PT X e (liftT X.F wa)) :
    PW X (.BoolOp .And [e] pos) (liftT X.F fun σ h Q => wa σ h fun d h1 => match d with
    | .bl b => (match b == k with
      | true => Q (.bl k) h1
      | false => Q (.bl b) h1)
    | _ => False) := by
  refine (pw_and1 ha).imp fun σ H Q ⟨σa, h, Qa, rs, rh, q, kk⟩ => ?_
  refine ⟨σa, h, _, rs, rh, q, fun d h1 q1 => ?_⟩
  cases d with
  | bl b =>
    have q2 : Qa (.bl b) h1 := by cases b <;> cases k <;> exact q1
    exact kk _ _ q2
  | _ => exact q1.elim
theorem w_bop1O {k : Bool} {e : Expr} {pos : Pos} {wa : WE} (ha : PT X e (liftT X.F wa)) :
    PW X (.BoolOp .Or [e] pos) (liftT X.F fun σ h Q => wa σ h fun d h1 => match d with
    | .bl b => (match b == k with
      | true => Q (.bl k) h1
      | false => Q (.bl b) h1)
    | _ => False) := by
  refine (pw_or1 ha).imp fun σ H Q ⟨σa, h, Qa, rs, rh, q, kk⟩ => ?_
  refine ⟨σa, h, _, rs, rh, q, fun d h1 q1 => ?_⟩
  cases d with
  | bl b =>
    have q2 : Qa (.bl b) h1 := by cases b <;> cases k <;> exact q1
    exact kk _ _ q2
  | _ => exact q1.elim
end

/-- the readings of one expression, as a value and as a test -/
structure EOk (X : L2.Cx) (e : Expr) (w : WE) : Prop where
  v : PE X e (lift X.F w)
  t : testB e = true → PT X e (liftT X.F w)
structure BOk (X : L2.Cx) (k : Bool) (es : List Expr) (w : WE) : Prop where
  v : ∀ pos, PE X (.BoolOp (if k then .And else .Or) es pos) (lift X.F w)
  t : testsB es = true → ∀ pos, PW X (.BoolOp (if k then .And else .Or) es pos) (liftT X.F w)
def C (P : M.Prog) (n : Nat) (xx : M.XP) : M.Cx := ⟨M.run P n, xx⟩
section
variable {P : M.Prog} {n : Nat} {T : Tb} {xx : M.XP}
theorem call_any {sc s0 : Scope} {X : L2.Cx} (ok : XOk P n T sc s0 X) {x : Str} {p pos : Pos} {l : List Expr} {f : M.Sx} {w : WA} (hx : x = sV f) (hf : f ∈ T.fs) (hg : glB sc x = true) (hp : plainN x = true)
    (hl : ∀ e es, l = e :: es → starEach (e :: es) X.env = (false, eval e X.env) :: starEach es X.env ∧ (backTo pos (starEach es X.env)).any (·.1) = false) (ha : PA X l (liftA X.F w)) (h0 : l = [] → ∀ σ h Q, w σ h Q → Q [] h) :
    PE X (.Call (.Name x p) l [] pos) (lift X.F fun σ h Q => w σ h fun ds h1 => M.run P n f ds h1 Q xx) := by
  obtain ⟨fa, fdc, ps, h1, h2, h3, h4⟩ := ok.fn f hf
  have hdb : (x == ("__debug__" : Str)) = false := by
    obtain ⟨a, _⟩ := ba hp
    simpa using a
  have hm : X.mg x = some (.ref fa) := by rw [hx]; exact h1
  cases l with
  | nil => exact (s_call0 (xx := xx) h3 ok.room (glB_ok ok hg) hm h2 h4 hdb).imp fun σ H Q ⟨σa, h, Qa, rs, rh, q, k⟩ => ⟨σa, h, Qa, rs, rh, h0 rfl _ _ _ q, k⟩
  | cons e es =>
    obtain ⟨a, b⟩ := hl e es rfl
    exact s_call h3 ok.room (glB_ok ok hg) hm h2 h4 hdb a b ha
theorem new_any {sc s0 : Scope} {X : L2.Cx} (ok : XOk P n T sc s0 X) {x : Str} {p pos : Pos} {l : List Expr} {c : M.Sx} {w : WA} (hx : x = sV c) (hc : c ∈ T.cs) (hg : glB sc x = true) (hp : plainN x = true)
    (hl : ∀ e es, l = e :: es → starEach (e :: es) X.env = (false, eval e X.env) :: starEach es X.env ∧ (backTo pos (starEach es X.env)).any (·.1) = false) (ha : PA X l (liftA X.F w)) (h0 : l = [] → ∀ σ h Q, w σ h Q → Q [] h) :
    PE X (.Call (.Name x p) l [] pos) (lift X.F fun σ h Q => w σ h fun ds h1 => M.run P n (M.mkN c) ds h1 Q xx) := by
  obtain ⟨hP, C, hm, hk, cl, mk⟩ := ok.cs c hc
  have hdb : (x == ("__debug__" : Str)) = false := by
    obtain ⟨a, _⟩ := ba hp
    simpa using a
  cases n with
  | zero =>
    cases l with
    | nil => exact ⟨fun pins s σ H Q I ⟨σa, h, Qa, rs, rh, q, k⟩ => by
        have := h0 rfl _ _ _ q
        simp only [M.run] at this⟩
    | cons e es =>
      obtain ⟨a, b⟩ := hl e es rfl
      refine ⟨fun pins s σ H Q I ⟨σa, h, Qa, rs, rh, q, k⟩ => ?_⟩
      refine wpAny_Call_Name_kw (ld_glob I (glB_ok ok hg) (by rw [hx]; exact hm) ?_ hdb)
      refine PySem.W.callWith_K (h₀ := X.base) I.ok.mod.kin hk (thn (ha.run pos pins s σ H (fun _ _ => False) I (liftA_go rs rh q fun ds h1 vs H1 q1 _ _ _ _ => by simp only [M.run] at q1)) fun us s1 ⟨vs, H1, I1, r, q⟩ => q.elim) a b
  | succ m =>
    obtain ⟨fa, fd, ps, mk1, F, hb⟩ := mk m rfl
    cases l with
    | nil => exact (s_new0 (xx := xx) hP hx hm cl mk1 F ok.room hb (glB_ok ok hg) hdb).imp fun σ H Q ⟨σa, h, Qa, rs, rh, q, k⟩ => ⟨σa, h, Qa, rs, rh, h0 rfl _ _ _ q, k⟩
    | cons e es =>
      obtain ⟨a, b⟩ := hl e es rfl
      exact s_new hP hx hm cl mk1 F ok.room hb (glB_ok ok hg) hdb a b ha
theorem ok_any : ∀ {l : List Expr} {pos : Pos} {env : Env}, (∀ e ∈ l, okX e = true) → (backTo pos (starEach l env)).any (·.1) = false
  | [], _, _, _ => rfl
  | e :: l, pos, env, h => by
    rw [ok_star (h e List.mem_cons_self)]
    show (false || (backTo pos (starEach l env)).any (·.1)) = false
    rw [ok_any fun e he => h e (List.mem_cons_of_mem _ he)]
    rfl
theorem oks_mt {sc s0 : Scope} : ∀ {ir : M.Es} {l : List Expr}, mtEs T sc s0 ir l = true → ∀ e ∈ l, okX e = true
  | .nil, [], _ => fun e he => nomatch he
  | .nil, _ :: _, h => by simp [mtEs] at h
  | .cons a r, [], h => by simp [mtEs] at h
  | .cons a r, x :: l, h => by
    simp only [mtEs] at h
    obtain ⟨h1, h2⟩ := ba h
    intro e he
    rcases List.mem_cons.mp he with z | he
    · rw [z]; exact ok_mt h1
    · exact oks_mt h2 e he
theorem nil_mt {sc s0 : Scope} {C : M.Cx} {ir : M.Es} {l : List Expr} (h : mtEs T sc s0 ir l = true) (e : l = []) : ∀ σ hh Q, M.wEs C ir σ hh Q → Q [] hh := by
  subst e
  cases ir with
  | nil => intro σ hh Q q; simpa only [M.wEs] using q
  | cons a r => simp [mtEs] at h
theorem opName {b : M.Blt} {bn : List Str} {sc : Scope} {x : Str} (h : bltB bn sc b x = true) : ∃ bk, bltK b = some bk ∧ x = bk.name ∧ x ∈ bn ∧ glB sc x = true := by
  unfold bltB at h
  cases e : bltK b with
  | none => rw [e] at h; cases h
  | some bk =>
    rw [e] at h
    obtain ⟨h1, h2, h3⟩ := ba3 h
    exact ⟨bk, rfl, of_decide_eq_true h1, by simpa using h2, h3⟩
theorem mthName {m : M.Mth} {x : Str} (h : mthB m x = true) : ∃ T id, mthT m = some (T, id, x) := by
  unfold mthB at h
  cases e : mthT m with
  | none => rw [e] at h; cases h
  | some z =>
    rw [e] at h
    obtain ⟨a, b, c⟩ := z
    have : x = c := of_decide_eq_true h
    subst this
    exact ⟨a, b, rfl⟩
theorem few_ok {l : List Expr} {pos : Pos} {env : Env} (h : ∀ e ∈ l, okX e = true) (hs : smallB l.length = true) :
    ((backTo pos (starEach l env)).all (fun x => !x.1) && (backToKw pos (keywordEach [] env)).all (fun x => x.1.isSome) && decide (l.length + ([] : List Keyword).length + (if ([] : List Keyword).isEmpty then 0 else 1) < 30)) = true := by
  have h1 : (backTo pos (starEach l env)).all (fun x => !x.1) = true := by
    have := ok_any (pos := pos) (env := env) h
    rw [List.all_eq_not_any_not]
    simpa using this
  have h2 : l.length < 20 := of_decide_eq_true hs
  rw [h1]
  have h3 : (backToKw pos (keywordEach [] env)).all (fun x => x.1.isSome) = true := rfl
  rw [h3]
  have h4 : decide (l.length + ([] : List Keyword).length + (if ([] : List Keyword).isEmpty then 0 else 1) < 30) = true := decide_eq_true (by simp; omega)
  rw [h4]
  rfl
end
end Snd
end
section
/-! Sound9: expressions, by recursion on the IR. -/
namespace Snd
open PySem L2 PySem.Spec PyProof.Rows
section
variable {P : M.Prog} {n : Nat} {T : Tb} {xx : M.XP}
theorem EOk.plain {X : L2.Cx} {x : Expr} {w : WE} (h : PE X x (lift X.F w)) (he : ∀ whole, isTrue x X.env whole = (do let v ← whole; standAt x.pos; holding [v] (truthy v))) : EOk X x w := ⟨h, fun _ => pt_plain h he⟩
theorem EOk.eq {X : L2.Cx} {x : Expr} {w w' : WE} (h : EOk X x w) (e : w' = w) : EOk X x w' := by rw [e]; exact h
mutual
theorem sndE : ∀ (ir : M.E) (x : Expr) (X : L2.Cx) (sc s0 : Scope), XOk P n T sc s0 X → mtE T sc s0 ir x = true → EOk X x (M.wE (C P n xx) ir)
  | .var i, x, X, sc, s0, ok, h => by
    cases x <;> try (exfalso; revert h; simp [mtE]; done)
    rename_i y p
    simp only [mtE] at h
    obtain ⟨h1, h2, h3⟩ := ba3 h
    obtain ⟨h4, h5⟩ := ba h3
    refine (EOk.plain (s_var (i := i) (by rw [ok.eN]; exact of_decide_eq_true h1) (by rw [ok.eS]; exact visB_ok h2) (by simpa using h4) (by simpa using h5)) (by intro _; rfl)).eq (by funext σ h Q; simp only [M.wE] <;> rfl)
  | .int k, x, X, sc, s0, ok, h => by
    cases x <;> try (exfalso; revert h; simp [mtE]; done)
    rename_i c j p
    cases c <;> try (exfalso; revert h; simp [mtE]; done)
    simp only [mtE] at h
    have e := of_decide_eq_true h
    subst e
    exact (EOk.plain (s_const (d := .int _) pe_int fun H => rfl) (by intro _; rfl)).eq (by funext σ h Q; simp only [M.wE])
  | .str s, x, X, sc, s0, ok, h => by
    cases x <;> try (exfalso; revert h; simp [mtE]; done)
    rename_i c j p
    cases c <;> try (exfalso; revert h; simp [mtE]; done)
    simp only [mtE] at h
    obtain ⟨h1, h2⟩ := ba h
    have e := of_decide_eq_true h1
    subst e
    have os : sOk s := fun c hc => of_decide_eq_true (List.all_eq_true.mp h2 c hc)
    exact (EOk.plain (s_const (d := .str s) pe_str fun H => ⟨rfl, os⟩) (by intro _; rfl)).eq (by funext σ h Q; simp only [M.wE])
  | .bl b, x, X, sc, s0, ok, h => by
    cases x <;> try (exfalso; revert h; simp [mtE]; done)
    rename_i c j p
    cases c <;> try (exfalso; revert h; simp [mtE]; done)
    simp only [mtE, beq_iff_eq] at h
    subst h
    exact (EOk.plain (s_const (d := .bl _) pe_bl fun H => rfl) (by intro _; rfl)).eq (by funext σ h Q; simp only [M.wE])
  | .non, x, X, sc, s0, ok, h => by
    cases x <;> try (exfalso; revert h; simp [mtE]; done)
    rename_i c j p
    cases c <;> try (exfalso; revert h; simp [mtE]; done)
    exact (EOk.plain (s_const (d := .non) pe_non fun H => rfl) (by intro _; rfl)).eq (by funext σ h Q; simp only [M.wE])
  | .gint y i, x, X, sc, s0, ok, h => by
    cases x <;> try (exfalso; revert h; simp [mtE]; done)
    simp only [mtE] at h
    obtain ⟨h, h4⟩ := ba h
    obtain ⟨h1, h2, h3⟩ := ba3 h
    have e := of_decide_eq_true h1
    subst e
    exact (EOk.plain (s_gint (glB_ok ok h3) (ok.gi (y, i) (by simpa using h2)) (by simpa using (ba h4).1)) (by intro _; rfl)).eq (by funext σ h Q; simp only [M.wE])
  | .slw a lo hi, x, X, sc, s0, ok, h => by
    cases x <;> try (exfalso; revert h; simp [mtE]; done)
    rename_i y s p
    cases s <;> try (exfalso; revert h; simp [mtE]; done)
    rename_i l u st p2
    cases st with
    | some _ => exact absurd h (by simp [mtE])
    | none =>
      simp only [mtE] at h
      obtain ⟨h1, h2, h3⟩ := ba3 h
      exact (EOk.plain (s_slw (sndE a _ X sc s0 ok h1).v (sndO lo _ X sc s0 ok h2) (sndO hi _ X sc s0 ok h3)) (by intro _; rfl)).eq (by funext σ h Q; simp only [M.wE])
  | .mnd es, x, X, sc, s0, ok, h => by
    cases x <;> try (exfalso; revert h; simp [mtE]; done)
    rename_i g l kw p
    cases g <;> try (exfalso; revert h; simp [mtE]; done)
    cases l with
    | nil => exact absurd h (by simp [mtE])
    | cons y l =>
      match kw, h with
      | [⟨kn, kv, kp⟩], h =>
        cases kv <;> try (exfalso; revert h; simp [mtE]; done)
        rename_i c j np
        cases c <;> try (exfalso; revert h; simp [mtE]; done)
        simp only [mtE] at h
        obtain ⟨h, h5⟩ := ba h
        obtain ⟨h, h4⟩ := ba h
        obtain ⟨h1, h2, h3⟩ := ba3 h
        have e := of_decide_eq_true h1
        subst e
        have e := of_decide_eq_true h2
        subst e
        have hl := oks_mt h5
        exact (EOk.plain (s_mnd ok.calm ok.units (glB_ok ok h4) (ok.free _ (by simpa using h3)) (ok_star (hl y List.mem_cons_self)) (ok_any hl) (sndEs es _ X sc s0 ok h5)) (by intro _; rfl)).eq (by funext σ h Q; simp only [M.wE])
      | [], h => exact absurd h (by simp [mtE])
      | _ :: _ :: _, h => exact absurd h (by simp [mtE])
  | .orv a b, x, X, sc, s0, ok, h => by
    cases x <;> try (exfalso; revert h; simp [mtE]; done)
    rename_i op l p
    cases op with
    | And => exact absurd h (by simp [mtE])
    | Or =>
      match l, h with
      | [y, z], h =>
        cases z <;> try (exfalso; revert h; simp [mtE]; done)
        rename_i k j q
        cases k <;> try (exfalso; revert h; simp [mtE]; done)
        simp only [mtE] at h
        obtain ⟨h1, h2⟩ := ba h
        exact (EOk.mk (s_orv (sndE a y X sc s0 ok h1).v (sndE b _ X sc s0 ok h2).v) fun z => by cases z).eq (by funext σ h Q; simp only [M.wE] <;> rfl)
      | [], h => exact absurd h (by simp [mtE])
      | [_], h => exact absurd h (by simp [mtE])
      | _ :: _ :: _ :: _, h => exact absurd h (by simp [mtE])
  | .tix y tab a, x, X, sc, s0, ok, h => by
    cases x <;> try (exfalso; revert h; simp [mtE]; done)
    rename_i o j p
    cases o <;> try (exfalso; revert h; simp [mtE]; done)
    simp only [mtE] at h
    obtain ⟨h, h5⟩ := ba h
    obtain ⟨h, h4⟩ := ba h
    obtain ⟨h1, h2, h3⟩ := ba3 h
    have e := of_decide_eq_true h1
    subst e
    obtain ⟨ad, e1, e2⟩ := ok.tb (y, tab) (by simpa using h2)
    exact (EOk.plain (s_tix (ok_ix (ok_mt h5)) (glB_ok ok h3) e1 (by simpa using (ba h4).1) e2 (sndE a _ X sc s0 ok h5).v) (by intro _; rfl)).eq (by funext σ h Q; simp only [M.wE] <;> rfl)
  | .gstr _ _, x, X, sc, s0, ok, h => by simp [mtE] at h
  | .tup es, x, X, sc, s0, ok, h => by
    cases x <;> try (exfalso; revert h; simp [mtE]; done)
    simp only [mtE] at h
    exact (EOk.plain (s_tup (sndEs es _ X sc s0 ok h)) (by intro _; rfl)).eq (by funext σ h Q; simp only [M.wE])
  | .lst es, x, X, sc, s0, ok, h => by
    cases x <;> try (exfalso; revert h; simp [mtE]; done)
    simp only [mtE] at h
    exact (EOk.plain (s_lst (sndEs es _ X sc s0 ok h)) (by intro _; rfl)).eq (by funext σ h Q; simp only [M.wE])
  | .dcn, x, X, sc, s0, ok, h => by
    cases x <;> try (exfalso; revert h; simp [mtE]; done)
    rename_i ks vs p
    cases ks <;> try (exfalso; revert h; simp [mtE]; done)
    cases vs <;> try (exfalso; revert h; simp [mtE]; done)
    exact (EOk.plain s_dcn (by intro _; rfl)).eq (by funext σ h Q; simp only [M.wE])
  | .dct k es, x, X, sc, s0, ok, h => by
    cases x <;> try (exfalso; revert h; simp [mtE]; done)
    rename_i ks vs p
    cases k with
    | succ _ => exact absurd h (by cases es <;> simp [mtE])
    | zero =>
      cases es with
      | nil =>
        cases ks <;> try (exfalso; revert h; simp [mtE]; done)
        cases vs <;> try (exfalso; revert h; simp [mtE]; done)
        exact (EOk.plain s_dct (by intro _; rfl)).eq (by funext σ h Q; simp only [M.wE])
      | cons a r =>
        simp only [mtE] at h
        obtain ⟨h1, h2⟩ := ba h
        obtain ⟨ws, hp, e1, e2, e3, e4⟩ := sndPs (.cons a r) ks vs X sc s0 ok h1
        have h15 := of_decide_eq_true h2
        have hne : ks ≠ [] := by
          rintro rfl
          cases r <;> simp [mtPs] at h1
        refine (EOk.plain (s_dsp (hp p) e2 e3 hne h15 (by omega)) (by intro _; rfl)).eq ?_
        funext σ h Q
        simp only [M.wE, ← e1, M.wEs]
  | .bad, x, X, sc, s0, ok, h => by
    refine ⟨⟨fun pins s σ H Q I ⟨_, _, _, _, _, q, _⟩ => ?_⟩, fun _ => ⟨fun pins s σ H Q I ⟨_, _, _, _, _, q, _⟩ => ?_⟩⟩
    · simp only [M.wE] at q
    · simp only [M.wE] at q
  | .lock i a, x, X, sc, s0, ok, h => by
    simp only [mtE] at h
    obtain ⟨h1, h2⟩ := ba h
    have ia := (sndE a x X sc s0 ok h2).v
    refine (EOk.plain (s_lock (i := i) ia) ?_).eq (by funext σ h Q; simp only [M.wE])
    cases x <;> first | (intro _; rfl) | cases h1
  | .lzip es, x, X, sc, s0, ok, h => by
    cases x <;> try (exfalso; revert h; simp [mtE]; done)
    rename_i g l kw p
    cases g <;> try (exfalso; revert h; simp [mtE]; done)
    match l, kw, h with
    | [y], [], h =>
      cases y <;> try (exfalso; revert h; simp [mtE]; done)
      rename_i g2 l2 kw2 p2
      cases g2 <;> try (exfalso; revert h; simp [mtE]; done)
      match l2, kw2, h with
      | [a, b], [], h =>
        simp only [mtE] at h
        obtain ⟨h, h7⟩ := ba h
        obtain ⟨h, h6⟩ := ba h
        obtain ⟨h, h5⟩ := ba h
        obtain ⟨h, h4⟩ := ba h
        obtain ⟨h1, h2, h3⟩ := ba3 h
        have e := of_decide_eq_true h1
        subst e
        have e := of_decide_eq_true h4
        subst e
        have hl := oks_mt h7
        exact (EOk.plain (s_lzip ok.calm (glB_ok ok h3) (ok.free _ (by simpa using h2)) (glB_ok ok h6) (ok.free _ (by simpa using h5)) (sndEs es _ X sc s0 ok h7) (ok_star (hl a (by simp))) (ok_any fun z hz => hl z (by simp at hz ⊢; exact .inr hz))) (by intro _; rfl)).eq (by funext σ h Q; simp only [M.wE])
      | [], _, h => exact absurd h (by simp [mtE])
      | [_], _, h => exact absurd h (by simp [mtE])
      | _ :: _ :: _ :: _, _, h => exact absurd h (by simp [mtE])
      | [_, _], _ :: _, h => exact absurd h (by simp [mtE])
    | [], _, h => exact absurd h (by simp [mtE])
    | _ :: _ :: _, _, h => exact absurd h (by simp [mtE])
    | [y], _ :: _, h => exact absurd h (by cases y <;> simp [mtE])
  | .rev a, x, X, sc, s0, ok, h => by
    cases x <;> try (exfalso; revert h; simp [mtE]; done)
    rename_i y j p
    simp only [mtE] at h
    obtain ⟨h1, h2⟩ := ba h
    obtain ⟨k, p1, p2, p3, rfl⟩ := revB_eq h1
    exact (EOk.plain (s_rev (sndE a y X sc s0 ok h2).v) (by intro _; rfl)).eq (by funext σ h Q; simp only [M.wE])
  | .tlr a, x, X, sc, s0, ok, h => by
    cases x <;> try (exfalso; revert h; simp [mtE]; done)
    rename_i y j p
    simp only [mtE] at h
    obtain ⟨h1, h2⟩ := ba h
    obtain ⟨k0, k, p0, p1, p2, p3, rfl⟩ := tlrB_eq h1
    exact (EOk.plain (s_tlr (sndE a y X sc s0 ok h2).v) (by intro _; rfl)).eq (by funext σ h Q; simp only [M.wE])
  | .lrng es, x, X, sc, s0, ok, h => by
    cases x <;> try (exfalso; revert h; simp [mtE]; done)
    rename_i g l kw p
    cases g <;> try (exfalso; revert h; simp [mtE]; done)
    match l, kw, h with
    | [y], [], h =>
      cases y <;> try (exfalso; revert h; simp [mtE]; done)
      rename_i g2 l2 kw2 p2
      cases g2 <;> try (exfalso; revert h; simp [mtE]; done)
      match l2, kw2, h with
      | a :: l3, [], h =>
        simp only [mtE] at h
        obtain ⟨h, h8⟩ := ba h
        obtain ⟨h, h7⟩ := ba h
        obtain ⟨h, h6⟩ := ba h
        obtain ⟨h, h5⟩ := ba h
        obtain ⟨h, h4⟩ := ba h
        obtain ⟨h1, h2, h3⟩ := ba3 h
        have e := of_decide_eq_true h1
        subst e
        have e := of_decide_eq_true h4
        subst e
        have hl := oks_mt h7
        have hy := hl a List.mem_cons_self
        match es, l3, h7, h8 with
        | .nil, _, h7, _ => simp [mtEs] at h7
        | .cons ia .nil, [], h7, _ =>
          simp only [mtEs] at h7
          have i1 := (sndE ia _ X sc s0 ok (ba h7).1).v
          exact (EOk.plain (s_lrng1 ok.calm (glB_ok ok h3) (ok.free _ (by simpa using h2)) (glB_ok ok h6) (ok.free _ (by simpa using h5)) i1 (ok_star hy)) (by intro _; rfl)).eq (by funext σ h Q; simp only [M.wE, M.wEs])
        | .cons ia (.cons ib .nil), [b], h7, _ =>
          simp only [mtEs] at h7
          obtain ⟨h71, h72⟩ := ba h7
          obtain ⟨h73, _⟩ := ba h72
          have i1 := (sndE ia _ X sc s0 ok h71).v
          have i2 := (sndE ib _ X sc s0 ok h73).v
          have sb := ok_mt h73
          exact (EOk.plain (s_lrng2 ok.calm (glB_ok ok h3) (ok.free _ (by simpa using h2)) (glB_ok ok h6) (ok.free _ (by simpa using h5)) i1 i2 (ok_star hy) (ok_star sb) (by rw [ok_star sb]; rfl)) (by intro _; rfl)).eq (by funext σ h Q; simp only [M.wE, M.wEs])
        | .cons _ .nil, _ :: _, h7, _ => simp [mtEs] at h7
        | .cons _ (.cons _ _), [], h7, _ => simp [mtEs] at h7
        | .cons _ (.cons _ (.cons _ _)), [_], h7, _ => simp [mtEs] at h7
        | .cons _ (.cons _ _), _ :: _ :: _, _, h8 =>
          have h8 := of_decide_eq_true h8
          simp only [List.length_cons] at h8
          omega
      | [], _, h => exact absurd h (by simp [mtE])
      | _ :: _, _ :: _, h => exact absurd h (by simp [mtE])
    | [], _, h => exact absurd h (by simp [mtE])
    | _ :: _ :: _, _, h => exact absurd h (by simp [mtE])
    | [y], _ :: _, h => exact absurd h (by cases y <;> simp [mtE])
  | .bin o a b, x, X, sc, s0, ok, h => by
    cases x <;> try (exfalso; revert h; simp [mtE]; done)
    simp only [mtE] at h
    obtain ⟨h1, h2, h3⟩ := ba3 h
    have e := opB_eq h1
    subst e
    exact (EOk.plain (s_bin (sndE a _ X sc s0 ok h2).v (sndE b _ X sc s0 ok h3).v) (by intro _; rfl)).eq (by funext σ h Q; simp only [M.wE])
  | .neg a, x, X, sc, s0, ok, h => by
    cases x <;> try (exfalso; revert h; simp [mtE]; done)
    rename_i op y p
    cases op <;> try (exfalso; revert h; simp [mtE]; done)
    simp only [mtE] at h
    exact (EOk.plain (s_neg (sndE a _ X sc s0 ok h).v) (by intro _; rfl)).eq (by funext σ h Q; simp only [M.wE] <;> rfl)
  | .not a, x, X, sc, s0, ok, h => by
    cases x <;> try (exfalso; revert h; simp [mtE]; done)
    rename_i op y p
    cases op <;> try (exfalso; revert h; simp [mtE]; done)
    simp only [mtE] at h
    obtain ⟨h1, h2⟩ := ba h
    have ih := sndE a _ X sc s0 ok h1
    exact (EOk.mk (s_not ih.v) fun _ => t_not (ih.t h2)).eq (by funext σ h Q; simp only [M.wE] <;> rfl)
  | .cmp o a b, x, X, sc, s0, ok, h => by
    cases x <;> try (exfalso; revert h; simp [mtE]; done)
    rename_i l ops rs p
    cases ops with
    | nil => exact absurd h (by simp [mtE])
    | cons op ops =>
      cases ops with
      | cons _ _ => exact absurd h (by simp [mtE])
      | nil => cases rs with
        | nil => exact absurd h (by simp [mtE])
        | cons r rs => cases rs with
          | cons _ _ => exact absurd h (by simp [mtE])
          | nil =>
            simp only [mtE] at h
            obtain ⟨h1, h2, h3⟩ := ba3 h
            have e := copB_eq h1
            subst e
            have i1 := (sndE a _ X sc s0 ok h2).v
            have i2 := (sndE b _ X sc s0 ok h3).v
            have hb := ok_behind (op := cop o) (ok_mt h3)
            exact (EOk.mk (s_cmp ok.units hb i1 i2) fun _ => t_cmp ok.units hb i1 i2).eq (by funext σ h Q; simp only [M.wE])
  | .chn o o' a b c, x, X, sc, s0, ok, h => by
    cases x <;> try (exfalso; revert h; simp [mtE]; done)
    rename_i l ops rs p
    match ops, rs, h with
    | [op, op'], [r, r'], h =>
      simp only [mtE] at h
      obtain ⟨h, h5⟩ := ba h
      obtain ⟨h, h4⟩ := ba h
      obtain ⟨h1, h2, h3⟩ := ba3 h
      have e := copB_eq h1
      subst e
      have e := copB_eq h2
      subst e
      have i1 := (sndE a _ X sc s0 ok h3).v
      have i2 := (sndE b _ X sc s0 ok h4).v
      have i3 := (sndE c _ X sc s0 ok h5).v
      have hb : lastMarks [cop o, cop o'] [r, r'] = false := ok_behind (op := cop o') (ok_mt h5)
      exact (EOk.mk (s_chn ok.units hb i1 i2 i3) fun _ => t_chn ok.units hb i1 i2 i3).eq (by funext σ h Q; simp only [M.wE] <;> rfl)
    | [], _, h => exact absurd h (by simp [mtE])
    | [_], _, h => exact absurd h (by simp [mtE])
    | _ :: _ :: _ :: _, _, h => exact absurd h (by simp [mtE])
    | [_, _], [], h => exact absurd h (by simp [mtE])
    | [_, _], [_], h => exact absurd h (by simp [mtE])
    | [_, _], _ :: _ :: _ :: _, h => exact absurd h (by simp [mtE])
  | .bop k es, x, X, sc, s0, ok, h => by
    cases x <;> try (exfalso; revert h; simp [mtE]; done)
    rename_i op l p
    cases l with
    | nil => exact absurd h (by cases op <;> simp [mtE])
    | cons y l =>
      cases op with
      | And =>
        simp only [mtE] at h
        obtain ⟨h1, h2, h3⟩ := ba3 h
        subst h1
        have b := sndB true es (y :: l) X sc s0 ok (by simp) h2
        exact (EOk.mk (b.v p) fun _ => (b.t h3 p).pt).eq (by funext σ h Q; simp only [M.wE])
      | Or =>
        simp only [mtE] at h
        obtain ⟨h1, h2, h3⟩ := ba3 h
        cases k with
        | true => cases h1
        | false =>
          have b := sndB false es (y :: l) X sc s0 ok (by simp) h2
          exact (EOk.mk (b.v p) fun _ => (b.t h3 p).pt).eq (by funext σ h Q; simp only [M.wE])
  | .ite c a b, x, X, sc, s0, ok, h => by
    cases x <;> try (exfalso; revert h; simp [mtE]; done)
    simp only [mtE] at h
    obtain ⟨h, h4⟩ := ba h
    obtain ⟨h1, h2, h3⟩ := ba3 h
    exact (EOk.mk (s_ite ((sndE c _ X sc s0 ok h1).t h2) (sndE a _ X sc s0 ok h3).v (sndE b _ X sc s0 ok h4).v) fun z => by cases z).eq (by funext σ h Q; simp only [M.wE] <;> rfl)
  | .ix a i, x, X, sc, s0, ok, h => by
    cases x <;> try (exfalso; revert h; simp [mtE]; done)
    simp only [mtE] at h
    obtain ⟨h1, h2⟩ := ba h
    exact (EOk.plain (s_ix ok.units (ok_ix (ok_mt h2)) (sndE a _ X sc s0 ok h1).v (sndE i _ X sc s0 ok h2).v) (by intro _; rfl)).eq (by funext σ h Q; simp only [M.wE])
  | .sl a lo hi, x, X, sc, s0, ok, h => by
    cases x <;> try (exfalso; revert h; simp [mtE]; done)
    rename_i y s p
    cases s <;> try (exfalso; revert h; simp [mtE]; done)
    rename_i l u st p2
    cases st with
    | some _ => exact absurd h (by simp [mtE])
    | none =>
      simp only [mtE] at h
      obtain ⟨h1, h2, h3⟩ := ba3 h
      exact (EOk.plain (s_sl (sndE a _ X sc s0 ok h1).v (sndO lo _ X sc s0 ok h2) (sndO hi _ X sc s0 ok h3)) (by intro _; rfl)).eq (by funext σ h Q; simp only [M.wE])
  | .call f es, x, X, sc, s0, ok, h => by
    cases x <;> try (exfalso; revert h; simp [mtE]; done)
    rename_i g l kw p
    cases g <;> try (exfalso; revert h; simp [mtE]; done)
    cases kw <;> try (exfalso; revert h; simp [mtE]; done)
    simp only [mtE] at h
    obtain ⟨h, h5⟩ := ba h
    obtain ⟨h, h4⟩ := ba h
    obtain ⟨h1, h2, h3⟩ := ba3 h
    have hl := oks_mt h5
    refine (EOk.plain (call_any (xx := xx) ok (of_decide_eq_true h1) (by simpa using h2) h3 h4 (fun e r q => ?_) (sndEs es _ X sc s0 ok h5) (fun q => nil_mt h5 q)) (by intro _; rfl)).eq (by funext σ h Q; simp only [M.wE] <;> rfl)
    subst q
    exact ⟨ok_star (hl e List.mem_cons_self), ok_any fun z hz => hl z (List.mem_cons_of_mem _ hz)⟩
  | .callD f k es, x, X, sc, s0, ok, h => by
    cases x <;> try (exfalso; revert h; simp [mtE]; done)
    rename_i g l kw p
    cases g <;> try (exfalso; revert h; simp [mtE]; done)
    rename_i g p3
    cases l with
    | nil => exact absurd h (by simp [mtE])
    | cons y l =>
      cases kw <;> try (exfalso; revert h; simp [mtE]; done)
      simp only [mtE] at h
      obtain ⟨h, h5⟩ := ba h
      obtain ⟨h, h4⟩ := ba h
      obtain ⟨h1, h2, h3⟩ := ba3 h
      have hl := oks_mt h5
      obtain ⟨fa, fdc, ps, us, e1, e2, e3, e4, e5⟩ := ok.ds (f, k) (by simpa using h2)
      have hdb : (g == ("__debug__" : Str)) = false := by
        obtain ⟨a, _⟩ := ba h4
        simpa using a
      have hx := of_decide_eq_true h1
      subst hx
      exact (EOk.plain (s_callD (xx := xx) e3 ok.room (glB_ok ok h3) e1 e2 e4 e5 hdb (ok_star (hl y List.mem_cons_self)) (ok_any fun z hz => hl z (List.mem_cons_of_mem _ hz)) (sndEs es _ X sc s0 ok h5)) (by intro _; rfl)).eq (by funext σ h Q; simp only [M.wE] <;> rfl)
  | .smv a, x, X, sc, s0, ok, h => by
    match x, h with
    | .Call (.Name x p) [.Call (.Attribute y nm apos) [] [] cpos] [] pos, h =>
      simp only [mtE] at h
      obtain ⟨h, h7⟩ := ba h
      obtain ⟨h, h6⟩ := ba h
      obtain ⟨h, h5⟩ := ba h
      obtain ⟨h, h4⟩ := ba h
      obtain ⟨h1, h2, h3⟩ := ba3 h
      have hn := of_decide_eq_true h4
      subst hn
      exact (EOk.plain (s_smv (of_decide_eq_true h1) ok.calm (glB_ok ok h3) (ok.free _ (by simpa using h2)) (ok_base h6) h5 (sndE a _ X sc s0 ok h7).v) (by intro _; rfl)).eq (by funext σ h Q; simp only [M.wE])
  | .fld a f, x, X, sc, s0, ok, h => by
    cases x <;> try (exfalso; revert h; simp [mtE]; done)
    simp only [mtE] at h
    obtain ⟨h1, h2, h3⟩ := ba3 h
    exact (EOk.plain (s_fld (of_decide_eq_true h1) (ok_base h2) (sndE a _ X sc s0 ok h3).v) (by intro _; rfl)).eq (by funext σ h Q; simp only [M.wE])
  | .newo c es, x, X, sc, s0, ok, h => by
    cases x <;> try (exfalso; revert h; simp [mtE]; done)
    rename_i g l kw p
    cases g <;> try (exfalso; revert h; simp [mtE]; done)
    cases kw <;> try (exfalso; revert h; simp [mtE]; done)
    simp only [mtE] at h
    obtain ⟨h, h5⟩ := ba h
    obtain ⟨h, h4⟩ := ba h
    obtain ⟨h1, h2, h3⟩ := ba3 h
    have hl := oks_mt h5
    refine (EOk.plain (new_any (xx := xx) ok (of_decide_eq_true h1) (by simpa using h2) h3 h4 (fun e r q => ?_) (sndEs es _ X sc s0 ok h5) (fun q => nil_mt h5 q)) (by intro _; rfl)).eq (by funext σ h Q; simp only [M.wE] <;> rfl)
    subst q
    exact ⟨ok_star (hl e List.mem_cons_self), ok_any fun z hz => hl z (List.mem_cons_of_mem _ hz)⟩
  | .mcall c m o es, x, X, sc, s0, ok, h => by
    cases x <;> try (exfalso; revert h; simp [mtE]; done)
    rename_i g l kw p
    cases g <;> try (exfalso; revert h; simp [mtE]; done)
    cases kw <;> try (exfalso; revert h; simp [mtE]; done)
    rename_i y nm apos
    simp only [mtE] at h
    obtain ⟨h, h7⟩ := ba h
    obtain ⟨h, h6⟩ := ba h
    obtain ⟨h, h5⟩ := ba h
    obtain ⟨h, h4⟩ := ba h
    obtain ⟨h1, h2, h3⟩ := ba3 h
    obtain ⟨C, fa, fd, ps, hm, cl, me, F, hb⟩ := ok.ms (c, m) (by simpa using h2)
    have hl := oks_mt h6
    have io := (sndE o _ X sc s0 ok h5).v
    cases l with
    | nil =>
      have key : ∀ σ hh Q, M.wEs (Snd.C P n xx) es σ hh Q → Q [] hh := nil_mt h6 rfl
      refine (EOk.plain ((s_mcall0 (xx := xx) (of_decide_eq_true h1) hm cl me F ok.room hb (ok_base h4) h3 io).imp fun σ H Q ⟨σa, hh, Qa, rs, rh, q, k⟩ => ⟨σa, hh, Qa, rs, rh, ?_, k⟩) (by intro _; rfl)).eq (w := M.wE (Snd.C P n xx) (.mcall c m o es)) rfl
      cases es with
      | nil => exact (by simpa only [M.wE, M.wEs] using q : M.wE (Snd.C P n xx) o σa hh fun x h1 => M.aIns x h1 fun p c' fs => c' = c ∧ List.lookup m fs = none ∧ (Snd.C P n xx).call (M.metN c m) [M.D.ref p] h1 Qa (Snd.C P n xx).ex)
      | cons _ _ => simp [mtEs] at h6
    | cons e r =>
      exact (EOk.plain (s_mcall (xx := xx) (of_decide_eq_true h1) hm cl me F ok.room hb (ok_base h4) (few_ok hl h7) h3 (ok_star (hl e List.mem_cons_self)) (ok_any fun z hz => hl z (List.mem_cons_of_mem _ hz)) io (sndEs es _ X sc s0 ok h6)) (by intro _; rfl)).eq (by funext σ h Q; simp only [M.wE] <;> rfl)
  | .blt b es, x, X, sc, s0, ok, h => by
    cases x <;> try (exfalso; revert h; simp [mtE]; done)
    rename_i g l kw p
    cases g <;> try (exfalso; revert h; simp [mtE]; done)
    cases l with
    | nil => exact absurd h (by simp [mtE])
    | cons y l =>
      cases kw <;> try (exfalso; revert h; simp [mtE]; done)
      simp only [mtE] at h
      obtain ⟨h1, h2⟩ := ba h
      obtain ⟨bk, e1, e2, e3, e4⟩ := opName h1
      have hl := oks_mt h2
      exact (EOk.plain (s_blt ok.calm ok.units e1 e2 (glB_ok ok e4) (ok.free _ e3) (ok_star (hl y List.mem_cons_self)) (ok_any fun z hz => hl z (List.mem_cons_of_mem _ hz)) (sndEs es _ X sc s0 ok h2)) (by intro _; rfl)).eq (by funext σ h Q; simp only [M.wE])
  | .isi a t, x, X, sc, s0, ok, h => by
    cases x <;> try (exfalso; revert h; simp [mtE]; done)
    rename_i g l kw p
    cases g <;> try (exfalso; revert h; simp [mtE]; done)
    rename_i nm np
    match l, kw, h with
    | [y, w], [], h =>
      cases w <;> try (exfalso; revert h; simp [mtE]; done)
      simp only [mtE] at h
      obtain ⟨h, h7⟩ := ba h
      obtain ⟨h, h6⟩ := ba h
      obtain ⟨h, h5⟩ := ba h
      obtain ⟨h, h4⟩ := ba h
      obtain ⟨h1, h2, h3⟩ := ba3 h
      have e := of_decide_eq_true h1
      subst e
      exact (EOk.plain (s_isi (glB_ok ok h3) (ok.free _ (by simpa using h2)) (of_decide_eq_true h4) (glB_ok ok h6) (ok.free _ (by simpa using h5)) (ok_star (ok_mt h7)) (sndE a _ X sc s0 ok h7).v) (by intro _; rfl)).eq (by funext σ h Q; simp only [M.wE] <;> rfl)
    | [], _, h => exact absurd h (by simp [mtE])
    | [_], _, h => exact absurd h (by simp [mtE])
    | _ :: _ :: _ :: _, _, h => exact absurd h (by simp [mtE])
    | [_, w], _ :: _, h => exact absurd h (by cases w <;> simp [mtE])
  | .mth m o es, x, X, sc, s0, ok, h => by
    cases x <;> try (exfalso; revert h; simp [mtE]; done)
    rename_i g l kw p
    cases g <;> try (exfalso; revert h; simp [mtE]; done)
    cases kw <;> try (exfalso; revert h; simp [mtE]; done)
    rename_i y nm apos
    simp only [mtE] at h
    obtain ⟨h, h6⟩ := ba h
    obtain ⟨h, h5⟩ := ba h
    obtain ⟨h, h4⟩ := ba h
    obtain ⟨h1, h2, h3⟩ := ba3 h
    obtain ⟨Ty, id, em⟩ := mthName h1
    have hl := oks_mt h5
    have io := (sndE o _ X sc s0 ok h4).v
    cases l with
    | nil =>
      have key : ∀ σ hh Q, M.wEs (C P n xx) es σ hh Q → Q [] hh := nil_mt h5 rfl
      refine (EOk.plain ((s_mth0 ok.units em rfl (ok_base h3) h2 io).imp fun σ H Q ⟨σa, hh, Qa, rs, rh, q, k⟩ => ⟨σa, hh, Qa, rs, rh, ?_, k⟩) (by intro _; rfl)).eq (w := M.wE (C P n xx) (.mth m o es)) rfl
      cases es with
      | nil => simpa only [M.wE, M.wEs] using q
      | cons _ _ => simp [mtEs] at h5
    | cons e r =>
      refine (EOk.plain (s_mth ok.units em rfl (ok_base h3) (few_ok hl h6) h2 (ok_star (hl e List.mem_cons_self)) (ok_any fun z hz => hl z (List.mem_cons_of_mem _ hz)) io (sndEs es _ X sc s0 ok h5)) (by intro _; rfl)).eq (by funext σ h Q; simp only [M.wE])
  | .lc elt t own k src ifs, x, X, sc, s0, ok, h => by
    cases x <;> try (exfalso; revert h; simp [mtE]; done)
    rename_i y gs scope p
    match gs, h with
    | [⟨tg, it, cs, a⟩], h =>
      simp only [mtE] at h
      obtain ⟨h, h10⟩ := ba h
      obtain ⟨h, h9⟩ := ba h
      obtain ⟨h, h8⟩ := ba h
      obtain ⟨h, h7⟩ := ba h
      obtain ⟨h, h6⟩ := ba h
      obtain ⟨h, h5⟩ := ba h
      obtain ⟨h, h4⟩ := ba h
      obtain ⟨h1, h2, h3⟩ := ba3 h
      have ea := of_decide_eq_true h1
      subst ea
      unfold compsB at h6
      cases eo : ownB T.N own with
      | none => rw [eo] at h6; cases h6
      | some ow =>
        rw [eo] at h6
        have blk := blkOk_by h6
        have em := ownB_map eo
        have iI := sndI k src it tg X sc s0 ok h4 (by
          intro e
          cases t with
          | nm _ => cases k <;> first | exact absurd e (by decide) | exact absurd h5 (by simp [tupK])
          | tp ts => cases tg <;> first | exact ⟨_, _, _, rfl⟩ | cases h3)
        have gT : ∀ (s : Shared) (H : Hp) (D : Addr) (cl : List (Str × Addr)) (fp : List Addr), PG (X.blk s H scope (compEnvC scope cl D X.env) fp) tg (gOf X.F t) := fun s H D cl fp => tg_ok (blk_ok ok blk s H D cl fp) h3
        have iE : ∀ (s : Shared) (H : Hp) (D : Addr) (cl : List (Str × Addr)) (fp : List Addr), PE (X.blk s H scope (compEnvC scope cl D X.env) fp) y (lift X.F (M.wE (C P n xx) elt)) := fun s H D cl fp => (sndE elt _ _ _ _ (blk_ok ok blk s H D cl fp) h10).v
        have iT : ∀ (s : Shared) (H : Hp) (D : Addr) (cl : List (Str × Addr)) (fp : List Addr), PTs (X.blk s H scope (compEnvC scope cl D X.env) fp) cs (liftT X.F (M.wB (C P n xx) true ifs)) := fun s H D cl fp => by
          have okb := blk_ok ok blk s H D cl fp
          match cs, ifs, h7, h8, h9 with
          | [], .nil, _, _, _ =>
            refine ⟨fun pins s σ H Q I ⟨σa, hh, Qa, rs, rh, q, kk⟩ => pts_nil.run pins s σ H Q I ?_⟩
            simp only [M.wB] at q
            obtain ⟨b, e, kk⟩ := kk _ _ q
            cases e
            exact kk H .refl rh
          | [], .cons _ _, h7, _, _ => simp [mtEs] at h7
          | [c], .nil, h7, _, _ => simp [mtEs] at h7
          | [c], .cons i r, h7, h8, _ =>
            simp only [mtEs] at h7
            obtain ⟨h71, h72⟩ := ba h7
            cases r with
            | cons _ _ => simp [mtEs] at h72
            | nil =>
              have ht := (sndE i c _ _ _ okb h71).t (ba h8).1
              refine pts_one (ht.imp fun σ H Q ⟨σa, hh, Qa, rs, rh, q, kk⟩ => ⟨σa, hh, _, rs, rh, (by simpa only [M.wB] using q), fun d h' q1 => ?_⟩)
              cases d with
              | bl b =>
                have q2 : Qa (.bl b) h' := by cases b <;> exact q1
                exact kk _ _ q2
              | _ => exact q1.elim
          | _ :: _ :: _, _, _, _, h9 =>
            have h9 := of_decide_eq_true h9
            simp only [List.length_cons] at h9
            omega
        have hfold : ∀ z, foldedSetIterable it X.env z = pure z := by
          intro z
          cases k with
          | seq =>
            cases src with
            | nil => simp [mtI] at h4
            | cons a r =>
              simp only [mtI] at h4
              exact ok_fold (ok_mt (ba h4).1)
          | keys =>
            cases src with
            | nil => simp [mtI] at h4
            | cons a r =>
              simp only [mtI] at h4
              exact ok_fold (ok_mt (ba h4).1)
          | _ =>
            cases src with
            | nil => simp [mtI] at h4
            | cons a r => cases it <;> first | rfl | (simp [mtI] at h4)
        have key := pe_lc (pos := p) (elt := y) ok.calm ok.nd iI (by rw [ok.eN, ok.eS]; exact blk) gT iT iE hfold
        rw [em] at key
        refine (EOk.plain (key.imp fun σ H Q q => lc_ok h2 q) (by intro _; rfl)).eq (by funext σ h Q; simp only [M.wE] <;> rfl)
    | [], h => exact absurd h (by simp [mtE])
    | _ :: _ :: _, h => exact absurd h (by simp [mtE])
theorem sndEs : ∀ (ir : M.Es) (l : List Expr) (X : L2.Cx) (sc s0 : Scope), XOk P n T sc s0 X → mtEs T sc s0 ir l = true → PA X l (liftA X.F (M.wEs (C P n xx) ir))
  | .nil, l, X, sc, s0, ok, h => by
    cases l with
    | cons _ _ => simp [mtEs] at h
    | nil =>
      have e : M.wEs (C P n xx) .nil = fun _ h Q => Q [] h := by funext σ h Q; simp only [M.wEs]
      rw [e]
      exact s_nil
  | .cons a r, l, X, sc, s0, ok, h => by
    cases l with
    | nil => simp [mtEs] at h
    | cons x l =>
      simp only [mtEs] at h
      obtain ⟨h1, h2⟩ := ba h
      have e : M.wEs (C P n xx) (.cons a r) = fun σ h Q => M.wE (C P n xx) a σ h fun d h1 => M.wEs (C P n xx) r σ h1 fun ds h2 => Q (d :: ds) h2 := by funext σ h Q; simp only [M.wEs]
      rw [e]
      exact s_cons (ok_star (ok_mt h1)) (sndE a _ X sc s0 ok h1).v (sndEs r _ X sc s0 ok h2)
theorem sndPs : ∀ (ir : M.Es) (ks : List (Option Expr)) (vs : List Expr) (X : L2.Cx) (sc s0 : Scope), XOk P n T sc s0 X → mtPs T sc s0 ir ks vs = true →
    ∃ ws : List (WE × WE), (∀ pos, PPs X pos ks vs (ws.map fun w => (lift X.F w.1, lift X.F w.2))) ∧ M.wEs (C P n xx) ir = wPs ws ∧ ks.all (·.isSome) = true ∧ ks.length = vs.length ∧ ws.length = ks.length
  | .nil, ks, vs, X, sc, s0, ok, h => by
    cases ks with
    | cons _ _ => simp [mtPs] at h
    | nil =>
      cases vs with
      | cons _ _ => simp [mtPs] at h
      | nil => exact ⟨[], fun pos => pps_nil, by funext σ h Q; simp only [M.wEs, wPs], rfl, rfl, rfl⟩
  | .cons a .nil, ks, vs, X, sc, s0, ok, h => by simp [mtPs] at h
  | .cons a (.cons b r), ks, vs, X, sc, s0, ok, h => by
    match ks, vs, h with
    | some x :: ks, y :: vs, h =>
      simp only [mtPs] at h
      obtain ⟨h1, h2, h3⟩ := ba3 h
      obtain ⟨ws, hp, e1, e2, e3, e4⟩ := sndPs r ks vs X sc s0 ok h3
      refine ⟨(M.wE (C P n xx) a, M.wE (C P n xx) b) :: ws, fun pos => pps_cons (sndE a x X sc s0 ok h1).v (sndE b y X sc s0 ok h2).v (hp pos), ?_, ?_, ?_, ?_⟩
      · funext σ h Q; simp only [M.wEs, wPs, e1]
      · simpa using e2
      · simp [e3]
      · simp [e4]
    | [], _, h => simp [mtPs] at h
    | none :: _, [], h => simp [mtPs] at h
    | none :: _, _ :: _, h => simp [mtPs] at h
    | some _ :: _, [], h => simp [mtPs] at h
theorem sndB : ∀ (k : Bool) (ir : M.Es) (l : List Expr) (X : L2.Cx) (sc s0 : Scope), XOk P n T sc s0 X → l ≠ [] → mtEs T sc s0 ir l = true → BOk X k l (M.wB (C P n xx) k ir)
  | k, .nil, l, X, sc, s0, ok, hne, h => by
    cases l with
    | cons _ _ => simp [mtEs] at h
    | nil => exact absurd rfl hne
  | k, .cons a r, l, X, sc, s0, ok, hne, h => by
    cases l with
    | nil => simp [mtEs] at h
    | cons x l =>
      simp only [mtEs] at h
      obtain ⟨h1, h2⟩ := ba h
      have ia := sndE a x X sc s0 ok h1
      cases l with
      | nil =>
        cases r with
        | cons _ _ => simp [mtEs] at h2
        | nil =>
          have e : M.wB (C P n xx) k (.cons a .nil) = fun σ h Q => M.wE (C P n xx) a σ h fun d h1 => match d with
            | .bl b => (match b == k with
              | true => Q (.bl k) h1
              | false => Q (.bl b) h1)
            | _ => False := by funext σ h Q; simp only [M.wB] <;> rfl
          rw [e]
          refine ⟨fun pos => ?_, fun ht pos => ?_⟩
          · exact s_bop1 ia.v
          · have ht := (ba ht).1
            cases k with
            | true => exact w_bop1A (ia.t ht)
            | false => exact w_bop1O (ia.t ht)
      | cons x2 l2 =>
        have ib := sndB k r (x2 :: l2) X sc s0 ok (by simp) h2
        have e : M.wB (C P n xx) k (.cons a r) = fun σ h Q => M.wE (C P n xx) a σ h fun d h1 => match d with
          | .bl b => (match b == k with
            | true => M.wB (C P n xx) k r σ h1 Q
            | false => Q (.bl b) h1)
          | _ => False := by funext σ h Q; simp only [M.wB] <;> rfl
        rw [e]
        cases k with
        | true => exact ⟨fun pos => s_bopA ia.v (ib.v pos) (by simp), fun ht pos => w_bopA (ia.t (ba ht).1) (ib.t (ba ht).2 pos) (by simp)⟩
        | false => exact ⟨fun pos => s_bopO ia.v (ib.v pos) (by simp), fun ht pos => w_bopO (ia.t (ba ht).1) (ib.t (ba ht).2 pos) (by simp)⟩
theorem sndO : ∀ (ir : M.Es) (o : Option Expr) (X : L2.Cx) (sc s0 : Scope), XOk P n T sc s0 X → mtO T sc s0 ir o = true → PO X o (liftO X.F (M.wO (C P n xx) ir))
  | .nil, o, X, sc, s0, ok, h => by
    cases o with
    | some _ => simp [mtO] at h
    | none =>
      have e : M.wO (C P n xx) .nil = fun _ h Q => Q none h := by funext σ h Q; simp only [M.wO]
      rw [e]
      exact s_nopart
  | .cons a r, o, X, sc, s0, ok, h => by
    cases o with
    | none => simp [mtO] at h
    | some x =>
      cases r with
      | cons _ _ => simp [mtO] at h
      | nil =>
        simp only [mtO] at h
        have e : M.wO (C P n xx) (.cons a .nil) = fun σ h Q => M.wE (C P n xx) a σ h fun d h1 => match d with | .int n => Q (some n) h1 | _ => False := by funext σ h Q; simp only [M.wO] <;> rfl
        rw [e]
        exact s_part (sndE a _ X sc s0 ok (ba h).1).v
theorem sndI : ∀ (k : M.Itk) (ir : M.Es) (e tg : Expr) (X : L2.Cx) (sc s0 : Scope), XOk P n T sc s0 X → mtI T sc s0 k ir e = true → (needT k = true → ∃ es kk p, tg = .Tuple es kk p) → PI X tg e (liftI X.F k (M.wEs (C P n xx) ir))
  | k, .nil, e, tg, X, sc, s0, ok, h, ht => by simp [mtI] at h
  | k, .cons a r, e, tg, X, sc, s0, ok, h, ht => by
    have w1 : M.wEs (C P n xx) (.cons a .nil) = fun σ h Q => M.wE (C P n xx) a σ h fun d h1 => Q [d] h1 := by funext σ h Q; simp only [M.wEs]
    cases k <;> try (exfalso; revert h; simp [mtI]; done)
    · simp only [mtI] at h
      obtain ⟨h1, h2⟩ := ba h
      cases r with
      | cons _ _ => cases h2
      | nil =>
        rw [w1]
        exact i_seq (sndE a _ X sc s0 ok h1).v
    · cases e <;> try (exfalso; revert h; simp [mtI]; done)
      rename_i g l kw p
      cases g <;> try (exfalso; revert h; simp [mtI]; done)
      cases l with
      | nil => exact absurd h (by simp [mtI])
      | cons y l =>
        cases kw <;> try (exfalso; revert h; simp [mtI]; done)
        simp only [mtI] at h
        obtain ⟨h, h6⟩ := ba h
        obtain ⟨h, h5⟩ := ba h
        obtain ⟨h, h4⟩ := ba h
        obtain ⟨h1, h2, h3⟩ := ba3 h
        have e := of_decide_eq_true h1
        subst e
        have ia := (sndE a _ X sc s0 ok h4).v
        have sy := ok_mt h4
        match l, r, h5, h6 with
        | [], .nil, _, _ =>
          rw [w1]
          exact i_rng1 (glB_ok ok h3) (ok.free _ (by simpa using h2)) (ok_star (es := []) sy) ia
        | [], .cons _ _, h5, _ => simp [mtEs] at h5
        | [z], .nil, h5, _ => simp [mtEs] at h5
        | [z], .cons b r, h5, _ =>
          simp only [mtEs] at h5
          obtain ⟨h51, h52⟩ := ba h5
          cases r with
          | cons _ _ => simp [mtEs] at h52
          | nil =>
            have w2 : M.wEs (C P n xx) (.cons a (.cons b .nil)) = fun σ h Q => M.wE (C P n xx) a σ h fun d h1 => M.wE (C P n xx) b σ h1 fun d2 h2 => Q [d, d2] h2 := by funext σ h Q; simp only [M.wEs]
            rw [w2]
            have sz := ok_mt h51
            exact i_rng2 (glB_ok ok h3) (ok.free _ (by simpa using h2)) (by rw [ok_star sy, ok_star sz]; rfl) (ok_star (es := []) sz) ia (sndE b _ X sc s0 ok h51).v
        | [z, z2], .nil, h5, _ => simp [mtEs] at h5
        | [z, z2], .cons b .nil, h5, _ => simp [mtEs] at h5
        | [z, z2], .cons b (.cons c r), h5, _ =>
          simp only [mtEs] at h5
          obtain ⟨h51, h52⟩ := ba h5
          obtain ⟨h53, h54⟩ := ba h52
          cases r with
          | cons _ _ => simp [mtEs] at h54
          | nil =>
            have w3 : M.wEs (C P n xx) (.cons a (.cons b (.cons c .nil))) = fun σ h Q => M.wE (C P n xx) a σ h fun d h1 => M.wE (C P n xx) b σ h1 fun d2 h2 => M.wE (C P n xx) c σ h2 fun d3 h3 => Q [d, d2, d3] h3 := by funext σ h Q; simp only [M.wEs]
            rw [w3]
            have sz := ok_mt h51
            have sz2 := ok_mt h53
            exact i_rng3 (glB_ok ok h3) (ok.free _ (by simpa using h2)) (by rw [ok_star sy, ok_star sz, ok_star sz2]; rfl) (by rw [ok_star sz, ok_star sz2]; rfl) (ok_star (es := []) sz2) ia (sndE b _ X sc s0 ok h51).v (sndE c _ X sc s0 ok h53).v
        | _ :: _ :: _ :: _, _, _, h6 =>
          have h6 := of_decide_eq_true h6
          simp only [List.length_cons] at h6
          omega
    · obtain ⟨es, kk, tp, rfl⟩ := ht rfl
      cases e <;> try (exfalso; revert h; simp [mtI]; done)
      rename_i g l kw p
      cases g <;> try (exfalso; revert h; simp [mtI]; done)
      match l, kw, h with
      | [y, z], [], h =>
        simp only [mtI] at h
        obtain ⟨h, h5⟩ := ba h
        obtain ⟨h, h4⟩ := ba h
        obtain ⟨h1, h2, h3⟩ := ba3 h
        have e := of_decide_eq_true h1
        subst e
        have w3 : M.wEs (C P n xx) (.cons a r) = fun σ h Q => M.wE (C P n xx) a σ h fun d h1 => M.wEs (C P n xx) r σ h1 fun ds h2 => Q (d :: ds) h2 := by funext σ h Q; simp only [M.wEs]
        rw [w3]
        have sy := ok_mt h4
        have sz := oks_mt h5 z (by simp)
        have hs : starEach [y, z] X.env = (false, eval y X.env) :: starEach [z] X.env := ok_star sy
        exact i_zip (glB_ok ok h3) (ok.free _ (by simpa using h2)) (s_cons hs (sndE a _ X sc s0 ok h4).v (sndEs r _ X sc s0 ok h5)) hs (by rw [ok_star (es := []) sz]; rfl)
      | [], _, h => exact absurd h (by simp [mtI])
      | [_], _, h => exact absurd h (by simp [mtI])
      | _ :: _ :: _ :: _, _, h => exact absurd h (by simp [mtI])
      | [_, _], _ :: _, h => exact absurd h (by simp [mtI])
    · obtain ⟨es, kk, tp, rfl⟩ := ht rfl
      cases e <;> try (exfalso; revert h; simp [mtI]; done)
      rename_i g l kw p
      cases g <;> try (exfalso; revert h; simp [mtI]; done)
      match l, kw, h with
      | [y], [], h =>
        simp only [mtI] at h
        obtain ⟨h, h5⟩ := ba h
        obtain ⟨h, h4⟩ := ba h
        obtain ⟨h1, h2, h3⟩ := ba3 h
        have e := of_decide_eq_true h1
        subst e
        cases r with
        | cons _ _ => cases h5
        | nil =>
          rw [w1]
          exact i_enum (glB_ok ok h3) (ok.free _ (by simpa using h2)) (ok_star (es := []) (ok_mt h4)) (sndE a _ X sc s0 ok h4).v
      | [], _, h => exact absurd h (by simp [mtI])
      | _ :: _ :: _, _, h => exact absurd h (by simp [mtI])
      | [_], _ :: _, h => exact absurd h (by simp [mtI])
    · obtain ⟨es, kk, tp, rfl⟩ := ht rfl
      cases e <;> try (exfalso; revert h; simp [mtI]; done)
      rename_i g l kw p
      cases g <;> try (exfalso; revert h; simp [mtI]; done)
      match l, kw, h with
      | [], [], h =>
        simp only [mtI] at h
        obtain ⟨h, h5⟩ := ba h
        obtain ⟨h, h4⟩ := ba h
        obtain ⟨h1, h2, h3⟩ := ba3 h
        have e := of_decide_eq_true h1
        subst e
        cases r with
        | cons _ _ => cases h5
        | nil =>
          rw [w1]
          exact i_items (ok_base h3) h2 (sndE a _ X sc s0 ok h4).v
      | _ :: _, _, h => exact absurd h (by simp [mtI])
      | [], _ :: _, h => exact absurd h (by simp [mtI])
    · cases e <;> try (exfalso; revert h; simp [mtI]; done)
      rename_i g l kw p
      cases g <;> try (exfalso; revert h; simp [mtI]; done)
      match l, kw, h with
      | [], [], h =>
        simp only [mtI] at h
        obtain ⟨h, h5⟩ := ba h
        obtain ⟨h, h4⟩ := ba h
        obtain ⟨h1, h2, h3⟩ := ba3 h
        have e := of_decide_eq_true h1
        subst e
        cases r with
        | cons _ _ => cases h5
        | nil =>
          rw [w1]
          exact i_vals (ok_base h3) h2 (sndE a _ X sc s0 ok h4).v
      | _ :: _, _, h => exact absurd h (by simp [mtI])
      | [], _ :: _, h => exact absurd h (by simp [mtI])
    · cases e <;> try (exfalso; revert h; simp [mtI]; done)
      rename_i g l kw p
      cases g <;> try (exfalso; revert h; simp [mtI]; done)
      match l, kw, h with
      | [y], [], h =>
        simp only [mtI] at h
        obtain ⟨h, h5⟩ := ba h
        obtain ⟨h, h4⟩ := ba h
        obtain ⟨h1, h2, h3⟩ := ba3 h
        have e := of_decide_eq_true h1
        subst e
        cases r with
        | cons _ _ => cases h5
        | nil =>
          rw [w1]
          exact i_rev (glB_ok ok h3) (ok.free _ (by simpa using h2)) (ok_star (es := []) (ok_mt h4)) (sndE a _ X sc s0 ok h4).v
      | [], _, h => exact absurd h (by simp [mtI])
      | _ :: _ :: _, _, h => exact absurd h (by simp [mtI])
      | [_], _ :: _, h => exact absurd h (by simp [mtI])
    · simp only [mtI] at h
      obtain ⟨h1, h2⟩ := ba h
      cases r with
      | cons _ _ => cases h2
      | nil =>
        rw [w1]
        exact i_keys (sndE a _ X sc s0 ok h1).v
    · cases e <;> try (exfalso; revert h; simp [mtI]; done)
      rename_i g l kw p
      cases g <;> try (exfalso; revert h; simp [mtI]; done)
      match l, kw, h with
      | [y], [], h =>
        cases y <;> try (exfalso; revert h; simp [mtI]; done)
        rename_i g2 l2 kw2 p2
        cases g2 <;> try (exfalso; revert h; simp [mtI]; done)
        match l2, kw2, h with
        | [b], [], h =>
          simp only [mtI] at h
          obtain ⟨h, h8⟩ := ba h
          obtain ⟨h, h7⟩ := ba h
          obtain ⟨h, h6⟩ := ba h
          obtain ⟨h, h5⟩ := ba h
          obtain ⟨h, h4⟩ := ba h
          obtain ⟨h1, h2, h3⟩ := ba3 h
          have e := of_decide_eq_true h1
          subst e
          have e := of_decide_eq_true h4
          subst e
          cases r with
          | cons _ _ => cases h8
          | nil =>
            rw [w1]
            exact i_rrng (glB_ok ok h3) (ok.free _ (by simpa using h2)) (glB_ok ok h6) (ok.free _ (by simpa using h5)) (ok_star (es := []) (ok_mt h7)) (sndE a _ X sc s0 ok h7).v
        | [], _, h => exact absurd h (by simp [mtI])
        | _ :: _ :: _, _, h => exact absurd h (by simp [mtI])
        | [_], _ :: _, h => exact absurd h (by simp [mtI])
      | [], _, h => exact absurd h (by simp [mtI])
      | _ :: _ :: _, _, h => exact absurd h (by simp [mtI])
      | [z], _ :: _, h => exact absurd h (by cases z <;> simp [mtI])
end
end
end Snd
end
section
/-! Sound10: statements, defs. -/
namespace Snd
open PySem L2 PySem.Spec PyProof.Rows

def swV (sc : Scope) (t : Str) (p : Pos) (scope : Scope) (vp : Pos) : Bool := (if sc.kind.isAnnotationScope then ScopeKind.function else sc.kind) == .function && sc.names.lookup t == some .local && p.line == vp.line && !(scope.names.any fun (n, k) => n == t && (k == .local || k == .cell))
theorem sw_eq {elt : Expr} {gs : List Comprehension} {scope : Scope} {vp p : Pos} {t : Str} {l : Nat} {env : Env} : swapsWith (.ListComp elt gs scope vp) (some (.Name t p)) l env = pure (swV env.scope t p scope vp) := rfl
theorem sw_sole {elt : Expr} {gs : List Comprehension} {scope : Scope} {vp p : Pos} {t : Str} {l : Nat} {env : Env} : swapsWithSole [.Name t p] (.ListComp elt gs scope vp) l env = pure (swV env.scope t p scope vp) := rfl
def compX : Expr → Bool
  | .ListComp .. => true
  | .SetComp .. => true
  | .DictComp .. => true
  | _ => false
def tupX : Expr → Bool
  | .Tuple .. => true
  | _ => false
theorem sw_plain {e : Expr} (h : compX e = false) {o : Option Expr} {l : Nat} {env : Env} : swapsWith e o l env = pure false := by cases e <;> first | rfl | cases h
/-- a target and a value whose stores are in order -/
def asgB (tg e : Expr) : Bool := match tg with
  | .Name _ _ => true
  | .Tuple .. => !(tupX e) && !(compX e)
  | _ => false
def augB : M.Bop → Bool
  | .add => true
  | .sub => true
  | _ => false
mutual
def mtS (T : Tb) : Scope → M.S → Stmt → Bool
  | sc, .asg t e, s => (match s with
    | .Assign [tg] x _ => tgB T.N sc t tg && mtE T sc sc e x && asgB tg x
    | _ => false)
  | sc, .sfld c o f e, s => (match s with
    | .Assign [.Attribute a nm _] x _ => decide (nm = sV f) && T.at_.contains (c, f) && mtE T sc sc o a && mtE T sc sc e x
    | _ => false)
  | sc, .six o i e, s => (match s with
    | .Assign [.Subscript a j _] x _ => mtE T sc sc o a && mtE T sc sc i j && mtE T sc sc e x
    | _ => false)
  | sc, .aug i o e, s => (match s with
    | .AugAssign (.Name x _) op y _ => nmB T.N sc i (.Name x ⟨0, 0, 0, 0⟩) && opB o op && mtE T sc sc e y && augB o
    | _ => false)
  | sc, .ex e, s => (match s with
    | .Expr x _ => mtE T sc sc e x && !(compX x)
    | _ => false)
  | sc, .ret e, s => (match s with
    | .Return (some x) _ => mtE T sc sc e x
    | _ => false)
  | sc, .retN, s => (match s with
    | .Return none _ => true
    | _ => false)
  | sc, .ife c a b, s => (match s with
    | .If x l r _ => mtE T sc sc c x && testB x && mtSs T sc a l && mtSs T sc b r
    | _ => false)
  | sc, .whl c b, s => (match s with
    | .While x l [] _ => mtE T sc sc c x && testB x && mtSs T sc b l
    | _ => false)
  | sc, .for_ t k src b, s => (match s with
    | .For tg it l [] _ => tgB T.N sc t tg && tupK k t && mtI T sc sc k src it && mtSs T sc b l
    | _ => false)
  | sc, .pass, s => (match s with
    | .Pass _ => true
    | _ => false)
  | sc, .brk, s => (match s with
    | .Break _ => true
    | _ => false)
  | sc, .cont, s => (match s with
    | .Continue _ => true
    | _ => false)
  | sc, .bad, s => true
  | sc, .lock i s, x => mtS T sc s x
  | sc, .lock2 i s, x => mtS T sc s x
def mtSs (T : Tb) : Scope → M.Ss → List Stmt → Bool
  | sc, .nil, l => l.isEmpty
  | sc, .cons s r, l => (match l with
    | x :: y => mtS T sc s x && mtSs T sc r y
    | [] => false)
end
section
variable {P : M.Prog} {n : Nat} {T : Tb} {xx : M.XP}
theorem fold_mt {sc s0 : Scope} {k : M.Itk} {src : M.Es} {it : Expr} (h4 : mtI T sc s0 k src it = true) {env : Env} : ∀ z, foldedSetIterable it env z = pure z := by
  intro z
  cases k with
  | seq =>
    cases src with
    | nil => simp [mtI] at h4
    | cons a r =>
      simp only [mtI] at h4
      exact ok_fold (ok_mt (ba h4).1)
  | keys =>
    cases src with
    | nil => simp [mtI] at h4
    | cons a r =>
      simp only [mtI] at h4
      exact ok_fold (ok_mt (ba h4).1)
  | _ =>
    cases src with
    | nil => simp [mtI] at h4
    | cons a r => cases it <;> first | rfl | (simp [mtI] at h4)
theorem ifs_ok {sc s0 : Scope} {Y : L2.Cx} (okb : XOk P n T sc s0 Y) {cs : List Expr} {ifs : M.Es} (h7 : mtEs T sc s0 ifs cs = true) (h8 : testsB cs = true) (h9 : decide (cs.length < 2) = true) : PTs Y cs (liftT Y.F (M.wB (C P n xx) true ifs)) := by
  match cs, ifs, h7, h8, h9 with
  | [], .nil, _, _, _ =>
    refine ⟨fun pins s σ H Q I ⟨σa, hh, Qa, rs, rh, q, kk⟩ => pts_nil.run pins s σ H Q I ?_⟩
    simp only [M.wB] at q
    obtain ⟨b, e, kk⟩ := kk _ _ q
    cases e
    exact kk H .refl rh
  | [], .cons _ _, h7, _, _ => simp [mtEs] at h7
  | [c], .nil, h7, _, _ => simp [mtEs] at h7
  | [c], .cons i r, h7, h8, _ =>
    simp only [mtEs] at h7
    obtain ⟨h71, h72⟩ := ba h7
    cases r with
    | cons _ _ => simp [mtEs] at h72
    | nil =>
      have ht := (sndE (xx := xx) i c _ _ _ okb h71).t (ba h8).1
      refine pts_one (ht.imp fun σ H Q ⟨σa, hh, Qa, rs, rh, q, kk⟩ => ⟨σa, hh, _, rs, rh, (by simpa only [M.wB] using q), fun d h' q1 => ?_⟩)
      cases d with
      | bl b =>
        have q2 : Qa (.bl b) h' := by cases b <;> exact q1
        exact kk _ _ q2
      | _ => exact q1.elim
  | _ :: _ :: _, _, _, _, h9 =>
    have h9 := of_decide_eq_true h9
    simp only [List.length_cons] at h9
    omega
/-- name = [..], the list laid and stored at once -/
theorem ss_lc {sc : Scope} {X : L2.Cx} (ok : XOk P n T sc sc X) {elt : M.E} {t : M.Tgt} {own : List Nat} {k : M.Itk} {src ifs : M.Es} {y : Expr} {gs : List Comprehension} {scope : Scope} {vp : Pos} {i : Nat} {v : Str} {pv sp : Pos}
    (h : mtE T sc sc (.lc elt t own k src ifs) (.ListComp y gs scope vp) = true) (hn : nmB T.N sc i (.Name v pv) = true) (hs : swV sc v pv scope vp = true) :
    PS X (.Assign [.Name v pv] (.ListComp y gs scope vp) sp) (liftS X.F fun R σ h => M.wE (C P n xx) (.lc elt t own k src ifs) σ h fun d h1 => R.nx (σ.set i (some d)) h1) := by
  match gs, h with
  | [⟨tg, it, cs, a⟩], h =>
    simp only [mtE] at h
    obtain ⟨h, h10⟩ := ba h
    obtain ⟨h, h9⟩ := ba h
    obtain ⟨h, h8⟩ := ba h
    obtain ⟨h, h7⟩ := ba h
    obtain ⟨h, h6⟩ := ba h
    obtain ⟨h, h5⟩ := ba h
    obtain ⟨h, h4⟩ := ba h
    obtain ⟨h1, h2, h3⟩ := ba3 h
    have ea := of_decide_eq_true h1
    subst ea
    unfold compsB at h6
    cases eo : ownB T.N own with
    | none => rw [eo] at h6; cases h6
    | some ow =>
      rw [eo] at h6
      have blk := blkOk_by h6
      have em := ownB_map eo
      have iI := sndI (xx := xx) k src it tg X sc sc ok h4 (by
        intro e
        cases t with
        | nm _ => cases k <;> first | exact absurd e (by decide) | exact absurd h5 (by simp [tupK])
        | tp ts => cases tg <;> first | exact ⟨_, _, _, rfl⟩ | cases h3)
      have gT : ∀ (s : Shared) (H : Hp) (D : Addr) (cl : List (Str × Addr)) (fp : List Addr), PG (X.blk s H scope (compEnvC scope cl D X.env) fp) tg (gOf X.F t) := fun s H D cl fp => tg_ok (blk_ok ok blk s H D cl fp) h3
      have iE : ∀ (s : Shared) (H : Hp) (D : Addr) (cl : List (Str × Addr)) (fp : List Addr), PE (X.blk s H scope (compEnvC scope cl D X.env) fp) y (lift X.F (M.wE (C P n xx) elt)) := fun s H D cl fp => (sndE elt _ _ _ _ (blk_ok ok blk s H D cl fp) h10).v
      have iT : ∀ (s : Shared) (H : Hp) (D : Addr) (cl : List (Str × Addr)) (fp : List Addr), PTs (X.blk s H scope (compEnvC scope cl D X.env) fp) cs (liftT X.F (M.wB (C P n xx) true ifs)) := fun s H D cl fp => ifs_ok (xx := xx) (blk_ok ok blk s H D cl fp) h7 h8 h9
      have hl : sc.names.lookup v = some .local := by
        unfold swV at hs
        simp only [Bool.and_eq_true, beq_iff_eq] at hs
        exact hs.1.1.2
      obtain ⟨hn1, _⟩ := ba hn
      have key := ps_setLc (i := i) (y := v) (py := pv) (spos := sp) (pos := vp) (elt := y) ok.calm ok.nd (by rw [ok.eN]; exact of_decide_eq_true hn1) (by rw [ok.eS]; exact hl) (by rw [sw_eq, ok.eS, hs]) iI (by rw [ok.eN, ok.eS]; exact blk) gT iT iE (fold_mt h4)
      rw [em] at key
      refine key.imp fun D σ H ⟨σa, h, R, rs, rh, q, k⟩ => ?_
      refine lc_ok h2 (lift_go (w := _) (Qa := fun d h1 => R.nx (σa.set i (some d)) h1) rs rh (by simp only [M.wE] at q; exact q) fun d h1 v H1 q1 f1 r1 rh1 rs1 => ?_)
      exact k.nx _ _ _ _ q1 f1 (rs_set rs1 r1) rh1
  | [], h => exact absurd h (by simp [mtE])
  | _ :: _ :: _, h => exact absurd h (by simp [mtE])
theorem nm_each {e : Expr} {env : Env} {N : List Str} {s0 : Scope} {t : M.Tgt} (h : tgB N s0 t e = true) : (assignEach [e] env).map (·.2) = [assign e env] := by
  cases t with
  | nm i => rw [nm_star (T := ⟨N, [], [], [], [], [], [], [], []⟩) (es := []) (show nmB N s0 i e = true from h)]; rfl
  | tp ts => cases e <;> first | rfl | cases h
theorem ss_aug {X : L2.Cx} {i : Nat} {x : Str} {e : Expr} {w : WE} {o : M.Bop} {p pos : Pos} (hN : X.N.Nodup) (hi : X.N[i]? = some x) (hx : L2.Loc X.env.scope x) (hf : X.fn x = true ∨ X.env.scope.names.lookup x = some .local) (ho : o = .add ∨ o = .sub) (he : PE X e (lift X.F w)) :
    PS X (.AugAssign (.Name x p) (bop o) e pos) (liftS X.F fun R σ h => match σ[i]? with
      | some (some x) => w σ h fun y h1 => M.opAug o x y fun z => R.nx (σ.set i (some z)) h1
      | _ => False) := by
  have fin : ∀ {D : L2.Ends} {σ : L2.St} {H : Hp}, liftS X.F (fun R σ h => match σ[i]? with
      | some (some x) => w σ h fun y h1 => M.opAug o x y fun z => R.nx (σ.set i (some z)) h1
      | _ => False) D σ H → ∃ v, σ[i]? = some (some v) ∧ lift X.F w σ H fun u H1 => (o = .add ∧ ((∃ a b, v = .int a ∧ u = .int b ∧ D.nx (σ.set i (some (.int (a + b)))) H1) ∨ ∃ a b, v = .str a ∧ u = .str b ∧ a.length + b.length ≤ sizeLine ∧ D.nx (σ.set i (some (.str (a ++ b)))) H1)) ∨ (o = .sub ∧ ∃ a b, v = .int a ∧ u = .int b ∧ D.nx (σ.set i (some (.int (a - b)))) H1) := by
    rintro D σ H ⟨σa, h, R, rs, rh, q, k⟩
    cases e1 : σa[i]? with
    | none => rw [e1] at q; exact q.elim
    | some z => cases z with
      | none => rw [e1] at q; exact q.elim
      | some d =>
        rw [e1] at q
        obtain ⟨v, e2, r⟩ := rs.2 i d e1
        refine ⟨v, e2, lift_go rs rh q fun dy h1 u H1 q1 f1 r1 rh1 rs1 => ?_⟩
        have r := r.kp (f1.kp rh)
        have go : ∀ {dz : SD} {z : V}, R.nx (σa.set i (some dz)) h1 → Rep X.F H1 dz z → D.nx (σ.set i (some z)) H1 := fun q rz => k.nx _ _ _ _ q f1 (rs_set rs1 rz) rh1
        cases o <;> try (exact False.elim q1)
        · cases d <;> try (exact False.elim q1)
          · cases dy <;> try (exact False.elim q1)
            cases (show v = _ from r); cases (show u = _ from r1)
            exact .inl ⟨rfl, .inl ⟨_, _, rfl, rfl, go q1 rfl⟩⟩
          · cases dy <;> try (exact False.elim q1)
            cases (show v = _ from r.1); cases (show u = _ from r1.1)
            refine .inl ⟨rfl, .inr ⟨_, _, rfl, rfl, by rw [sV_len, sV_len, line_eq]; exact q1.1, ?_⟩⟩
            rw [sV_app]
            exact go q1.2 ⟨rfl, sOk_app r.2 r1.2⟩
        · cases d <;> try (exact False.elim q1)
          cases dy <;> try (exact False.elim q1)
          cases (show v = _ from r); cases (show u = _ from r1)
          exact .inr ⟨rfl, _, _, rfl, rfl, go q1 rfl⟩
  cases o
  case add =>
    have ip : PIp X .Add (fun x y H Q => (rI0 fun i j => .int (i + j)) x y H Q ∨ rAddS x y H Q) := fun pins s σ H x y v u Q I r1 r2 h => op_iadd pins s σ H x y v u Q I r1 r2 h
    refine (ps_aug hN hi hx he ip hf).imp fun D σ H z => ?_
    obtain ⟨v, e, σa, h, Qa, rs, rh, q, k⟩ := fin z
    refine ⟨v, e, σa, h, Qa, rs, rh, q, fun d h' u H' q' f r rh' => ?_⟩
    rcases k d h' u H' q' f r rh' with ⟨_, ⟨a, b, e1, e2, q⟩ | ⟨a, b, e1, e2, hz, q⟩⟩ | ⟨w, _⟩
    · exact .inl ⟨a, b, e1, e2, q⟩
    · exact .inr ⟨a, b, e1, e2, hz, q⟩
    · cases w
  case sub =>
    refine (ps_aug hN hi hx he ip_sub hf).imp fun D σ H z => ?_
    obtain ⟨v, e, σa, h, Qa, rs, rh, q, k⟩ := fin z
    refine ⟨v, e, σa, h, Qa, rs, rh, q, fun d h' u H' q' f r rh' => ?_⟩
    rcases k d h' u H' q' f r rh' with ⟨w, _⟩ | ⟨_, a, b, e1, e2, q⟩
    · cases w
    · exact ⟨a, b, e1, e2, q⟩
  all_goals (rcases ho with ho | ho <;> cases ho)

theorem six_ok {o i : Expr} {p : Pos} {env : Env} (h : okX i = true) : ∀ v, assign (.Subscript o i p) env v = (do
      let ov ← holding [v] (eval o env)
      let iv ← holding [v, ov] (eval i env)
      standAt p
      holding [v, ov, iv] (setItem ov iv v)
      release [v, ov, iv] []) := by intro v; cases i <;> first | rfl | cases h
theorem never_ok {sc s0 : Scope} {X : L2.Cx} (ok : XOk P n T sc s0 X) : PassesOwn (model X.prog X.w) X.A X.env X.xe := by rw [ok.xe]; exact .never
mutual
theorem sndS : ∀ (ir : M.S) (x : Stmt) (X : L2.Cx) (sc : Scope), XOk P n T sc sc X → mtS T sc ir x = true → PS X x (liftS X.F (M.wS (C P n xx) ir))
  | .asg t e, x, X, sc, ok, h => by
    cases x <;> try (exfalso; revert h; simp [mtS]; done)
    rename_i ts v p
    match ts, h with
    | [tg], h =>
      simp only [mtS] at h
      obtain ⟨h1, h2, h3⟩ := ba3 h
      have w1 : M.wS (C P n xx) (.asg t e) = fun R σ h => M.wE (C P n xx) e σ h fun d h1 => match M.setT t d σ with | some σ' => R.nx σ' h1 | none => False := by funext R σ h; simp only [M.wS] <;> rfl
      rw [w1]
      have ie := (sndE (xx := xx) e v X sc sc ok h2).v
      have it := tg_ok ok h1
      by_cases hc : compX v = true
      · cases tg <;> try (exfalso; revert h3; simp [asgB]; done)
        · rename_i nm np
          cases t with
          | tp _ => cases h1
          | nm i =>
            cases e <;> cases v <;> try (exfalso; revert h2; simp [mtE]; done)
            all_goals try (exfalso; revert hc; simp [compX]; done)
            rename_i elt t own k src ifs y gs scope vp _
            cases hs : swV sc nm np scope vp with
            | true => exact (ss_lc (xx := xx) ok h2 h1 hs).imp fun D σ H z => z
            | false => exact ss_asg ie it (by rw [sw_sole, ok.eS, hs]) rfl (nm_each h1)
        · exfalso
          revert h3
          simp only [asgB, hc]
          simp
      · have hc : compX v = false := by simpa using hc
        refine ss_asg ie it (sw_plain hc) ?_ (nm_each h1)
        cases tg <;> try (exfalso; revert h3; simp [asgB]; done)
        · rfl
        · have ht : tupX v = false := by
            simp only [asgB] at h3
            have := (ba h3).1
            simpa using this
          cases v <;> first | rfl | cases ht
    | [], h => exact absurd h (by simp [mtS])
    | _ :: _ :: _, h => exact absurd h (by simp [mtS])
  | .sfld c o f e, x, X, sc, ok, h => by
    cases x <;> try (exfalso; revert h; simp [mtS]; done)
    rename_i ts v p
    match ts, h with
    | [tg], h =>
      cases tg <;> try (exfalso; revert h; simp [mtS]; done)
      simp only [mtS] at h
      obtain ⟨h, h4⟩ := ba h
      obtain ⟨h1, h2, h3⟩ := ba3 h
      obtain ⟨C', hm, na⟩ := ok.at_ (c, f) (by simpa using h2)
      have w1 : M.wS (C P n xx) (.sfld c o f e) = fun R σ h => M.wE (C P n xx) e σ h fun v h1 => M.wE (C P n xx) o σ h1 fun x h2 => M.aIns x h2 fun p c' fs => c' = c ∧ fs.length < 1000 ∧ R.nx σ (M.up h2 p (.ins c (M.putA f v fs))) := by funext R σ h; simp only [M.wS]
      rw [w1]
      refine s_sfld (of_decide_eq_true h1) hm na (sndE (xx := xx) e v X sc sc ok h4).v (sndE (xx := xx) o _ X sc sc ok h3).v ?_
      cases v <;> rfl
    | [], h => exact absurd h (by simp [mtS])
    | _ :: _ :: _, h => exact absurd h (by simp [mtS])
  | .six o i e, x, X, sc, ok, h => by
    cases x <;> try (exfalso; revert h; simp [mtS]; done)
    rename_i ts v p
    match ts, h with
    | [tg], h =>
      cases tg <;> try (exfalso; revert h; simp [mtS]; done)
      simp only [mtS] at h
      obtain ⟨h1, h2, h3⟩ := ba3 h
      have w1 : M.wS (C P n xx) (.six o i e) = fun R σ h => M.wE (C P n xx) e σ h fun v h1 => M.wE (C P n xx) o σ h1 fun x h2 => M.wE (C P n xx) i σ h2 fun y h3 => M.opSet x y v h3 fun h4 => R.nx σ h4 := by funext R σ h; simp only [M.wS]
      rw [w1]
      refine ss_six ok.units (sndE (xx := xx) e v X sc sc ok h3).v (sndE (xx := xx) o _ X sc sc ok h1).v (sndE (xx := xx) i _ X sc sc ok h2).v (six_ok (ok_mt h2)) ?_ rfl rfl
      cases v <;> rfl
    | [], h => exact absurd h (by simp [mtS])
    | _ :: _ :: _, h => exact absurd h (by simp [mtS])
  | .aug i o e, x, X, sc, ok, h => by
    cases x <;> try (exfalso; revert h; simp [mtS]; done)
    rename_i tg op v p
    cases tg <;> try (exfalso; revert h; simp [mtS]; done)
    simp only [mtS] at h
    obtain ⟨h, h4⟩ := ba h
    obtain ⟨h1, h2, h3⟩ := ba3 h
    obtain ⟨h5, h6⟩ := ba h1
    obtain ⟨l, f⟩ := ok.st _ h6
    have eo := opB_eq h2
    subst eo
    have w1 : M.wS (C P n xx) (.aug i o e) = fun R σ h => match σ[i]? with
      | some (some x) => M.wE (C P n xx) e σ h fun y h1 => M.opAug o x y fun z => R.nx (σ.set i (some z)) h1
      | _ => False := by funext R σ h; simp only [M.wS] <;> rfl
    rw [w1]
    exact ss_aug ok.nd (by rw [ok.eN]; exact of_decide_eq_true h5) (by rw [ok.eS]; exact l) (by rw [ok.eS]; exact f) (by cases o <;> first | exact .inl rfl | exact .inr rfl | cases h4) (sndE (xx := xx) e v X sc sc ok h3).v
  | .ex e, x, X, sc, ok, h => by
    cases x <;> try (exfalso; revert h; simp [mtS]; done)
    simp only [mtS] at h
    obtain ⟨h1, h2⟩ := ba h
    have w1 : M.wS (C P n xx) (.ex e) = fun R σ h => M.wE (C P n xx) e σ h fun _ h1 => R.nx σ h1 := by funext R σ h; simp only [M.wS]
    rw [w1]
    exact ss_expr (sw_plain (by simpa using h2)) (sndE (xx := xx) e _ X sc sc ok h1).v
  | .ret e, x, X, sc, ok, h => by
    cases x <;> try (exfalso; revert h; simp [mtS]; done)
    rename_i v p
    cases v with
    | none => exact absurd h (by simp [mtS])
    | some v =>
      simp only [mtS] at h
      have w1 : M.wS (C P n xx) (.ret e) = fun R σ h => M.wE (C P n xx) e σ h R.rt := by funext R σ h; simp only [M.wS]
      rw [w1]
      exact ss_ret (sndE (xx := xx) e _ X sc sc ok h).v
  | .retN, x, X, sc, ok, h => by
    cases x <;> try (exfalso; revert h; simp [mtS]; done)
    rename_i v p
    cases v with
    | some _ => exact absurd h (by simp [mtS])
    | none =>
      have w1 : M.wS (C P n xx) .retN = fun R σ h => R.rt .non h := by funext R σ h; simp only [M.wS]
      rw [w1]
      exact ss_retN
  | .ife c a b, x, X, sc, ok, h => by
    cases x <;> try (exfalso; revert h; simp [mtS]; done)
    simp only [mtS] at h
    obtain ⟨h, h4⟩ := ba h
    obtain ⟨h1, h2, h3⟩ := ba3 h
    have w1 : M.wS (C P n xx) (.ife c a b) = fun R σ h => M.wE (C P n xx) c σ h fun d h1 => match d with
      | .bl k => (match k with
        | true => M.wSs (C P n xx) a R σ h1
        | false => M.wSs (C P n xx) b R σ h1)
      | _ => False := by funext R σ h; simp only [M.wS, M.wT] <;> rfl
    rw [w1]
    exact ss_ife ((sndE (xx := xx) c _ X sc sc ok h1).t h2) (sndSs a _ X sc ok h3) (sndSs b _ X sc ok h4)
  | .whl c b, x, X, sc, ok, h => by
    cases x <;> try (exfalso; revert h; simp [mtS]; done)
    rename_i v l els p
    cases els with
    | cons _ _ => exact absurd h (by simp [mtS])
    | nil =>
      simp only [mtS] at h
      obtain ⟨h1, h2, h3⟩ := ba3 h
      have w1 : M.wS (C P n xx) (.whl c b) = fun R σ h => ∃ W : Nat → M.St → M.AH → Prop, (∃ m, W m σ h) ∧ ∀ m σ h, W m σ h → M.wE (C P n xx) c σ h fun d h1 => match d with
        | .bl k => (match k with
          | true => M.wSs (C P n xx) b { nx := fun σ' h' => ∃ m', m' < m ∧ W m' σ' h', ct := fun σ' h' => ∃ m', m' < m ∧ W m' σ' h', bk := R.nx, rt := R.rt } σ h1
          | false => R.nx σ h1)
        | _ => False := by funext R σ h; simp only [M.wS, M.wT] <;> rfl
      rw [w1]
      exact ss_whl (never_ok ok) ((sndE (xx := xx) c _ X sc sc ok h1).t h2) (sndSs b _ X sc ok h3)
  | .for_ t k src b, x, X, sc, ok, h => by
    cases x <;> try (exfalso; revert h; simp [mtS]; done)
    rename_i tg it l els p
    cases els with
    | cons _ _ => exact absurd h (by simp [mtS])
    | nil =>
      simp only [mtS] at h
      obtain ⟨h, h4⟩ := ba h
      obtain ⟨h1, h2, h3⟩ := ba3 h
      have w1 : M.wS (C P n xx) (.for_ t k src b) = fun R σ h => M.wEs (C P n xx) src σ h fun ds h1 => M.walk k ds h1 fun xs ok =>
          M.loopW xs ok (fun x σ h P' => match M.setT t x σ with
            | some σ' => M.wSs (C P n xx) b { nx := P', ct := P', bk := R.nx, rt := R.rt } σ' h
            | none => False) R.nx σ h1 := by funext R σ h; simp only [M.wS] <;> rfl
      rw [w1]
      refine ss_for (never_ok ok) ok.calm (sndI (xx := xx) k src it tg X sc sc ok h3 (by
        intro e
        cases t with
        | nm _ => cases k <;> first | exact absurd e (by decide) | exact absurd h2 (by simp [tupK])
        | tp ts => cases tg <;> first | exact ⟨_, _, _, rfl⟩ | cases h1)) (tg_ok ok h1) (sndSs b _ X sc ok h4) (fold_mt h3)
  | .pass, x, X, sc, ok, h => by
    cases x <;> try (exfalso; revert h; simp [mtS]; done)
    have w1 : M.wS (C P n xx) .pass = fun R σ h => R.nx σ h := by funext R σ h; simp only [M.wS]
    rw [w1]
    exact ss_pass
  | .brk, x, X, sc, ok, h => by
    cases x <;> try (exfalso; revert h; simp [mtS]; done)
    have w1 : M.wS (C P n xx) .brk = fun R σ h => R.bk σ h := by funext R σ h; simp only [M.wS]
    rw [w1]
    exact ss_brk
  | .cont, x, X, sc, ok, h => by
    cases x <;> try (exfalso; revert h; simp [mtS]; done)
    have w1 : M.wS (C P n xx) .cont = fun R σ h => R.ct σ h := by funext R σ h; simp only [M.wS]
    rw [w1]
    exact ss_cont
  | .lock i s, x, X, sc, ok, h => by
    simp only [mtS] at h
    have w1 : M.wS (C P n xx) (.lock i s) = fun R σ h => M.lockAt σ i h fun p kd kvs => M.wS (C P n xx) s { nx := fun σ' h' => R.nx σ' (M.up h' p (.dct kd kvs)), rt := fun d h' => R.rt d (M.up h' p (.dct kd kvs)), bk := fun σ' h' => R.bk σ' (M.up h' p (.dct kd kvs)), ct := fun σ' h' => R.ct σ' (M.up h' p (.dct kd kvs)) } σ (M.up h p (.rdct kd kvs)) := by funext R σ h; simp only [M.wS]
    rw [w1]
    exact ss_lock (sndS s x X sc ok h)
  | .lock2 i s, x, X, sc, ok, h => by
    simp only [mtS] at h
    have w1 : M.wS (C P n xx) (.lock2 i s) = fun R σ h => (M.lockAt σ i h fun p kd kvs => M.wS (C P n xx) s { nx := fun σ' h' => R.nx σ' (M.up h' p (.dct kd kvs)), rt := fun d h' => R.rt d (M.up h' p (.dct kd kvs)), bk := fun σ' h' => R.bk σ' (M.up h' p (.dct kd kvs)), ct := fun σ' h' => R.ct σ' (M.up h' p (.dct kd kvs)) } σ (M.up h p (.rdct kd kvs))) ∨ M.wS (C P n xx) s R σ h := by funext R σ h; simp only [M.wS]
    rw [w1]
    have ih := sndS s x X sc ok h
    exact ⟨fun pins s σ H D I ⟨σa, hh, R, rs, rh, q, k⟩ => q.elim (fun q => (ss_lock ih).run pins s σ H D I ⟨σa, hh, R, rs, rh, q, k⟩) (fun q => ih.run pins s σ H D I ⟨σa, hh, R, rs, rh, q, k⟩)⟩
  | .bad, x, X, sc, ok, h => by
    refine ⟨fun pins s σ H D I ⟨_, _, _, _, _, q, _⟩ => ?_⟩
    simp only [M.wS] at q
theorem sndSs : ∀ (ir : M.Ss) (l : List Stmt) (X : L2.Cx) (sc : Scope), XOk P n T sc sc X → mtSs T sc ir l = true → PSs X l (liftS X.F (M.wSs (C P n xx) ir))
  | .nil, l, X, sc, ok, h => by
    cases l with
    | cons _ _ => simp [mtSs] at h
    | nil =>
      have w1 : M.wSs (C P n xx) .nil = fun R σ h => R.nx σ h := by funext R σ h; simp only [M.wSs]
      rw [w1]
      exact ss_nil
  | .cons s r, l, X, sc, ok, h => by
    cases l with
    | nil => simp [mtSs] at h
    | cons x l =>
      simp only [mtSs] at h
      obtain ⟨h1, h2⟩ := ba h
      have w1 : M.wSs (C P n xx) (.cons s r) = fun R σ h => M.wS (C P n xx) s { R with nx := fun σ' h' => M.wSs (C P n xx) r R σ' h' } σ h := by funext R σ h; simp only [M.wSs]
      rw [w1]
      exact ss_cons (sndS s x X sc ok h1) (sndSs r l X sc ok h2)
end

/-! ### defs -/
/-- a def of the program: its name, its names by slot, its row's statement, what it does -/
structure Fn where
  f : M.Sx
  N : List Str
  ps : List Str
  params : Arguments
  body : List Stmt
  scope : Scope
  fd : M.FD
  /-- of a class -/
  cl : Option (M.Sx × M.Sx)
  /-- so many of its last parameters have the default None -/
  df : Nat
def Fn.nm (F : Fn) : Str := match F.cl with
  | none => sV F.f
  | some (_, m) => sV m
/-- what is looked at of a def's text -/
def FnScopeB (N ps : List Str) (sc : Scope) : Bool := (match sc.kind with | .function => true | _ => false) && !sc.isCoroutine && !sc.isGenerator && decide N.Nodup && decide (N.take ps.length = ps) && (ps.all fun x => match sc.names.lookup x with
  | some .local => true | some .cell => true | _ => false) && sc.names.all fun y => match y.2 with
  | .free => false | _ => true
/-- the module's numbers and tables -/
structure Gc where
  gs : List (M.Sx × Int)
  ts : List (M.Sx × List (M.Sx × M.Sx))
  cs : List M.Sx
  ms : List (M.Sx × M.Sx)
  at_ : List (M.Sx × M.Sx)
  ds : List (M.Sx × Nat)
def Fn.ok (bn : List Str) (fs : List M.Sx) (gc : Gc) (F : Fn) : Bool := FnScopeB F.N F.ps F.scope && decide (F.fd.ps = F.ps.length) && decide (F.fd.n = F.N.length) && mtSs ⟨F.N, bn, fs, gc.gs, gc.ts, gc.cs, gc.ms, gc.at_, gc.ds⟩ F.scope F.fd.body F.body
theorem fnScope_of {N ps : List Str} {sc : Scope} (h : FnScopeB N ps sc = true) : FnScope N ps sc := by
  unfold FnScopeB at h
  simp only [Bool.and_eq_true, decide_eq_true_eq, List.all_eq_true, Bool.not_eq_true'] at h
  obtain ⟨⟨⟨⟨⟨⟨h1, h2⟩, h3⟩, h4⟩, h5⟩, h6⟩, h7⟩ := h
  refine ⟨?_, h2, h3, h4, h5, fun x hx => ?_, fun y hy e => ?_⟩
  · split at h1 <;> first | assumption | cases h1
  · have := h6 x hx
    split at this
    · exact .inl (by assumption)
    · exact .inr (by assumption)
    · cases this
  · have := h7 y hy
    rw [e] at this
    cases this
end
end Snd
end
section
/-! Sound11: a whole program, and a law's end. -/
namespace Snd
open PySem L2 PySem.Spec PyProof.Rows
def Fn.Bnd (F : Fn) : Prop := ∀ (kV doc pm : Value) (an : Option Addr) (cdv ct : Value) (us : List Value), us.length = F.ps.length → bindArgs (PySem.W.fnOf F.nm (sV F.f) F.params F.body F.scope .none kV doc pm an cdv ct) ⟨us, []⟩ = pure (F.ps.zip us)
/-- k of its defaults fill up -/
def Fn.BndD (F : Fn) (k : Nat) : Prop := ∀ (T : Addr) (kV doc pm : Value) (an : Option Addr) (cdv ct : Value) (us its : List Value), us.length + k = F.ps.length → its.length = F.df →
  ∃ kk, bindArgs (PySem.W.fnOf F.nm (sV F.f) F.params F.body F.scope (.ref T) kV doc pm an cdv ct) ⟨us, []⟩ = seqItems? (.ref T) >>= kk ∧ kk (some its.toArray) = pure (F.ps.zip (us ++ its.drop (F.df - k)))
def Fn.BOk (F : Fn) : Prop := (F.df = 0 ∧ F.Bnd) ∨ (F.df ≠ 0 ∧ F.df ≤ F.ps.length ∧ ∀ k, k ≤ F.df → F.BndD k)
abbrev Fn.dv (F : Fn) : List V := List.replicate F.df V.non
theorem binds_ok {K : PySem.W.Frag} {F : Fn} {fa : Addr} {fd : FuncData} (hB : F.BOk) (D : FunD K F.nm (sV F.f) F.params F.body F.scope F.dv [] fa fd) {k : Nat} (hk : k ≤ F.df) : ∃ us, Vals (List.replicate k V.non) us ∧ Binds K fd F.ps us := by
  rcases hB with ⟨z, b⟩ | ⟨z, le, b⟩
  · have e : F.dv = [] := by unfold Fn.dv; rw [z]; rfl
    rw [e] at D
    obtain rfl : k = 0 := by omega
    exact ⟨[], .nil, D.bindsN b⟩
  · have e : F.dv ≠ [] := by
      unfold Fn.dv
      intro y
      have := congrArg List.length y
      simp at this
      exact z this
    have ln : F.dv.length = F.df := by unfold Fn.dv; simp
    obtain ⟨us, v, bb⟩ := D.binds1 (F.ps.length - k) (F.df - k) e (by rw [ln]; omega) fun T kV doc pm an cdv ct us its h1 h2 => b k hk T kV doc pm an cdv ct us its (by omega) (by rw [h2, ln])
    refine ⟨us, ?_, bb⟩
    have : F.dv.drop (F.df - k) = List.replicate k V.non := by
      unfold Fn.dv
      rw [List.drop_replicate]
      congr 1
      omega
    rw [this] at v
    exact v
theorem binds_full {K : PySem.W.Frag} {F : Fn} {fa : Addr} {fd : FuncData} (hB : F.BOk) (D : FunD K F.nm (sV F.f) F.params F.body F.scope F.dv [] fa fd) : Binds K fd F.ps [] := by
  obtain ⟨us, v, b⟩ := binds_ok hB D (k := 0) (Nat.zero_le _)
  cases v
  exact b
def AllP (p : Fn → Prop) : List Fn → Prop
  | [] => True
  | F :: r => p F ∧ AllP p r
theorem AllP.get {p : Fn → Prop} : ∀ {l : List Fn}, AllP p l → ∀ F ∈ l, p F
  | F :: r, ⟨a, b⟩, G, h => by
    rcases List.mem_cons.mp h with e | h
    · rw [e]; exact a
    · exact b.get G h
def tabP (tab : List Fn) : M.Prog := M.pOf (tab.map fun F => (F.f, F.fd))
theorem tabP_of : ∀ {tab : List Fn}, (tab.map (·.f)).Nodup → ∀ F ∈ tab, tabP tab F.f = some F.fd
  | G :: r, nd, F, h => by
    rw [List.map_cons, List.nodup_cons] at nd
    rcases List.mem_cons.mp h with e | h
    · subst e
      simp [tabP, M.pOf, List.find?_cons]
    · have ne : G.f ≠ F.f := fun e => nd.1 (by rw [e]; exact List.mem_map.mpr ⟨F, h, rfl⟩)
      have ih := tabP_of nd.2 F h
      unfold tabP M.pOf at ih ⊢
      rw [List.map_cons, List.find?_cons]
      have : (G.f == F.f) = false := by simpa using ne
      simp only [this]
      exact ih
theorem rs_start {K : Fr} {H : Hp} {ds : List SD} {vs : List V} (r : Reps K H ds vs) (N : List Str) (fd : M.FD) (h1 : fd.n = N.length) (h2 : fd.ps = ds.length) : RS K H (L2.start N vs) (M.start fd ds) := by
  have ln := r.length
  unfold L2.start M.start
  refine ⟨by simp [h1, h2, ln], fun i d e => ?_⟩
  by_cases hi : i < ds.length
  · rw [List.getElem?_append_left (by simpa using hi), List.getElem?_map] at e
    cases q : ds[i]? with
    | none => rw [q] at e; cases e
    | some x =>
      rw [q] at e
      simp only [Option.map_some, Option.some.injEq] at e
      subst e
      obtain ⟨v, e1, e2⟩ := r.get q
      exact ⟨v, by rw [List.getElem?_append_left (by simpa [ln] using hi), List.getElem?_map, e1]; rfl, e2⟩
  · rw [List.getElem?_append_right (by simpa using hi)] at e
    have := List.getElem?_replicate (a := (none : Option SD)) (n := fd.n - fd.ps) (i := i - (ds.map some).length)
    rw [this] at e
    split at e <;> cases e
section
variable {P : Program} {w : World} {K : PySem.W.Frag} {mg : Str → Option Value} {base : Heap}
theorem init_eq : sV M.sInit = ("__init__" : Str) := by rfl
theorem tabP_none {tab : List Fn} {f : M.Sx} (h : (tab.any fun F => decide (F.f = f)) = false) : tabP tab f = none := by
  have h := List.any_eq_false.mp h
  have : ((tab.map fun F => (F.f, F.fd)).find? fun p => p.1 == f) = none := by
    rw [List.find?_eq_none]
    intro p hp
    obtain ⟨F, hF, rfl⟩ := List.mem_map.mp hp
    have := h F hF
    simpa using this
  simp only [tabP, M.pOf, this, Option.map_none]
/-- where a def lies -/
def FnAt (K : PySem.W.Frag) (mg : Str → Option Value) (F : Fn) (fa : Addr) : Prop := match F.cl with
  | none => mg (sV F.f) = some (.ref fa)
  | some (c, m) => fa = He.ma K (He.ga K (sV c)) (sV m)
/-- the classes' defs are in the table -/
def Gc.okT (gc : Gc) (tab : List Fn) : Bool := (gc.cs.all fun c => (tab.any fun F => decide (F.cl = some (c, M.sInit)) && decide (F.f = M.metN c M.sInit)) && !(tab.any fun F => decide (F.f = M.mkN c))) &&
  ((gc.ms.all fun q => tab.any fun F => decide (F.cl = some q) && decide (F.f = M.metN q.1 q.2)) &&
  gc.ds.all fun q => tab.any fun F => decide (F.cl = none) && decide (F.f = q.1) && decide (q.2 ≤ F.df))
def glob (tab : List Fn) : List M.Sx := (tab.filter fun F => F.cl.isNone).map (·.f)
/-- what the module's heap says of its numbers and tables -/
structure GcOk (K : PySem.W.Frag) (w : World) (mg : Str → Option Value) (gc : Gc) : Prop where
  gi : ∀ p ∈ gc.gs, ∃ t, mg (sV p.1) = some (.int p.2 t)
  tb : ∀ p ∈ gc.ts, ∃ a, mg (sV p.1) = some (.ref a) ∧ ∀ s t, p.2.lookup s = some t → KDct K w a (sV s) (.str (sV t)) ∧ sOk t
  cs : ∀ c ∈ gc.cs, mg (sV c) = some (.ref (He.ga K (sV c))) ∧ PySem.W.keepIn K (.ref (He.ga K (sV c))) = true ∧ Cls K (He.ga K (sV c)) ∧ Mk K (He.ga K (sV c)) (He.ma K (He.ga K (sV c)) (sV M.sInit))
  ms : ∀ q ∈ gc.ms, mg (sV q.1) = some (.ref (He.ga K (sV q.1))) ∧ Cls K (He.ga K (sV q.1)) ∧ Meth K (He.ga K (sV q.1)) (sV q.2) (He.ma K (He.ga K (sV q.1)) (sV q.2))
  at_ : ∀ q ∈ gc.at_, mg (sV q.1) = some (.ref (He.ga K (sV q.1))) ∧ NoAttr K (He.ga K (sV q.1)) (sV q.2)
theorem all_ok {tab : List Fn} {bn : List Str} {gc : Gc} (hgc : GcOk K w mg gc) (hnd : (tab.map (·.f)).Nodup) (hok : AllP (fun F => F.ok bn (glob tab) gc = true) tab) (hB : AllP Fn.BOk tab)
    (hT : gc.okT tab = true) (hf : ∀ F ∈ tab, ∃ fa fdc, FnAt K mg F fa ∧ FunD K F.nm (sV F.f) F.params F.body F.scope F.dv [] fa fdc) (hfree : ∀ x ∈ bn, mg x = none) :
    ∀ n, ∀ k, k ≤ n → ∀ F ∈ tab, ∀ fa fdc, FunD K F.nm (sV F.f) F.params F.body F.scope F.dv [] fa fdc → FnOk P w K mg base CX0 k fa fdc F.ps (spC ⟨K, P, w, mg⟩ (tabP tab) k F.f) := by
  intro n
  induction n with
  | zero =>
    intro k hk0 F hF fa fdc D
    obtain rfl : k = 0 := by omega
    refine ⟨fun vs H Q E h => ?_, fun A outer s H args us vs Q E hr e0 hb r h => ?_⟩
    · obtain ⟨ds, h, Qa, xx, _, _, q, _⟩ := h
      simp only [M.run] at q
    · obtain ⟨ds, h, Qa, xx, _, _, q, _⟩ := h
      simp only [M.run] at q
  | succ n ih =>
    intro k hkn F hF fa fdc D
    by_cases hle : k ≤ n
    · exact ih k hle F hF fa fdc D
    obtain rfl : k = n + 1 := by omega
    have hk := hok.get F hF
    have hP := tabP_of hnd F hF
    unfold Fn.ok at hk
    obtain ⟨hk, k4⟩ := ba hk
    obtain ⟨hk, k3⟩ := ba hk
    obtain ⟨k1, k2⟩ := ba hk
    have k2 := of_decide_eq_true k2
    have k3 := of_decide_eq_true k3
    have S := fnScope_of k1
    have runE : ∀ {ds : List SD} {h : M.AH} {Qa : M.VQ} {xx : M.XP}, M.run (tabP tab) (n + 1) F.f ds h Qa xx → ds.length = F.fd.ps ∧ M.wSs (C (tabP tab) n xx) F.fd.body { nx := fun _ h' => Qa .non h', rt := Qa, bk := fun _ _ => False, ct := fun _ _ => False } (M.start F.fd ds) h := by
      intro ds h Qa xx q
      simp only [M.run] at q
      rw [hP] at q
      exact q
    refine D.ok S (fun vs H Q E h => ?_) (fun cdv A outer s H vs Q E hr h => ?_)
    · obtain ⟨ds, h, Qa, xx, r, _, q, _⟩ := h
      rw [r.length, (runE q).1, k2]
    · obtain ⟨ds, h, Qa, xx, r, rh, q, k⟩ := h
      obtain ⟨q1, q2⟩ := runE q
      have ok : XOk (tabP tab) n ⟨F.N, bn, glob tab, gc.gs, gc.ts, gc.cs, gc.ms, gc.at_, gc.ds⟩ F.scope F.scope (cxOf CX0 P w K mg base F.N (sV F.f) F.scope fa cdv A outer s H E).nox := by
        refine ⟨rfl, S.nd, rfl, fun x hx => ?_, rfl, hr, rfl, hfree, fun f hf2 => ?_, hgc.gi, hgc.tb, fun c hc => ?_, fun q hq => ?_, fun q hq => ⟨_, hgc.at_ q hq⟩, fun q hq => ?_⟩
        · unfold locB at hx
          split at hx
          · exact ⟨.inl (by assumption), .inl rfl⟩
          · exact ⟨.inr (by assumption), .inl rfl⟩
          · cases hx
        · obtain ⟨G, hG, rfl⟩ := List.mem_map.mp hf2
          obtain ⟨hG, hn⟩ := List.mem_filter.mp hG
          obtain ⟨ga, gdc, e1, e2⟩ := hf G hG
          have e3 : mg (sV G.f) = some (.ref ga) := by
            unfold FnAt at e1
            split at e1
            · exact e1
            · rename_i z; rw [z] at hn; cases hn
          exact ⟨ga, gdc, G.ps, e3, e2.kp, ih n (Nat.le_refl n) G hG ga gdc e2, binds_full (hB.get G hG) e2⟩
        · obtain ⟨e1, e2, e3, e4⟩ := hgc.cs c hc
          obtain ⟨t1, t2⟩ := ba hT
          obtain ⟨u1, u2⟩ := ba (List.all_eq_true.mp t1 c hc)
          obtain ⟨G, hG, g⟩ := List.any_eq_true.mp u1
          obtain ⟨g1, g2⟩ := ba g
          have g1 := of_decide_eq_true g1
          have g2 := of_decide_eq_true g2
          obtain ⟨ga, gdc, a1, a2⟩ := hf G hG
          refine ⟨tabP_none (by simpa using u2), _, e1, e2, e3, fun m hm => ⟨ga, gdc, G.ps, ?_, ?_, binds_full (hB.get G hG) a2⟩⟩
          · unfold FnAt at a1
            rw [g1] at a1
            rw [show ga = _ from a1]
            exact e4
          · have := ih m (by omega) G hG ga gdc a2
            rw [g2] at this
            exact this
        · obtain ⟨e1, e2, e3⟩ := hgc.ms q hq
          obtain ⟨t1, t2⟩ := ba hT
          obtain ⟨t2, t3⟩ := ba t2
          obtain ⟨G, hG, g⟩ := List.any_eq_true.mp (List.all_eq_true.mp t2 q hq)
          obtain ⟨g1, g2⟩ := ba g
          have g1 := of_decide_eq_true g1
          have g2 := of_decide_eq_true g2
          obtain ⟨ga, gdc, a1, a2⟩ := hf G hG
          refine ⟨_, ga, gdc, G.ps, e1, e2, ?_, ?_, binds_full (hB.get G hG) a2⟩
          · unfold FnAt at a1
            rw [g1] at a1
            rw [show ga = _ from a1]
            exact e3
          · have := ih n (Nat.le_refl n) G hG ga gdc a2
            rw [g2] at this
            exact this
        · obtain ⟨t1, t2⟩ := ba hT
          obtain ⟨t2, t3⟩ := ba t2
          obtain ⟨G, hG, g⟩ := List.any_eq_true.mp (List.all_eq_true.mp t3 q hq)
          obtain ⟨g, g3⟩ := ba g
          obtain ⟨g1, g2⟩ := ba g
          have g1 := of_decide_eq_true g1
          have g2 := of_decide_eq_true g2
          have g3 := of_decide_eq_true g3
          obtain ⟨ga, gdc, a1, a2⟩ := hf G hG
          obtain ⟨us, v, b⟩ := binds_ok (hB.get G hG) a2 g3
          refine ⟨ga, gdc, G.ps, us, ?_, a2.kp, ?_, v, b⟩
          · unfold FnAt at a1
            rw [g1] at a1
            rw [← g2]
            exact a1
          · have := ih n (Nat.le_refl n) G hG ga gdc a2
            rw [g2] at this
            exact this
      refine ⟨_, (sndSs (xx := xx) F.fd.body F.body _ F.scope ok k4).nox, ?_⟩
      refine ⟨M.start F.fd ds, h, _, rs_start r F.N F.fd k3 q1.symm, rh, q2, ⟨fun σa h' σ H' z f rs' rh' => ?_, k, fun _ _ _ _ z _ _ _ => z.elim, fun _ _ _ _ z _ _ _ => z.elim⟩⟩
      exact k _ _ _ _ z f rfl rh'

/-- what a law is asked, in the IR -/
def LawOk (prog : M.Prog) (n : Nat) (law : M.Sx) : Prop := ∀ ns : List Int, ns.length ≤ 63 → M.run prog n law [.rol (ns.map .int)] (fun _ => none) (fun d _ => d = .bl true) (fun _ _ _ => False)
theorem reps_ints {K : Fr} {H : Hp} : ∀ ns : List Int, Reps K H (ns.map .int) (ns.map V.int)
  | [] => rfl
  | n :: ns => ⟨_, _, rfl, rfl, reps_ints ns⟩
theorem law_sp {prog : M.Prog} {n : Nat} {law : M.Sx} (h : LawOk prog n law) (H : Hp) (a : Addr) (ns : List Int) (hl : ns.length ≤ 63) (hO : Only H) (hS : SqL K H a (ns.map V.int)) : spC ⟨K, P, w, mg⟩ prog n law [.ref a] H (fun v _ => v = .bl true) fun _ _ _ => False := by
  refine ⟨[.rol (ns.map .int)], fun _ => none, _, _, Reps.one ⟨a, ns.map V.int, rfl, ?_, reps_ints ns⟩, (fun _ _ e => by cases e), h ns hl, fun d h' v H' q f r rh => ?_⟩
  · rcases hS with (e | ⟨o, e⟩) | e
    · rcases hO a with z | ⟨o, xs, z⟩
      · rw [z] at e; cases e
      · rw [z] at e; cases e
    · exact .inl ⟨o, e⟩
    · exact .inr e
  · subst q
    exact r
end
/-! ### the head's data -/
def Fn.dd (F : Fn) : He.DefD := ⟨(match F.cl with | none => (sV F.f, none) | some (c, m) => (sV c, some (sV m))), F.nm, sV F.f, F.params, F.body, F.scope, List.replicate F.df .non, []⟩
def headFa (tab : List Fn) (bn : List Str) (gc : Gc) : List He.Fa := (tab.map fun F => match F.cl with | none => He.Fa.glo (sV F.f) | some (c, _) => He.Fa.glo (sV c)) ++ ((bn.map fun x => He.Fa.free x) ++ ((gc.gs.map fun p => He.Fa.int (sV p.1) p.2) ++ ((gc.ts.map fun p => He.Fa.glo (sV p.1)) ++
  ((gc.cs.flatMap fun c => [He.Fa.glo (sV c), .keep (sV c), .cls (sV c), .mkr (sV c)]) ++ ((gc.ms.flatMap fun q => [He.Fa.glo (sV q.1), .cls (sV q.1), .meth (sV q.1) (sV q.2)]) ++ gc.at_.flatMap fun q => [He.Fa.glo (sV q.1), .noat (sV q.1) (sV q.2)])))))
/-- the tables: where they lie, their keys; and their values -/
def headTs (gc : Gc) : List He.Tab := gc.ts.map fun p => (fun K => He.ga K (sV p.1), p.2.map fun q => sV q.1)
def headEx (gc : Gc) (K : PySem.W.Frag) : Bool := gc.ts.all fun p => He.valsB K (He.ga K (sV p.1)) (p.2.map fun q => (sV q.1, He.Dv.str (sV q.2)))
def Gc.chr (gc : Gc) : Bool := gc.ts.all fun p => p.2.all fun q => chrB q.2
def headFn (tab : List Fn) : List He.DefD := tab.map Fn.dd
theorem fact_mem {fa : List He.Fa} {fn : List He.DefD} {K : PySem.W.Frag} (c : He.SaysD fa fn K) {f : He.Fa} (h : f ∈ fa) : f.ok K = true := by
  obtain ⟨i, hi⟩ := List.getElem?_of_mem h
  exact He.SaysD.fact c i hi
theorem def_mem {fa : List He.Fa} {fn : List He.DefD} {K : PySem.W.Frag} (c : He.SaysD fa fn K) {d : He.DefD} (h : d ∈ fn) : ∃ fd, FunD K d.name d.qual d.params d.body d.scope (d.dvs K) (d.kws K) (He.fAd K d.at_) fd := by
  obtain ⟨i, hi⟩ := List.getElem?_of_mem h
  exact He.SaysD.def_ c i hi
theorem lookup_in {α β : Type} [BEq α] [LawfulBEq α] {s : α} {t : β} : ∀ {l : List (α × β)}, l.lookup s = some t → (s, t) ∈ l
  | (a, b) :: l, h => by
    rw [List.lookup_cons] at h
    by_cases e : (s == a) = true
    · rw [e] at h
      have e2 : s = a := by simpa using e
      subst e2
      cases h
      exact List.mem_cons_self
    · rw [Bool.not_eq_true] at e
      rw [e] at h
      exact List.mem_cons_of_mem _ (lookup_in h)
theorem gc_ok {w : World} {K : PySem.W.Frag} {h : Heap} {mg : Str → Option Value} {tab : List Fn} {bn : List Str} {gc : Gc} (X : K.In h) (G : h.Ns mainGlobals mg) (hm : ∀ f ∈ headFa tab bn gc, f.ok K = true) (hch : gc.chr = true)
    (ht : ∀ t ∈ headTs gc, ∃ es n, KDict K w (t.1 K) es n) (hv : headEx gc K = true) : GcOk K w mg gc := by
  have tail : ∀ f, f ∈ ((gc.cs.flatMap fun c => [He.Fa.glo (sV c), .keep (sV c), .cls (sV c), .mkr (sV c)]) ++ ((gc.ms.flatMap fun q => [He.Fa.glo (sV q.1), .cls (sV q.1), .meth (sV q.1) (sV q.2)]) ++ gc.at_.flatMap fun q => [He.Fa.glo (sV q.1), .noat (sV q.1) (sV q.2)])) → f.ok K = true := fun f hf => hm f (List.mem_append_right _ (List.mem_append_right _ (List.mem_append_right _ (List.mem_append_right _ hf))))
  have fc : ∀ c ∈ gc.cs, ∀ f ∈ [He.Fa.glo (sV c), .keep (sV c), .cls (sV c), .mkr (sV c)], f.ok K = true := fun c hc f hf => tail f (List.mem_append_left _ (List.mem_flatMap.mpr ⟨c, hc, hf⟩))
  have fm : ∀ q ∈ gc.ms, ∀ f ∈ [He.Fa.glo (sV q.1), .cls (sV q.1), .meth (sV q.1) (sV q.2)], f.ok K = true := fun q hq f hf => tail f (List.mem_append_right _ (List.mem_append_left _ (List.mem_flatMap.mpr ⟨q, hq, hf⟩)))
  have fa : ∀ q ∈ gc.at_, ∀ f ∈ [He.Fa.glo (sV q.1), .noat (sV q.1) (sV q.2)], f.ok K = true := fun q hq f hf => tail f (List.mem_append_right _ (List.mem_append_right _ (List.mem_flatMap.mpr ⟨q, hq, hf⟩)))
  refine ⟨fun p hp => ?_, fun p hp => ?_, fun c hc => ⟨He.glo_ok X G (fc c hc _ (by simp)), He.keep_ok (fc c hc (.keep (sV c)) (by simp)), He.cls_ok (fc c hc (.cls (sV c)) (by simp)), by rw [init_eq]; exact He.mkr_ok (fc c hc (.mkr (sV c)) (by simp))⟩,
    fun q hq => ⟨He.glo_ok X G (fm q hq _ (by simp)), He.cls_ok (fm q hq (.cls (sV q.1)) (by simp)), He.meth_ok (fm q hq (.meth (sV q.1) (sV q.2)) (by simp))⟩, fun q hq => ⟨He.glo_ok X G (fa q hq _ (by simp)), He.noat_ok (fa q hq (.noat (sV q.1) (sV q.2)) (by simp))⟩⟩
  · exact He.int_ok X G (hm _ (List.mem_append_right _ (List.mem_append_right _ (List.mem_append_left _ (List.mem_map.mpr ⟨p, hp, rfl⟩)))))
  · refine ⟨_, He.glo_ok X G (hm _ (List.mem_append_right _ (List.mem_append_right _ (List.mem_append_right _ (List.mem_append_left _ (List.mem_map.mpr ⟨p, hp, rfl⟩)))))), fun s t e => ?_⟩
    have hq := lookup_in e
    obtain ⟨es, n, D⟩ := ht _ (List.mem_map.mpr ⟨p, hp, rfl⟩ : _ ∈ headTs gc)
    have hv2 := List.all_eq_true.mp hv p hp
    obtain ⟨u, e1, r⟩ := He.valsB_ok hv2 (List.mem_map.mpr ⟨(s, t), hq, rfl⟩)
    have hc := List.all_eq_true.mp (List.all_eq_true.mp hch p hp) (s, t) hq
    exact ⟨⟨es, n, u, D.at_, D.lit, e1, r⟩, fun c hc2 => of_decide_eq_true (List.all_eq_true.mp hc c hc2)⟩
theorem law_factsG {P : Program} {w : World} {K : PySem.W.Frag} {h : Heap} {mg : Str → Option Value} {f : Addr} {tab : List Fn} {bn : List Str} {gc : Gc} {L : Fn} (hcl : L.cl = none) (hdf : L.df = 0) (hL : L ∈ tab) (hps : L.ps = [("script" : Str)]) (X : K.In h) (G : h.Ns mainGlobals mg) (hfa : mg (sV L.f) = some (.ref f)) (c : He.SaysD (headFa tab bn gc) (headFn tab) K)
    (hgc : GcOk K w mg gc) (hnd : (tab.map (·.f)).Nodup) (hok : AllP (fun F => F.ok bn (glob tab) gc = true) tab) (hB : AllP Fn.BOk tab) (hT : gc.okT tab = true) (n : Nat) :
    ∃ fd : FuncData, (∀ (s : Shared) (v : Value), BindsTo s fd ⟨[v], []⟩ [(("script" : Str), v)]) ∧ ∀ base : Heap, K.In base → base.Ns mainGlobals mg → FnOk P w K mg base CX0 n f fd [("script" : Str)] (spC ⟨K, P, w, mg⟩ (tabP tab) n L.f) := by
  have hf : ∀ F ∈ tab, ∃ fa fdc, FnAt K mg F fa ∧ FunD K F.nm (sV F.f) F.params F.body F.scope F.dv [] fa fdc := fun F hF => by
    have e0 := fact_mem c (List.mem_append_left _ (List.mem_map.mpr ⟨F, hF, rfl⟩))
    obtain ⟨fd, D⟩ := def_mem c (List.mem_map.mpr ⟨F, hF, rfl⟩ : F.dd ∈ headFn tab)
    have D' : FunD K F.nm (sV F.f) F.params F.body F.scope F.dv [] (He.fAd K F.dd.at_) fd := by
      have e : F.dd.dvs K = F.dv := by simp [He.DefD.dvs, Fn.dd, Fn.dv, He.Dv.v]
      rw [← e]
      exact D
    refine ⟨_, fd, ?_, D'⟩
    unfold FnAt Fn.dd
    dsimp only
    split
    · rename_i z
      rw [z] at e0
      exact He.glo_ok X G e0
    · rfl
  have hfree : ∀ x ∈ bn, mg x = none := fun x hx => He.free_ok X G (fact_mem c (List.mem_append_right _ (List.mem_append_left _ (List.mem_map.mpr ⟨x, hx, rfl⟩))))
  obtain ⟨fa, fdc, e1, D⟩ := hf L hL
  unfold FnAt at e1
  rw [hcl] at e1
  dsimp only at e1
  rw [hfa] at e1
  cases e1
  refine ⟨fdc, fun s v => ?_, fun base _ _ => ?_⟩
  · have e : L.dv = [] := by unfold Fn.dv; rw [hdf]; rfl
    rw [e] at D
    have bb : L.Bnd := (hB.get L hL).elim (fun z => z.2) fun z => (z.1 hdf).elim
    have b := D.bindsA bb s [v] (by rw [hps]; rfl)
    rw [hps] at b
    exact b
  · have := all_ok (P := P) (w := w) (base := base) hgc hnd hok hB hT hf hfree n n (Nat.le_refl n) L hL f fdc D
    rw [hps] at this
    exact this
/-- without tables -/
theorem law_facts {P : Program} {w : World} {K : PySem.W.Frag} {h : Heap} {mg : Str → Option Value} {f : Addr} {tab : List Fn} {bn : List Str} {gc : Gc} {L : Fn} (h0 : gc.ts = []) (hcl : L.cl = none) (hdf : L.df = 0) (hL : L ∈ tab) (hps : L.ps = [("script" : Str)]) (X : K.In h) (G : h.Ns mainGlobals mg) (hfa : mg (sV L.f) = some (.ref f)) (c : He.SaysD (headFa tab bn gc) (headFn tab) K)
    (hnd : (tab.map (·.f)).Nodup) (hok : AllP (fun F => F.ok bn (glob tab) gc = true) tab) (hB : AllP Fn.BOk tab) (hT : gc.okT tab = true) (n : Nat) :
    ∃ fd : FuncData, (∀ (s : Shared) (v : Value), BindsTo s fd ⟨[v], []⟩ [(("script" : Str), v)]) ∧ ∀ base : Heap, K.In base → base.Ns mainGlobals mg → FnOk P w K mg base CX0 n f fd [("script" : Str)] (spC ⟨K, P, w, mg⟩ (tabP tab) n L.f) :=
  law_factsG hcl hdf hL hps X G hfa c (gc_ok X G (fun f hf => fact_mem c hf) (by unfold Gc.chr; rw [h0]; rfl) (fun t ht => by unfold headTs at ht; rw [h0] at ht; cases ht) (by unfold headEx; rw [h0]; rfl)) hnd hok hB hT n
/-- with tables -/
theorem law_factsX {P : Program} {w : World} {K : PySem.W.Frag} {h h' : Heap} {mg : Str → Option Value} {f : Addr} {tab : List Fn} {bn : List Str} {gc : Gc} {L : Fn} (h0 : gc.chr = true) (hcl : L.cl = none) (hdf : L.df = 0) (hL : L ∈ tab) (hps : L.ps = [("script" : Str)]) (X : K.In h) (G : h.Ns mainGlobals mg) (hfa : mg (sV L.f) = some (.ref f)) (c : He.SaysX (headFa tab bn gc) (headFn tab) (headTs gc) [] (headEx gc) w h' K)
    (hnd : (tab.map (·.f)).Nodup) (hok : AllP (fun F => F.ok bn (glob tab) gc = true) tab) (hB : AllP Fn.BOk tab) (hT : gc.okT tab = true) (n : Nat) :
    ∃ fd : FuncData, (∀ (s : Shared) (v : Value), BindsTo s fd ⟨[v], []⟩ [(("script" : Str), v)]) ∧ ∀ base : Heap, K.In base → base.Ns mainGlobals mg → FnOk P w K mg base CX0 n f fd [("script" : Str)] (spC ⟨K, P, w, mg⟩ (tabP tab) n L.f) :=
  law_factsG hcl hdf hL hps X G hfa c.t.d (gc_ok X G (fun f hf => fact_mem c.t.d hf) h0 (fun t ht => by
    obtain ⟨i, hi⟩ := List.getElem?_of_mem ht
    exact c.t.tab i hi) c.more) hnd hok hB hT n
end Snd
end
section
/-! Lib: heaps kept, calls, small rules for walking the IR. Pure Lean. -/
namespace M
/-- all that stood stands -/
def Ext (h h' : AH) : Prop := ∀ a o, h a = some o → h' a = some o
/-- .. but for p -/
def Ke (p : Nat) (h h' : AH) : Prop := ∀ a o, a ≠ p → h a = some o → h' a = some o
section
variable {h h1 h2 h' : AH} {p q a : Nat} {o : Ob}
theorem up_same : up h a o a = some o := by simp [up]
theorem up_ne {b : Nat} (e : b ≠ a) : up h a o b = h b := by simp [up, e]
theorem up_up {o' : Ob} : up (up h a o) a o' = up h a o' := by
  funext b; simp only [up]; split <;> rfl
theorem Ext.refl : Ext h h := fun _ _ e => e
theorem Ext.trans (x : Ext h h1) (y : Ext h1 h2) : Ext h h2 := fun a o e => y a o (x a o e)
theorem Ext.ke (x : Ext h h1) : Ke p h h1 := fun a o _ e => x a o e
theorem Ext.new (n : h p = none) : Ext h (up h p o) := fun a u e => by
  rw [up_ne (fun z => by subst z; rw [n] at e; cases e)]; exact e
theorem Ke.refl : Ke p h h := fun _ _ _ e => e
theorem Ke.trans (x : Ke p h h1) (y : Ke p h1 h2) : Ke p h h2 := fun a o n e => y a o n (x a o n e)
theorem Ke.put : Ke p h (up h p o) := fun a u n e => by rw [up_ne n]; exact e
/-- changed at p, which h does not know -/
theorem Ext.mut (x : Ext h h1) (n : h p = none) (y : Ke p h1 h2) : Ext h h2 := fun a u e => y a u (fun z => by subst z; rw [n] at e; cases e) (x a u e)
theorem fresh_back (x : Ext h h1) (n : h1 p = none) : h p = none := by
  cases e : h p with
  | none => rfl
  | some o => rw [x p o e] at n; cases n
theorem ne_new (e : h a = some o) (n : h p = none) : a ≠ p := fun z => by subst z; rw [n] at e; cases e
end
/-- behind a def's body -/
def RT (Q : VQ) : Ends := { nx := fun _ h' => Q .non h', rt := Q, bk := fun _ _ => False, ct := fun _ _ => False }
@[simp] theorem RT_nx {Q : VQ} : (RT Q).nx = fun _ h' => Q .non h' := rfl
@[simp] theorem RT_rt {Q : VQ} : (RT Q).rt = Q := rfl
@[simp] theorem RT_bk {Q : VQ} : (RT Q).bk = fun _ _ => False := rfl
@[simp] theorem RT_ct {Q : VQ} : (RT Q).ct = fun _ _ => False := rfl
theorem run_mk {P : Prog} {n : Nat} {c : Sx} {ds : List D} {h : AH} {Q : VQ} {X : XP} (hP : P (mkN c) = none) (q : ∀ r, h r = none → run P n (metN c sInit) (.ref r :: ds) (up h r (.ins c [])) (fun d h2 => d = .non ∧ Q (.ref r) h2) X) : run P (n + 1) (mkN c) ds h Q X := by
  simp only [run]
  rw [hP]
  exact q
theorem run_of {P : Prog} {n : Nat} {f : Sx} {fd : FD} {ds : List D} {h : AH} {Q : VQ} {X : XP} (hP : P f = some fd) (hl : ds.length = fd.ps)
    (hb : wSs ⟨run P n, X⟩ fd.body (RT Q) (start fd ds) h) : run P (n + 1) f ds h Q X := by
  unfold run
  simp only [hP]
  exact ⟨hl, hb⟩
/-! ### loops -/
/-- over a range -/
theorem loop_rng {lo hi : Int} {ok : AH → Prop} {body : D → St → AH → (St → AH → Prop) → Prop} {done : St → AH → Prop} {σ : St} {h : AH} (P : Nat → St → AH → Prop) (h0 : P 0 σ h) (hok : ∀ i σ h, P i σ h → ok h)
    (hs : ∀ (i : Nat) σ h, (i : Int) < hi - lo → P i σ h → body (.int (lo + i)) σ h (P (i + 1))) (hd : ∀ σ h, P (hi - lo).toNat σ h → done σ h) : loopW (rangeL lo hi) ok body done σ h := by
  have ln : (rangeL lo hi).length = (hi - lo).toNat := by simp [rangeL]
  refine ⟨P, h0, hok, fun i x σ h e p => ?_, fun σ h p => hd σ h (by rw [ln] at p; exact p)⟩
  have hlt : i < (rangeL lo hi).length := (List.getElem?_eq_some_iff.mp e).1
  rw [ln] at hlt
  simp only [rangeL, List.getElem?_map] at e
  rw [List.getElem?_range hlt] at e
  simp only [Option.map_some, Option.some.injEq] at e
  subst e
  exact hs i σ h (by omega) p
theorem comp_rng {lo hi : Int} {ok : AH → Prop} {body : D → AH → (D → AH → Prop) → (AH → Prop) → Prop} {done : List D → AH → Prop} {h : AH} (P : Nat → List D → AH → Prop) (h0 : P 0 [] h) (hok : ∀ i acc h, P i acc h → ok h ∧ acc.length ≤ i) (hz : (hi - lo).toNat ≤ LINE)
    (hs : ∀ (i : Nat) acc h, (i : Int) < hi - lo → P i acc h → body (.int (lo + i)) h (fun y h' => P (i + 1) (acc ++ [y]) h') (fun h' => P (i + 1) acc h')) (hd : ∀ acc h, P (hi - lo).toNat acc h → done acc h) : compW (rangeL lo hi) ok body done h := by
  have ln : (rangeL lo hi).length = (hi - lo).toNat := by simp [rangeL]
  refine ⟨P, h0, hok, by rw [ln]; exact hz, fun i x acc h e p => ?_, fun acc h p => hd acc h (by rw [ln] at p; exact p)⟩
  have hlt : i < (rangeL lo hi).length := (List.getElem?_eq_some_iff.mp e).1
  rw [ln] at hlt
  simp only [rangeL, List.getElem?_map] at e
  rw [List.getElem?_range hlt] at e
  simp only [Option.map_some, Option.some.injEq] at e
  subst e
  exact hs i acc h (by omega) p
/-- a while by an invariant and a measure -/
theorem whl_of {C : Cx} {c : E} {b : Ss} {R : Ends} {σ : St} {h : AH} (I : St → AH → Prop) (μ : St → AH → Nat) (h0 : I σ h)
    (hs : ∀ σ h, I σ h → wT C c σ h fun k h1 => match k with
      | true => wSs C b { nx := fun σ' h' => I σ' h' ∧ μ σ' h' < μ σ h, ct := fun σ' h' => I σ' h' ∧ μ σ' h' < μ σ h, bk := R.nx, rt := R.rt } σ h1
      | false => R.nx σ h1) (mono : ∀ (σ : St) (h : AH) (Q Q' : Bool → AH → Prop), (∀ b h1, Q b h1 → Q' b h1) → wT C c σ h Q → wT C c σ h Q')
    (bmono : ∀ (σ : St) (h : AH) (N N' : St → AH → Prop), (∀ s h, N s h → N' s h) → wSs C b { nx := N, ct := N, bk := R.nx, rt := R.rt } σ h → wSs C b { nx := N', ct := N', bk := R.nx, rt := R.rt } σ h) : wS C (.whl c b) R σ h := by
  simp only [wS]
  refine ⟨fun m σ h => m = μ σ h ∧ I σ h, ⟨_, rfl, h0⟩, ?_⟩
  rintro m σ h ⟨rfl, i⟩
  refine mono σ h _ _ (fun k h1 q => ?_) (hs σ h i)
  cases k with
  | true => exact bmono σ h1 _ _ (fun s h' ⟨a, b⟩ => ⟨_, b, rfl, a⟩) q
  | false => exact q

/-! ### one step at a time -/
section
variable {C : Cx} {σ : St} {h h1 : AH} {Q : VQ} {R : Ends}
@[simp] theorem wE_var {i : Nat} : wE C (.var i) σ h Q = match σ[i]? with
    | some (some d) => Q d h
    | _ => False := by simp only [wE] <;> rfl
@[simp] theorem wE_int {n : Int} : wE C (.int n) σ h Q = Q (.int n) h := by simp only [wE]
@[simp] theorem wE_str {s : Sx} : wE C (.str s) σ h Q = Q (.str s) h := by simp only [wE]
@[simp] theorem wE_bl {s : Bool} : wE C (.bl s) σ h Q = Q (.bl s) h := by simp only [wE]
@[simp] theorem wE_non : wE C .non σ h Q = Q .non h := by simp only [wE]
@[simp] theorem wE_tup {es : Es} : wE C (.tup es) σ h Q = wEs C es σ h fun ds h1 => ds.length ≤ LINE ∧ Q (.tup ds) h1 := by simp only [wE]
@[simp] theorem wE_lst {es : Es} : wE C (.lst es) σ h Q = wEs C es σ h fun ds h1 => ds.length ≤ LINE ∧ ∀ r, h1 r = none → Q (.ref r) (up h1 r (.lst ds)) := by simp only [wE]
@[simp] theorem wE_dsp {k : Nat} {e : E} {es : Es} : wE C (.dct k (.cons e es)) σ h Q = ∀ r, h r = none → wE C e σ (up h r (.dct k [])) fun d h1 => wEs C es σ h1 fun ds h2 => h2 r = some (.dct k []) ∧ aSome (pairUp (d :: ds)) fun kvs => keysOk k kvs = true ∧ Q (.ref r) (up h2 r (.dct k (mergeL [] kvs))) := by simp only [wE]
@[simp] theorem wE_lzip {es : Es} : wE C (.lzip es) σ h Q = wEs C es σ h fun ds h2 => arg2 ds fun x y => aTup x fun xs => aTup y fun ys => ∀ r, h2 r = none → Q (.ref r) (up h2 r (.lst (zipL xs ys))) := by simp only [wE]
@[simp] theorem wE_lrng {es : Es} : wE C (.lrng es) σ h Q = wEs C es σ h fun ds h1 => aRng ds fun lo hi => ∀ r, h1 r = none → Q (.ref r) (up h1 r (.lst (rangeL lo hi))) := by simp only [wE]
@[simp] theorem wE_rev {a : E} : wE C (.rev a) σ h Q = wE C a σ h fun x h1 => aLst x h1 fun _ xs => ∀ r, h1 r = none → Q (.ref r) (up h1 r (.lst xs.reverse)) := by simp only [wE]
@[simp] theorem wE_dct {k : Nat} : wE C (.dct k .nil) σ h Q = ∀ r, h r = none → Q (.ref r) (up h r (.dct k [])) := by simp only [wE]
@[simp] theorem wE_bin {o : Bop} {a b : E} : wE C (.bin o a b) σ h Q = wE C a σ h fun x h1 => wE C b σ h1 fun y h2 => opBin o x y h2 Q := by simp only [wE]
@[simp] theorem wE_neg {a : E} : wE C (.neg a) σ h Q = wE C a σ h fun x h1 => match x with
    | .int i => Q (.int (-i)) h1
    | _ => False := by simp only [wE] <;> rfl
@[simp] theorem wE_cmp {o : Cop} {a b : E} : wE C (.cmp o a b) σ h Q = wE C a σ h fun x h1 => wE C b σ h1 fun y h2 => opCmp o x y h2 fun c => Q (.bl c) h2 := by simp only [wE]
@[simp] theorem wE_chn {o o' : Cop} {a b c : E} : wE C (.chn o o' a b c) σ h Q = wE C a σ h fun x h1 => wE C b σ h1 fun y h2 => opCmp o x y h2 fun k => match k with
    | true => wE C c σ h2 fun z h3 => opCmp o' y z h3 fun k' => Q (.bl k') h3
    | false => Q (.bl false) h2 := by simp only [wE] <;> rfl
@[simp] theorem wE_bop {k : Bool} {es : Es} : wE C (.bop k es) σ h Q = wB C k es σ h Q := by simp only [wE]
@[simp] theorem wE_not {a : E} : wE C (.not a) σ h Q = wE C a σ h fun x h1 => match x with
    | .bl b => Q (.bl (!b)) h1
    | _ => False := by simp only [wE] <;> rfl
@[simp] theorem wE_ite {c a b : E} : wE C (.ite c a b) σ h Q = wE C c σ h fun x h1 => match x with
    | .bl true => wE C a σ h1 Q
    | .bl false => wE C b σ h1 Q
    | _ => False := by simp only [wE] <;> rfl
@[simp] theorem wE_ix {a i : E} : wE C (.ix a i) σ h Q = wE C a σ h fun x h1 => wE C i σ h1 fun y h2 => opIx x y h2 Q := by simp only [wE]
@[simp] theorem wE_sl {a : E} {lo hi : Es} : wE C (.sl a lo hi) σ h Q = wE C a σ h fun x h1 => wO C lo σ h1 fun l h2 => wO C hi σ h2 fun u h3 => opSl x l u h3 Q := by simp only [wE]
@[simp] theorem wE_callD {f : Sx} {k : Nat} {es : Es} : wE C (.callD f k es) σ h Q = wEs C es σ h fun ds h1 => C.call f (ds ++ List.replicate k .non) h1 Q C.ex := by simp only [wE]
@[simp] theorem wE_dcn : wE C .dcn σ h Q = ∀ r, h r = none → Q (.ref r) (up h r (.dcn [])) := by simp only [wE]
@[simp] theorem wE_smv {e : E} : wE C (.smv e) σ h Q = wE C e σ h fun x h1 => aVals x h1 fun kvs => aSome (intsOf (kvs.map (·.2))) fun ns => Q (.int ns.sum) h1 := by simp only [wE]
@[simp] theorem wE_fld {e : E} {f : Sx} : wE C (.fld e f) σ h Q = wE C e σ h fun x h1 => aIns x h1 fun _ _ fs => aSome (fs.lookup f) fun v => Q v h1 := by simp only [wE]
@[simp] theorem wE_newo {c : Sx} {es : Es} : wE C (.newo c es) σ h Q = wEs C es σ h fun ds h1 => C.call (mkN c) ds h1 Q C.ex := by simp only [wE]
@[simp] theorem wE_mcall {c m : Sx} {o : E} {es : Es} : wE C (.mcall c m o es) σ h Q = wE C o σ h fun x h1 => aIns x h1 fun p c' fs => c' = c ∧ fs.lookup m = none ∧ wEs C es σ h1 fun ds h2 => C.call (metN c m) (.ref p :: ds) h2 Q C.ex := by simp only [wE]
@[simp] theorem wE_call {f : Sx} {es : Es} : wE C (.call f es) σ h Q = wEs C es σ h fun ds h1 => C.call f ds h1 Q C.ex := by simp only [wE]
@[simp] theorem wE_blt {b : Blt} {es : Es} : wE C (.blt b es) σ h Q = wEs C es σ h fun ds h1 => opBlt b ds h1 Q := by simp only [wE]
@[simp] theorem wE_isi {a : E} {t : Ty} : wE C (.isi a t) σ h Q = wE C a σ h fun x h1 => match opIsi x t h1 with
    | some b => Q (.bl b) h1
    | none => False := by simp only [wE] <;> rfl
@[simp] theorem wE_mth {m : Mth} {o : E} {es : Es} : wE C (.mth m o es) σ h Q = wE C o σ h fun x h1 => recvOk m x h1 ∧ wEs C es σ h1 fun ds h2 => opMth m x ds h2 Q := by simp only [wE]
@[simp] theorem wE_lc {elt : E} {t : Tgt} {own : List Nat} {k : Itk} {src ifs : Es} : wE C (.lc elt t own k src ifs) σ h Q = wEs C src σ h fun ds h1 => walk k ds h1 fun xs ok =>
      compW xs ok (fun x h2 yes no => match setT t x (forget σ own) with
        | some σ' => wB C true ifs σ' h2 fun c h3 => match c with
          | .bl true => wE C elt σ' h3 yes
          | .bl false => no h3
          | _ => False
        | none => False) (fun acc h2 => ∀ r, h2 r = none → Q (.ref r) (up h2 r (.lst acc))) h1 := by simp only [wE] <;> rfl
@[simp] theorem wE_slw {a : E} {lo hi : Es} : wE C (.slw a lo hi) σ h Q = wE C a σ h fun x h1 => wO C lo σ h1 fun l h2 => wO C hi σ h2 fun u h3 => opSlW x l u h3 Q := by simp only [wE]
@[simp] theorem wE_tlr {a : E} : wE C (.tlr a) σ h Q = wE C a σ h fun x h1 => aTup x fun xs => Q (.tup xs.tail.reverse) h1 := by simp only [wE]
@[simp] theorem wE_gint {x : Sx} {n : Int} : wE C (.gint x n) σ h Q = Q (.int n) h := by simp only [wE]
@[simp] theorem wE_mnd {es : Es} : wE C (.mnd es) σ h Q = wEs C es σ h fun ds h1 => minD ds h1 Q := by simp only [wE]
@[simp] theorem wE_orv {a b : E} : wE C (.orv a b) σ h Q = wE C a σ h fun x h1 => match x with
    | .non => wE C b σ h1 Q
    | .int i => (i ≠ 0 → Q (.int i) h1) ∧ (i = 0 → wE C b σ h1 Q)
    | _ => False := by simp only [wE] <;> rfl
@[simp] theorem wE_tix {x : Sx} {tab : List (Sx × Sx)} {a : E} : wE C (.tix x tab a) σ h Q = wE C a σ h fun x h1 => match x with
    | .str s => (match tab.lookup s with
      | some t => Q (.str t) h1
      | none => False)
    | _ => False := by simp only [wE] <;> rfl
@[simp] theorem wEs_nil {Q : List D → AH → Prop} : wEs C .nil σ h Q = Q [] h := by simp only [wEs]
@[simp] theorem wEs_cons {e : E} {es : Es} {Q : List D → AH → Prop} : wEs C (.cons e es) σ h Q = wE C e σ h fun d h1 => wEs C es σ h1 fun ds h2 => Q (d :: ds) h2 := by simp only [wEs]
@[simp] theorem wB_nil {k : Bool} : wB C k .nil σ h Q = Q (.bl k) h := by simp only [wB]
@[simp] theorem wB_and {e : E} {es : Es} : wB C true (.cons e es) σ h Q = wE C e σ h fun d h1 => match d with
    | .bl true => wB C true es σ h1 Q
    | .bl false => Q (.bl false) h1
    | _ => False := by
  simp only [wB]
  congr
  funext d h1
  cases d with
  | bl b => cases b <;> rfl
  | _ => rfl
@[simp] theorem wB_or {e : E} {es : Es} : wB C false (.cons e es) σ h Q = wE C e σ h fun d h1 => match d with
    | .bl false => wB C false es σ h1 Q
    | .bl true => Q (.bl true) h1
    | _ => False := by
  simp only [wB]
  congr
  funext d h1
  cases d with
  | bl b => cases b <;> rfl
  | _ => rfl
@[simp] theorem wO_nil {Q : Option Int → AH → Prop} : wO C .nil σ h Q = Q none h := by simp only [wO]
@[simp] theorem wO_cons {e : E} {Q : Option Int → AH → Prop} : wO C (.cons e .nil) σ h Q = wE C e σ h fun d h1 => match d with
    | .int n => Q (some n) h1
    | _ => False := by simp only [wO] <;> rfl
@[simp] theorem wT_eq {e : E} {Q : Bool → AH → Prop} : wT C e σ h Q = wE C e σ h fun d h1 => match d with
    | .bl b => Q b h1
    | _ => False := rfl
@[simp] theorem wS_asg {t : Tgt} {e : E} : wS C (.asg t e) R σ h = wE C e σ h fun d h1 => match setT t d σ with
    | some σ' => R.nx σ' h1
    | none => False := by simp only [wS] <;> rfl
@[simp] theorem wS_sfld {c f : Sx} {o e : E} : wS C (.sfld c o f e) R σ h = wE C e σ h fun v h1 => wE C o σ h1 fun x h2 => aIns x h2 fun p c' fs => c' = c ∧ fs.length < 1000 ∧ R.nx σ (up h2 p (.ins c (putA f v fs))) := by simp only [wS]
@[simp] theorem wS_six {o i e : E} : wS C (.six o i e) R σ h = wE C e σ h fun v h1 => wE C o σ h1 fun x h2 => wE C i σ h2 fun y h3 => opSet x y v h3 fun h4 => R.nx σ h4 := by simp only [wS]
@[simp] theorem wS_aug {i : Nat} {o : Bop} {e : E} : wS C (.aug i o e) R σ h = match σ[i]? with
    | some (some x) => wE C e σ h fun y h1 => opAug o x y fun z => R.nx (σ.set i (some z)) h1
    | _ => False := by simp only [wS] <;> rfl
@[simp] theorem wS_ex {e : E} : wS C (.ex e) R σ h = wE C e σ h fun _ h1 => R.nx σ h1 := by simp only [wS]
@[simp] theorem wS_ret {e : E} : wS C (.ret e) R σ h = wE C e σ h R.rt := by simp only [wS]
@[simp] theorem wS_retN : wS C .retN R σ h = R.rt .non h := by simp only [wS]
@[simp] theorem wS_ife {c : E} {a b : Ss} : wS C (.ife c a b) R σ h = wE C c σ h fun d h1 => match d with
    | .bl true => wSs C a R σ h1
    | .bl false => wSs C b R σ h1
    | _ => False := by
  simp only [wS, wT]
  congr
  funext d h1
  cases d with
  | bl b => cases b <;> rfl
  | _ => rfl
@[simp] theorem wS_for {t : Tgt} {k : Itk} {src : Es} {b : Ss} : wS C (.for_ t k src b) R σ h = wEs C src σ h fun ds h1 => walk k ds h1 fun xs ok =>
      loopW xs ok (fun x σ h P => match setT t x σ with
        | some σ' => wSs C b { nx := P, ct := P, bk := R.nx, rt := R.rt } σ' h
        | none => False) R.nx σ h1 := by simp only [wS] <;> rfl
@[simp] theorem wS_pass : wS C .pass R σ h = R.nx σ h := by simp only [wS]
@[simp] theorem wS_brk : wS C .brk R σ h = R.bk σ h := by simp only [wS]
@[simp] theorem wS_cont : wS C .cont R σ h = R.ct σ h := by simp only [wS]
@[simp] theorem wSs_nil : wSs C .nil R σ h = R.nx σ h := by simp only [wSs]
@[simp] theorem wSs_cons {s : S} {ss : Ss} : wSs C (.cons s ss) R σ h = wS C s { R with nx := fun σ' h' => wSs C ss R σ' h' } σ h := by simp only [wSs]
@[simp] theorem setT_nm {i : Nat} {d : D} : setT (.nm i) d σ = some (σ.set i (some d)) := rfl
@[simp] theorem setT_tp {ts : List Nat} {ds : List D} : setT (.tp ts) (.tup ds) σ = setT.setTs ts ds σ := rfl
@[simp] theorem setTs_nil : setT.setTs [] [] σ = some σ := rfl
@[simp] theorem setTs_cons {i : Nat} {is : List Nat} {d : D} {ds : List D} : setT.setTs (i :: is) (d :: ds) σ = setT.setTs is ds (σ.set i (some d)) := rfl
@[simp] theorem forget_nil : forget σ [] = σ := rfl
@[simp] theorem forget_cons {v : Nat} {vs : List Nat} : forget σ (v :: vs) = (forget σ vs).set v none := rfl
end
section
variable {h : AH} {Q : VQ} {q : Bool → Prop} {a b : Int} {s t : Sx} {xs ys : List D} {x y d : D} {p r : Nat}
@[simp] theorem bin_add : opBin .add x y h Q = opAdd x y h Q := rfl
@[simp] theorem bin_mul : opBin .mul x y h Q = opMul x y h Q := rfl
@[simp] theorem bin_sub : opBin .sub (.int a) (.int b) h Q = Q (.int (a - b)) h := rfl
@[simp] theorem bin_mod : opBin .mod (.int a) (.int b) h Q = (0 < b ∧ Q (.int (a % b)) h) := rfl
@[simp] theorem bin_fdiv : opBin .fdiv (.int a) (.int b) h Q = (divOk b ∧ Q (.int (a / b)) h) := rfl
@[simp] theorem bin_pow : opBin .pow (.int a) (.int b) h Q = (powOk a b ∧ Q (.int (a ^ b.toNat)) h) := rfl
@[simp] theorem add_int : opAdd (.int a) (.int b) h Q = Q (.int (a + b)) h := rfl
@[simp] theorem add_str : opAdd (.str s) (.str t) h Q = (s.length + t.length ≤ LINE ∧ Q (.str (s ++ t)) h) := rfl
@[simp] theorem add_tup : opAdd (.tup xs) (.tup ys) h Q = (xs.length + ys.length ≤ LINE ∧ Q (.tup (xs ++ ys)) h) := rfl
@[simp] theorem add_ref : opAdd (.ref p) (.ref r) h Q = ∃ xs ys, h p = some (.lst xs) ∧ h r = some (.lst ys) ∧ xs.length + ys.length ≤ LINE ∧ ∀ r, h r = none → Q (.ref r) (up h r (.lst (xs ++ ys))) := rfl
@[simp] theorem mul_int : opMul (.int a) (.int b) h Q = (mulOk a b ∧ Q (.int (a * b)) h) := rfl
@[simp] theorem cmp_eq : opCmp .eq x y h q = eqOkX x y h q := rfl
@[simp] theorem cmp_ne : opCmp .ne x y h q = eqOk x y h fun c => q (!c) := rfl
@[simp] theorem cmp_lt : opCmp .lt (.int a) (.int b) h q = q (decide (a < b)) := rfl
@[simp] theorem cmp_ltS : opCmp .lt (.str s) (.str t) h q = q (decide (s < t)) := rfl
@[simp] theorem cmp_le : opCmp .le (.int a) (.int b) h q = q (decide (a ≤ b)) := rfl
@[simp] theorem cmp_gt : opCmp .gt (.int a) (.int b) h q = q (decide (b < a)) := rfl
@[simp] theorem cmp_ge : opCmp .ge (.int a) (.int b) h q = q (decide (b ≤ a)) := rfl
@[simp] theorem cmp_in : opCmp .isin x y h q = memOk x y h q := rfl
@[simp] theorem cmp_nin : opCmp .notin x y h q = memOk x y h fun c => q (!c) := rfl
@[simp] theorem cmp_is : opCmp .is_ x .non h q = q (decide (x = .non)) := rfl
@[simp] theorem cmp_isnt : opCmp .isnt x .non h q = q (!decide (x = .non)) := rfl
@[simp] theorem cmp_isB {a b : Bool} : opCmp .is_ (.bl a) (.bl b) h q = q (decide (a = b)) := rfl
@[simp] theorem cmp_isntB {a b : Bool} : opCmp .isnt (.bl a) (.bl b) h q = q (!decide (a = b)) := rfl
@[simp] theorem eq_int : eqOk (.int a) (.int b) h q = q (decide (a = b)) := by simp [eqOk, pureD, plain]
@[simp] theorem eq_str : eqOk (.str s) (.str t) h q = q (decide (s = t)) := by simp [eqOk, pureD, plain]
@[simp] theorem eq_bl {a b : Bool} : eqOk (.bl a) (.bl b) h q = q (decide (a = b)) := rfl
@[simp] theorem eqX_int : eqOkX (.int a) (.int b) h q = q (decide (a = b)) := by simp [eqOkX, EqS]
@[simp] theorem eqX_str : eqOkX (.str s) (.str t) h q = q (decide (s = t)) := by simp [eqOkX, EqS]
@[simp] theorem eqX_bl {a b : Bool} : eqOkX (.bl a) (.bl b) h q = q (decide (a = b)) := by simp [eqOkX, EqS]
@[simp] theorem eq_tup : eqOk (.tup xs) (.tup ys) h q = (pureDs xs = true ∧ pureDs ys = true ∧ (plain 190 (.tup xs) = true ∨ plain 190 (.tup ys) = true) ∧ q (decide (xs = ys))) := by simp [eqOk, pureD]
@[simp] theorem eq_ref : eqOk (.ref p) (.ref r) h q = ∃ xs ys, h p = some (.lst xs) ∧ h r = some (.lst ys) ∧ pureDs xs = true ∧ pureDs ys = true ∧ (plains 190 xs = true ∨ plains 190 ys = true) ∧ q (decide (xs = ys)) := rfl
@[simp] theorem ix_tup {i : Int} : opIx (.tup xs) (.int i) h Q = match atI xs i with
    | some d => Q d h
    | none => False := rfl
@[simp] theorem ix_rol {i : Int} : opIx (.rol xs) (.int i) h Q = match atI xs i with
    | some d => Q d h
    | none => False := rfl
@[simp] theorem ix_str {i : Int} : opIx (.str s) (.int i) h Q = (s.length ≤ LINE ∧ match atI s i with
    | some c => Q (.str [c]) h
    | none => False) := rfl
theorem ix_lst {i : Int} (e : h p = some (.lst xs)) : opIx (.ref p) (.int i) h Q = match atI xs i with
    | some d => Q d h
    | none => False := by simp only [opIx, e] <;> rfl
theorem ix_dct {k : Nat} {kvs : List (D × D)} (e : h p = some (.dct k kvs)) : opIx (.ref p) y h Q = (keyOk k y = true ∧ match kvGet kvs y with
    | some d => Q d h
    | none => False) := by simp only [opIx, e] <;> rfl
@[simp] theorem slw_tup {lo hi : Option Int} : opSlW (.tup xs) lo hi h Q = Q (.tup (cut xs lo hi)) h := rfl
@[simp] theorem sl_rol {lo hi : Option Int} : opSl (.rol xs) lo hi h Q = ∀ r, h r = none → Q (.ref r) (up h r (.lst (cut xs lo hi))) := rfl
@[simp] theorem sl_str {lo hi : Option Int} : opSl (.str s) lo hi h Q = (s.length ≤ LINE ∧ Q (.str (cut s lo hi)) h) := rfl
theorem sl_lst {lo hi : Option Int} (e : h p = some (.lst xs)) : opSl (.ref p) lo hi h Q = ∀ r, h r = none → Q (.ref r) (up h r (.lst (cut xs lo hi))) := by simp only [opSl, e]
@[simp] theorem arg1_eq {f : D → Prop} : arg1 [d] f = f d := rfl
@[simp] theorem arg2_eq {f : D → D → Prop} : arg2 [x, y] f = f x y := rfl
@[simp] theorem anInt_eq {f : Int → Prop} : anInt (.int a) f = f a := rfl
@[simp] theorem aSome_eq {α : Type} {z : α} {f : α → Prop} : aSome (some z) f = f z := rfl
theorem aLst_eq {f : Nat → List D → Prop} (e : h p = some (.lst xs)) : aLst (.ref p) h f = f p xs := by simp only [aLst, e]
theorem aDct_eq {k : Nat} {kvs : List (D × D)} {f : Nat → Nat → List (D × D) → Prop} (e : h p = some (.dct k kvs)) : aDct (.ref p) h f = f p k kvs := by simp only [aDct, e]
@[simp] theorem len_str {f : Nat → Prop} : lenOk (.str s) h f = (s.length ≤ LINE ∧ f s.length) := rfl
@[simp] theorem len_tup {f : Nat → Prop} : lenOk (.tup xs) h f = f xs.length := rfl
@[simp] theorem len_rol {f : Nat → Prop} : lenOk (.rol xs) h f = f xs.length := rfl
theorem len_lst {f : Nat → Prop} (e : h p = some (.lst xs)) : lenOk (.ref p) h f = f xs.length := by simp only [lenOk, e]
@[simp] theorem toInt_int {f : Int → Prop} : toInt (.int a) f = f a := rfl
@[simp] theorem toInt_bl {b : Bool} {f : Int → Prop} : toInt (.bl b) f = f (if b then 1 else 0) := rfl
@[simp] theorem blt_len {ds : List D} : opBlt .len ds h Q = arg1 ds fun d => lenOk d h fun n => Q (.int n) h := rfl
@[simp] theorem blt_min2 {ds : List D} : opBlt .min2 ds h Q = arg2 ds fun x y => anInt x fun a => anInt y fun b => Q (.int (if b < a then b else a)) h := rfl
@[simp] theorem blt_max2 {ds : List D} : opBlt .max2 ds h Q = arg2 ds fun x y => anInt x fun a => anInt y fun b => Q (.int (if b > a then b else a)) h := rfl
@[simp] theorem blt_int1 {ds : List D} : opBlt .int1 ds h Q = arg1 ds fun d => toInt d fun i => Q (.int i) h := rfl
@[simp] theorem blt_sum {ds : List D} : opBlt .sum ds h Q = arg1 ds fun d => aLst d h fun _ xs => aSome (intsOf xs) fun ns => Q (.int ns.sum) h := rfl
@[simp] theorem blt_all {ds : List D} : opBlt .all ds h Q = arg1 ds fun d => aLst d h fun _ xs => aSome (bls xs) fun bs => Q (.bl (bs.all id)) h := rfl
@[simp] theorem blt_any {ds : List D} : opBlt .any ds h Q = arg1 ds fun d => aLst d h fun _ xs => aSome (bls xs) fun bs => Q (.bl (bs.any id)) h := rfl
@[simp] theorem blt_klist {ds : List D} : opBlt .klist ds h Q = arg1 ds fun d => aDctR d h fun _ _ kvs => ∀ r, h r = none → Q (.ref r) (up h r (.lst (kvs.map (·.1)))) := rfl
@[simp] theorem blt_max1 {ds : List D} : opBlt .max1 ds h Q = arg1 ds fun d => aLst d h fun _ xs => aSome (intsOf xs) fun ns => ns ≠ [] ∧ ∀ m, m ∈ ns → (∀ y, y ∈ ns → y ≤ m) → Q (.int m) h := rfl
@[simp] theorem blt_sorted {ds : List D} : opBlt .sorted ds h Q = arg1 ds fun d => aDctR d h fun _ _ kvs => aSome (strsOf (kvs.map (·.1))) fun ss => ss.length < 64 ∧ ∀ ys : List Sx, ys.Perm ss → ∀ r, h r = none → Q (.ref r) (up h r (.lst (ys.map .str))) := rfl
@[simp] theorem blt_sortd {ds : List D} : opBlt .sortd ds h Q = arg1 ds fun d => sortP d h fun xs => ∀ ys : List D, ys.Perm xs → ys.Pairwise (fun a b => ltD b a = false) → ∀ r, h r = none → Q (.ref r) (up h r (.lst ys)) := rfl
theorem sortP_lst {f : List D → Prop} (e : h p = some (.lst xs)) : sortP (.ref p) h f = (sortOk xs ∧ f xs) := by simp only [sortP, e]
theorem sortP_dct {kvs : List (D × D)} {f : List D → Prop} (e : h p = some (.dct 0 kvs)) : sortP (.ref p) h f = ((∃ ss, strsOf (kvs.map (·.1)) = some ss ∧ ss.length < 64) ∧ f (kvs.map (·.1))) := by simp only [sortP, e]
theorem sortP_rdct {kvs : List (D × D)} {f : List D → Prop} (e : h p = some (.rdct 0 kvs)) : sortP (.ref p) h f = ((∃ ss, strsOf (kvs.map (·.1)) = some ss ∧ ss.length < 64) ∧ f (kvs.map (·.1))) := by simp only [sortP, e]
@[simp] theorem cmp_ltT {ys : List D} : opCmp .lt (.tup xs) (.tup ys) h q = (cmpbs xs ys = true ∧ pureDs xs = true ∧ pureDs ys = true ∧ (plains 190 xs = true ∨ plains 190 ys = true) ∧ q (ltDs xs ys)) := rfl
@[simp] theorem blt_list {ds : List D} : opBlt .list ds h Q = arg1 ds fun d => aSome (seqOf d h) fun xs => ∀ r, h r = none → Q (.ref r) (up h r (.lst xs)) := rfl
@[simp] theorem blt_tuple {ds : List D} : opBlt .tuple ds h Q = arg1 ds fun d => aSome (seqOf d h) fun xs => Q (.tup xs) h := rfl
@[simp] theorem seq_tup : seqOf (.tup xs) h = some xs := rfl
@[simp] theorem seq_rol : seqOf (.rol xs) h = some xs := rfl
theorem seq_lst (e : h p = some (.lst xs)) : seqOf (.ref p) h = some xs := by simp only [seqOf, e]
@[simp] theorem recv_lst {m : Mth} {ds : List D} : opMth .append x ds h Q = arg1 ds fun d => aLst x h fun p xs => xs.length < LINE ∧ Q .non (up h p (.lst (xs ++ [d]))) := rfl
@[simp] theorem mth_pop : opMth .pop x [] h Q = aLst x h fun p xs => aSome xs[xs.length - 1]? fun y => Q y (up h p (.lst xs.dropLast)) := by simp [opMth]
@[simp] theorem aTup_eq {f : List D → Prop} : aTup (.tup xs) f = f xs := rfl
@[simp] theorem aStr_eq {f : Sx → Prop} : aStr (.str s) f = f s := rfl
@[simp] theorem aRng1 {f : Int → Int → Prop} : aRng [.int a] f = ((-(2 ^ 62) ≤ a ∧ a ≤ LINE) ∧ f 0 a) := rfl
@[simp] theorem aRng2 {f : Int → Int → Prop} : aRng [.int a, .int b] f = (((-(2 ^ 62) ≤ a ∧ a ≤ LINE) ∧ -(2 ^ 62) ≤ b ∧ b ≤ LINE ∧ (b - a).toNat ≤ LINE) ∧ f a b) := rfl
theorem mth_popI : opMth .popAt x [.int a] h Q = aLst x h fun p xs => (0 ≤ a ∧ a < 2 ^ 62) ∧ aSome xs[a.toNat]? fun y => Q y (up h p (.lst (xs.eraseIdx a.toNat))) := rfl
@[simp] theorem mth_popAt : opMth .popAt x [.int 0] h Q = aLst x h fun p xs => aSome xs[0]? fun y => Q y (up h p (.lst xs.tail)) := by
  rw [mth_popI]
  unfold aLst
  split
  · split
    · rename_i xs _
      have : xs.eraseIdx 0 = xs.tail := by cases xs <;> rfl
      simp [this]
    · rfl
  · rfl
@[simp] theorem mth_update : opMth .update x [d] h Q = aDct x h fun p kd kvs => aDct d h fun r kd' more => p ≠ r ∧ kd = 0 ∧ kd' = 0 ∧ kvs.length + more.length ≤ LINE ∧ Q .non (up h p (.dct 0 (mergeL kvs more))) := rfl
@[simp] theorem mth_insert : opMth .insert x [.int a, d] h Q = aLst x h fun p xs => (0 ≤ a ∧ a < 2 ^ 62) ∧ xs.length < LINE ∧ Q .non (up h p (.lst (xs.take a.toNat ++ [d] ++ xs.drop a.toNat))) := rfl
@[simp] theorem mth_index : opMth .index x [.int a] h Q = aLst x h fun _ xs => aSome (intsOf xs) fun ns => a ∈ ns ∧ Q (.int (ns.idxOf a : Nat)) h := rfl
@[simp] theorem mth_dclear : opMth .dclear x [] h Q = aDct x h fun p kd kvs => kd = 0 ∧ Q .non (up h p (.dct 0 [])) := by simp [opMth]
@[simp] theorem mth_join : opMth .join (.str s) [d] h Q = aSome (seqOf d h) fun xs => aSome (strsOf xs) fun ss => (ss.map (·.length)).sum + ss.length * s.length ≤ LINE ∧ Q (.str (joinS s ss)) h := rfl
@[simp] theorem recv_join : recvOk .join (.str s) h := trivial
@[simp] theorem blt_dict1 {ds : List D} : opBlt .dict1 ds h Q = arg1 ds fun d => aDctR d h fun _ k kvs => ∀ r, h r = none → Q (.ref r) (up h r (.dct k kvs)) := rfl
@[simp] theorem mth_append : opMth .append x [d] h Q = aLst x h fun p xs => xs.length < LINE ∧ Q .non (up h p (.lst (xs ++ [d]))) := rfl
@[simp] theorem mth_extend : opMth .extend x [d] h Q = aLst x h fun p xs => aLst d h fun q ys => xs.length + ys.length ≤ LINE ∧ Q .non (up h p (.lst (xs ++ ys))) := rfl
@[simp] theorem mth_extendT : opMth .extendT x [d] h Q = aLst x h fun p xs => aTup d fun ys => xs.length + ys.length ≤ LINE ∧ Q .non (up h p (.lst (xs ++ ys))) := rfl
@[simp] theorem mth_reverse : opMth .reverse x [] h Q = aLst x h fun p xs => Q .non (up h p (.lst xs.reverse)) := by simp [opMth]
@[simp] theorem mth_get1 : opMth .get1 x [y] h Q = aDct x h fun p kd kvs => keyOk kd y = true ∧ Q ((kvGet kvs y).getD .non) h := rfl
@[simp] theorem mth_get2 : opMth .get2 x [y, d] h Q = aDct x h fun p kd kvs => keyOk kd y = true ∧ Q ((kvGet kvs y).getD d) h := rfl
def lstM : Mth → Bool
  | .append => true
  | .pop => true
  | .popAt => true
  | .extend => true
  | .extendT => true
  | .insert => true
  | .index => true
  | .reverse => true
  | .clear => true
  | _ => false
def dctM : Mth → Bool
  | .get1 => true
  | .get2 => true
  | .update => true
  | .dclear => true
  | _ => false
theorem recv_lstM {m : Mth} (hm : lstM m = true) (e : h p = some (.lst xs)) : recvOk m (.ref p) h := by
  cases m <;> first | exact absurd hm (by decide) | (simp only [recvOk, aLst, e])
theorem recv_ok {m : Mth} (hm : m ≠ .get1) (hm2 : m ≠ .get2) (e : h p = some (.lst xs)) (hm3 : lstM m = true := by rfl) : recvOk m (.ref p) h := recv_lstM hm3 e
theorem recv_dct {m : Mth} {k : Nat} {kvs : List (D × D)} (hm : dctM m = true) (e : h p = some (.dct k kvs)) : recvOk m (.ref p) h := by
  cases m <;> first | exact absurd hm (by decide) | (simp only [recvOk, aDct, e])
theorem set_lst {i : Int} {q : AH → Prop} (e : h p = some (.lst xs)) : opSet (.ref p) (.int i) d h q = ((0 ≤ i ∧ i < xs.length) ∧ q (up h p (.lst (xs.set i.toNat d)))) := by simp only [opSet, e, anInt]
theorem set_dct {k : Nat} {kvs : List (D × D)} {q : AH → Prop} (e : h p = some (.dct k kvs)) : opSet (.ref p) y d h q = (keyOk k y = true ∧ kvs.length < LINE ∧ q (up h p (.dct k (kvPut kvs y d)))) := by simp only [opSet, e]
@[simp] theorem walk_tup {q : List D → (AH → Prop) → Prop} : walk .seq [.tup xs] h q = q xs fun _ => True := rfl
@[simp] theorem walk_rol {q : List D → (AH → Prop) → Prop} : walk .seq [.rol xs] h q = q xs fun _ => True := rfl
@[simp] theorem walk_str {q : List D → (AH → Prop) → Prop} : walk .seq [.str s] h q = q (s.map fun c => .str [c]) fun _ => True := rfl
theorem walk_lst {q : List D → (AH → Prop) → Prop} (e : h p = some (.lst xs)) : walk .seq [.ref p] h q = q xs fun h' => h' p = some (.lst xs) := by simp only [walk, e]
@[simp] theorem walk_rng {q : List D → (AH → Prop) → Prop} : walk .rng [.int a] h q = (-(2 ^ 62) ≤ a ∧ a < 2 ^ 62 ∧ q (rangeL 0 a) fun _ => True) := rfl
@[simp] theorem walk_rrng {q : List D → (AH → Prop) → Prop} : walk .rrng [.int a] h q = (-(2 ^ 62) ≤ a ∧ a < 2 ^ 62 ∧ q (rangeL 0 a).reverse fun _ => True) := rfl
@[simp] theorem walk_rng3 {q : List D → (AH → Prop) → Prop} : walk .rng [.int a, .int b, .int (-1)] h q = ((-(2 ^ 62) ≤ a ∧ a < 2 ^ 62 ∧ -(2 ^ 62) ≤ b ∧ b < 2 ^ 62) ∧ q (rangeL (b + 1) (a + 1)).reverse fun _ => True) := by
  show (((-1 : Int) = -1 ∧ -(2 ^ 62) ≤ a ∧ a < 2 ^ 62 ∧ -(2 ^ 62) ≤ b ∧ b < 2 ^ 62) ∧ q (rangeL (b + 1) (a + 1)).reverse fun _ => True) = _
  simp only [true_and]
@[simp] theorem walk_rng2 {q : List D → (AH → Prop) → Prop} : walk .rng [.int a, .int b] h q = ((-(2 ^ 62) ≤ a ∧ a < 2 ^ 62 ∧ -(2 ^ 62) ≤ b ∧ b < 2 ^ 62) ∧ q (rangeL a b) fun _ => True) := rfl
theorem walk_enum {q : List D → (AH → Prop) → Prop} (e : h p = some (.lst xs)) : walk .enum [.ref p] h q = q (enumL 0 xs) fun h' => h' p = some (.lst xs) := by simp only [walk, e]
@[simp] theorem isi_int {t : Ty} : opIsi (.int a) t h = match t with | .int => some true | _ => some false := by cases t <;> rfl
@[simp] theorem isi_bl {b : Bool} {t : Ty} : opIsi (.bl b) t h = match t with | .int => some true | .bool => some true | _ => some false := by cases t <;> rfl
@[simp] theorem isi_tup {t : Ty} : opIsi (.tup xs) t h = match t with | .tuple => some true | _ => some false := by cases t <;> rfl
theorem isi_lst {t : Ty} (e : h p = some (.lst xs)) : opIsi (.ref p) t h = some (match t with | .list => true | _ => false) := by unfold opIsi; simp only [e] <;> (cases t <;> rfl)
@[simp] theorem isi_str {t : Ty} : opIsi (.str s) t h = match t with | .str => some true | _ => some false := by cases t <;> rfl
@[simp] theorem aug_int : opAug .add (.int a) (.int b) (fun d => Q d h) = Q (.int (a + b)) h := rfl
@[simp] theorem aug_intP {q : D → Prop} : opAug .add (.int a) (.int b) q = q (.int (a + b)) := rfl
@[simp] theorem aug_subP {q : D → Prop} : opAug .sub (.int a) (.int b) q = q (.int (a - b)) := rfl
@[simp] theorem aug_strP {q : D → Prop} : opAug .add (.str s) (.str t) q = (s.length + t.length ≤ LINE ∧ q (.str (s ++ t))) := rfl
end
/-! ### dicts, pairs of places and items, plain data -/
theorem Ke.mut {p q : Nat} {h h1 h2 : AH} (x : Ke p h h1) (n : h q = none) (y : Ke q h1 h2) : Ke p h h2 := fun a u e z => y a u (fun w => by subst w; rw [n] at z; cases z) (x a u e z)
theorem Ke.new {p q : Nat} {h h1 : AH} {o : Ob} (x : Ke p h h1) (n : h1 q = none) : Ke p h (up h1 q o) := x.trans (Ext.new n).ke
theorem kvGet_nil {k : D} : kvGet [] k = none := rfl
theorem kvGet_cons {k k' v : D} {kvs : List (D × D)} : kvGet ((k, v) :: kvs) k' = if k = k' then some v else kvGet kvs k' := by
  unfold kvGet
  by_cases e : k = k' <;> simp [e]
theorem kvGet_put {k v k' : D} : ∀ {kvs : List (D × D)}, kvGet (kvPut kvs k v) k' = if k = k' then some v else kvGet kvs k'
  | [] => by
    unfold kvPut
    simp [kvGet_cons, kvGet_nil]
  | (a, w) :: r => by
    have ih := kvGet_put (k := k) (v := v) (k' := k') (kvs := r)
    unfold kvPut at ih ⊢
    by_cases e : a = k
    · subst e
      simp only [List.any_cons, decide_true, Bool.true_or, if_true, List.map_cons, kvGet_cons]
      by_cases e2 : a = k'
      · simp [e2]
      · simp only [if_neg e2]
        by_cases e3 : (r.any fun kv => decide (kv.1 = a)) = true
        · rw [if_pos e3] at ih
          rw [ih, if_neg e2]
        · have : r.map (fun kv => if kv.1 = a then (kv.1, v) else kv) = r := by
            conv => rhs; rw [← List.map_id r]
            refine List.map_congr_left fun kv hkv => ?_
            rw [if_neg (fun z => e3 (List.any_eq_true.mpr ⟨kv, hkv, decide_eq_true z⟩))]
            rfl
          rw [this]
    · simp only [List.any_cons, decide_eq_false e, Bool.false_or]
      by_cases e3 : (r.any fun kv => decide (kv.1 = k)) = true
      · rw [if_pos e3] at ih
        simp only [e3, if_true, List.map_cons, if_neg e, kvGet_cons]
        by_cases e2 : a = k'
        · simp only [if_pos e2]
          rw [if_neg (fun z => e (e2.trans z.symm))]
        · simp only [if_neg e2]; exact ih
      · rw [if_neg e3] at ih
        rw [if_neg e3, List.cons_append, kvGet_cons, kvGet_cons]
        by_cases e2 : a = k'
        · rw [if_pos e2, if_pos e2, if_neg (fun z => e (e2.trans z.symm))]
        · rw [if_neg e2, if_neg e2]; exact ih
theorem kvPut_len {k v : D} {kvs : List (D × D)} : (kvPut kvs k v).length ≤ kvs.length + 1 := by
  unfold kvPut
  split <;> simp
theorem enumL_at {xs : List D} : ∀ {n i : Nat} {x : D}, (enumL n xs)[i]? = some x → ∃ y, xs[i]? = some y ∧ x = .tup [.int ((n + i : Nat) : Int), y] := by
  induction xs with
  | nil => intro n i x e; simp [enumL] at e
  | cons a r ih =>
    intro n i x e
    cases i with
    | zero => simp [enumL] at e; exact ⟨a, rfl, by simp [e]⟩
    | succ i =>
      simp only [enumL, List.getElem?_cons_succ] at e ⊢
      obtain ⟨y, e1, e2⟩ := ih e
      exact ⟨y, e1, by rw [e2]; congr 3; omega⟩
theorem enumL_len {xs : List D} : ∀ {n : Nat}, (enumL n xs).length = xs.length := by
  induction xs with
  | nil => intro n; rfl
  | cons a r ih => intro n; simp only [enumL, List.length_cons, ih]
theorem map_at {α : Type} {f : α → D} {xs : List α} {i : Nat} {x : D} (e : (xs.map f)[i]? = some x) : ∃ y, xs[i]? = some y ∧ x = f y := by
  rw [List.getElem?_map] at e
  cases e2 : xs[i]? with
  | none => rw [e2] at e; cases e
  | some z => rw [e2] at e; exact ⟨z, rfl, (Option.some.inj e).symm⟩
theorem eq_pure {a b : D} {h : AH} {Q : Bool → Prop} (pa : pureD a = true) (pb : pureD b = true) (l : plain 190 a = true ∨ plain 190 b = true) (k : Q (decide (a = b))) : eqOk a b h Q := by
  cases a with
  | bl _ => simp [pureD] at pa
  | ref _ => simp [pureD] at pa
  | rol _ => simp [pureD] at pa
  | _ => exact ⟨pa, pb, l, k⟩
theorem eq_pureX {a b : D} {h : AH} {Q : Bool → Prop} (pa : pureD a = true) (pb : pureD b = true) (l : plain 190 a = true ∨ plain 190 b = true) (k : Q (decide (a = b))) : eqOkX a b h Q := .inl (eq_pure pa pb l k)
theorem cut_none {α : Type} {xs : List α} {v : Int} (h : 0 ≤ v) : cut xs none (some v) = xs.take v.toNat := by
  have : ¬ v < 0 := by omega
  simp [cut, clip, this]
theorem letters_at {i : Int} (h0 : 0 ≤ i) (h1 : i < 26) : atI [97, 98, 99, 100, 101, 102, 103, 104, 105, 106, 107, 108, 109, 110, 111, 112, 113, 114, 115, 116, 117, 118, 119, 120, 121, 122] i = some (97 + i.toNat) := by
  have key : ∀ n : Fin 26, atI [97, 98, 99, 100, 101, 102, 103, 104, 105, 106, 107, 108, 109, 110, 111, 112, 113, 114, 115, 116, 117, 118, 119, 120, 121, 122] ((n.val : Nat) : Int) = some (97 + n.val) := by decide
  have := key ⟨i.toNat, by omega⟩
  simp only at this
  rw [show ((i.toNat : Nat) : Int) = i by omega] at this
  exact this
theorem RT_mk {Q : VQ} : ({ nx := fun _ h' => Q .non h', rt := Q, bk := fun _ _ => False, ct := fun _ _ => False } : Ends) = RT Q := rfl
theorem nodup_inj {α : Type} {xs : List α} (nd : xs.Nodup) {i j : Nat} {x : α} (a : xs[i]? = some x) (b : xs[j]? = some x) : i = j := by
  obtain ⟨l1, e1⟩ := List.getElem?_eq_some_iff.mp a
  obtain ⟨l2, e2⟩ := List.getElem?_eq_some_iff.mp b
  have key := List.pairwise_iff_getElem.mp nd
  rcases Nat.lt_trichotomy i j with h | h | h
  · exact absurd (e1.trans e2.symm) (key i j l1 l2 h)
  · exact h
  · exact absurd (e2.trans e1.symm) (key j i l2 l1 h)
/-! ### locked dicts -/
section
variable {C : Cx} {σ : St} {h : AH} {Q : VQ} {R : Ends} {p : Nat} {kd : Nat} {kvs : List (D × D)} {xs ys : List D}
theorem lock_at {i : Nat} {f : Nat → Nat → List (D × D) → Prop} (e : σ[i]? = some (some (.ref p))) (e2 : h p = some (.dct kd kvs)) : lockAt σ i h f = f p kd kvs := by unfold lockAt; rw [e]; dsimp only; rw [e2]
@[simp] theorem wE_lock {i : Nat} {e : E} : wE C (.lock i e) σ h Q = lockAt σ i h fun p kd kvs => wE C e σ (up h p (.rdct kd kvs)) fun d h' => Q d (up h' p (.dct kd kvs)) := by simp only [wE]
@[simp] theorem wS_lock {i : Nat} {s : S} : wS C (.lock i s) R σ h = lockAt σ i h fun p kd kvs => wS C s { nx := fun σ' h' => R.nx σ' (up h' p (.dct kd kvs)), rt := fun d h' => R.rt d (up h' p (.dct kd kvs)), bk := fun σ' h' => R.bk σ' (up h' p (.dct kd kvs)), ct := fun σ' h' => R.ct σ' (up h' p (.dct kd kvs)) } σ (up h p (.rdct kd kvs)) := by simp only [wS]
@[simp] theorem wS_lock2 {i : Nat} {s : S} : wS C (.lock2 i s) R σ h = ((lockAt σ i h fun p kd kvs => wS C s { nx := fun σ' h' => R.nx σ' (up h' p (.dct kd kvs)), rt := fun d h' => R.rt d (up h' p (.dct kd kvs)), bk := fun σ' h' => R.bk σ' (up h' p (.dct kd kvs)), ct := fun σ' h' => R.ct σ' (up h' p (.dct kd kvs)) } σ (up h p (.rdct kd kvs))) ∨ wS C s R σ h) := by simp only [wS]
theorem walk_keys {q : List D → (AH → Prop) → Prop} (e : h p = some (.rdct kd kvs)) : walk .keys [.ref p] h q = q (kvs.map (·.1)) fun _ => True := by simp only [walk, e]
theorem walk_values {q : List D → (AH → Prop) → Prop} (e : h p = some (.rdct kd kvs)) : walk .values [.ref p] h q = q (kvs.map (·.2)) fun _ => True := by simp only [walk, e]
theorem walk_items {q : List D → (AH → Prop) → Prop} (e : h p = some (.rdct kd kvs)) : walk .items [.ref p] h q = q (kvs.map fun kv => .tup [kv.1, kv.2]) fun _ => True := by simp only [walk, e]
theorem walk_revL {q : List D → (AH → Prop) → Prop} (e : h p = some (.lst xs)) : walk .rev [.ref p] h q = q xs.reverse fun h' => h' p = some (.lst xs) := by simp only [walk, e]
@[simp] theorem walk_revT {q : List D → (AH → Prop) → Prop} : walk .rev [.tup xs] h q = q xs.reverse fun _ => True := rfl
@[simp] theorem walk_zip {q : List D → (AH → Prop) → Prop} : walk .zip [.tup xs, .tup ys] h q = q (zipL xs ys) fun _ => True := rfl
theorem ix_rdct {y : D} {Q : VQ} (e : h p = some (.rdct kd kvs)) : opIx (.ref p) y h Q = (keyOk kd y = true ∧ match kvGet kvs y with
    | some d => Q d h
    | none => False) := by simp only [opIx, e] <;> rfl
theorem len_dct {f : Nat → Prop} (e : h p = some (.dct kd kvs)) : lenOk (.ref p) h f = f kvs.length := by simp only [lenOk, e]
theorem len_rdct {f : Nat → Prop} (e : h p = some (.rdct kd kvs)) : lenOk (.ref p) h f = f kvs.length := by simp only [lenOk, e]
theorem mem_tup {x : D} {q : Bool → Prop} : memOk x (.tup xs) h q = (flat x = true ∧ xs.all flat = true ∧ q (xs.any fun y => decide (y = x))) := rfl
theorem mem_dcn {x : D} {q : Bool → Prop} {kvs : List (D × D)} (e : h p = some (.dcn kvs)) : memOk x (.ref p) h q = (nkOk x = true ∧ q (kvGet kvs x).isSome) := by simp only [memOk, e]
theorem ix_dcn {y : D} {Q : VQ} {kvs : List (D × D)} (e : h p = some (.dcn kvs)) : opIx (.ref p) y h Q = (nkOk y = true ∧ match kvGet kvs y with
    | some d => Q d h
    | none => False) := by simp only [opIx, e] <;> rfl
theorem set_dcn {y d : D} {q : AH → Prop} {kvs : List (D × D)} (e : h p = some (.dcn kvs)) : opSet (.ref p) y d h q = (nkOk y = true ∧ kvs.length < LINE ∧ q (up h p (.dcn (kvPut kvs y d)))) := by simp only [opSet, e]
theorem aIns_eq {c : Sx} {fs : List (Sx × D)} {f : Nat → Sx → List (Sx × D) → Prop} (e : h p = some (.ins c fs)) : aIns (.ref p) h f = f p c fs := by simp only [aIns, e]
theorem aVals_eq {kvs : List (D × D)} {f : List (D × D) → Prop} (e : h p = some (.dct 0 kvs)) : aVals (.ref p) h f = f kvs := by simp only [aVals, e]
theorem walk_zipL {r : Nat} {xs ys : List D} {q : List D → (AH → Prop) → Prop} (e1 : h p = some (.lst xs)) (e2 : h r = some (.lst ys)) : walk .zip [.ref p, .ref r] h q = q (zipL xs ys) fun h' => h' p = some (.lst xs) ∧ h' r = some (.lst ys) := by simp only [walk, e1, e2]
theorem mem_dct {x : D} {q : Bool → Prop} (e : h p = some (.dct kd kvs)) : memOk x (.ref p) h q = (keyOk kd x = true ∧ q (kvGet kvs x).isSome) := by simp only [memOk, e]
theorem mem_rdct {x : D} {q : Bool → Prop} (e : h p = some (.rdct kd kvs)) : memOk x (.ref p) h q = (keyOk kd x = true ∧ q (kvGet kvs x).isSome) := by simp only [memOk, e]
theorem aDctR_eq {f : Nat → Nat → List (D × D) → Prop} (e : h p = some (.dct kd kvs)) : aDctR (.ref p) h f = f p kd kvs := by simp only [aDctR, e]
theorem aDctR_req {f : Nat → Nat → List (D × D) → Prop} (e : h p = some (.rdct kd kvs)) : aDctR (.ref p) h f = f p kd kvs := by simp only [aDctR, e]
theorem up_lock {o o' : Ob} (e : h p = some o) : up (up h p o') p o = h := by
  funext b; simp only [up]; split
  · rename_i z; rw [z, e]
  · rfl
end
/-! ### loops turn by turn -/
def compU (ok : AH → Prop) (body : D → AH → (D → AH → Prop) → (AH → Prop) → Prop) (done : List D → AH → Prop) : Nat → List D → List D → AH → Prop
  | i, [], acc, h => (ok h ∧ acc.length ≤ i) ∧ done acc h
  | i, x :: xs, acc, h => (ok h ∧ acc.length ≤ i) ∧ body x h (fun y h' => compU ok body done (i + 1) xs (acc ++ [y]) h') (fun h' => compU ok body done (i + 1) xs acc h')
theorem compU_ok {ok : AH → Prop} {body : D → AH → (D → AH → Prop) → (AH → Prop) → Prop} {done : List D → AH → Prop} {i : Nat} {xs acc : List D} {h : AH} (q : compU ok body done i xs acc h) : ok h ∧ acc.length ≤ i := by
  cases xs <;> exact q.1
theorem comp_unroll {xs : List D} {ok : AH → Prop} {body : D → AH → (D → AH → Prop) → (AH → Prop) → Prop} {done : List D → AH → Prop} {h : AH} (hz : xs.length ≤ LINE) (q : compU ok body done 0 xs [] h) : compW xs ok body done h := by
  refine ⟨fun i acc h => compU ok body done i (xs.drop i) acc h, q, fun i acc h q => compU_ok q, hz, fun i x acc h e q => ?_, fun acc h q => ?_⟩
  · have hl := (List.getElem?_eq_some_iff.mp e).1
    have ex := (List.getElem?_eq_some_iff.mp e).2
    dsimp only at q
    rw [List.drop_eq_getElem_cons hl, ex] at q
    exact q.2
  · dsimp only at q
    rw [List.drop_length] at q
    exact q.2
def loopU (ok : AH → Prop) (body : D → St → AH → (St → AH → Prop) → Prop) (done : St → AH → Prop) : List D → St → AH → Prop
  | [], σ, h => ok h ∧ done σ h
  | x :: xs, σ, h => ok h ∧ body x σ h (fun σ' h' => loopU ok body done xs σ' h')
theorem loopU_ok {ok : AH → Prop} {body : D → St → AH → (St → AH → Prop) → Prop} {done : St → AH → Prop} {xs : List D} {σ : St} {h : AH} (q : loopU ok body done xs σ h) : ok h := by
  cases xs <;> exact q.1
theorem loop_unroll {xs : List D} {ok : AH → Prop} {body : D → St → AH → (St → AH → Prop) → Prop} {done : St → AH → Prop} {σ : St} {h : AH} (q : loopU ok body done xs σ h) : loopW xs ok body done σ h := by
  refine ⟨fun i σ h => loopU ok body done (xs.drop i) σ h, q, fun i σ h q => loopU_ok q, fun i x σ h e q => ?_, fun σ h q => ?_⟩
  · have hl := (List.getElem?_eq_some_iff.mp e).1
    have ex := (List.getElem?_eq_some_iff.mp e).2
    dsimp only at q
    rw [List.drop_eq_getElem_cons hl, ex] at q
    exact q.2
  · dsimp only at q
    rw [List.drop_length] at q
    exact q.2
theorem loopU_nil {ok : AH → Prop} {body : D → St → AH → (St → AH → Prop) → Prop} {done : St → AH → Prop} {σ : St} {h : AH} : loopU ok body done [] σ h = (ok h ∧ done σ h) := rfl
theorem loopU_cons {ok : AH → Prop} {body : D → St → AH → (St → AH → Prop) → Prop} {done : St → AH → Prop} {x : D} {xs : List D} {σ : St} {h : AH} : loopU ok body done (x :: xs) σ h = (ok h ∧ body x σ h fun σ' h' => loopU ok body done xs σ' h') := rfl
theorem compU_nil {ok : AH → Prop} {body : D → AH → (D → AH → Prop) → (AH → Prop) → Prop} {done : List D → AH → Prop} {i : Nat} {acc : List D} {h : AH} : compU ok body done i [] acc h = ((ok h ∧ acc.length ≤ i) ∧ done acc h) := rfl
theorem compU_cons {ok : AH → Prop} {body : D → AH → (D → AH → Prop) → (AH → Prop) → Prop} {done : List D → AH → Prop} {i : Nat} {x : D} {xs acc : List D} {h : AH} : compU ok body done i (x :: xs) acc h = ((ok h ∧ acc.length ≤ i) ∧ body x h (fun y h' => compU ok body done (i + 1) xs (acc ++ [y]) h') (fun h' => compU ok body done (i + 1) xs acc h')) := rfl
@[simp] theorem sl_tup {xs : List D} {lo hi : Option Int} {h : AH} {Q : VQ} : opSl (.tup xs) lo hi h Q = (¬ (clip xs.length 0 lo = 0 ∧ clip xs.length xs.length hi = xs.length) ∧ Q (.tup (cut xs lo hi)) h) := rfl
theorem cut_1 {x : D} {xs : List D} : cut (x :: xs) (some 1) none = xs := by simp [cut, clip]
theorem cut_h1 {x : D} {xs : List D} : cut (x :: xs) none (some 1) = [x] := by simp [cut, clip]
/-- a comprehension that makes one item of each, and no more than new objects -/
theorem compU_go {body : D → AH → (D → AH → Prop) → (AH → Prop) → Prop} {done : List D → AH → Prop} {h0 : AH} (R : D → D → Prop) (hb : ∀ d e h2 yes no, Ext h0 h2 → R d e → (∀ h', Ext h2 h' → yes e h') → body d h2 yes no) :
    ∀ (ds es : List D) (i : Nat) (acc : List D) (h : AH), All2 R ds es → acc.length ≤ i → Ext h0 h → (∀ h', Ext h0 h' → done (acc ++ es) h') → compU (fun _ => True) body done i ds acc h
  | [], [], i, acc, h, _, l, x, k => ⟨⟨trivial, l⟩, by simpa using k h x⟩
  | [], _ :: _, _, _, _, q, _, _, _ => q.elim
  | _ :: _, [], _, _, _, q, _, _, _ => q.elim
  | d :: ds, e :: es, i, acc, h, ⟨q1, q2⟩, l, x, k => ⟨⟨trivial, l⟩, hb d e h _ _ x q1 fun h' x' => compU_go R hb ds es (i + 1) (acc ++ [e]) h' q2 (by simp; omega) (x.trans x') fun h2 x2 => by simpa using k h2 x2⟩
theorem All2.len {R : D → D → Prop} : ∀ {ds es : List D}, All2 R ds es → ds.length = es.length
  | [], [], _ => rfl
  | [], _ :: _, q => q.elim
  | _ :: _, [], q => q.elim
  | _ :: _, _ :: _, ⟨_, q⟩ => by simp [All2.len q]
/-! ### dicts of distinct keys -/
theorem kvPut_new {k v : D} {kvs : List (D × D)} (h : ∀ kv, kv ∈ kvs → kv.1 ≠ k) : kvPut kvs k v = kvs ++ [(k, v)] := by
  unfold kvPut
  rw [if_neg]
  intro z
  obtain ⟨kv, hm, e⟩ := List.any_eq_true.mp z
  exact h kv hm (of_decide_eq_true e)
theorem mergeL_new : ∀ {more acc : List (D × D)}, ((acc ++ more).map (·.1)).Nodup → mergeL acc more = acc ++ more
  | [], acc, _ => by simp [mergeL]
  | (k, v) :: more, acc, nd => by
    have h1 : ∀ kv, kv ∈ acc → kv.1 ≠ k := fun kv hm e => by
      rw [List.map_append, List.nodup_append] at nd
      exact nd.2.2 kv.1 (List.mem_map_of_mem hm) k (by simp) e
    show mergeL (kvPut acc k v) more = _
    rw [kvPut_new h1, mergeL_new (by simpa using nd)]
    simp
theorem kvGet_mem {kvs : List (D × D)} (nd : (kvs.map (·.1)).Nodup) {k v : D} (hm : (k, v) ∈ kvs) : kvGet kvs k = some v := by
  induction kvs with
  | nil => cases hm
  | cons kv r ih =>
    obtain ⟨k', v'⟩ := kv
    rw [kvGet_cons]
    rw [List.map_cons, List.nodup_cons] at nd
    rcases List.mem_cons.mp hm with e | hm
    · cases e; simp
    · rw [if_neg (fun z => nd.1 (by rw [z]; exact List.mem_map.mpr ⟨(k, v), hm, rfl⟩))]
      exact ih nd.2 hm
theorem loopU_go {ok : AH → Prop} {body : D → St → AH → (St → AH → Prop) → Prop} {done : St → AH → Prop} (I : List D → St → AH → Prop) (hok : ∀ xs σ h, I xs σ h → ok h) (hs : ∀ x xs σ h, I (x :: xs) σ h → body x σ h (fun σ' h' => loopU ok body done xs σ' h')) (hd : ∀ σ h, I [] σ h → done σ h) : ∀ {xs : List D} {σ : St} {h : AH}, I xs σ h → loopU ok body done xs σ h
  | [], σ, h, q => ⟨hok _ _ _ q, hd _ _ q⟩
  | x :: xs, σ, h, q => ⟨hok _ _ _ q, hs _ _ _ _ q⟩
theorem erase_map {α β : Type} (f : α → β) : ∀ (l : List α) (i : Nat), (l.map f).eraseIdx i = (l.eraseIdx i).map f
  | [], _ => rfl
  | _ :: _, 0 => rfl
  | x :: l, i + 1 => by
    show f x :: (l.map f).eraseIdx i = f x :: (l.eraseIdx i).map f
    rw [erase_map f l i]
theorem erase_perm {α : Type} : ∀ (l : List α) (i : Nat) (h : i < l.length), (l[i] :: l.eraseIdx i).Perm l
  | [], i, h => absurd h (Nat.not_lt_zero i)
  | x :: l, 0, h => .refl _
  | x :: l, i + 1, h => by
    have ih := erase_perm l i (Nat.lt_of_succ_lt_succ h)
    exact (List.Perm.swap x (l[i]'(Nat.lt_of_succ_lt_succ h)) (l.eraseIdx i)).trans (List.Perm.cons x ih)
theorem mul_ref {p : Nat} {k : Int} {h : AH} {Q : VQ} : opMul (.ref p) (.int k) h Q = ∃ xs, h p = some (.lst xs) ∧ -(2 ^ 63) ≤ k ∧ k < 2 ^ 63 ∧ xs.length * k.toNat ≤ LINE ∧ ∀ r, h r = none → Q (.ref r) (up h r (.lst (List.replicate k.toNat xs).flatten)) := rfl
/-! ### plain data; books that are the same -/
theorem pureDs_of : ∀ {ds : List D}, (∀ d, d ∈ ds → pureD d = true) → pureDs ds = true
  | [], _ => by simp [pureDs]
  | d :: ds, a => by
    have ih := pureDs_of (ds := ds) fun x hx => a x (List.mem_cons_of_mem _ hx)
    simp [pureDs, a d (by simp), ih]
theorem plains_of {n : Nat} : ∀ {ds : List D}, (∀ d, d ∈ ds → plain n d = true) → plains n ds = true
  | [], _ => by simp [plains]
  | d :: ds, a => by
    have ih := plains_of (n := n) (ds := ds) fun x hx => a x (List.mem_cons_of_mem _ hx)
    simp [plains, a d (by simp), ih]
mutual
theorem plain_mono : ∀ {n m : Nat} {d : D}, n ≤ m → plain n d = true → plain m d = true
  | _, _, .non, _, _ => by simp [plain]
  | _, _, .int _, _, _ => by simp [plain]
  | _, _, .str _, _, _ => by simp [plain]
  | 0, _, .tup _, _, p => by simp [plain] at p
  | n + 1, 0, .tup _, l, _ => by omega
  | n + 1, m + 1, .tup ds, l, p => by simp only [plain] at p ⊢; exact plains_mono (by omega) p
  | _, _, .bl _, _, p => by simp [plain] at p
  | _, _, .ref _, _, p => by simp [plain] at p
  | _, _, .rol _, _, p => by simp [plain] at p
theorem plains_mono : ∀ {n m : Nat} {ds : List D}, n ≤ m → plains n ds = true → plains m ds = true
  | _, _, [], _, _ => by simp [plains]
  | n, m, d :: ds, l, p => by
    simp only [plains, Bool.and_eq_true] at p ⊢
    exact ⟨plain_mono l p.1, plains_mono l p.2⟩
end
def PP (n : Nat) (d : D) : Prop := pureD d = true ∧ plain n d = true
theorem PP.mono {n m : Nat} {d : D} (l : n ≤ m) (p : PP n d) : PP m d := ⟨p.1, plain_mono l p.2⟩
theorem PP.tup {n : Nat} {ds : List D} (a : ∀ d, d ∈ ds → PP n d) : PP (n + 1) (.tup ds) := ⟨by simp only [pureD]; exact pureDs_of fun d hd => (a d hd).1, by simp only [plain]; exact plains_of fun d hd => (a d hd).2⟩
theorem PP.str {n : Nat} {s : Sx} : PP n (.str s) := ⟨by simp [pureD], by simp [plain]⟩
theorem PP.int {n : Nat} {s : Int} : PP n (.int s) := ⟨by simp [pureD], by simp [plain]⟩
theorem hits_same {R : D → D → Bool → Prop} {kws : List (D × D)} : ∀ {sub : List (D × D)}, (∀ kv, kv ∈ sub → kvGet kws kv.1 = some kv.2 ∧ R kv.2 kv.2 true) → HitsD R kws sub true
  | [], _ => rfl
  | kv :: sub, a => .inr ⟨kv.2, true, true, (a kv (by simp)).1, (a kv (by simp)).2, hits_same fun x hx => a x (by simp [hx]), rfl⟩
theorem dct_same {p q : Nat} {h : AH} {kvs : List (D × D)} {n : Nat} (ne : p ≠ q) (e1 : h p = some (.dct 0 kvs)) (e2 : h q = some (.dct 0 kvs)) (nd : (kvs.map (·.1)).Nodup) (al : ∀ kv, kv ∈ kvs → PP (170 + n) kv.2) : EqD (n + 2) h (.ref p) (.ref q) true := by
  refine .inr (.inr (.inr (.inr ⟨p, q, kvs, kvs, true, rfl, rfl, ne, e1, e2, fun _ => hits_same fun kv hkv => ⟨kvGet_mem nd hkv, ?_⟩, by simp⟩)))
  exact .inl ⟨(al kv hkv).1, (al kv hkv).1, .inl (al kv hkv).2, by simp⟩
theorem cut_some {α : Type} {xs : List α} {v : Int} (h : 0 ≤ v) (g : v ≤ xs.length) : cut xs (some v) none = xs.drop v.toNat := by
  have : ¬ v < 0 := by omega
  simp [cut, clip, this]
  rw [List.take_of_length_le (by simp <;> omega)]
  congr 1
  omega
end M
namespace M
/-! ### sorted -/
theorem sorted_uniq : ∀ {ys zs : List D}, ys.Pairwise (fun a b => ltD b a = false) → zs.Pairwise (fun a b => ltD b a = false) → ys.Perm zs → ys = zs
  | [], zs, _, _, p => (List.nil_perm.mp p).symm ▸ rfl
  | y :: ys, [], _, _, p => (List.cons_ne_nil _ _ (List.perm_nil.mp p)).elim
  | y :: ys, z :: zs, h1, h2, p => by
    obtain ⟨a1, a2⟩ := List.pairwise_cons.mp h1
    obtain ⟨b1, b2⟩ := List.pairwise_cons.mp h2
    have e : y = z := Classical.byContradiction fun ne => by
      have m1 : y ∈ zs := (List.mem_cons.mp (p.mem_iff.mp List.mem_cons_self)).resolve_left ne
      have m2 : z ∈ ys := (List.mem_cons.mp (p.mem_iff.mpr List.mem_cons_self)).resolve_left (fun w => ne w.symm)
      exact ne (ltD_tot y z (b1 y m1) (a1 z m2))
    subst e
    rw [sorted_uniq a2 b2 (List.Perm.cons_inv p)]
theorem perm_of_sub {α : Type} : ∀ {xs ys : List α}, xs.Nodup → (∀ x ∈ xs, x ∈ ys) → ys.length ≤ xs.length → xs.Perm ys
  | [], ys, _, _, l => by
    cases ys with
    | nil => exact .refl _
    | cons y ys => simp at l
  | x :: xs, ys, nd, s, l => by
    rw [List.nodup_cons] at nd
    obtain ⟨as, bs, e⟩ := List.append_of_mem (s x List.mem_cons_self)
    subst e
    have ih : xs.Perm (as ++ bs) := perm_of_sub nd.2 (fun y hy => by
      have := s y (List.mem_cons_of_mem _ hy)
      rcases List.mem_append.mp this with h | h
      · exact List.mem_append_left _ h
      · rcases List.mem_cons.mp h with h | h
        · subst h; exact absurd hy nd.1
        · exact List.mem_append_right _ h) (by simp at l ⊢; omega)
    exact (List.Perm.cons x ih).trans List.perm_middle.symm
theorem mem_lst' {p : Nat} {h : AH} {x : D} {xs : List D} {q : Bool → Prop} (e : h p = some (.lst xs)) : memOk x (.ref p) h q = (pureD x = true ∧ pureDs xs = true ∧ (plain 190 x = true ∨ plains 190 xs = true) ∧ q (xs.any fun y => decide (y = x))) := by simp only [memOk, e]
end M
end
section
/-! The IR of the defs of a linked text: printed by gen.py. -/
namespace K14
open M
abbrev s_Tally : Sx := [84, 97, 108, 108, 121]
abbrev s___init__ : Sx := [95, 95, 105, 110, 105, 116, 95, 95]
abbrev s__law_any_kind : Sx := [95, 108, 97, 119, 95, 97, 110, 121, 95, 107, 105, 110, 100]
abbrev s__law_deck : Sx := [95, 108, 97, 119, 95, 100, 101, 99, 107]
abbrev s__law_fresh : Sx := [95, 108, 97, 119, 95, 102, 114, 101, 115, 104]
abbrev s__law_is : Sx := [95, 108, 97, 119, 95, 105, 115]
abbrev s__law_kind : Sx := [95, 108, 97, 119, 95, 107, 105, 110, 100]
abbrev s__law_least : Sx := [95, 108, 97, 119, 95, 108, 101, 97, 115, 116]
abbrev s__law_most : Sx := [95, 108, 97, 119, 95, 109, 111, 115, 116]
abbrev s__law_next : Sx := [95, 108, 97, 119, 95, 110, 101, 120, 116]
abbrev s__law_parts_of : Sx := [95, 108, 97, 119, 95, 112, 97, 114, 116, 115, 95, 111, 102]
abbrev s__law_places : Sx := [95, 108, 97, 119, 95, 112, 108, 97, 99, 101, 115]
abbrev s__law_right : Sx := [95, 108, 97, 119, 95, 114, 105, 103, 104, 116]
abbrev s__law_row : Sx := [95, 108, 97, 119, 95, 114, 111, 119]
abbrev s__law_rows : Sx := [95, 108, 97, 119, 95, 114, 111, 119, 115]
abbrev s__law_rules : Sx := [95, 108, 97, 119, 95, 114, 117, 108, 101, 115]
abbrev s__law_sizes : Sx := [95, 108, 97, 119, 95, 115, 105, 122, 101, 115]
abbrev s__law_texts : Sx := [95, 108, 97, 119, 95, 116, 101, 120, 116, 115]
abbrev s__law_top : Sx := [95, 108, 97, 119, 95, 116, 111, 112]
abbrev s__law_walked : Sx := [95, 108, 97, 119, 95, 119, 97, 108, 107, 101, 100]
abbrev s__law_wide : Sx := [95, 108, 97, 119, 95, 119, 105, 100, 101]
abbrev s__law_wides : Sx := [95, 108, 97, 119, 95, 119, 105, 100, 101, 115]
abbrev s__law_widest : Sx := [95, 108, 97, 119, 95, 119, 105, 100, 101, 115, 116]
abbrev s__law_word : Sx := [95, 108, 97, 119, 95, 119, 111, 114, 100]
abbrev s_a : Sx := [97]
abbrev s_abcdefghi : Sx := [97, 98, 99, 100, 101, 102, 103, 104, 105]
abbrev s_abcdefghijklmnopqrstuvwxyz : Sx := [97, 98, 99, 100, 101, 102, 103, 104, 105, 106, 107, 108, 109, 110, 111, 112, 113, 114, 115, 116, 117, 118, 119, 120, 121, 122]
abbrev s_added : Sx := [97, 100, 100, 101, 100]
abbrev s_counted : Sx := [99, 111, 117, 110, 116, 101, 100]
abbrev s_counts_at : Sx := [99, 111, 117, 110, 116, 115, 95, 97, 116]
abbrev s_crossed : Sx := [99, 114, 111, 115, 115, 101, 100]
abbrev s_emp : Sx := []
abbrev s_fresh : Sx := [102, 114, 101, 115, 104]
abbrev s_held : Sx := [104, 101, 108, 100]
abbrev s_l : Sx := [108]
abbrev s_law : Sx := [108, 97, 119]
abbrev s_listed : Sx := [108, 105, 115, 116, 101, 100]
abbrev s_n : Sx := [110]
abbrev s_name : Sx := [110, 97, 109, 101]
abbrev s_names_in : Sx := [110, 97, 109, 101, 115, 95, 105, 110]
abbrev s_node : Sx := [110, 111, 100, 101]
abbrev s_none : Sx := [110, 111, 110, 101]
abbrev s_one : Sx := [111, 110, 101]
abbrev s_p : Sx := [112]
abbrev s_pair : Sx := [112, 97, 105, 114]
abbrev s_paired : Sx := [112, 97, 105, 114, 101, 100]
abbrev s_r : Sx := [114]
abbrev s_renamed : Sx := [114, 101, 110, 97, 109, 101, 100]
abbrev s_rule : Sx := [114, 117, 108, 101]
abbrev s_rules : Sx := [114, 117, 108, 101, 115]
abbrev s_shapes : Sx := [115, 104, 97, 112, 101, 115]
abbrev s_shifted : Sx := [115, 104, 105, 102, 116, 101, 100]
abbrev s_sizes : Sx := [115, 105, 122, 101, 115]
abbrev s_sum : Sx := [115, 117, 109]
abbrev s_top_of : Sx := [116, 111, 112, 95, 111, 102]
abbrev s_x54616c6c792e5f5f696e6974 : Sx := [84, 97, 108, 108, 121, 46, 95, 95, 105, 110, 105, 116, 95, 95]
abbrev s_x54616c6c792e636f756e7465 : Sx := [84, 97, 108, 108, 121, 46, 99, 111, 117, 110, 116, 101, 100]
abbrev s_x54616c6c792e636f756e7473 : Sx := [84, 97, 108, 108, 121, 46, 99, 111, 117, 110, 116, 115, 95, 97, 116]
abbrev s_x54616c6c792e6672657368 : Sx := [84, 97, 108, 108, 121, 46, 102, 114, 101, 115, 104]
def b2_top_of : Ss := .cons (.ret (.var 1)) .nil
def b1_top_of : Ss := .cons (.asg (.nm 1) (.ix (.var 0) (.ix (.var 1) (.int 1)))) .nil
def b0_top_of : Ss := .cons (.whl (.cmp .eq (.ix (.var 1) (.int 0)) (.str s_rule)) b1_top_of) b2_top_of
def fd_top_of : FD := ⟨2, 2, b0_top_of⟩  -- 0:rules 1:kind
def b5_names_in : Ss := .cons (.ret (.var 1)) .nil
def b4_names_in : Ss := .cons (.ex (.mth .extendT (.var 2) (.cons (.tlr (.var 3)) .nil))) .nil
def b3_names_in : Ss := .cons (.ife (.cmp .ne (.var 3) (.tup .nil)) b4_names_in .nil) .nil
def b2_names_in : Ss := .cons (.ex (.mth .append (.var 1) (.cons (.ix (.var 3) (.int 1)) .nil))) .nil
def b1_names_in : Ss := .cons (.asg (.nm 3) (.mth .pop (.var 2) .nil)) (.cons (.ife (.bop true (.cons (.cmp .ne (.var 3) (.tup .nil)) (.cons (.cmp .eq (.ix (.var 3) (.int 0)) (.str s_a)) .nil))) b2_names_in b3_names_in) .nil)
def b0_names_in : Ss := .cons (.asg (.nm 1) (.lst .nil)) (.cons (.asg (.nm 2) (.lst (.cons (.var 0) .nil))) (.cons (.whl (.cmp .gt (.blt .len (.cons (.var 2) .nil)) (.int 0)) b1_names_in) b5_names_in))
def fd_names_in : FD := ⟨1, 4, b0_names_in⟩  -- 0:thing 1:found 2:todo 3:one
def b4_renamed : Ss := .cons (.ret (.bin .add (.slw (.var 0) .nil (.cons (.int 1) .nil)) (.blt .tuple (.cons (.lc (.call s_renamed (.cons (.var 2) (.cons (.var 1) .nil))) (.nm 2) [2] .seq (.cons (.slw (.var 0) (.cons (.int 1) .nil) .nil) .nil) .nil) .nil)))) .nil
def b3_renamed : Ss := .cons (.ret (.tup (.cons (.str s_a) (.cons (.mth .get2 (.var 1) (.cons (.ix (.var 0) (.int 1)) (.cons (.ix (.var 0) (.int 1)) .nil))) .nil)))) .nil
def b2_renamed : Ss := .cons (.ife (.cmp .eq (.ix (.var 0) (.int 0)) (.str s_a)) b3_renamed .nil) b4_renamed
def b1_renamed : Ss := .cons (.ret (.var 0)) .nil
def b0_renamed : Ss := .cons (.ife (.cmp .eq (.var 0) (.tup .nil)) b1_renamed .nil) b2_renamed
def fd_renamed : FD := ⟨2, 3, b0_renamed⟩  -- 0:thing 1:names 2:part
def b2_added : Ss := .cons (.ret (.var 2)) .nil
def b1_added : Ss := .cons (.six (.var 2) (.var 3) (.bin .add (.mth .get2 (.var 2) (.cons (.var 3) (.cons (.int 0) .nil))) (.var 4))) .nil
def b0_added : Ss := .cons (.asg (.nm 2) (.blt .dict1 (.cons (.var 0) .nil))) (.cons (.lock 1 (.for_ (.tp [3, 4]) .items (.cons (.var 1) .nil) b1_added)) b2_added)
def fd_added : FD := ⟨2, 5, b0_added⟩  -- 0:one 1:other 2:found 3:names 4:count
def b3_crossed : Ss := .cons (.ret (.var 2)) .nil
def b2_crossed : Ss := .cons (.six (.var 2) (.bin .add (.var 3) (.var 5)) (.bin .add (.mth .get2 (.var 2) (.cons (.bin .add (.var 3) (.var 5)) (.cons (.int 0) .nil))) (.bin .mul (.var 4) (.var 6)))) .nil
def b1_crossed : Ss := .cons (.lock2 1 (.for_ (.tp [5, 6]) .items (.cons (.var 1) .nil) b2_crossed)) .nil
def b0_crossed : Ss := .cons (.asg (.nm 2) (.dct 0 .nil)) (.cons (.lock2 0 (.for_ (.tp [3, 4]) .items (.cons (.var 0) .nil) b1_crossed)) b3_crossed)
def fd_crossed : FD := ⟨2, 7, b0_crossed⟩  -- 0:one 1:other 2:found 3:names 4:count 5:more 6:times
def b0_Tally___init__ : Ss := .cons (.sfld s_Tally (.var 0) s_rules (.var 1)) (.cons (.sfld s_Tally (.var 0) s_held (.dcn)) (.cons (.sfld s_Tally (.var 0) s_sizes (.int 0)) .nil))
def fd_Tally___init__ : FD := ⟨2, 2, b0_Tally___init__⟩  -- 0:self 1:rules
def b4_Tally_counts_at : Ss := .cons (.ret (.mcall s_Tally s_counted (.var 0) (.cons (.var 1) (.cons (.var 2) .nil)))) .nil
def b3_Tally_counts_at : Ss := .cons (.sfld s_Tally (.var 0) s_sizes (.bin .add (.var 3) (.int 1))) .nil
def b2_Tally_counts_at : Ss := .cons (.ex (.mcall s_Tally s_counted (.var 0) (.cons (.tup (.cons (.str s_rule) (.cons (.var 4) .nil))) (.cons (.var 3) .nil)))) .nil
def b1_Tally_counts_at : Ss := .cons (.for_ (.nm 4) .seq (.cons (.blt .sorted (.cons (.fld (.var 0) s_rules) .nil)) .nil) b2_Tally_counts_at) b3_Tally_counts_at
def b0_Tally_counts_at : Ss := .cons (.for_ (.nm 3) .rng (.cons (.fld (.var 0) s_sizes) (.cons (.var 2) .nil)) b1_Tally_counts_at) b4_Tally_counts_at
def fd_Tally_counts_at : FD := ⟨3, 5, b0_Tally_counts_at⟩  -- 0:self 1:kind 2:size 3:smaller 4:rule
def b2_Tally_counted : Ss := .cons (.ret (.ix (.fld (.var 0) s_held) (.tup (.cons (.var 1) (.cons (.var 2) .nil))))) .nil
def b1_Tally_counted : Ss := .cons (.six (.fld (.var 0) s_held) (.tup (.cons (.var 1) (.cons (.var 2) .nil))) (.mcall s_Tally s_fresh (.var 0) (.cons (.var 1) (.cons (.var 2) .nil)))) .nil
def b0_Tally_counted : Ss := .cons (.ife (.cmp .notin (.tup (.cons (.var 1) (.cons (.var 2) .nil))) (.fld (.var 0) s_held)) b1_Tally_counted .nil) b2_Tally_counted
def fd_Tally_counted : FD := ⟨3, 3, b0_Tally_counted⟩  -- 0:self 1:kind 2:size
def b15_Tally_fresh : Ss := .cons (.ret (.dct 0 .nil)) .nil
def b14_Tally_fresh : Ss := .cons (.ret (.dct 0 (.cons (.int 1) (.cons (.int 1) .nil)))) .nil
def b13_Tally_fresh : Ss := .cons (.ife (.bop true (.cons (.cmp .eq (.ix (.var 1) (.int 0)) (.str s_name)) (.cons (.cmp .eq (.var 2) (.int 1)) .nil))) b14_Tally_fresh .nil) b15_Tally_fresh
def b12_Tally_fresh : Ss := .cons (.ret (.dct 0 (.cons (.int 0) (.cons (.int 1) .nil)))) .nil
def b11_Tally_fresh : Ss := .cons (.ife (.bop true (.cons (.cmp .eq (.ix (.var 1) (.int 0)) (.str s_one)) (.cons (.cmp .eq (.var 2) (.int 0)) .nil))) b12_Tally_fresh .nil) b13_Tally_fresh
def b10_Tally_fresh : Ss := .cons (.ret (.mcall s_Tally s_counted (.var 0) (.cons (.ix (.var 1) (.int 1)) (.cons (.bin .sub (.var 2) (.int 1)) .nil)))) .nil
def b9_Tally_fresh : Ss := .cons (.ife (.bop true (.cons (.cmp .eq (.ix (.var 1) (.int 0)) (.str s_node)) (.cons (.cmp .gt (.var 2) (.int 0)) .nil))) b10_Tally_fresh .nil) b11_Tally_fresh
def b8_Tally_fresh : Ss := .cons (.ret (.var 3)) .nil
def b7_Tally_fresh : Ss := .cons (.asg (.nm 3) (.call s_added (.cons (.var 3) (.cons (.call s_crossed (.cons (.var 5) (.cons (.mcall s_Tally s_counted (.var 0) (.cons (.ix (.var 1) (.int 2)) (.cons (.bin .sub (.var 2) (.var 4)) .nil))) .nil))) .nil)))) .nil
def b6_Tally_fresh : Ss := .cons (.asg (.nm 5) (.mcall s_Tally s_counted (.var 0) (.cons (.ix (.var 1) (.int 1)) (.cons (.var 4) .nil)))) (.cons (.ife (.cmp .gt (.blt .len (.cons (.var 5) .nil)) (.int 0)) b7_Tally_fresh .nil) .nil)
def b5_Tally_fresh : Ss := .cons (.asg (.nm 3) (.dct 0 .nil)) (.cons (.for_ (.nm 4) .rng (.cons (.bin .add (.var 2) (.int 1)) .nil) b6_Tally_fresh) b8_Tally_fresh)
def b4_Tally_fresh : Ss := .cons (.ife (.cmp .eq (.ix (.var 1) (.int 0)) (.str s_pair)) b5_Tally_fresh .nil) b9_Tally_fresh
def b3_Tally_fresh : Ss := .cons (.ret (.call s_added (.cons (.mcall s_Tally s_counted (.var 0) (.cons (.ix (.var 1) (.int 1)) (.cons (.var 2) .nil))) (.cons (.mcall s_Tally s_counted (.var 0) (.cons (.ix (.var 1) (.int 2)) (.cons (.var 2) .nil))) .nil)))) .nil
def b2_Tally_fresh : Ss := .cons (.ife (.cmp .eq (.ix (.var 1) (.int 0)) (.str s_sum)) b3_Tally_fresh .nil) b4_Tally_fresh
def b1_Tally_fresh : Ss := .cons (.ret (.mcall s_Tally s_counted (.var 0) (.cons (.ix (.fld (.var 0) s_rules) (.ix (.var 1) (.int 1))) (.cons (.var 2) .nil)))) .nil
def b0_Tally_fresh : Ss := .cons (.ife (.cmp .eq (.ix (.var 1) (.int 0)) (.str s_rule)) b1_Tally_fresh .nil) b2_Tally_fresh
def fd_Tally_fresh : FD := ⟨3, 6, b0_Tally_fresh⟩  -- 0:self 1:kind 2:size 3:found 4:part 5:one
def b4_shifted : Ss := .cons (.ret (.call s_renamed (.cons (.var 0) (.cons (.var 2) .nil)))) .nil
def b3_shifted : Ss := .cons (.six (.var 2) (.var 3) (.bin .add (.var 3) (.var 1))) .nil
def b2_shifted : Ss := .cons (.asg (.nm 2) (.dct 0 .nil)) (.cons (.for_ (.nm 3) .seq (.cons (.call s_names_in (.cons (.var 0) .nil)) .nil) b3_shifted) b4_shifted)
def b1_shifted : Ss := .cons (.ret (.var 0)) .nil
def b0_shifted : Ss := .cons (.ife (.cmp .eq (.var 1) (.int 0)) b1_shifted .nil) b2_shifted
def fd_shifted : FD := ⟨2, 4, b0_shifted⟩  -- 0:thing 1:more 2:names 3:name
def b2_paired : Ss := .cons (.ret (.var 2)) .nil
def b1_paired : Ss := .cons (.asg (.nm 4) (.blt .len (.cons (.call s_names_in (.cons (.var 3) .nil)) .nil))) (.cons (.ex (.mth .extend (.var 2) (.cons (.lc (.tup (.cons (.str s_p) (.cons (.var 3) (.cons (.call s_shifted (.cons (.var 5) (.cons (.var 4) .nil))) .nil)))) (.nm 5) [5] .seq (.cons (.var 1) .nil) .nil) .nil))) .nil)
def b0_paired : Ss := .cons (.asg (.nm 2) (.lst .nil)) (.cons (.for_ (.nm 3) .seq (.cons (.var 0) .nil) b1_paired) b2_paired)
def fd_paired : FD := ⟨2, 6, b0_paired⟩  -- 0:some 1:others 2:found 3:one 4:more 5:other
def b13_listed : Ss := .cons (.ret (.var 3)) .nil
def b12_listed : Ss := .cons (.ex (.mth .extend (.var 3) (.cons (.call s_paired (.cons (.call s_listed (.cons (.var 0) (.cons (.ix (.var 1) (.int 1)) (.cons (.var 4) .nil)))) (.cons (.call s_listed (.cons (.var 0) (.cons (.ix (.var 1) (.int 2)) (.cons (.bin .sub (.var 2) (.var 4)) .nil)))) .nil))) .nil))) .nil
def b11_listed : Ss := .cons (.ife (.bop true (.cons (.cmp .gt (.blt .len (.cons (.mcall s_Tally s_counts_at (.var 0) (.cons (.ix (.var 1) (.int 1)) (.cons (.var 4) .nil))) .nil)) (.int 0)) (.cons (.cmp .gt (.blt .len (.cons (.mcall s_Tally s_counts_at (.var 0) (.cons (.ix (.var 1) (.int 2)) (.cons (.bin .sub (.var 2) (.var 4)) .nil))) .nil)) (.int 0)) .nil))) b12_listed .nil) .nil
def b10_listed : Ss := .cons (.asg (.nm 3) (.lst .nil)) (.cons (.for_ (.nm 4) .rng (.cons (.bin .add (.var 2) (.int 1)) .nil) b11_listed) b13_listed)
def b9_listed : Ss := .cons (.asg (.nm 3) (.lc (.tup (.cons (.str s_l) (.cons (.var 5) .nil))) (.nm 5) [5] .seq (.cons (.call s_listed (.cons (.var 0) (.cons (.ix (.var 1) (.int 1)) (.cons (.var 2) .nil)))) .nil) .nil)) (.cons (.ret (.bin .add (.var 3) (.lc (.tup (.cons (.str s_r) (.cons (.var 5) .nil))) (.nm 5) [5] .seq (.cons (.call s_listed (.cons (.var 0) (.cons (.ix (.var 1) (.int 2)) (.cons (.var 2) .nil)))) .nil) .nil))) .nil)
def b8_listed : Ss := .cons (.ife (.cmp .eq (.ix (.var 1) (.int 0)) (.str s_sum)) b9_listed .nil) b10_listed
def b7_listed : Ss := .cons (.ret (.lc (.tup (.cons (.str s_n) (.cons (.var 5) .nil))) (.nm 5) [5] .seq (.cons (.call s_listed (.cons (.var 0) (.cons (.ix (.var 1) (.int 1)) (.cons (.bin .sub (.var 2) (.int 1)) .nil)))) .nil) .nil)) .nil
def b6_listed : Ss := .cons (.ife (.cmp .eq (.ix (.var 1) (.int 0)) (.str s_node)) b7_listed .nil) b8_listed
def b5_listed : Ss := .cons (.ret (.lst (.cons (.tup (.cons (.str s_a) (.cons (.int 0) .nil))) .nil))) .nil
def b4_listed : Ss := .cons (.ife (.cmp .eq (.ix (.var 1) (.int 0)) (.str s_name)) b5_listed .nil) b6_listed
def b3_listed : Ss := .cons (.ret (.lst (.cons (.tup .nil) .nil))) .nil
def b2_listed : Ss := .cons (.asg (.nm 1) (.call s_top_of (.cons (.fld (.var 0) s_rules) (.cons (.var 1) .nil)))) (.cons (.ife (.cmp .eq (.ix (.var 1) (.int 0)) (.str s_one)) b3_listed .nil) b4_listed)
def b1_listed : Ss := .cons (.ret (.lst .nil)) .nil
def b0_listed : Ss := .cons (.ife (.cmp .eq (.blt .len (.cons (.mcall s_Tally s_counts_at (.var 0) (.cons (.var 1) (.cons (.var 2) .nil))) .nil)) (.int 0)) b1_listed .nil) b2_listed
def fd_listed : FD := ⟨3, 6, b0_listed⟩  -- 0:tally 1:kind 2:size 3:found 4:part 5:one
def b0_shapes : Ss := .cons (.ret (.blt .sortd (.cons (.call s_listed (.cons (.newo s_Tally (.cons (.var 0) .nil)) (.cons (.var 1) (.cons (.var 2) .nil)))) .nil))) .nil
def fd_shapes : FD := ⟨3, 3, b0_shapes⟩  -- 0:rules 1:kind 2:size
def b10_law_deck : Ss := .cons (.ret (.var 1)) .nil
def b9_law_deck : Ss := .cons (.asg (.nm 4) (.bin .mod (.bin .add (.bin .add (.bin .mul (.var 3) (.int 48271)) (.bin .mul (.int 7919) (.var 2))) (.int 13)) (.int 2147483629))) (.cons (.asg (.nm 4) (.bin .mod (.bin .add (.bin .mul (.var 4) (.bin .add (.bin .fdiv (.var 4) (.int 5)) (.var 2))) (.bin .mul (.int 16807) (.var 2))) (.int 2147483587))) (.cons (.ex (.mth .append (.var 1) (.cons (.bin .mod (.bin .add (.bin .mul (.var 4) (.int 69621)) (.bin .fdiv (.var 4) (.int 127))) (.int 2147483647)) .nil))) .nil))
def b8_law_deck : Ss := .cons (.asg (.nm 3) (.bin .mod (.ix (.var 0) (.bin .mod (.var 2) (.blt .min2 (.cons (.int 63) (.cons (.blt .len (.cons (.var 0) .nil)) .nil))))) (.int 2147483629))) .nil
def b7_law_deck : Ss := .cons (.asg (.nm 3) (.bin .mul (.int 3) (.var 2))) (.cons (.ife (.cmp .gt (.blt .len (.cons (.var 0) .nil)) (.int 0)) b8_law_deck .nil) b9_law_deck)
def b6_law_deck : Ss := .cons (.for_ (.nm 2) .rng (.cons (.blt .len (.cons (.var 1) .nil)) (.cons (.int 60) .nil)) b7_law_deck) b10_law_deck
def b5_law_deck : Ss := .cons (.asg (.nm 1) (.sl (.var 1) .nil (.cons (.int 500) .nil))) .nil
def b4_law_deck : Ss := .cons (.ex (.mth .append (.var 1) (.cons (.bin .mod (.var 4) (.int 2147483647)) .nil))) (.cons (.asg (.nm 4) (.bin .fdiv (.var 4) (.int 2147483647))) .nil)
def b3_law_deck : Ss := .cons (.ife (.bop false (.cons (.cmp .eq (.var 2) (.int 0)) (.cons (.cmp .gt (.var 4) (.int 0)) .nil))) b4_law_deck .nil) .nil
def b2_law_deck : Ss := .cons (.asg (.nm 4) (.bin .mod (.var 3) (.bin .pow (.int 2147483647) (.int 60)))) (.cons (.for_ (.nm 2) .rng (.cons (.int 60) .nil) b3_law_deck) .nil)
def b1_law_deck : Ss := .cons (.for_ (.nm 3) .seq (.cons (.sl (.var 0) (.cons (.int 1) .nil) (.cons (.int 63) .nil)) .nil) b2_law_deck) b5_law_deck
def b0_law_deck : Ss := .cons (.asg (.nm 1) (.lst .nil)) (.cons (.ife (.bop true (.cons (.cmp .gt (.blt .len (.cons (.var 0) .nil)) (.int 1)) (.cons (.cmp .eq (.bin .mod (.ix (.var 0) (.int 0)) (.int 2)) (.int 1)) .nil))) b1_law_deck .nil) b6_law_deck)
def fd_law_deck : FD := ⟨1, 5, b0_law_deck⟩  -- 0:script 1:deck 2:k 3:cell 4:number
def b2_law_next : Ss := .cons (.asg (.nm 2) (.bin .mod (.bin .add (.bin .mul (.ix (.var 0) (.int 0)) (.int 48271)) (.int 7919)) (.int 2147483629))) (.cons (.six (.var 0) (.int 0) (.bin .mod (.bin .mul (.var 2) (.bin .add (.bin .fdiv (.var 2) (.int 5)) (.int 11))) (.int 2147483587))) (.cons (.ret (.bin .mod (.bin .mod (.bin .add (.bin .mul (.ix (.var 0) (.int 0)) (.int 69621)) (.bin .fdiv (.ix (.var 0) (.int 0)) (.int 127))) (.int 2147483647)) (.var 1))) .nil))
def b1_law_next : Ss := .cons (.ret (.bin .mod (.mth .popAt (.var 0) (.cons (.int 0) .nil)) (.var 1))) .nil
def b0_law_next : Ss := .cons (.ife (.cmp .gt (.blt .len (.cons (.var 0) .nil)) (.int 1)) b1_law_next .nil) b2_law_next
def fd_law_next : FD := ⟨2, 3, b0_law_next⟩  -- 0:deck 1:many 2:number
def b0_law_word : Ss := .cons (.asg (.nm 1) (.str s_abcdefghijklmnopqrstuvwxyz)) (.cons (.ret (.mth .join (.str s_emp) (.cons (.lc (.ix (.var 1) (.call s__law_next (.cons (.var 0) (.cons (.int 26) .nil)))) (.nm 2) [2] .rng (.cons (.bin .add (.int 1) (.call s__law_next (.cons (.var 0) (.cons (.int 8) .nil)))) .nil) .nil) .nil))) .nil)
def fd_law_word : FD := ⟨1, 3, b0_law_word⟩  -- 0:deck 1:letters 2:k
def b5_law_texts : Ss := .cons (.ret (.var 2)) .nil
def b4_law_texts : Ss := .cons (.ex (.mth .append (.var 2) (.cons (.var 4) .nil))) .nil
def b3_law_texts : Ss := .cons (.asg (.nm 4) (.bin .add (.sl (.var 4) .nil (.cons (.int 7) .nil)) (.var 5))) .nil
def b2_law_texts : Ss := .cons (.ife (.cmp .isin (.var 4) (.var 2)) b3_law_texts .nil) .nil
def b1_law_texts : Ss := .cons (.asg (.nm 4) (.call s__law_word (.cons (.var 0) .nil))) (.cons (.for_ (.nm 5) .seq (.cons (.str s_abcdefghi) .nil) b2_law_texts) b4_law_texts)
def b0_law_texts : Ss := .cons (.asg (.nm 2) (.lst .nil)) (.cons (.for_ (.nm 3) .rng (.cons (.var 1) .nil) b1_law_texts) b5_law_texts)
def fd_law_texts : FD := ⟨2, 6, b0_law_texts⟩  -- 0:deck 1:many 2:found 3:k 4:word 5:letter
def b8_law_kind : Ss := .cons (.ret (.tup (.cons (.var 5) .nil))) .nil
def b7_law_kind : Ss := .cons (.asg (.nm 6) (.call s__law_kind (.cons (.var 0) (.cons (.bin .sub (.var 1) (.int 1)) (.cons (.var 2) (.cons (.var 3) .nil)))))) (.cons (.ret (.tup (.cons (.var 5) (.cons (.var 6) (.cons (.call s__law_kind (.cons (.var 0) (.cons (.bin .sub (.var 1) (.int 1)) (.cons (.var 2) (.cons (.var 3) .nil))))) .nil))))) .nil)
def b6_law_kind : Ss := .cons (.ife (.bop false (.cons (.cmp .eq (.var 5) (.str s_sum)) (.cons (.cmp .eq (.var 5) (.str s_pair)) .nil))) b7_law_kind .nil) b8_law_kind
def b5_law_kind : Ss := .cons (.ret (.tup (.cons (.str s_node) (.cons (.call s__law_kind (.cons (.var 0) (.cons (.bin .sub (.var 1) (.int 1)) (.cons (.var 2) (.cons (.var 2) .nil))))) .nil)))) .nil
def b4_law_kind : Ss := .cons (.ife (.cmp .eq (.var 5) (.str s_node)) b5_law_kind .nil) b6_law_kind
def b3_law_kind : Ss := .cons (.ret (.tup (.cons (.str s_rule) (.cons (.ix (.var 3) (.call s__law_next (.cons (.var 0) (.cons (.blt .len (.cons (.var 3) .nil)) .nil)))) .nil)))) .nil
def b2_law_kind : Ss := .cons (.ife (.cmp .eq (.var 5) (.str s_rule)) b3_law_kind .nil) b4_law_kind
def b1_law_kind : Ss := .cons (.asg (.nm 5) (.str s_one)) .nil
def b0_law_kind : Ss := .cons (.asg (.nm 4) (.lst (.cons (.str s_one) (.cons (.str s_name) (.cons (.str s_rule) (.cons (.str s_none) (.cons (.str s_node) (.cons (.str s_sum) (.cons (.str s_pair) (.cons (.str s_sum) (.cons (.str s_pair) .nil))))))))))) (.cons (.asg (.nm 5) (.ix (.var 4) (.call s__law_next (.cons (.var 0) (.cons (.bin .add (.int 4) (.bin .mul (.int 5) (.blt .int1 (.cons (.cmp .gt (.var 1) (.int 0)) .nil)))) .nil))))) (.cons (.ife (.bop true (.cons (.cmp .eq (.var 5) (.str s_rule)) (.cons (.cmp .eq (.blt .len (.cons (.var 3) .nil)) (.int 0)) .nil))) b1_law_kind .nil) b2_law_kind))
def fd_law_kind : FD := ⟨4, 7, b0_law_kind⟩  -- 0:deck 1:deep 2:texts 3:ahead 4:some 5:way 6:one
def b8_law_least : Ss := .cons (.ret (.bin .add (.blt .sum (.cons (.var 2) .nil)) (.blt .int1 (.cons (.cmp .eq (.ix (.var 0) (.int 0)) (.str s_node)) .nil)))) .nil
def b7_law_least : Ss := .cons (.ret (.non)) .nil
def b6_law_least : Ss := .cons (.ife (.cmp .isin (.non) (.var 2)) b7_law_least .nil) b8_law_least
def b5_law_least : Ss := .cons (.ret (.mnd (.cons (.lc (.var 4) (.nm 4) [4] .seq (.cons (.var 2) .nil) (.cons (.cmp .isnt (.var 4) (.non)) .nil)) .nil))) .nil
def b4_law_least : Ss := .cons (.asg (.nm 2) (.lc (.call s__law_least (.cons (.var 3) (.cons (.var 1) .nil))) (.nm 3) [3] .seq (.cons (.sl (.var 0) (.cons (.int 1) .nil) .nil) .nil) .nil)) (.cons (.ife (.cmp .eq (.ix (.var 0) (.int 0)) (.str s_sum)) b5_law_least .nil) b6_law_least)
def b3_law_least : Ss := .cons (.ret (.mth .get1 (.dct 0 (.cons (.str s_one) (.cons (.int 0) (.cons (.str s_name) (.cons (.int 1) .nil))))) (.cons (.ix (.var 0) (.int 0)) .nil))) .nil
def b2_law_least : Ss := .cons (.ife (.cmp .eq (.blt .len (.cons (.var 0) .nil)) (.int 1)) b3_law_least .nil) b4_law_least
def b1_law_least : Ss := .cons (.ret (.mth .get1 (.var 1) (.cons (.ix (.var 0) (.int 1)) .nil))) .nil
def b0_law_least : Ss := .cons (.ife (.cmp .eq (.ix (.var 0) (.int 0)) (.str s_rule)) b1_law_least .nil) b2_law_least
def fd_law_least : FD := ⟨2, 5, b0_law_least⟩  -- 0:kind 1:sizes 2:some 3:part 4:one
def b7_law_sizes : Ss := .cons (.ret (.var 1)) .nil
def b6_law_sizes : Ss := .cons (.asg (.nm 1) (.var 3)) .nil
def b5_law_sizes : Ss := .cons (.ret (.var 1)) .nil
def b4_law_sizes : Ss := .cons (.ife (.cmp .eq (.var 3) (.var 1)) b5_law_sizes .nil) b6_law_sizes
def b3_law_sizes : Ss := .cons (.six (.var 3) (.var 4) (.var 5)) .nil
def b2_law_sizes : Ss := .cons (.asg (.nm 5) (.call s__law_least (.cons (.ix (.var 0) (.var 4)) (.cons (.var 1) .nil)))) (.cons (.ife (.cmp .isnt (.var 5) (.non)) b3_law_sizes .nil) .nil)
def b1_law_sizes : Ss := .cons (.asg (.nm 3) (.dct 0 .nil)) (.cons (.lock 0 (.for_ (.nm 4) .keys (.cons (.var 0) .nil) b2_law_sizes)) b4_law_sizes)
def b0_law_sizes : Ss := .cons (.asg (.nm 1) (.dct 0 .nil)) (.cons (.for_ (.nm 2) .rng (.cons (.bin .add (.bin .mul (.blt .len (.cons (.var 0) .nil)) (.int 60)) (.int 1)) .nil) b1_law_sizes) b7_law_sizes)
def fd_law_sizes : FD := ⟨1, 6, b0_law_sizes⟩  -- 0:rules 1:sizes 2:turn 3:found 4:rule 5:one
def b0_law_most : Ss := .cons (.ret (.blt .max1 (.cons (.bin .add (.lst (.cons (.orv (.call s__law_least (.cons (.var 0) (.cons (.var 1) .nil))) (.int 0)) .nil)) (.lc (.call s__law_most (.cons (.var 2) (.cons (.var 1) .nil))) (.nm 2) [2] .seq (.cons (.call s__law_parts_of (.cons (.var 0) .nil)) .nil) .nil)) .nil))) .nil
def fd_law_most : FD := ⟨2, 3, b0_law_most⟩  -- 0:kind 1:sizes 2:part
def b2_law_parts_of : Ss := .cons (.ret (.sl (.var 0) (.cons (.int 1) .nil) .nil)) .nil
def b1_law_parts_of : Ss := .cons (.ret (.tup .nil)) .nil
def b0_law_parts_of : Ss := .cons (.ife (.cmp .eq (.ix (.var 0) (.int 0)) (.str s_rule)) b1_law_parts_of .nil) b2_law_parts_of
def fd_law_parts_of : FD := ⟨1, 1, b0_law_parts_of⟩  -- 0:kind
def b6_law_wide : Ss := .cons (.ret (.int 1)) .nil
def b5_law_wide : Ss := .cons (.ret (.blt .max2 (.cons (.call s__law_wide (.cons (.ix (.var 0) (.int 1)) (.cons (.var 1) .nil))) (.cons (.call s__law_wide (.cons (.ix (.var 0) (.int 2)) (.cons (.var 1) .nil))) .nil)))) .nil
def b4_law_wide : Ss := .cons (.ife (.cmp .eq (.ix (.var 0) (.int 0)) (.str s_sum)) b5_law_wide .nil) b6_law_wide
def b3_law_wide : Ss := .cons (.ret (.bin .add (.call s__law_wide (.cons (.ix (.var 0) (.int 1)) (.cons (.var 1) .nil))) (.call s__law_wide (.cons (.ix (.var 0) (.int 2)) (.cons (.var 1) .nil))))) .nil
def b2_law_wide : Ss := .cons (.ife (.cmp .eq (.ix (.var 0) (.int 0)) (.str s_pair)) b3_law_wide .nil) b4_law_wide
def b1_law_wide : Ss := .cons (.ret (.ix (.var 1) (.ix (.var 0) (.int 1)))) .nil
def b0_law_wide : Ss := .cons (.ife (.cmp .eq (.ix (.var 0) (.int 0)) (.str s_rule)) b1_law_wide .nil) b2_law_wide
def fd_law_wide : FD := ⟨2, 2, b0_law_wide⟩  -- 0:kind 1:wides
def b0_law_widest : Ss := .cons (.ret (.blt .max1 (.cons (.bin .add (.lst (.cons (.call s__law_wide (.cons (.var 0) (.cons (.var 1) .nil))) .nil)) (.lc (.call s__law_widest (.cons (.var 2) (.cons (.var 1) .nil))) (.nm 2) [2] .seq (.cons (.call s__law_parts_of (.cons (.var 0) .nil)) .nil) .nil)) .nil))) .nil
def fd_law_widest : FD := ⟨2, 3, b0_law_widest⟩  -- 0:kind 1:wides 2:part
def b2_law_wides : Ss := .cons (.ret (.var 1)) .nil
def b1_law_wides : Ss := .cons (.six (.var 1) (.var 2) (.blt .min2 (.cons (.int 21) (.cons (.call s__law_wide (.cons (.ix (.var 0) (.var 2)) (.cons (.var 1) .nil))) .nil)))) .nil
def b0_law_wides : Ss := .cons (.asg (.nm 1) (.dct 0 .nil)) (.cons (.for_ (.nm 2) .seq (.cons (.rev (.blt .klist (.cons (.var 0) .nil))) .nil) b1_law_wides) b2_law_wides)
def fd_law_wides : FD := ⟨1, 3, b0_law_wides⟩  -- 0:rules 1:wides 2:text
def b9_law_rules : Ss := .cons (.ret (.var 2)) .nil
def b8_law_rules : Ss := .cons (.six (.var 2) (.var 4) (.tup (.cons (.str s_one) .nil))) .nil
def b7_law_rules : Ss := .cons (.ife (.cmp .gt (.call s__law_most (.cons (.ix (.var 2) (.var 4)) (.cons (.var 7) .nil))) (.int 6)) b8_law_rules .nil) .nil
def b6_law_rules : Ss := .cons (.asg (.nm 7) (.call s__law_sizes (.cons (.var 2) .nil))) (.cons (.for_ (.nm 4) .seq (.cons (.var 1) .nil) b7_law_rules) .nil)
def b5_law_rules : Ss := .cons (.for_ (.nm 5) .rng (.cons (.blt .len (.cons (.var 1) .nil)) .nil) b6_law_rules) b9_law_rules
def b4_law_rules : Ss := .cons (.six (.var 2) (.var 4) (.tup (.cons (.str s_one) .nil))) .nil
def b3_law_rules : Ss := .cons (.ife (.cmp .gt (.call s__law_widest (.cons (.ix (.var 2) (.var 4)) (.cons (.var 3) .nil))) (.int 20)) b4_law_rules .nil) .nil
def b2_law_rules : Ss := .cons (.asg (.nm 3) (.call s__law_wides (.cons (.var 2) .nil))) (.cons (.for_ (.nm 4) .seq (.cons (.var 1) .nil) b3_law_rules) b5_law_rules)
def b1_law_rules : Ss := .cons (.six (.var 2) (.var 4) (.call s__law_kind (.cons (.var 0) (.cons (.int 3) (.cons (.var 1) (.cons (.sl (.var 1) (.cons (.bin .add (.var 6) (.int 1)) .nil) .nil) .nil)))))) .nil
def b0_law_rules : Ss := .cons (.asg (.nm 1) (.call s__law_texts (.cons (.var 0) (.cons (.call s__law_next (.cons (.var 0) (.cons (.int 7) .nil))) .nil)))) (.cons (.asg (.nm 2) (.dct 0 .nil)) (.cons (.for_ (.tp [6, 4]) .enum (.cons (.var 1) .nil) b1_law_rules) b2_law_rules))
def fd_law_rules : FD := ⟨1, 8, b0_law_rules⟩  -- 0:deck 1:texts 2:rules 3:wides 4:text 5:turn 6:k 7:sizes
def b2_law_any_kind : Ss := .cons (.ret (.var 2)) .nil
def b1_law_any_kind : Ss := .cons (.ret (.tup (.cons (.str s_name) .nil))) .nil
def b0_law_any_kind : Ss := .cons (.asg (.nm 2) (.call s__law_kind (.cons (.var 0) (.cons (.int 3) (.cons (.blt .klist (.cons (.var 1) .nil)) (.cons (.blt .klist (.cons (.var 1) .nil)) .nil)))))) (.cons (.ife (.bop false (.cons (.cmp .gt (.call s__law_most (.cons (.var 2) (.cons (.call s__law_sizes (.cons (.var 1) .nil)) .nil))) (.int 6)) (.cons (.cmp .gt (.call s__law_widest (.cons (.var 2) (.cons (.call s__law_wides (.cons (.var 1) .nil)) .nil))) (.int 20)) .nil))) b1_law_any_kind .nil) b2_law_any_kind)
def fd_law_any_kind : FD := ⟨2, 3, b0_law_any_kind⟩  -- 0:deck 1:rules 2:kind
def b2_law_top : Ss := .cons (.ret (.var 1)) .nil
def b1_law_top : Ss := .cons (.asg (.nm 1) (.ix (.var 0) (.ix (.var 1) (.int 1)))) .nil
def b0_law_top : Ss := .cons (.whl (.cmp .eq (.ix (.var 1) (.int 0)) (.str s_rule)) b1_law_top) b2_law_top
def fd_law_top : FD := ⟨2, 2, b0_law_top⟩  -- 0:rules 1:kind
def b12_law_places : Ss := .cons (.ret (.lzip (.cons (.sl (.var 1) (.cons (.int 1) .nil) .nil) (.cons (.sl (.var 2) (.cons (.int 1) .nil) .nil) .nil)))) .nil
def b11_law_places : Ss := .cons (.ret (.lst (.cons (.tup (.cons (.ix (.var 1) (.int 2)) (.cons (.ix (.var 2) (.int 1)) .nil))) .nil))) .nil
def b10_law_places : Ss := .cons (.ife (.cmp .eq (.ix (.var 2) (.int 0)) (.str s_r)) b11_law_places .nil) b12_law_places
def b9_law_places : Ss := .cons (.ret (.non)) .nil
def b8_law_places : Ss := .cons (.asg (.nm 3) (.ix (.dct 0 (.cons (.str s_node) (.cons (.lst (.cons (.str s_n) .nil)) (.cons (.str s_sum) (.cons (.lst (.cons (.str s_l) (.cons (.str s_r) .nil))) (.cons (.str s_pair) (.cons (.lst (.cons (.str s_p) .nil)) .nil))))))) (.ix (.var 1) (.int 0)))) (.cons (.ife (.bop false (.cons (.cmp .notin (.ix (.var 2) (.int 0)) (.var 3)) (.cons (.cmp .ne (.blt .len (.cons (.var 2) .nil)) (.bin .add (.int 2) (.blt .int1 (.cons (.cmp .eq (.ix (.var 2) (.int 0)) (.str s_p)) .nil)))) .nil))) b9_law_places .nil) b10_law_places)
def b7_law_places : Ss := .cons (.asg (.nm 4) (.bop true (.cons (.cmp .eq (.blt .len (.cons (.var 2) .nil)) (.int 2)) (.cons (.cmp .eq (.ix (.var 2) (.int 0)) (.str s_a)) (.cons (.isi (.ix (.var 2) (.int 1)) .int) (.cons (.chn .le .le (.int 0) (.ix (.var 2) (.int 1)) (.bin .pow (.int 10) (.int 9))) .nil)))))) (.cons (.ret (.ix (.lst (.cons (.non) (.cons (.lst .nil) .nil))) (.blt .int1 (.cons (.var 4) .nil)))) .nil)
def b6_law_places : Ss := .cons (.ife (.cmp .eq (.ix (.var 1) (.int 0)) (.str s_name)) b7_law_places .nil) b8_law_places
def b5_law_places : Ss := .cons (.ret (.non)) .nil
def b4_law_places : Ss := .cons (.ife (.bop false (.cons (.cmp .eq (.blt .len (.cons (.var 2) .nil)) (.int 0)) (.cons (.cmp .eq (.ix (.var 1) (.int 0)) (.str s_none)) .nil))) b5_law_places .nil) b6_law_places
def b3_law_places : Ss := .cons (.ret (.ix (.lst (.cons (.non) (.cons (.lst .nil) .nil))) (.blt .int1 (.cons (.cmp .eq (.var 2) (.tup .nil)) .nil)))) .nil
def b2_law_places : Ss := .cons (.ife (.cmp .eq (.ix (.var 1) (.int 0)) (.str s_one)) b3_law_places .nil) b4_law_places
def b1_law_places : Ss := .cons (.ret (.non)) .nil
def b0_law_places : Ss := .cons (.asg (.nm 1) (.call s__law_top (.cons (.var 0) (.cons (.var 1) .nil)))) (.cons (.ife (.not (.isi (.var 2) .tuple)) b1_law_places .nil) b2_law_places)
def fd_law_places : FD := ⟨3, 5, b0_law_places⟩  -- 0:rules 1:kind 2:thing 3:forms 4:good
def b4_law_is : Ss := .cons (.ret (.bl true)) .nil
def b3_law_is : Ss := .cons (.ex (.mth .extend (.var 3) (.cons (.var 4) .nil))) .nil
def b2_law_is : Ss := .cons (.ret (.bl false)) .nil
def b1_law_is : Ss := .cons (.asg (.tp [5, 6]) (.mth .pop (.var 3) .nil)) (.cons (.asg (.nm 4) (.call s__law_places (.cons (.var 0) (.cons (.var 5) (.cons (.var 6) .nil))))) (.cons (.ife (.cmp .is_ (.var 4) (.non)) b2_law_is .nil) b3_law_is))
def b0_law_is : Ss := .cons (.asg (.nm 3) (.lst (.cons (.tup (.cons (.var 1) (.cons (.var 2) .nil))) .nil))) (.cons (.whl (.cmp .gt (.blt .len (.cons (.var 3) .nil)) (.int 0)) b1_law_is) b4_law_is)
def fd_law_is : FD := ⟨3, 7, b0_law_is⟩  -- 0:rules 1:kind 2:thing 3:todo 4:found 5:place 6:one
def b2_law_row : Ss := .cons (.ret (.ix (.var 1) (.tup (.cons (.var 2) (.cons (.var 3) .nil))))) .nil
def b1_law_row : Ss := .cons (.six (.var 1) (.tup (.cons (.var 2) (.cons (.var 3) .nil))) (.call s__law_fresh (.cons (.var 0) (.cons (.var 1) (.cons (.var 2) (.cons (.var 3) .nil)))))) .nil
def b0_law_row : Ss := .cons (.ife (.cmp .notin (.tup (.cons (.var 2) (.cons (.var 3) .nil))) (.var 1)) b1_law_row .nil) b2_law_row
def fd_law_row : FD := ⟨4, 4, b0_law_row⟩  -- 0:rules 1:held 2:kind 3:large
def b15_law_fresh : Ss := .cons (.ret (.var 4)) .nil
def b14_law_fresh : Ss := .cons (.six (.var 4) (.bin .add (.var 8) (.var 11)) (.bin .add (.ix (.var 4) (.bin .add (.var 8) (.var 11))) (.bin .mul (.var 9) (.var 10)))) .nil
def b13_law_fresh : Ss := .cons (.for_ (.tp [11, 10]) .enum (.cons (.var 7) .nil) b14_law_fresh) .nil
def b12_law_fresh : Ss := .cons (.asg (.nm 5) (.call s__law_row (.cons (.var 0) (.cons (.var 1) (.cons (.ix (.var 2) (.int 1)) (.cons (.var 6) .nil)))))) (.cons (.asg (.nm 7) (.call s__law_row (.cons (.var 0) (.cons (.var 1) (.cons (.ix (.var 2) (.int 2)) (.cons (.bin .sub (.var 3) (.var 6)) .nil)))))) (.cons (.for_ (.tp [8, 9]) .enum (.cons (.var 5) .nil) b13_law_fresh) .nil))
def b11_law_fresh : Ss := .cons (.for_ (.nm 6) .rng (.cons (.bin .add (.var 3) (.int 1)) .nil) b12_law_fresh) .nil
def b10_law_fresh : Ss := .cons (.ife (.cmp .eq (.ix (.var 2) (.int 0)) (.str s_pair)) b11_law_fresh .nil) b15_law_fresh
def b9_law_fresh : Ss := .cons (.asg (.nm 5) (.call s__law_row (.cons (.var 0) (.cons (.var 1) (.cons (.ix (.var 2) (.int 1)) (.cons (.var 3) .nil)))))) (.cons (.ret (.lc (.bin .add (.var 9) (.var 10)) (.tp [9, 10]) [9, 10] .zip (.cons (.var 5) (.cons (.call s__law_row (.cons (.var 0) (.cons (.var 1) (.cons (.ix (.var 2) (.int 2)) (.cons (.var 3) .nil))))) .nil)) .nil)) .nil)
def b8_law_fresh : Ss := .cons (.ife (.cmp .eq (.ix (.var 2) (.int 0)) (.str s_sum)) b9_law_fresh .nil) b10_law_fresh
def b7_law_fresh : Ss := .cons (.ret (.bin .add (.call s__law_row (.cons (.var 0) (.cons (.var 1) (.cons (.ix (.var 2) (.int 1)) (.cons (.bin .sub (.var 3) (.int 1)) .nil))))) (.lst (.cons (.int 0) .nil)))) .nil
def b6_law_fresh : Ss := .cons (.ife (.bop true (.cons (.cmp .eq (.ix (.var 2) (.int 0)) (.str s_node)) (.cons (.cmp .gt (.var 3) (.int 0)) .nil))) b7_law_fresh .nil) b8_law_fresh
def b5_law_fresh : Ss := .cons (.six (.var 4) (.int 1) (.int 1)) .nil
def b4_law_fresh : Ss := .cons (.ife (.bop true (.cons (.cmp .eq (.ix (.var 2) (.int 0)) (.str s_name)) (.cons (.cmp .eq (.var 3) (.int 1)) .nil))) b5_law_fresh .nil) b6_law_fresh
def b3_law_fresh : Ss := .cons (.six (.var 4) (.int 0) (.int 1)) .nil
def b2_law_fresh : Ss := .cons (.ife (.bop true (.cons (.cmp .eq (.ix (.var 2) (.int 0)) (.str s_one)) (.cons (.cmp .eq (.var 3) (.int 0)) .nil))) b3_law_fresh .nil) b4_law_fresh
def b1_law_fresh : Ss := .cons (.ret (.call s__law_row (.cons (.var 0) (.cons (.var 1) (.cons (.ix (.var 0) (.ix (.var 2) (.int 1))) (.cons (.var 3) .nil)))))) .nil
def b0_law_fresh : Ss := .cons (.asg (.nm 4) (.bin .mul (.lst (.cons (.int 0) .nil)) (.bin .add (.var 3) (.int 1)))) (.cons (.ife (.cmp .eq (.ix (.var 2) (.int 0)) (.str s_rule)) b1_law_fresh .nil) b2_law_fresh)
def fd_law_fresh : FD := ⟨4, 12, b0_law_fresh⟩  -- 0:rules 1:held 2:kind 3:large 4:found 5:one 6:part 7:other 8:k 9:here 10:there 11:j
def b3_law_rows : Ss := .cons (.ret (.var 2)) .nil
def b2_law_rows : Ss := .cons (.ex (.call s__law_row (.cons (.var 0) (.cons (.var 2) (.cons (.tup (.cons (.str s_rule) (.cons (.var 4) .nil))) (.cons (.var 3) .nil)))))) .nil
def b1_law_rows : Ss := .cons (.lock 0 (.for_ (.nm 4) .keys (.cons (.var 0) .nil) b2_law_rows)) .nil
def b0_law_rows : Ss := .cons (.asg (.nm 2) (.dcn)) (.cons (.for_ (.nm 3) .rng (.cons (.bin .add (.var 1) (.int 1)) .nil) b1_law_rows) b3_law_rows)
def fd_law_rows : FD := ⟨2, 5, b0_law_rows⟩  -- 0:rules 1:most 2:held 3:large 4:rule
def b4_law_walked : Ss := .cons (.ret (.tup (.cons (.var 1) (.cons (.var 2) .nil)))) .nil
def b3_law_walked : Ss := .cons (.asg (.nm 1) (.bin .add (.var 1) (.blt .int1 (.cons (.cmp .eq (.slw (.var 4) .nil (.cons (.int 1) .nil)) (.tup (.cons (.str s_n) .nil))) .nil)))) (.cons (.ex (.mth .extendT (.var 3) (.cons (.tlr (.var 4)) .nil))) .nil)
def b2_law_walked : Ss := .cons (.asg (.nm 1) (.bin .add (.var 1) (.int 1))) (.cons (.ex (.mth .append (.var 2) (.cons (.ix (.var 4) (.int 1)) .nil))) .nil)
def b1_law_walked : Ss := .cons (.asg (.nm 4) (.mth .pop (.var 3) .nil)) (.cons (.ife (.cmp .eq (.slw (.var 4) .nil (.cons (.int 1) .nil)) (.tup (.cons (.str s_a) .nil))) b2_law_walked b3_law_walked) .nil)
def b0_law_walked : Ss := .cons (.asg (.nm 1) (.int 0)) (.cons (.asg (.nm 2) (.lst .nil)) (.cons (.asg (.nm 3) (.lst (.cons (.var 0) .nil))) (.cons (.whl (.cmp .gt (.blt .len (.cons (.var 3) .nil)) (.int 0)) b1_law_walked) b4_law_walked)))
def fd_law_walked : FD := ⟨1, 5, b0_law_walked⟩  -- 0:thing 1:many 2:names 3:todo 4:one
def b7_law_right : Ss := .cons (.ex (.mth .clear (.var 4) .nil)) (.cons (.ret (.bl true)) .nil)
def b6_law_right : Ss := .cons (.ret (.bl false)) .nil
def b5_law_right : Ss := .cons (.asg (.tp [7, 8]) (.call s__law_walked (.cons (.var 6) .nil))) (.cons (.ife (.bop false (.cons (.cmp .ne (.var 7) (.var 2)) (.cons (.cmp .ne (.var 8) (.lrng (.cons (.blt .len (.cons (.var 8) .nil)) .nil))) .nil))) b6_law_right .nil) .nil)
def b4_law_right : Ss := .cons (.ret (.bl false)) .nil
def b3_law_right : Ss := .cons (.ife (.bop false (.cons (.not (.call s__law_is (.cons (.var 0) (.cons (.var 1) (.cons (.var 6) .nil))))) (.cons (.bop true (.cons (.cmp .gt (.var 5) (.int 0)) (.cons (.not (.cmp .lt (.ix (.var 4) (.bin .sub (.var 5) (.int 1))) (.var 6))) .nil))) .nil))) b4_law_right .nil) b5_law_right
def b2_law_right : Ss := .cons (.for_ (.tp [5, 6]) .enum (.cons (.var 4) .nil) b3_law_right) b7_law_right
def b1_law_right : Ss := .cons (.ret (.bl false)) .nil
def b0_law_right : Ss := .cons (.asg (.nm 4) (.call s_shapes (.cons (.var 0) (.cons (.var 1) (.cons (.var 2) .nil))))) (.cons (.ife (.bop false (.cons (.not (.isi (.var 4) .list)) (.cons (.cmp .ne (.blt .len (.cons (.var 4) .nil)) (.var 3)) .nil))) b1_law_right .nil) b2_law_right)
def fd_law_right : FD := ⟨4, 9, b0_law_right⟩  -- 0:rules 1:kind 2:large 3:count 4:found 5:k 6:thing 7:many 8:names
def b6_law : Ss := .cons (.ret (.bl true)) .nil
def b5_law : Ss := .cons (.ret (.bl false)) .nil
def b4_law : Ss := .cons (.asg (.nm 7) (.blt .sum (.cons (.call s__law_row (.cons (.var 3) (.cons (.var 5) (.cons (.var 4) (.cons (.var 6) .nil))))) .nil))) (.cons (.ife (.bop true (.cons (.cmp .le (.var 7) (.int 150)) (.cons (.not (.call s__law_right (.cons (.var 3) (.cons (.var 4) (.cons (.var 6) (.cons (.var 7) .nil)))))) .nil))) b5_law .nil) .nil)
def b3_law : Ss := .cons (.for_ (.nm 6) .seq (.cons (.tup (.cons (.int 0) (.cons (.var 2) .nil))) .nil) b4_law) b6_law
def b2_law : Ss := .cons (.ret (.bl false)) .nil
def b1_law : Ss := .cons (.asg (.nm 7) (.blt .sum (.cons (.call s__law_row (.cons (.var 3) (.cons (.var 5) (.cons (.var 4) (.cons (.var 6) .nil))))) .nil))) (.cons (.ife (.bop true (.cons (.cmp .le (.var 7) (.int 150)) (.cons (.not (.call s__law_right (.cons (.var 3) (.cons (.var 4) (.cons (.var 6) (.cons (.var 7) .nil)))))) .nil))) b2_law .nil) .nil)
def b0_law : Ss := .cons (.asg (.nm 1) (.call s__law_deck (.cons (.var 0) .nil))) (.cons (.asg (.nm 2) (.ix (.lst (.cons (.int 5) (.cons (.int 5) (.cons (.int 5) (.cons (.int 9) .nil))))) (.call s__law_next (.cons (.var 1) (.cons (.int 4) .nil))))) (.cons (.asg (.nm 3) (.call s__law_rules (.cons (.var 1) .nil))) (.cons (.asg (.nm 4) (.call s__law_any_kind (.cons (.var 1) (.cons (.var 3) .nil)))) (.cons (.asg (.nm 5) (.call s__law_rows (.cons (.var 3) (.cons (.var 2) .nil)))) (.cons (.for_ (.nm 6) .rng (.cons (.var 2) (.cons (.neg (.int 1)) (.cons (.neg (.int 1)) .nil))) b1_law) b3_law)))))
def fd_law : FD := ⟨1, 8, b0_law⟩  -- 0:script 1:deck 2:most 3:rules 4:kind 5:held 6:large 7:count
def prog : List (Sx × FD) := [(s_top_of, fd_top_of), (s_names_in, fd_names_in), (s_renamed, fd_renamed), (s_added, fd_added), (s_crossed, fd_crossed), (s_x54616c6c792e5f5f696e6974, fd_Tally___init__), (s_x54616c6c792e636f756e7473, fd_Tally_counts_at), (s_x54616c6c792e636f756e7465, fd_Tally_counted), (s_x54616c6c792e6672657368, fd_Tally_fresh), (s_shifted, fd_shifted), (s_paired, fd_paired), (s_listed, fd_listed), (s_shapes, fd_shapes), (s__law_deck, fd_law_deck), (s__law_next, fd_law_next), (s__law_word, fd_law_word), (s__law_texts, fd_law_texts), (s__law_kind, fd_law_kind), (s__law_least, fd_law_least), (s__law_sizes, fd_law_sizes), (s__law_most, fd_law_most), (s__law_parts_of, fd_law_parts_of), (s__law_wide, fd_law_wide), (s__law_widest, fd_law_widest), (s__law_wides, fd_law_wides), (s__law_rules, fd_law_rules), (s__law_any_kind, fd_law_any_kind), (s__law_top, fd_law_top), (s__law_places, fd_law_places), (s__law_is, fd_law_is), (s__law_row, fd_law_row), (s__law_fresh, fd_law_fresh), (s__law_rows, fd_law_rows), (s__law_walked, fd_law_walked), (s__law_right, fd_law_right), (s_law, fd_law)]
end K14
end
section
namespace K14
open M
abbrev P := pOf prog
/-- a deck: a list of whole numbers, never empty -/
def IsDeck (p : Nat) (h : AH) : Prop := ∃ ns : List Int, ns ≠ [] ∧ h p = some (.lst (ns.map .int))
theorem IsDeck.ext {p : Nat} {h h' : AH} (d : IsDeck p h) (e : Ext h h') : IsDeck p h' := let ⟨ns, n0, q⟩ := d; ⟨ns, n0, e _ _ q⟩
theorem IsDeck.ke {p r : Nat} {h h' : AH} (d : IsDeck p h) (n : p ≠ r) (e : Ke r h h') : IsDeck p h' := let ⟨ns, n0, q⟩ := d; ⟨ns, n0, e _ _ n q⟩
theorem IsDeck.put {p r : Nat} {o : Ob} {h : AH} (d : IsDeck p h) (n : h r = none) : IsDeck p (up h r o) := d.ext (Ext.new n)
theorem IsDeck.ne {p r : Nat} {h : AH} (d : IsDeck p h) (n : h r = none) : r ≠ p := fun z => by
  subst z
  obtain ⟨ns, _, e⟩ := d
  rw [n] at e; cases e
theorem fresh_ke {p a : Nat} {h h' : AH} (x : Ke p h h') (d : IsDeck p h') (n : h' a = none) : h a = none := by
  cases e : h a with
  | none => rfl
  | some o =>
    exfalso
    have := x a o (d.ne n) e
    rw [n] at this; cases this
theorem atI_map {ns : List Int} {i : Int} (h0 : 0 ≤ i) (h1 : i < ns.length) : ∃ v, atI (ns.map D.int) i = some (.int v) := by
  refine ⟨ns[i.toNat]'(by omega), ?_⟩
  unfold atI
  rw [if_pos h0, List.getElem?_map, List.getElem?_eq_getElem (by omega)]
  rfl
theorem next_ok {n p : Nat} {many : Int} {h : AH} {Q : VQ} {X : XP} (hd : IsDeck p h) (hm : 0 < many)
    (k : ∀ v h', 0 ≤ v → v < many → IsDeck p h' → Ke p h h' → Q (.int v) h') : run P (n + 1) s__law_next [.ref p, .int many] h Q X := by
  obtain ⟨ns, n0, hp⟩ := hd
  refine run_of (fd := fd_law_next) rfl rfl ?_
  simp [fd_law_next, start, b0_law_next, b1_law_next, b2_law_next, len_lst hp]
  obtain ⟨a, r, rfl⟩ : ∃ a r, ns = a :: r := by cases ns with
    | nil => exact absurd rfl n0
    | cons a r => exact ⟨a, r, rfl⟩
  by_cases e : r = []
  · subst e
    rw [decide_eq_false (by simp)]
    dsimp only
    have h1 : opIx (.ref p) (.int 0) h = fun Q => Q (.int a) h := by
      funext Q
      rw [ix_lst hp]
      rfl
    simp [h1]
    refine ⟨.inr (by omega), ?_⟩
    have m0 := Int.emod_nonneg (a * 48271 + 7919) (show (2147483629 : Int) ≠ 0 by decide)
    have m1 := Int.emod_lt_of_pos (a * 48271 + 7919) (show (0 : Int) < 2147483629 by decide)
    generalize (a * 48271 + 7919) % 2147483629 = m at m0 m1 ⊢
    refine ⟨by unfold divOk; omega, .inl (by omega), ?_⟩
    generalize m * (m / 5 + 11) % 2147483587 = m2
    rw [set_lst hp]
    refine ⟨by simp, ?_⟩
    have h2 : (up h p (.lst (([a].map D.int).set (0 : Int).toNat (.int m2)))) p = some (.lst ([m2].map .int)) := by rw [up_same]; rfl
    have h3 : opIx (.ref p) (.int 0) (up h p (.lst (([a].map D.int).set (0 : Int).toNat (.int m2)))) = fun Q => Q (.int m2) (up h p (.lst (([a].map D.int).set (0 : Int).toNat (.int m2)))) := by
      funext Q
      rw [ix_lst h2]
      rfl
    simp only [h3, mul_int, bin_fdiv, bin_mod, add_int]
    exact ⟨.inr (by omega), by unfold divOk; omega, by omega, hm, k _ _ (Int.emod_nonneg _ (by omega)) (Int.emod_lt_of_pos _ hm) ⟨[m2], by simp, h2⟩ .put⟩
  · have e2 := List.length_pos_iff.mpr e
    rw [decide_eq_true (by simp; omega)]
    refine ⟨recv_ok (by simp) (by simp) hp, ?_⟩
    rw [aLst_eq hp]
    simp
    exact ⟨hm, k _ _ (Int.emod_nonneg _ (by omega)) (Int.emod_lt_of_pos _ hm) ⟨r, e, up_same⟩ .put⟩
theorem cut_map {ns : List Int} {lo hi : Option Int} : cut (ns.map D.int) lo hi = (cut ns lo hi).map .int := by
  simp [cut, List.map_take, List.map_drop]
/-- the deck's loops: names, the list so far -/
def DkInv (h : AH) (sc : List Int) (p i : Nat) : St → AH → Prop := fun σ h' => ∃ (ds : List Int) (a b c : Option D), σ = [some (.rol (sc.map .int)), some (.ref p), a, b, c] ∧ h' p = some (.lst (ds.map D.int)) ∧ Ext h h' ∧ ds.length ≤ i
def DkT (h : AH) (sc : List Int) (p i : Nat) : St → AH → Prop := fun σ h' => ∃ (ds : List Int) (a b c : Option D), σ = [some (.rol (sc.map .int)), some (.ref p), a, b, c] ∧ h' p = some (.lst (ds.map D.int)) ∧ Ext h h' ∧ ds.length = i
def DkIn (h : AH) (sc : List Int) (p r i : Nat) (cell : Int) (j : Nat) : St → AH → Prop := fun σ h' => ∃ (m : Int) (ds : List Int) (a : Option D), σ = [some (.rol (sc.map .int)), some (.ref p), a, some (.int cell), some (.int m)] ∧ h' p = some (.lst (ds.map D.int)) ∧ Ext h h' ∧ ds.length ≤ 60 * i + j ∧ h' r = some (.lst ((cut sc (some 1) (some 63)).map .int))
theorem app_ok {h0 h : AH} {p : Nat} {ds : List Int} {v : Int} (hp : h p = some (.lst (ds.map D.int))) (hn : h0 p = none) (ex : Ext h0 h) : (up h p (.lst (ds.map D.int ++ [.int v]))) p = some (.lst ((ds ++ [v]).map D.int)) ∧ Ext h0 (up h p (.lst (ds.map D.int ++ [.int v]))) := by
  refine ⟨by rw [up_same]; simp, ?_⟩
  exact ex.mut hn .put
theorem deck_ok {n : Nat} {ns : List Int} {h : AH} {Q : VQ} {X : XP} (k : ∀ p h', h p = none → Ext h h' → IsDeck p h' → Q (.ref p) h') : run P (n + 1) s__law_deck [.rol (ns.map .int)] h Q X := by
  refine run_of (fd := fd_law_deck) rfl rfl ?_
  simp [fd_law_deck, start, b0_law_deck]
  intro p0 hp0
  have tail : ∀ (p : Nat) (ds0 : List Int) h1 (R : Ends), h p = none → R.rt = Q → Ext h h1 → ds0.length ≤ 500 → ∀ a b c, h1 p = some (.lst (ds0.map .int)) → wSs ⟨run P n, X⟩ b6_law_deck R [some (.rol (ns.map .int)), some (.ref p), a, b, c] h1 := by
    intro p ds0 h1 R hp hR ex l0 a b c h0
    simp [b6_law_deck]
    rw [len_lst h0]
    simp only [List.length_map, walk_rng2]
    refine ⟨by omega, loop_rng (fun i => DkT h ns p (ds0.length + i)) ⟨ds0, a, b, c, rfl, h0, ex, by omega⟩ (fun _ _ _ _ => trivial) ?_ ?_⟩
    · rintro i σ h' hi ⟨ds, a, b, c, rfl, hp', ex', hz⟩
      obtain ⟨kk, hkk⟩ : ∃ kk : Nat, ((ds0.length : Int) + (i : Int)) = (kk : Int) := ⟨ds0.length + i, by omega⟩
      rw [hkk]
      have cont : ∀ (cell : Int) (B : St → AH → Prop), 0 ≤ cell → cell < 2147483629 * 2 → wSs ⟨run P n, X⟩ b9_law_deck { nx := DkT h ns p (ds0.length + (i + 1)), ct := DkT h ns p (ds0.length + (i + 1)), bk := B, rt := R.rt } [some (.rol (ns.map .int)), some (.ref p), some (.int kk), some (.int cell), c] h' := by
        intro cell B c0 c1
        simp [b9_law_deck]
        refine ⟨.inr (by omega), .inl (by omega), ?_⟩
        have m0 := Int.emod_nonneg (cell * 48271 + 7919 * ↑kk + 13) (show (2147483629 : Int) ≠ 0 by decide)
        have m1 := Int.emod_lt_of_pos (cell * 48271 + 7919 * ↑kk + 13) (show (0 : Int) < 2147483629 by decide)
        generalize (cell * 48271 + 7919 * ↑kk + 13) % 2147483629 = m at m0 m1 ⊢
        refine ⟨by unfold divOk; omega, .inl (by omega), .inl (by omega), recv_ok (by simp) (by simp) hp', ?_⟩
        generalize (m * (m / 5 + ↑kk) + 16807 * ↑kk) % 2147483587 = m2
        refine ⟨.inr (by omega), by unfold divOk; omega, ?_⟩
        rw [aLst_eq hp']
        refine ⟨by simp [LINE]; omega, _, _, _, _, rfl, (app_ok hp' hp ex').1, (app_ok hp' hp ex').2, by simp; omega⟩
      simp [b7_law_deck, b8_law_deck]
      refine ⟨.inr (by omega), ?_⟩
      by_cases hn : ns = []
      · subst hn
        exact cont _ _ (by omega) (by omega)
      · have hpos : 0 < ns.length := List.length_pos_iff.mpr hn
        rw [decide_eq_true hpos]
        dsimp only
        have hm : 0 < (if (ns.length : Int) < 63 then (ns.length : Int) else 63) := by split <;> omega
        have hm2 : (if (ns.length : Int) < 63 then (ns.length : Int) else 63) ≤ ns.length := by split <;> omega
        refine ⟨hm, ?_⟩
        obtain ⟨v, hv⟩ := atI_map (ns := ns) (i := (kk : Int) % if (ns.length : Int) < 63 then (ns.length : Int) else 63) (Int.emod_nonneg _ (by omega)) (Int.lt_of_lt_of_le (Int.emod_lt_of_pos _ hm) hm2)
        rw [hv]
        simp
        have m0 := Int.emod_nonneg v (show (2147483629 : Int) ≠ 0 by decide)
        have m1 := Int.emod_lt_of_pos v (show (0 : Int) < 2147483629 by decide)
        exact cont _ _ (by omega) (by omega)
    · rintro σ h' ⟨ds, a, b, c, rfl, hp', ex', hz⟩
      simp [b10_law_deck, hR]
      exact k p h' hp ex' ⟨ds, by intro z; subst z; simp at hz; omega, hp'⟩
  have odd : ∀ h1 (R : Ends), (∀ σ h', R.nx σ h' = wSs ⟨run P n, X⟩ b6_law_deck (RT Q) σ h') → R.rt = Q → Ext h h1 → h1 p0 = some (.lst []) → wSs ⟨run P n, X⟩ b1_law_deck R [some (.rol (ns.map .int)), some (.ref p0), none, none, none] h1 := by
    intro h1 R hN hR ex h0
    have hp := hp0
    simp [b1_law_deck]
    intro r hr
    have pr : p0 ≠ r := ne_new h0 hr
    rw [walk_lst up_same, cut_map]
    refine ⟨fun i σ h' => DkInv h ns p0 (60 * i) σ h' ∧ h' r = some (.lst ((cut ns (some 1) (some 63)).map .int)), ⟨⟨[], none, none, none, rfl, by rw [up_ne pr]; exact h0, ex.trans (Ext.new hr), Nat.le_refl _⟩, up_same⟩, fun i σ h' z => z.2, ?_, ?_⟩
    · rintro i x σ h' hx ⟨⟨ds, a, b, c, rfl, hp', ex', hz⟩, hr'⟩
      obtain ⟨cell, rfl⟩ : ∃ cell, x = .int cell := by
        rw [List.getElem?_map] at hx
        cases e : (cut ns (some 1) (some 63))[i]? with
        | none => rw [e] at hx; cases hx
        | some z => rw [e] at hx; exact ⟨z, (Option.some.inj hx).symm⟩
      have hi : i < 63 := by
        have := (List.getElem?_eq_some_iff.mp hx).1
        simp [cut, clip] at this
        omega
      simp [b2_law_deck]
      refine ⟨by unfold powOk; decide, ?_⟩
      refine loop_rng (fun j => DkIn h ns p0 r i cell j) ⟨_, ds, a, rfl, hp', ex', hz, hr'⟩ (fun _ _ _ _ => trivial) ?_ ?_
      · rintro j σ h2 hj ⟨m, ds, a, rfl, hp2, ex2, hz2, hr2⟩
        have done : ∀ (B : St → AH → Prop) (T : VQ), wSs ⟨run P n, X⟩ b4_law_deck { nx := DkIn h ns p0 r i cell (j + 1), ct := DkIn h ns p0 r i cell (j + 1), rt := T, bk := B } [some (.rol (ns.map .int)), some (.ref p0), some (.int j), some (.int cell), some (.int m)] h2 := by
          intro B T
          simp [b4_law_deck]
          refine ⟨recv_ok (by simp) (by simp) hp2, ?_⟩
          rw [aLst_eq hp2]
          refine ⟨by simp [LINE]; omega, by unfold divOk; omega, _, _, _, rfl, (app_ok hp2 hp ex2).1, (app_ok hp2 hp ex2).2, by simp; omega, ?_⟩
          rw [up_ne pr.symm]
          exact hr2
        have skip : DkIn h ns p0 r i cell (j + 1) [some (.rol (ns.map .int)), some (.ref p0), some (.int j), some (.int cell), some (.int m)] h2 := ⟨m, ds, _, rfl, hp2, ex2, by omega, hr2⟩
        simp [b3_law_deck]
        by_cases e1 : j = 0
        · rw [decide_eq_true e1]
          exact done _ _
        · rw [decide_eq_false e1]
          by_cases e2 : 0 < m
          · rw [decide_eq_true e2]
            exact done _ _
          · rw [decide_eq_false e2]
            exact skip
      · rintro σ h2 ⟨m, ds, a, rfl, hp2, ex2, hz2, hr2⟩
        refine ⟨⟨ds, a, _, _, rfl, hp2, ex2, ?_⟩, hr2⟩
        simp at hz2
        omega
    · rintro σ h' ⟨⟨ds, a, b, c, rfl, hp', ex', hz⟩, hr'⟩
      simp [b5_law_deck]
      rw [sl_lst hp']
      intro q hq
      rw [cut_map, hN]
      refine tail q (cut ds none (some 500)) _ _ (fresh_back ex' hq) (by rfl) (ex'.trans (Ext.new hq)) (by simp [cut, clip]; omega) _ _ _ up_same
  have ex1 : Ext h (up h p0 (.lst [])) := Ext.new hp0
  by_cases e1 : 1 < (ns.length : Int)
  · rw [decide_eq_true e1]
    dsimp only
    obtain ⟨v, hv⟩ := atI_map (ns := ns) (i := 0) (by omega) (by omega)
    rw [hv]
    simp
    by_cases e2 : v % 2 = 1
    · rw [decide_eq_true e2]
      exact odd _ _ (fun σ h' => rfl) (by rfl) ex1 up_same
    · rw [decide_eq_false e2]
      exact tail p0 [] _ _ hp0 (by rfl) ex1 (by simp) _ _ _ up_same
  · rw [decide_eq_false e1]
    exact tail p0 [] _ _ hp0 (by rfl) ex1 (by simp) _ _ _ up_same
/-! ### drawn words and texts -/
theorem isdeck_ne {p q : Nat} {h : AH} {ss : List Sx} (d : IsDeck p h) (e : h q = some (.lst (ss.map .str))) : q ≠ p := fun z => by
  subst z
  obtain ⟨ns, n0, e2⟩ := d
  rw [e] at e2
  cases ns with
  | nil => exact n0 rfl
  | cons a r => cases ss <;> simp at e2
theorem strsOf_map : ∀ ss : List Sx, strsOf (ss.map .str) = some ss
  | [] => rfl
  | s :: r => by
    rw [List.map_cons]
    simp [strsOf, strsOf_map r]
theorem joinS_nil : ∀ ss : List Sx, joinS [] ss = ss.flatten
  | [] => rfl
  | [p] => by simp [joinS]
  | p :: q :: r => by
    rw [joinS, joinS_nil (q :: r)]
    simp
theorem len_ones : ∀ {ss : List Sx}, (∀ s ∈ ss, s.length = 1) → (ss.map (·.length)).sum = ss.length ∧ ss.flatten.length = ss.length
  | [], _ => by simp
  | s :: r, a => by
    obtain ⟨h1, h2⟩ := len_ones (ss := r) fun x hx => a x (List.mem_cons_of_mem _ hx)
    have := a s List.mem_cons_self
    simp [h1, h2, this]
    omega
def WdI (p : Nat) (h : AH) (i : Nat) (acc : List D) (h' : AH) : Prop := ∃ ss : List Sx, acc = ss.map .str ∧ ss.length = i ∧ (∀ s ∈ ss, s.length = 1) ∧ IsDeck p h' ∧ Ke p h h'
theorem word_ok {n p : Nat} {h : AH} {Q : VQ} {X : XP} (hd : IsDeck p h) (k : ∀ w h', 1 ≤ w.length → w.length ≤ 8 → IsDeck p h' → Ke p h h' → Q (.str w) h') : run P (n + 2) s__law_word [.ref p] h Q X := by
  refine run_of (fd := fd_law_word) rfl rfl ?_
  simp [fd_law_word, start, b0_law_word]
  refine next_ok hd (by decide) fun v h1 v0 v1 d1 k1 => ?_
  refine ⟨by omega, by omega, comp_rng (fun i acc h' => WdI p h1 i acc h') ⟨[], rfl, rfl, (fun s hs => nomatch hs), d1, .refl⟩ ?_ (by simp [LINE]; omega) ?_ ?_⟩
  · rintro i acc h' ⟨ss, rfl, l, _⟩
    exact ⟨trivial, by simp [l]⟩
  · rintro i acc h2 hi ⟨ss, rfl, l, a1, d2, k2⟩
    refine next_ok d2 (by decide) fun u h3 u0 u1 d3 k3 => ?_
    refine ⟨by simp [LINE], ?_⟩
    rw [letters_at u0 u1]
    refine ⟨ss ++ [[97 + u.toNat]], by simp, by simp [l], fun s hs => ?_, d3, k2.trans k3⟩
    rcases List.mem_append.mp hs with hs | hs
    · exact a1 s hs
    · rw [List.mem_singleton.mp hs]; rfl
  · rintro acc h2 ⟨ss, rfl, l, a1, d2, k2⟩
    intro r hr
    rw [seq_lst up_same, aSome_eq, strsOf_map, aSome_eq, joinS_nil]
    obtain ⟨e1, e2⟩ := len_ones a1
    refine ⟨by simp [e1, LINE]; omega, ?_⟩
    exact k _ _ (by omega) (by omega) (d2.put hr) ((k1.trans k2).trans (Ext.new hr).ke)

/-- one turn of making a text unlike those found -/
def tw (fs : List Sx) (w : Sx) (c : Nat) : Sx := if w ∈ fs then w.take 7 ++ [c] else w
theorem tw_pos {fs : List Sx} {w : Sx} {c : Nat} (h : w ∈ fs) : tw fs w c = w.take 7 ++ [c] := by unfold tw; rw [if_pos h]
theorem tw_neg {fs : List Sx} {w : Sx} {c : Nat} (h : w ∉ fs) : tw fs w c = w := by unfold tw; rw [if_neg h]
theorem tw_stay {fs : List Sx} {w : Sx} (h : w ∉ fs) : ∀ cs : List Nat, cs.foldl (tw fs) w = w
  | [] => rfl
  | c :: cs => by
    rw [List.foldl_cons]
    have : tw fs w c = w := by unfold tw; rw [if_neg h]
    rw [this]
    exact tw_stay h cs
theorem tw_len {fs : List Sx} {w : Sx} {c : Nat} (h : w.length ≤ 8) : (tw fs w c).length ≤ 8 := by
  unfold tw
  split
  · simp; omega
  · exact h
theorem tw_all {fs : List Sx} : ∀ {cs : List Nat} {w : Sx}, cs.foldl (tw fs) w ∈ fs → ∃ ls : List Sx, (∀ x ∈ ls, x ∈ fs) ∧ ls.map (·.getLast?) = cs.map some
  | [], w, _ => ⟨[], (fun x hx => nomatch hx), rfl⟩
  | c :: cs, w, h => by
    rw [List.foldl_cons] at h
    by_cases e : w ∈ fs
    · have e1 : tw fs w c = w.take 7 ++ [c] := by unfold tw; rw [if_pos e]
      obtain ⟨ls, a1, a2⟩ := tw_all h
      have e2 : tw fs w c ∈ fs := by
        refine Classical.byContradiction fun z => ?_
        rw [tw_stay z] at h
        exact z h
      refine ⟨tw fs w c :: ls, fun x hx => ?_, ?_⟩
      · rcases List.mem_cons.mp hx with z | z
        · rw [z]; exact e2
        · exact a1 x z
      · rw [List.map_cons, List.map_cons, a2, e1, List.getLast?_append]
        rfl
    · have e1 : tw fs w c = w := by unfold tw; rw [if_neg e]
      rw [e1, tw_stay e] at h
      exact absurd h e
theorem nd_len {α : Type} [BEq α] [LawfulBEq α] : ∀ {xs ys : List α}, xs.Nodup → (∀ x ∈ xs, x ∈ ys) → xs.length ≤ ys.length
  | [], _, _, _ => Nat.zero_le _
  | x :: xs, ys, nd, a => by
    rw [List.nodup_cons] at nd
    have hx := a x List.mem_cons_self
    have ih := nd_len (ys := ys.erase x) nd.2 fun z hz => by
      have ne : z ≠ x := fun e => nd.1 (e ▸ hz)
      exact (List.mem_erase_of_ne ne).mpr (a z (List.mem_cons_of_mem _ hz))
    rw [List.length_erase_of_mem hx] at ih
    have := List.length_pos_of_mem hx
    simp only [List.length_cons]
    omega
theorem tw_new {fs : List Sx} {w : Sx} (h : fs.length < 9) : s_abcdefghi.foldl (tw fs) w ∉ fs := fun z => by
  obtain ⟨ls, a1, a2⟩ := tw_all z
  have nd : ls.Nodup := by
    have : (ls.map (·.getLast?)).Nodup := by rw [a2]; decide
    exact List.Pairwise.imp (fun h e => h (by rw [e])) (List.pairwise_map.mp this)
  have := nd_len nd a1
  have l2 : (ls.map (·.getLast?)).length = 9 := by rw [a2]; rfl
  rw [List.length_map] at l2
  omega
theorem any_str {ss : List Sx} {w : Sx} : ((ss.map D.str).any fun y => decide (y = .str w)) = decide (w ∈ ss) := by
  induction ss with
  | nil => simp
  | cons s r ih =>
    rw [List.map_cons, List.any_cons, ih]
    by_cases e : s = w
    · subst e; simp
    · have e2 : ¬ w = s := fun z => e z.symm
      have e3 : ¬ D.str s = D.str w := fun z => e (by injection z)
      simp [e3, e2]
theorem pure_strs {ss : List Sx} : pureDs (ss.map D.str) = true := pureDs_of fun d hd => by
  obtain ⟨s, _, rfl⟩ := List.mem_map.mp hd
  simp [pureD]
theorem plain_strs {n : Nat} {ss : List Sx} : plains n (ss.map D.str) = true := plains_of fun d hd => by
  obtain ⟨s, _, rfl⟩ := List.mem_map.mp hd
  cases n <;> simp [plain]
theorem mem_strs {p : Nat} {h : AH} {ss : List Sx} {w : Sx} {q : Bool → Prop} (e : h p = some (.lst (ss.map .str))) : memOk (.str w) (.ref p) h q = q (decide (w ∈ ss)) := by
  simp only [memOk, e, pure_strs, plain_strs, any_str]
  simp [pureD]
/-- the texts' loops -/
def TxI (p q : Nat) (many : Int) (h : AH) (i : Nat) : St → AH → Prop := fun σ h' => ∃ (ss : List Sx) (a b c : Option D), σ = [some (.ref p), some (.int many), some (.ref q), a, b, c] ∧ h' q = some (.lst (ss.map .str)) ∧ ss.length = i ∧ ss.Nodup ∧ (∀ s ∈ ss, s.length ≤ 8) ∧ IsDeck p h' ∧ Ke p h h' ∧ h q = none
def TwI (p q : Nat) (many : Int) (ss : List Sx) (w : Sx) (h1 : AH) (x : Option D) (i : Nat) : St → AH → Prop := fun σ h' => h' = h1 ∧ ∃ c, σ = [some (.ref p), some (.int many), some (.ref q), x, some (.str ((s_abcdefghi.take i).foldl (tw ss) w)), c]
theorem texts_ok {n p : Nat} {many : Nat} {h : AH} {Q : VQ} {X : XP} (hm : many < 9) (hd : IsDeck p h)
    (k : ∀ (ss : List Sx) q h', h q = none → h' q = some (.lst (ss.map .str)) → ss.length = many → ss.Nodup → (∀ s ∈ ss, s.length ≤ 8) → IsDeck p h' → Ke p h h' → Q (.ref q) h') : run P (n + 3) s__law_texts [.ref p, .int many] h Q X := by
  refine run_of (fd := fd_law_texts) rfl rfl ?_
  simp [fd_law_texts, start, b0_law_texts]
  intro q hq
  refine ⟨by omega, loop_rng (fun i => TxI p q many h i) ⟨[], none, none, none, rfl, up_same, rfl, List.nodup_nil, (fun s hs => nomatch hs), hd.put hq, (Ext.new hq).ke, hq⟩ (fun _ _ _ _ => trivial) ?_ ?_⟩
  · rintro i σ h1 hi ⟨ss, a, b, c, rfl, e1, l, nd, a8, d1, k1, _⟩
    simp [b1_law_texts]
    refine word_ok d1 fun w h2 w1 w8 d2 k2 => ?_
    have qp : q ≠ p := isdeck_ne d1 e1
    have e2 : h2 q = some (.lst (ss.map .str)) := k2 _ _ qp e1
    refine ⟨fun j => TwI p q many ss w h2 (some (.int i)) j, ⟨rfl, c, rfl⟩, (fun _ _ _ _ => trivial), ?_, ?_⟩
    · rintro j x σ h3 hx ⟨rfl, c, rfl⟩
      have hx : (s_abcdefghi.map fun c => D.str [c])[j]? = some x := hx
      obtain ⟨ch, hc, rfl⟩ := map_at hx
      have hj : s_abcdefghi.take (j + 1) = s_abcdefghi.take j ++ [ch] := by rw [List.take_add_one, hc]; rfl
      have l8 : ∀ (cs : List Nat) (u : Sx), u.length ≤ 8 → (cs.foldl (tw ss) u).length ≤ 8 := fun cs => by
        induction cs with
        | nil => intro u hu; exact hu
        | cons c r ih => intro u hu; exact ih _ (tw_len hu)
      have lw := l8 (s_abcdefghi.take j) w w8
      simp [b2_law_texts, b3_law_texts]
      rw [mem_strs e2]
      by_cases z : (s_abcdefghi.take j).foldl (tw ss) w ∈ ss
      · rw [decide_eq_true z]
        dsimp only
        refine ⟨by simp [LINE]; omega, by rw [cut_none (by decide)]; simp [LINE]; omega, rfl, some (.str [ch]), ?_⟩
        rw [hj, List.foldl_append, cut_none (by decide)]
        simp only [List.foldl_cons, List.foldl_nil]
        rw [tw_pos z]
        rfl
      · rw [decide_eq_false z]
        dsimp only
        refine ⟨rfl, some (.str [ch]), ?_⟩
        rw [hj, List.foldl_append]
        simp only [List.foldl_cons, List.foldl_nil]
        rw [tw_neg z]
    · rintro σ h3 ⟨rfl, c, rfl⟩
      have l8 : ∀ (cs : List Nat) (u : Sx), u.length ≤ 8 → (cs.foldl (tw ss) u).length ≤ 8 := fun cs => by
        induction cs with
        | nil => intro u hu; exact hu
        | cons c r ih => intro u hu; exact ih _ (tw_len hu)
      rw [show ∀ k, k = 9 → s_abcdefghi.take k = s_abcdefghi from fun k e => by rw [e]; rfl]
      case a => rfl
      have nw := tw_new (fs := ss) (w := w) (by omega)
      generalize hu : s_abcdefghi.foldl (tw ss) w = u at nw
      have lu : u.length ≤ 8 := by rw [← hu]; exact l8 _ _ w8
      simp [b4_law_texts]
      refine ⟨recv_ok (by simp) (by simp) e2, ?_⟩
      rw [aLst_eq e2]
      refine ⟨by simp [LINE]; omega, ss ++ [u], _, _, _, rfl, by rw [up_same]; simp, by simp [l], ?_, ?_, ?_, ?_, hq⟩
      · rw [List.nodup_append]
        exact ⟨nd, by simp, fun a ha b hb e => by rw [List.mem_singleton.mp hb] at e; exact nw (e ▸ ha)⟩
      · intro s hs
        rcases List.mem_append.mp hs with hs | hs
        · exact a8 s hs
        · rw [List.mem_singleton.mp hs]; exact lu
      · exact d2.ke (fun z => qp z.symm) .put
      · exact (k1.trans k2).mut hq .put
  · rintro σ h1 ⟨ss, a, b, c, rfl, e1, l, nd, a8, d1, k1, _⟩
    simp [b5_law_texts]
    exact k ss q h1 hq e1 (by simpa using l) nd a8 d1 k1
/-! ### kinds -/
inductive Kd where
  | one | name | none | node (a : Kd) | sum (a b : Kd) | pair (a b : Kd) | rule (s : Sx)
def encK : Kd → D
  | .one => .tup [.str s_one]
  | .name => .tup [.str s_name]
  | .none => .tup [.str s_none]
  | .node a => .tup [.str s_node, encK a]
  | .sum a b => .tup [.str s_sum, encK a, encK b]
  | .pair a b => .tup [.str s_pair, encK a, encK b]
  | .rule s => .tup [.str s_rule, .str s]
def Kd.dp : Kd → Nat
  | .node a => a.dp + 1
  | .sum a b => max a.dp b.dp + 1
  | .pair a b => max a.dp b.dp + 1
  | _ => 0
/-- where its rules stand: bare ones, those within nodes -/
def Bw : (Sx → Prop) → (Sx → Prop) → Kd → Prop
  | b, _, .rule s => b s
  | _, a, .node k => Bw a a k
  | b, a, .sum x y => Bw b a x ∧ Bw b a y
  | b, a, .pair x y => Bw b a x ∧ Bw b a y
  | _, _, _ => True
theorem kind_ways {v : Int} {f : D → Prop} (v0 : 0 ≤ v) (v1 : v < 9) (one : f (.str s_one)) (nm : f (.str s_name)) (ru : f (.str s_rule)) (no : f (.str s_none)) (nd : 4 ≤ v → f (.str s_node)) (su : 4 ≤ v → f (.str s_sum)) (pa : 4 ≤ v → f (.str s_pair)) :
    match atI [D.str s_one, .str s_name, .str s_rule, .str s_none, .str s_node, .str s_sum, .str s_pair, .str s_sum, .str s_pair] v with
    | some d => f d
    | none => False := by
  have : v = 0 ∨ v = 1 ∨ v = 2 ∨ v = 3 ∨ v = 4 ∨ v = 5 ∨ v = 6 ∨ v = 7 ∨ v = 8 := by omega
  rcases this with rfl | rfl | rfl | rfl | rfl | rfl | rfl | rfl | rfl
  · exact one
  · exact nm
  · exact ru
  · exact no
  · exact nd (by decide)
  · exact su (by decide)
  · exact pa (by decide)
  · exact su (by decide)
  · exact pa (by decide)
/-- a kind that was drawn -/
def KdOk (d : Nat) (texts ahead : List Sx) (k : Kd) : Prop := k.dp ≤ d ∧ Bw (· ∈ ahead) (· ∈ texts) k
theorem kind_ok : ∀ (d n p q r : Nat) (texts ahead : List Sx) (h : AH) (Q : VQ) (X : XP), IsDeck p h → h q = some (.lst (texts.map .str)) → h r = some (.lst (ahead.map .str)) →
    (∀ k h', KdOk d texts ahead k → IsDeck p h' → Ke p h h' → Q (encK k) h') → run P (n + d + 2) s__law_kind [.ref p, .int d, .ref q, .ref r] h Q X := by
  intro d
  induction d with
  | zero =>
    intro n p q r texts ahead h Q X hd hq hr k
    refine run_of (fd := fd_law_kind) rfl rfl ?_
    simp [fd_law_kind, start, b0_law_kind]
    refine ⟨by simp [LINE], fun l hl => ?_⟩
    refine ⟨.inl ⟨by decide, by decide⟩, next_ok (hd.put hl) (by decide) fun v h1 v0 v1 d1 k1 => ?_⟩
    have el : h1 l = some (.lst [D.str s_one, .str s_name, .str s_rule, .str s_none, .str s_node, .str s_sum, .str s_pair, .str s_sum, .str s_pair]) := k1 _ _ (hd.ne hl) up_same
    have er : h1 r = some (.lst (ahead.map .str)) := k1 _ _ (isdeck_ne hd hr) (by rw [up_ne (ne_new hr hl)]; exact hr)
    have ke : Ke p h h1 := (Ext.new hl).ke.trans k1
    rw [ix_lst el]
    have one : ∀ c, wSs ⟨run P (n + 1), X⟩ b2_law_kind (RT Q) [some (.ref p), some (.int 0), some (.ref q), some (.ref r), some (.ref l), some (.str s_one), c] h1 := fun c => by
      simp [b2_law_kind, b4_law_kind, b6_law_kind, b8_law_kind, LINE]
      exact k .one h1 ⟨Nat.le_refl _, trivial⟩ d1 ke
    refine kind_ways v0 (by omega) ?_ ?_ ?_ ?_ (fun z => by omega) (fun z => by omega) (fun z => by omega)
    · simpa using one none
    · simp [b2_law_kind, b4_law_kind, b6_law_kind, b8_law_kind, LINE]
      exact k .name h1 ⟨Nat.le_refl _, trivial⟩ d1 ke
    · simp
      rw [len_lst er]
      by_cases e : ahead = []
      · subst e
        simp [b1_law_kind]
        exact one none
      · have e2 := List.length_pos_iff.mpr e
        rw [decide_eq_false (by simp; omega)]
        simp [b2_law_kind, b3_law_kind]
        rw [len_lst er]
        refine next_ok d1 (by simp; omega) fun u h2 u0 u1 d2 k2 => ?_
        simp at u1
        rw [ix_lst (k2 _ _ (isdeck_ne d1 er) er)]
        have e3 : atI (ahead.map D.str) u = some (.str (ahead[u.toNat]'(by omega))) := by
          unfold atI
          rw [if_pos u0, List.getElem?_map, List.getElem?_eq_getElem (by omega)]
          rfl
        rw [e3]
        simp [LINE]
        exact k (.rule _) h2 ⟨Nat.le_refl _, List.getElem_mem _⟩ d2 (ke.trans k2)
    · simp [b2_law_kind, b4_law_kind, b6_law_kind, b8_law_kind, LINE]
      exact k .none h1 ⟨Nat.le_refl _, trivial⟩ d1 ke
  | succ d ih =>
    intro n p q r texts ahead h Q X hd hq hr k
    refine run_of (fd := fd_law_kind) rfl rfl ?_
    simp [fd_law_kind, start, b0_law_kind]
    refine ⟨by simp [LINE], fun l hl => ?_⟩
    refine ⟨.inl ⟨by decide, by decide⟩, next_ok (n := n + d + 1) (hd.put hl) (by decide) fun v h1 v0 v1 d1 k1 => ?_⟩
    have el : h1 l = some (.lst [D.str s_one, .str s_name, .str s_rule, .str s_none, .str s_node, .str s_sum, .str s_pair, .str s_sum, .str s_pair]) := k1 _ _ (hd.ne hl) up_same
    have er : h1 r = some (.lst (ahead.map .str)) := k1 _ _ (isdeck_ne hd hr) (by rw [up_ne (ne_new hr hl)]; exact hr)
    have eq1 : h1 q = some (.lst (texts.map .str)) := k1 _ _ (isdeck_ne hd hq) (by rw [up_ne (ne_new hq hl)]; exact hq)
    have ke : Ke p h h1 := (Ext.new hl).ke.trans k1
    rw [ix_lst el]
    have one : ∀ c, wSs ⟨run P (n + (d + 1) + 1), X⟩ b2_law_kind (RT Q) [some (.ref p), some (.int (↑d + 1)), some (.ref q), some (.ref r), some (.ref l), some (.str s_one), c] h1 := fun c => by
      simp [b2_law_kind, b4_law_kind, b6_law_kind, b8_law_kind, LINE]
      exact k .one h1 ⟨Nat.zero_le _, trivial⟩ d1 ke
    have two : ∀ (mk : Kd → Kd → Kd) (w : Sx) (N1 N2 : St → AH → Prop), (∀ x y, (mk x y).dp = max x.dp y.dp + 1) → (∀ x y b a, Bw b a (mk x y) = (Bw b a x ∧ Bw b a y)) → (∀ x y, encK (mk x y) = .tup [.str w, encK x, encK y]) →
        wSs ⟨run P (n + (d + 1) + 1), X⟩ b7_law_kind (RT Q) [some (.ref p), some (.int (↑d + 1)), some (.ref q), some (.ref r), some (.ref l), some (.str w), none] h1 := fun mk w _ _ m1 m2 m3 => by
      simp [b7_law_kind]
      refine ih n p q r texts ahead h1 _ _ d1 eq1 er fun x h2 hx d2 k2 => ?_
      refine ih n p q r texts ahead h2 _ _ d2 (k2 _ _ (isdeck_ne d1 eq1) eq1) (k2 _ _ (isdeck_ne d1 er) er) fun y h3 hy d3 k3 => ?_
      refine ⟨by simp [LINE], ?_⟩
      rw [← m3]
      exact k _ h3 ⟨by rw [m1]; have := hx.1; have := hy.1; omega, by rw [m2]; exact ⟨hx.2, hy.2⟩⟩ d3 ((ke.trans k2).trans k3)
    refine kind_ways v0 (by omega) ?_ ?_ ?_ ?_ (fun z => ?_) (fun z => ?_) (fun z => ?_)
    · simpa using one none
    · simp [b2_law_kind, b4_law_kind, b6_law_kind, b8_law_kind, LINE]
      exact k .name h1 ⟨Nat.zero_le _, trivial⟩ d1 ke
    · simp
      rw [len_lst er]
      by_cases e : ahead = []
      · subst e
        simp [b1_law_kind]
        exact one none
      · have e2 := List.length_pos_iff.mpr e
        rw [decide_eq_false (by simp; omega)]
        simp [b2_law_kind, b3_law_kind]
        rw [len_lst er]
        refine next_ok (n := n + d + 1) d1 (by simp; omega) fun u h2 u0 u1 d2 k2 => ?_
        simp at u1
        rw [ix_lst (k2 _ _ (isdeck_ne d1 er) er)]
        have e3 : atI (ahead.map D.str) u = some (.str (ahead[u.toNat]'(by omega))) := by
          unfold atI
          rw [if_pos u0, List.getElem?_map, List.getElem?_eq_getElem (by omega)]
          rfl
        rw [e3]
        simp [LINE]
        exact k (.rule _) h2 ⟨Nat.zero_le _, List.getElem_mem _⟩ d2 (ke.trans k2)
    · simp [b2_law_kind, b4_law_kind, b6_law_kind, b8_law_kind, LINE]
      exact k .none h1 ⟨Nat.zero_le _, trivial⟩ d1 ke
    · simp [b2_law_kind, b4_law_kind, b5_law_kind]
      refine ih n p q q texts texts h1 _ _ d1 eq1 eq1 fun x h2 hx d2 k2 => ?_
      refine ⟨by simp [LINE], ?_⟩
      exact k (.node x) h2 ⟨Nat.succ_le_succ hx.1, hx.2⟩ d2 (ke.trans k2)
    · simp [b2_law_kind, b4_law_kind, b6_law_kind]
      exact two .sum s_sum (fun _ _ => True) (fun _ _ => True) (fun _ _ => rfl) (fun _ _ _ _ => rfl) (fun _ _ => rfl)
    · simp [b2_law_kind, b4_law_kind, b6_law_kind]
      exact two .pair s_pair (fun _ _ => True) (fun _ _ => True) (fun _ _ => rfl) (fun _ _ _ _ => rfl) (fun _ _ => rfl)
/-! ### least sizes: the plain law -/
abbrev SzF := Sx → Option Nat
def omin : Option Nat → Option Nat → Option Nat
  | some a, some b => some (if b < a then b else a)
  | some a, none => some a
  | none, o => o
def oadd : Option Nat → Option Nat → Option Nat
  | some a, some b => some (a + b)
  | _, _ => none
def lst (S : SzF) : Kd → Option Nat
  | .rule s => S s
  | .one => some 0
  | .name => some 1
  | .none => none
  | .sum a b => omin (lst S a) (lst S b)
  | .pair a b => oadd (lst S a) (lst S b)
  | .node a => (lst S a).map (· + 1)
def Le (a b : Option Nat) : Prop := ∀ y, b = some y → ∃ x, a = some x ∧ x ≤ y
theorem Le.refl {a : Option Nat} : Le a a := fun y e => ⟨y, e, Nat.le_refl y⟩
theorem Le.trans {a b c : Option Nat} (x : Le a b) (y : Le b c) : Le a c := fun z e => by
  obtain ⟨u, e1, l1⟩ := y z e
  obtain ⟨v, e2, l2⟩ := x u e1
  exact ⟨v, e2, Nat.le_trans l2 l1⟩
theorem Le.anti {a b : Option Nat} (x : Le a b) (y : Le b a) : a = b := by
  cases a with
  | none => cases b with
    | none => rfl
    | some b => obtain ⟨_, e, _⟩ := x b rfl; cases e
  | some a =>
    obtain ⟨b', e, l⟩ := y a rfl
    subst e
    obtain ⟨a', e, l2⟩ := x b' rfl
    cases e
    rw [Nat.le_antisymm l l2]
theorem omin_some {a b : Option Nat} {y : Nat} (h : omin a b = some y) : a = some y ∨ b = some y := by
  cases a <;> cases b <;> simp only [omin, Option.some.injEq, reduceCtorEq] at h
  · exact .inr (by rw [h])
  · exact .inl (by rw [h])
  · split at h
    · exact .inr (by rw [h])
    · exact .inl (by rw [h])
theorem omin_le {a b : Option Nat} {x y : Nat} (h : (a = some x ∨ b = some x) ∧ x ≤ y) : ∃ z, omin a b = some z ∧ z ≤ y := by
  obtain ⟨h, l⟩ := h
  cases a <;> cases b <;> simp only [omin, reduceCtorEq, false_or, or_false, Option.some.injEq] at h ⊢
  · exact ⟨_, rfl, by omega⟩
  · exact ⟨_, rfl, by omega⟩
  · refine ⟨_, rfl, ?_⟩
    split <;> omega
theorem oadd_some {a b : Option Nat} {y : Nat} (h : oadd a b = some y) : ∃ u v, a = some u ∧ b = some v ∧ y = u + v := by
  cases a <;> cases b <;> simp only [oadd, Option.some.injEq, reduceCtorEq] at h
  exact ⟨_, _, rfl, rfl, h.symm⟩
theorem lst_sup {F G : SzF} {c : Nat} (H : ∀ s y, F s = some y → (∃ x, G s = some x ∧ x ≤ y) ∨ c ≤ y) : ∀ (k : Kd) (y : Nat), lst F k = some y → (∃ x, lst G k = some x ∧ x ≤ y) ∨ c ≤ y
  | .rule s, y, e => H s y e
  | .one, y, e => .inl ⟨y, e, Nat.le_refl y⟩
  | .name, y, e => .inl ⟨y, e, Nat.le_refl y⟩
  | .none, y, e => by cases e
  | .node a, y, e => by
    simp only [lst] at e ⊢
    cases z : lst F a with
    | none => rw [z] at e; cases e
    | some u =>
      rw [z] at e
      cases e
      rcases lst_sup H a u z with ⟨x, e1, l⟩ | l
      · exact .inl ⟨x + 1, by rw [e1]; rfl, Nat.succ_le_succ l⟩
      · exact .inr (Nat.le_succ_of_le l)
  | .sum a b, y, e => by
    simp only [lst] at e ⊢
    rcases omin_some e with z | z
    · rcases lst_sup H a y z with ⟨x, e1, l⟩ | l
      · exact .inl (omin_le ⟨.inl e1, l⟩)
      · exact .inr l
    · rcases lst_sup H b y z with ⟨x, e1, l⟩ | l
      · exact .inl (omin_le ⟨.inr e1, l⟩)
      · exact .inr l
  | .pair a b, y, e => by
    simp only [lst] at e ⊢
    obtain ⟨u, v, z1, z2, rfl⟩ := oadd_some e
    rcases lst_sup H a u z1 with ⟨x1, e1, l1⟩ | l
    · rcases lst_sup H b v z2 with ⟨x2, e2, l2⟩ | l
      · exact .inl ⟨x1 + x2, by rw [e1, e2]; rfl, by omega⟩
      · exact .inr (by omega)
    · exact .inr (by omega)
theorem lst_mono {F G : SzF} (H : ∀ s, Le (G s) (F s)) (k : Kd) : Le (lst G k) (lst F k) := fun y e => by
  rcases lst_sup (F := F) (G := G) (c := y + 1) (fun s y e => .inl (H s y e)) k y e with h | h
  · exact h
  · omega
/-! the iteration settles within as many turns as there are rules -/
section
variable (look : Sx → Option Kd)
def itS : Nat → SzF
  | 0 => fun _ => none
  | n + 1 => fun s => (look s).bind (lst (itS n))
def Wf : Nat → List Sx → SzF
  | 0, _ => fun _ => none
  | n + 1, A => fun s => if s ∈ A then (look s).bind (lst (Wf n (A.erase s))) else none
theorem bind_some {s : Sx} {F : SzF} {y : Nat} (h : (look s).bind (lst F) = some y) : ∃ k, look s = some k ∧ lst F k = some y := by
  cases e : look s with
  | none => rw [e] at h; cases h
  | some k => rw [e] at h; exact ⟨k, rfl, h⟩
theorem bind_mono {s : Sx} {F G : SzF} (H : ∀ s, Le (G s) (F s)) : Le ((look s).bind (lst G)) ((look s).bind (lst F)) := fun y e => by
  obtain ⟨k, e1, e2⟩ := bind_some look e
  rw [e1]
  exact lst_mono H k y e2
theorem Wf_pos {n : Nat} {A : List Sx} {s : Sx} (h : s ∈ A) : Wf look (n + 1) A s = (look s).bind (lst (Wf look n (A.erase s))) := by
  show (if s ∈ A then _ else _) = _
  rw [if_pos h]
theorem Wf_in {n : Nat} {A : List Sx} {s : Sx} {y : Nat} (h : Wf look n A s = some y) : s ∈ A := by
  cases n with
  | zero => cases h
  | succ n =>
    refine Classical.byContradiction fun z => ?_
    have : (if s ∈ A then (look s).bind (lst (Wf look n (A.erase s))) else none) = some y := h
    rw [if_neg z] at this
    cases this
theorem Wf_mono : ∀ (n m : Nat) (A B : List Sx), n ≤ m → A.Nodup → (∀ s, s ∈ A → s ∈ B) → ∀ s, Le (Wf look m B s) (Wf look n A s)
  | 0, _, _, _, _, _, _, s => fun y e => by cases e
  | n + 1, 0, _, _, l, _, _, _ => absurd l (by omega)
  | n + 1, m + 1, A, B, l, nd, ab, s => fun y e => by
    have hs := Wf_in look e
    rw [Wf_pos look hs] at e
    rw [Wf_pos look (ab s hs)]
    refine bind_mono look (fun t => Wf_mono n m (A.erase s) (B.erase s) (by omega) (nd.erase s) (fun u hu => ?_) t) y e
    rw [nd.mem_erase_iff] at hu
    exact (List.mem_erase_of_ne hu.1).mpr (ab u hu.2)
theorem Wf_cut : ∀ (n : Nat) (A : List Sx), A.Nodup → A.length ≤ n + 1 → ∀ r, r ∈ A → ∀ q y, Wf look (n + 1) A q = some y → (∃ x, Wf look n (A.erase r) q = some x ∧ x ≤ y) ∨ ∃ c, Wf look (n + 1) A r = some c ∧ c ≤ y := by
  intro n
  induction n with
  | zero =>
    intro A nd l r hr q y e
    have hq := Wf_in look e
    have : q = r := by
      match A, l, hr, hq with
      | [a], _, hr, hq => rw [List.mem_singleton.mp hr, List.mem_singleton.mp hq]
    subst this
    exact .inr ⟨y, e, Nat.le_refl y⟩
  | succ n ih =>
    intro A nd l r hr q y e
    have hq := Wf_in look e
    by_cases ne : q = r
    · subst ne
      exact .inr ⟨y, e, Nat.le_refl y⟩
    · rw [Wf_pos look hq] at e
      obtain ⟨k, e1, e2⟩ := bind_some look e
      have ndq := nd.erase q
      have lq : (A.erase q).length ≤ n + 1 := by rw [List.length_erase_of_mem hq]; omega
      have rq : r ∈ A.erase q := (List.mem_erase_of_ne (fun z => ne z.symm)).mpr hr
      have qr : q ∈ A.erase r := (List.mem_erase_of_ne ne).mpr hq
      have up : ∀ c', Wf look (n + 1) (A.erase q) r = some c' → ∃ c, Wf look (n + 2) A r = some c ∧ c ≤ c' := fun c' h => Wf_mono look (n + 1) (n + 2) (A.erase q) A (by omega) ndq (fun u hu => List.mem_of_mem_erase hu) r c' h
      have goal : ∀ x, lst (Wf look n ((A.erase q).erase r)) k = some x → Wf look (n + 1) (A.erase r) q = some x := fun x hx => by
        rw [Wf_pos look qr, e1, List.erase_comm]
        exact hx
      cases z : Wf look (n + 2) A r with
      | none =>
        have := lst_mono (F := Wf look (n + 1) (A.erase q)) (G := Wf look n ((A.erase q).erase r)) (fun s y' h => by
          rcases ih (A.erase q) ndq lq r rq s y' h with h | ⟨c, h, _⟩
          · exact h
          · obtain ⟨c2, h2, _⟩ := up c h
            rw [z] at h2
            cases h2) k y e2
        obtain ⟨x, hx, l⟩ := this
        exact .inl ⟨x, goal x hx, l⟩
      | some c =>
        rcases lst_sup (F := Wf look (n + 1) (A.erase q)) (G := Wf look n ((A.erase q).erase r)) (c := c) (fun s y' h => by
          rcases ih (A.erase q) ndq lq r rq s y' h with h | ⟨c', h, l⟩
          · exact .inl h
          · obtain ⟨c2, h2, l2⟩ := up c' h
            rw [z] at h2
            cases h2
            exact .inr (Nat.le_trans l2 l)) k y e2 with ⟨x, hx, l⟩ | l
        · exact .inl ⟨x, goal x hx, l⟩
        · exact .inr ⟨c, rfl, l⟩
variable (A : List Sx) (nd : A.Nodup) (dom : ∀ s k, look s = some k → s ∈ A)
include nd dom
/-- the settled sizes are sizes of themselves -/
theorem Wf_fix (s : Sx) : Le (Wf look A.length A s) ((look s).bind (lst (Wf look A.length A))) := fun y e => by
  obtain ⟨k, e1, e2⟩ := bind_some look e
  have hs := dom s k e1
  obtain ⟨n, hn⟩ : ∃ n, A.length = n + 1 := ⟨A.length - 1, by have := List.length_pos_of_mem hs; omega⟩
  rw [hn] at e2 ⊢
  have goal : ∀ x, lst (Wf look n (A.erase s)) k = some x → Wf look (n + 1) A s = some x := fun x hx => by
    rw [Wf_pos look hs, e1]
    exact hx
  cases z : Wf look (n + 1) A s with
  | none =>
    obtain ⟨x, hx, l⟩ := lst_mono (F := Wf look (n + 1) A) (G := Wf look n (A.erase s)) (fun t y' h => by
      rcases Wf_cut look n A nd (by omega) s hs t y' h with h | ⟨c, h, _⟩
      · exact h
      · rw [z] at h; cases h) k y e2
    have := goal x hx
    rw [z] at this
    cases this
  | some c =>
    rcases lst_sup (F := Wf look (n + 1) A) (G := Wf look n (A.erase s)) (c := c) (fun t y' h => by
      rcases Wf_cut look n A nd (by omega) s hs t y' h with h | ⟨c', h, l⟩
      · exact .inl h
      · rw [z] at h; cases h; exact .inr l) k y e2 with ⟨x, hx, l⟩ | l
    · have := goal x hx
      rw [z] at this
      cases this
      exact ⟨c, rfl, l⟩
    · exact ⟨c, rfl, l⟩
theorem itS_ge : ∀ (n : Nat) (s : Sx), Le (Wf look A.length A s) (itS look n s)
  | 0, s => fun y e => by cases e
  | n + 1, s => (Wf_fix look A nd dom s).trans (bind_mono look fun t => itS_ge n t)
omit nd dom in
theorem itS_le : ∀ (n : Nat) (B : List Sx) (s : Sx), Le (itS look n s) (Wf look n B s)
  | 0, _, s => fun y e => by cases e
  | n + 1, B, s => fun y e => by
    have hs := Wf_in look e
    rw [Wf_pos look hs] at e
    exact bind_mono look (fun t => itS_le n (B.erase s) t) y e
omit nd dom in
theorem itS_dec : ∀ (n : Nat) (s : Sx), Le (itS look (n + 1) s) (itS look n s)
  | 0, s => fun y e => by cases e
  | n + 1, s => bind_mono look fun t => itS_dec n t
theorem itS_settled : itS look (A.length + 1) = itS look A.length := by
  funext s
  exact (itS_dec look A.length s).anti ((itS_le look A.length A s).trans (itS_ge look A nd dom (A.length + 1) s))
end
/-! ### least sizes, in the IR -/
def dOpt : Option Nat → D
  | none => .non
  | some n => .int n
abbrev Rs := List (Sx × Kd)
def encRs (rs : Rs) : List (D × D) := rs.map fun x => (D.str x.1, encK x.2)
def encSz (sz : List (Sx × Nat)) : List (D × D) := sz.map fun x => (D.str x.1, D.int x.2)
def szF (sz : List (Sx × Nat)) : SzF := fun s => sz.lookup s
theorem kvGet_lk {α : Type} (f : α → D) : ∀ (l : List (Sx × α)) (s : Sx), kvGet (l.map fun x => (D.str x.1, f x.2)) (.str s) = (l.lookup s).map f
  | [], s => rfl
  | (a, b) :: l, s => by
    rw [List.map_cons, kvGet_cons, kvGet_lk f l s, List.lookup_cons]
    by_cases e : a = s
    · subst e; simp
    · have e2 : (s == a) = false := by simpa using fun z : s = a => e z.symm
      have e3 : ¬ D.str a = D.str s := fun z => e (by injection z)
      rw [e2, if_neg e3]
theorem kvGet_sz {sz : List (Sx × Nat)} {s : Sx} : (kvGet (encSz sz) (.str s)).getD .non = dOpt (szF sz s) := by
  unfold encSz szF
  rw [kvGet_lk (fun n : Nat => D.int (n : Int))]
  cases sz.lookup s <;> rfl
theorem kvGet_rs {rs : Rs} {s : Sx} : kvGet (encRs rs) (.str s) = (rs.lookup s).map encK := kvGet_lk encK rs s
theorem dOpt_non {o : Option Nat} : (dOpt o = .non) = (o = none) := by
  cases o <;> simp [dOpt]
theorem any_non : ∀ vs : List (Option Nat), ((vs.map dOpt).any fun y => decide (y = .non)) = decide (none ∈ vs)
  | [] => by simp
  | v :: vs => by
    rw [List.map_cons, List.any_cons, any_non vs]
    cases v <;> simp [dOpt]
theorem any_non2 (vs : List (Option Nat)) : (vs.any ((fun y => decide (y = D.non)) ∘ dOpt)) = decide (none ∈ vs) := by rw [← any_non, List.any_map]
theorem pure_opt (n : Nat) : ∀ vs : List (Option Nat), pureDs (vs.map dOpt) = true ∧ plains n (vs.map dOpt) = true
  | [] => by simp [pureDs, plains]
  | v :: vs => by
    obtain ⟨h1, h2⟩ := pure_opt n vs
    cases v <;> simp [dOpt, pureDs, plains, pureD, plain, h1, h2]
theorem ints_opt : ∀ ns : List Nat, intsOf ((ns.map some).map dOpt) = some (ns.map fun n : Nat => (n : Int))
  | [] => rfl
  | n :: ns => by simp [dOpt, intsOf]; simpa using ints_opt ns
theorem sum_cast : ∀ ns : List Nat, (ns.map fun n : Nat => (n : Int)).sum = (ns.sum : Nat)
  | [] => rfl
  | n :: ns => by simp [sum_cast ns]
theorem some_of : ∀ {vs : List (Option Nat)}, none ∉ vs → ∃ ns : List Nat, vs = ns.map some
  | [], _ => ⟨[], rfl⟩
  | none :: vs, h => absurd List.mem_cons_self h
  | some v :: vs, h => by
    obtain ⟨ns, e⟩ := some_of fun z => h (List.mem_cons_of_mem _ z)
    exact ⟨v :: ns, by rw [e]; rfl⟩
theorem b6_ok {C : Cx} {w : Sx} {rest : List D} {d c e : Option D} {r : Nat} {vs : List (Option Nat)} {h1 : AH} {Q : VQ} (hr : h1 r = some (.lst (vs.map dOpt))) (k0 : none ∈ vs → Q .non h1) (k1 : ∀ ns : List Nat, vs = ns.map some → Q (.int ((ns.sum : Nat) + if w = s_node then 1 else 0)) h1) :
    wSs C b6_law_least (RT Q) [some (.tup (.str w :: rest)), d, some (.ref r), c, e] h1 := by
  obtain ⟨q1, q2⟩ := pure_opt 190 vs
  simp [b6_law_least, b7_law_least, b8_law_least, memOk, hr, q1, q2, pureD]
  rw [any_non2]
  by_cases z : none ∈ vs
  · rw [decide_eq_true z]
    exact k0 z
  · rw [decide_eq_false z]
    obtain ⟨ns, rfl⟩ := some_of z
    dsimp only
    rw [aLst_eq hr, ints_opt]
    simp [atI, sum_cast]
    simpa using k1 ns rfl
theorem least_ok : ∀ (k : Kd) (n p : Nat) (sz : List (Sx × Nat)) (h : AH) (Q : VQ) (X : XP), h p = some (.dct 0 (encSz sz)) → (∀ h', Ext h h' → Q (dOpt (lst (szF sz) k)) h') → run P (n + k.dp + 1) s__law_least [encK k, .ref p] h Q X := by
  have leaf : ∀ (w : Sx) (o : Option Nat) (n p : Nat) (h : AH) (Q : VQ) (X : XP), w ≠ s_rule → (kvGet (mergeL [] [(D.str s_one, D.int 0), (D.str s_name, D.int 1)]) (.str w)).getD .non = dOpt o → (∀ h', Ext h h' → Q (dOpt o) h') → run P (n + 1) s__law_least [.tup [.str w], .ref p] h Q X := by
    intro w o n p h Q X hw hk k
    refine run_of (fd := fd_law_least) rfl rfl ?_
    simp [fd_law_least, start, b0_law_least, b2_law_least, b3_law_least, atI]
    rw [decide_eq_false hw]
    simp
    intro r hr
    rw [up_same, pairUp, pairUp, pairUp]
    simp [keysOk, keyOk]
    refine ⟨recv_dct rfl up_same, ?_⟩
    rw [aDct_eq up_same, hk]
    exact ⟨rfl, k _ (by rw [up_up]; exact Ext.new hr)⟩
  intro k
  induction k with
  | rule s =>
    intro n p sz h Q X hp k
    refine run_of (fd := fd_law_least) rfl rfl ?_
    simp [fd_law_least, start, b0_law_least, b1_law_least, encK, atI]
    refine ⟨recv_dct rfl hp, ?_⟩
    rw [aDct_eq hp, kvGet_sz]
    exact ⟨rfl, k h .refl⟩
  | one => intro n p sz h Q X hp k; exact leaf s_one (some 0) n p h Q X (by decide) (by simp [mergeL, kvPut, kvGet, dOpt]) k
  | name => intro n p sz h Q X hp k; exact leaf s_name (some 1) n p h Q X (by decide) (by simp [mergeL, kvPut, kvGet, dOpt]) k
  | none => intro n p sz h Q X hp k; exact leaf s_none none n p h Q X (by decide) (by simp [mergeL, kvPut, kvGet, dOpt]) k
  | node a ih =>
    intro n p sz h Q X hp k
    refine run_of (fd := fd_law_least) rfl rfl ?_
    simp [fd_law_least, start, b0_law_least, b2_law_least, b4_law_least, encK, atI]
    refine ⟨by decide, ?_⟩
    rw [cut_1]
    refine comp_unroll (by simp [LINE]) ?_
    rw [compU_cons]
    refine ⟨⟨trivial, Nat.le_refl _⟩, ?_⟩
    refine ih n p sz h _ _ hp fun h1 x1 => ?_
    rw [compU_nil]
    refine ⟨⟨trivial, by simp⟩, fun r hr => ?_⟩
    refine b6_ok (vs := [lst (szF sz) a]) up_same (fun z => ?_) (fun ns e => ?_)
    · rw [List.mem_singleton] at z
      rw [show D.non = dOpt (lst (szF sz) a.node) by simp [lst, ← z, dOpt]]
      exact k _ (x1.trans (Ext.new hr))
    · obtain ⟨v, rfl⟩ : ∃ v, ns = [v] := by
        cases ns with
        | nil => simp at e
        | cons v r => cases r with
          | nil => exact ⟨v, rfl⟩
          | cons _ _ => simp at e
      simp at e
      have e1 : D.int (([v].sum : Nat) + if s_node = s_node then 1 else 0) = dOpt (lst (szF sz) a.node) := by simp [lst, e, dOpt]
      rw [e1]
      exact k _ (x1.trans (Ext.new hr))
  | sum a b iha ihb =>
    intro n p sz h Q X hp k
    refine run_of (fd := fd_law_least) rfl rfl ?_
    simp [fd_law_least, start, b0_law_least, b2_law_least, b4_law_least, encK, atI]
    refine ⟨by decide, ?_⟩
    rw [cut_1]
    refine comp_unroll (by simp [LINE]) ?_
    rw [compU_cons]
    refine ⟨⟨trivial, Nat.le_refl _⟩, ?_⟩
    have da : ∃ m, n + (Kd.sum a b).dp = m + a.dp + 1 := ⟨n + (max a.dp b.dp - a.dp), by simp only [Kd.dp]; omega⟩
    have db : ∃ m, n + (Kd.sum a b).dp = m + b.dp + 1 := ⟨n + (max a.dp b.dp - b.dp), by simp only [Kd.dp]; omega⟩
    obtain ⟨ma, ea⟩ := da
    obtain ⟨mb, eb⟩ := db
    rw [ea]
    refine iha ma p sz h _ _ hp fun h1 x1 => ?_
    rw [compU_cons]
    refine ⟨⟨trivial, by simp⟩, ?_⟩
    rw [← ea, eb]
    refine ihb mb p sz h1 _ _ (x1 _ _ hp) fun h2 x2 => ?_
    rw [compU_nil]
    refine ⟨⟨trivial, by simp⟩, fun r hr => ?_⟩
    simp [b5_law_least]
    rw [walk_lst up_same]
    have hk : ∀ h', Ext h h' → Q (dOpt (omin (lst (szF sz) a) (lst (szF sz) b))) h' := k
    have x3 : Ext h (up h2 r (.lst [dOpt (lst (szF sz) a), dOpt (lst (szF sz) b)])) := (x1.trans x2).trans (Ext.new hr)
    generalize lst (szF sz) a = oa at hk x3 ⊢
    generalize lst (szF sz) b = ob at hk x3 ⊢
    refine comp_unroll (by simp [LINE]) ?_
    rw [compU_cons]
    refine ⟨⟨up_same, Nat.le_refl _⟩, ?_⟩
    have fin : ∀ (ns : List Nat) (r' : Nat), (up h2 r (.lst [dOpt oa, dOpt ob])) r' = none → (ns = [] → oa = none ∧ ob = none) → (∀ m : Nat, m ∈ ns → (∀ y ∈ ns, m ≤ y) → omin oa ob = some m) → minD [.ref r'] (up (up h2 r (.lst [dOpt oa, dOpt ob])) r' (.lst (ns.map fun n : Nat => D.int n))) Q := by
      intro ns r' hr' f0 f1
      unfold minD
      rw [arg1_eq, aLst_eq up_same]
      have ei : intsOf (ns.map fun n : Nat => D.int n) = some (ns.map fun n : Nat => (n : Int)) := by
        have := ints_opt ns
        rw [List.map_map] at this
        exact this
      rw [ei, aSome_eq]
      refine ⟨fun z => ?_, fun m hm hmin => ?_⟩
      · obtain ⟨e1, e2⟩ := f0 (by simpa using z)
        rw [show D.non = dOpt (omin oa ob) by rw [e1, e2]; rfl]
        exact hk _ (x3.trans (Ext.new hr'))
      · obtain ⟨m', hm', rfl⟩ := List.mem_map.mp hm
        have e1 := f1 m' hm' fun y hy => by
          have := hmin y (List.mem_map.mpr ⟨y, hy, rfl⟩)
          omega
        rw [show D.int (m' : Int) = dOpt (omin oa ob) by rw [e1]; rfl]
        exact hk _ (x3.trans (Ext.new hr'))
    cases oa with
    | none =>
      simp only [dOpt, decide_true, Bool.not_true]
      rw [compU_cons]
      refine ⟨⟨up_same, Nat.zero_le _⟩, ?_⟩
      cases ob with
      | none =>
        simp only [dOpt, decide_true, Bool.not_true]
        rw [compU_nil]
        exact ⟨⟨up_same, Nat.zero_le _⟩, fun r' hr' => fin [] r' hr' (fun _ => ⟨rfl, rfl⟩) (fun m hm => nomatch hm)⟩
      | some y =>
        simp only [dOpt, reduceCtorEq, decide_false, Bool.not_false]
        rw [compU_nil]
        exact ⟨⟨up_same, by simp⟩, fun r' hr' => fin [y] r' hr' (fun z => nomatch z) (fun m hm _ => by rw [List.mem_singleton.mp hm]; rfl)⟩
    | some x =>
      simp only [dOpt, reduceCtorEq, decide_false, Bool.not_false]
      rw [compU_cons]
      refine ⟨⟨up_same, by simp⟩, ?_⟩
      cases ob with
      | none =>
        simp only [dOpt, decide_true, Bool.not_true]
        rw [compU_nil]
        exact ⟨⟨up_same, by simp⟩, fun r' hr' => fin [x] r' hr' (fun z => nomatch z) (fun m hm _ => by rw [List.mem_singleton.mp hm]; rfl)⟩
      | some y =>
        simp only [dOpt, reduceCtorEq, decide_false, Bool.not_false]
        rw [compU_nil]
        refine ⟨⟨up_same, by simp⟩, fun r' hr' => fin [x, y] r' hr' (fun z => nomatch z) (fun m hm hmin => ?_)⟩
        have h1 := hmin x (by simp)
        have h2 := hmin y (by simp)
        simp only [omin, Option.some.injEq]
        rcases List.mem_cons.mp hm with e | e
        · subst e; split <;> omega
        · have e := List.mem_singleton.mp e
          subst e
          split <;> omega
  | pair a b iha ihb =>
    intro n p sz h Q X hp k
    refine run_of (fd := fd_law_least) rfl rfl ?_
    simp [fd_law_least, start, b0_law_least, b2_law_least, b4_law_least, encK, atI]
    refine ⟨by decide, ?_⟩
    rw [cut_1]
    refine comp_unroll (by simp [LINE]) ?_
    rw [compU_cons]
    refine ⟨⟨trivial, Nat.le_refl _⟩, ?_⟩
    have da : ∃ m, n + (Kd.pair a b).dp = m + a.dp + 1 := ⟨n + (max a.dp b.dp - a.dp), by simp only [Kd.dp]; omega⟩
    have db : ∃ m, n + (Kd.pair a b).dp = m + b.dp + 1 := ⟨n + (max a.dp b.dp - b.dp), by simp only [Kd.dp]; omega⟩
    obtain ⟨ma, ea⟩ := da
    obtain ⟨mb, eb⟩ := db
    rw [ea]
    refine iha ma p sz h _ _ hp fun h1 x1 => ?_
    rw [compU_cons]
    refine ⟨⟨trivial, by simp⟩, ?_⟩
    rw [← ea, eb]
    refine ihb mb p sz h1 _ _ (x1 _ _ hp) fun h2 x2 => ?_
    rw [compU_nil]
    refine ⟨⟨trivial, by simp⟩, fun r hr => ?_⟩
    refine b6_ok (vs := [lst (szF sz) a, lst (szF sz) b]) up_same (fun z => ?_) (fun ns e => ?_)
    · have e0 : oadd (lst (szF sz) a) (lst (szF sz) b) = none := by
        rcases List.mem_cons.mp z with z | z
        · rw [← z]; rfl
        · rw [← List.mem_singleton.mp z]; cases lst (szF sz) a <;> rfl
      rw [show D.non = dOpt (lst (szF sz) (a.pair b)) by simp [lst, e0, dOpt]]
      exact k _ ((x1.trans x2).trans (Ext.new hr))
    · obtain ⟨u, v, rfl⟩ : ∃ u v, ns = [u, v] := by
        cases ns with
        | nil => simp at e
        | cons u r => cases r with
          | nil => simp at e
          | cons v r => cases r with
            | nil => exact ⟨u, v, rfl⟩
            | cons _ _ => simp at e
      simp at e
      have e1 : D.int (([u, v].sum : Nat) + if s_pair = s_node then 1 else 0) = dOpt (lst (szF sz) (a.pair b)) := by
        rw [if_neg (by decide)]
        simp [lst, e.1, e.2, dOpt, oadd]
      rw [e1]
      exact k _ ((x1.trans x2).trans (Ext.new hr))
/-! ### the sizes of all rules -/
def SZ (rs : Rs) : SzF := itS (fun s => rs.lookup s) rs.length
def stL (F : SzF) (rs : Rs) : List (Sx × Nat) := rs.filterMap fun x => (F x.1).map fun v => (x.1, v)
def stK (F : SzF) (rs : Rs) : List (Sx × Nat) := rs.filterMap fun x => (lst F x.2).map fun v => (x.1, v)
theorem lookup_none : ∀ {rs : Rs} {s : Sx}, s ∉ rs.map (·.1) → rs.lookup s = none
  | [], _, _ => rfl
  | (a, b) :: rs, s, h => by
    rw [List.lookup_cons]
    rw [List.map_cons, List.mem_cons, not_or] at h
    have e : (s == a) = false := by simpa using h.1
    rw [e]
    exact lookup_none h.2
theorem lookup_mem {α : Type} : ∀ {rs : List (Sx × α)} {x : Sx × α}, (rs.map (·.1)).Nodup → x ∈ rs → rs.lookup x.1 = some x.2
  | (a, b) :: rs, x, nd, h => by
    rw [List.lookup_cons]
    rw [List.map_cons, List.nodup_cons] at nd
    rcases List.mem_cons.mp h with e | h
    · subst e; simp
    · have e : (x.1 == a) = false := by
        simp only [beq_eq_false_iff_ne, ne_eq]
        exact fun z => nd.1 (by rw [← z]; exact List.mem_map.mpr ⟨x, h, rfl⟩)
      rw [e]
      exact lookup_mem nd.2 h
theorem lookup_in {α : Type} : ∀ {rs : List (Sx × α)} {s : Sx} {k : α}, rs.lookup s = some k → (s, k) ∈ rs
  | (a, b) :: rs, s, k, h => by
    rw [List.lookup_cons] at h
    by_cases e : s = a
    · subst e
      simp at h
      subst h
      exact List.mem_cons_self
    · have e2 : (s == a) = false := by simpa using e
      rw [e2] at h
      exact List.mem_cons_of_mem _ (lookup_in h)
theorem lookup_st {F : SzF} : ∀ {rs : Rs} {s : Sx}, (rs.map (·.1)).Nodup → (stL F rs).lookup s = if s ∈ rs.map (·.1) then F s else none
  | [], s, _ => rfl
  | (a, b) :: rs, s, nd => by
    rw [List.map_cons, List.nodup_cons] at nd
    have ih := lookup_st (F := F) (rs := rs) (s := s) nd.2
    unfold stL at ih ⊢
    rw [List.filterMap_cons]
    by_cases e : s = a
    · subst e
      cases z : F s with
      | none =>
        simp only [z, Option.map_none, ih, List.map_cons, List.mem_cons, true_or, if_true]
        rw [if_neg nd.1]
      | some v => simp [z]
    · have e2 : (s == a) = false := by simpa using e
      have e3 : (s ∈ (a :: rs.map (·.1))) = (s ∈ rs.map (·.1)) := by simp [e]
      simp only [List.map_cons, e3]
      cases z : F a with
      | none => simpa only [z, Option.map_none] using ih
      | some v => simpa only [z, Option.map_some, List.lookup_cons, e2] using ih
theorem szF_it {rs : Rs} (nd : (rs.map (·.1)).Nodup) (n : Nat) : szF (stL (itS (fun s => rs.lookup s) n) rs) = itS (fun s => rs.lookup s) n := by
  funext s
  unfold szF
  rw [lookup_st nd]
  by_cases e : s ∈ rs.map (·.1)
  · rw [if_pos e]
  · rw [if_neg e]
    cases n with
    | zero => rfl
    | succ n =>
      show none = (rs.lookup s).bind _
      rw [lookup_none e]
      rfl
theorem fmap_congr {α β : Type} {f g : α → Option β} : ∀ {l : List α}, (∀ x ∈ l, f x = g x) → l.filterMap f = l.filterMap g
  | [], _ => rfl
  | x :: l, h => by rw [List.filterMap_cons, List.filterMap_cons, h x List.mem_cons_self, fmap_congr fun y hy => h y (List.mem_cons_of_mem _ hy)]
theorem stK_it {rs : Rs} (nd : (rs.map (·.1)).Nodup) (n : Nat) : stK (itS (fun s => rs.lookup s) n) rs = stL (itS (fun s => rs.lookup s) (n + 1)) rs := by
  unfold stK stL
  refine fmap_congr fun x hx => ?_
  show _ = ((rs.lookup x.1).bind _).map _
  rw [lookup_mem nd hx]
  rfl
def hitB (b a : List (Sx × Nat)) : Bool := a.all fun x => decide (b.lookup x.1 = some x.2)
theorem hits_sz {h : AH} {b : List (Sx × Nat)} : ∀ a : List (Sx × Nat), HitsD (EqD 20 h) (encSz b) (encSz a) (hitB b a)
  | [] => rfl
  | x :: a => by
    have ih := hits_sz (h := h) (b := b) a
    have e1 : kvGet (encSz b) (.str x.1) = (b.lookup x.1).map fun n : Nat => D.int (n : Int) := kvGet_lk (fun n : Nat => D.int (n : Int)) b x.1
    show (kvGet (encSz b) (.str x.1) = none ∧ hitB b (x :: a) = false) ∨ _
    cases z : b.lookup x.1 with
    | none =>
      refine .inl ⟨by rw [e1, z]; rfl, ?_⟩
      simp [hitB, z]
    | some v =>
      refine .inr ⟨.int v, decide (D.int (x.2 : Int) = D.int (v : Int)), hitB b a, by rw [e1, z]; rfl, .inl ⟨by simp [pureD], by simp [pureD], .inl (by simp [plain]), rfl⟩, ih, ?_⟩
      unfold hitB
      rw [List.all_cons, z]
      congr 1
      by_cases e : x.2 = v
      · subst e; simp
      · have e2 : ¬ v = x.2 := fun z => e z.symm
        have e3 : ¬ D.int (x.2 : Int) = D.int (v : Int) := fun z => e (by injection z with z; omega)
        simp [e2, e3]
theorem hitB_self {a : List (Sx × Nat)} (nd : (a.map (·.1)).Nodup) : hitB a a = true := List.all_eq_true.mpr fun x hx => decide_eq_true (lookup_mem nd hx)
theorem st_nd {F : SzF} : ∀ {rs : Rs}, (rs.map (·.1)).Nodup → ((stL F rs).map (·.1)).Nodup ∧ ∀ s ∈ (stL F rs).map (·.1), s ∈ rs.map (·.1)
  | [], _ => ⟨List.nodup_nil, fun s h => nomatch h⟩
  | (a, b) :: rs, nd => by
    rw [List.map_cons, List.nodup_cons] at nd
    obtain ⟨h1, h2⟩ := st_nd (F := F) nd.2
    unfold stL at h1 h2 ⊢
    rw [List.filterMap_cons]
    cases z : F a with
    | none =>
      simp only [z, Option.map_none]
      exact ⟨h1, fun s hs => by rw [List.map_cons]; exact List.mem_cons_of_mem _ (h2 s hs)⟩
    | some v =>
      simp only [z, Option.map_some, List.map_cons]
      refine ⟨List.nodup_cons.mpr ⟨fun hm => nd.1 (h2 a hm), h1⟩, fun s hs => ?_⟩
      rcases List.mem_cons.mp hs with e | hs
      · rw [e]; exact List.mem_cons_self
      · exact List.mem_cons_of_mem _ (h2 s hs)
theorem it_settle {rs : Rs} (nd : (rs.map (·.1)).Nodup) : itS (fun s => rs.lookup s) (rs.length + 1) = itS (fun s => rs.lookup s) rs.length := by
  have := itS_settled (fun s => rs.lookup s) (rs.map (·.1)) nd fun s k e => List.mem_map.mpr ⟨(s, k), lookup_in e, rfl⟩
  rw [List.length_map] at this
  exact this
theorem it_stay {look : Sx → Option Kd} {n : Nat} (e : itS look (n + 1) = itS look n) : ∀ m, n ≤ m → itS look m = itS look n := by
  intro m hm
  obtain ⟨d, rfl⟩ := Nat.le.dest hm
  induction d with
  | zero => rfl
  | succ d ih =>
    have h1 := ih (by omega)
    rw [← e]
    funext s
    show (look s).bind (lst (itS look (n + d))) = (look s).bind (lst (itS look n))
    rw [h1]
/-- equal lists mean that it has settled -/
theorem hit_settled {rs : Rs} (nd : (rs.map (·.1)).Nodup) {n : Nat} (e : hitB (stL (itS (fun s => rs.lookup s) n) rs) (stL (itS (fun s => rs.lookup s) (n + 1)) rs) = true) : itS (fun s => rs.lookup s) (n + 1) = itS (fun s => rs.lookup s) n := by
  funext s
  refine (itS_dec _ n s).anti fun y hy => ?_
  have h1 : (stL (itS (fun s => rs.lookup s) (n + 1)) rs).lookup s = some y := by
    have := congrFun (szF_it nd (n + 1)) s
    unfold szF at this
    rw [this]; exact hy
  have h2 := of_decide_eq_true (List.all_eq_true.mp e (s, y) (lookup_in h1))
  have := congrFun (szF_it nd n) s
  unfold szF at this
  rw [this] at h2
  exact ⟨y, h2, Nat.le_refl y⟩
theorem filterMap_take {α β : Type} {f : α → Option β} {l : List α} {i : Nat} {x : α} (e : l[i]? = some x) : (l.take (i + 1)).filterMap f = (l.take i).filterMap f ++ (f x).toList := by
  rw [List.take_add_one, e]
  simp only [Option.toList_some, List.filterMap_append, List.filterMap_cons, List.filterMap_nil]
  cases f x <;> rfl
/-- the outer turns -/
def SzO (rs : Rs) (q : Nat) (h : AH) (i : Nat) : St → AH → Prop := fun σ h' => i ≤ rs.length ∧ ∃ (ps : Nat) (a b c d : Option D), σ = [some (.ref q), some (.ref ps), a, b, c, d] ∧ h' ps = some (.dct 0 (encSz (stL (itS (fun s => rs.lookup s) i) rs))) ∧ Ext h h' ∧ h ps = none
/-- the inner ones -/
def SzI (rs : Rs) (q ps pf : Nat) (t : Int) (n : Nat) (h1 : AH) (j : Nat) : St → AH → Prop := fun σ hh => ∃ (c d : Option D), σ = [some (.ref q), some (.ref ps), some (.int t), some (.ref pf), c, d] ∧ hh q = some (.rdct 0 (encRs rs)) ∧ hh pf = some (.dct 0 (encSz (stK (itS (fun s => rs.lookup s) n) (rs.take j)))) ∧ ∀ a o, a ≠ q → a ≠ pf → h1 a = some o → hh a = some o
theorem sizes_okD {n dD q : Nat} {rs : Rs} {h : AH} {Q : VQ} {X : XP} (nd : (rs.map (·.1)).Nodup) (l6 : rs.length ≤ 100) (d3 : ∀ x ∈ rs, x.2.dp ≤ dD) (hq : h q = some (.dct 0 (encRs rs)))
    (k : ∀ sz p' h', h p' = none → Ext h h' → h' p' = some (.dct 0 (encSz sz)) → szF sz = SZ rs → Q (.ref p') h') : run P (n + dD + 2) s__law_sizes [.ref q] h Q X := by
  refine run_of (fd := fd_law_sizes) rfl rfl ?_
  simp [fd_law_sizes, start, b0_law_sizes]
  intro p0 hp0
  have q0 : q ≠ p0 := ne_new hq hp0
  have lr : (encRs rs).length = rs.length := by simp [encRs]
  rw [len_dct (by rw [up_ne q0]; exact hq), lr]
  refine ⟨.inr (by omega), ?_⟩
  refine ⟨by omega, by omega, loop_rng (fun i => SzO rs q h i) ⟨Nat.zero_le _, p0, none, none, none, none, rfl, ?_, Ext.new hp0, hp0⟩ (fun _ _ _ _ => trivial) ?_ ?_⟩
  · rw [up_same]
    have : stL (itS (fun s => rs.lookup s) 0) rs = [] := by
      unfold stL
      rw [List.filterMap_eq_nil_iff]
      intro x _
      rfl
    rw [this]
    rfl
  · rintro i σ h' hi ⟨ile, ps, a, b, c, d, rfl, es, ex, hps⟩
    simp [b1_law_sizes]
    intro pf hpf
    have hq1 : h' q = some (.dct 0 (encRs rs)) := ex _ _ hq
    have qf : q ≠ pf := ne_new hq1 hpf
    have sf : ps ≠ pf := ne_new es hpf
    have sq : ps ≠ q := ne_new hq hps |>.symm
    rw [lock_at rfl (by rw [up_ne qf]; exact hq1)]
    rw [walk_keys up_same]
    refine ⟨fun j => SzI rs q ps pf i i (up h' pf (.dct 0 [])) j, ⟨c, d, rfl, up_same, by rw [up_ne qf.symm, up_same]; rfl, fun a o n1 n2 e => by rw [up_ne n1]; exact e⟩, (fun _ _ _ _ => trivial), ?_, ?_⟩
    · rintro j x σ hh hx ⟨c, d, rfl, r1, r2, r3⟩
      have hx2 : (rs.map fun x => D.str x.1)[j]? = some x := by
        have : (encRs rs).map (·.1) = rs.map fun x => D.str x.1 := by unfold encRs; rw [List.map_map]; rfl
        rw [← this]; exact hx
      obtain ⟨y, hy, rfl⟩ := map_at hx2
      have my : y ∈ rs := List.mem_of_getElem? hy
      have rsps : hh ps = some (.dct 0 (encSz (stL (itS (fun s => rs.lookup s) i) rs))) := r3 _ _ sq sf (by rw [up_ne sf]; exact es)
      simp [b2_law_sizes]
      rw [ix_rdct r1, kvGet_rs, lookup_mem nd my]
      refine ⟨rfl, ?_⟩
      dsimp only [Option.map_some]
      obtain ⟨m, em⟩ : ∃ m, n + dD + 1 = m + y.2.dp + 1 := ⟨n + dD - y.2.dp, by have := d3 y my; omega⟩
      rw [em]
      refine least_ok y.2 m ps _ hh _ _ rsps fun h2 x2 => ?_
      rw [szF_it nd]
      have tk := filterMap_take (f := fun x : Sx × Kd => (lst (itS (fun s => rs.lookup s) i) x.2).map fun v => (x.1, v)) hy
      have r2' : h2 pf = some (.dct 0 (encSz (stK (itS (fun s => rs.lookup s) i) (rs.take j)))) := x2 _ _ r2
      cases z : lst (itS (fun s => rs.lookup s) i) y.2 with
      | none =>
        simp [dOpt]
        refine ⟨_, _, rfl, x2 _ _ r1, ?_, fun a o n1 n2 e => x2 _ _ (r3 a o n1 n2 e)⟩
        unfold stK at r2' ⊢
        rw [tk, z]
        simpa using r2'
      | some v =>
        simp [dOpt, b3_law_sizes]
        rw [set_dct r2']
        have fresh : ∀ kv, kv ∈ encSz (stK (itS (fun s => rs.lookup s) i) (rs.take j)) → kv.1 ≠ D.str y.1 := by
          intro kv hkv e
          obtain ⟨z, hz, rfl⟩ := List.mem_map.mp hkv
          injection e with e
          unfold stK at hz
          obtain ⟨u, hu, hu2⟩ := List.mem_filterMap.mp hz
          have e5 : z.1 = u.1 := by
            cases z9 : lst (itS (fun s => rs.lookup s) i) u.2 with
            | none => rw [z9] at hu2; cases hu2
            | some w => rw [z9] at hu2; cases hu2; rfl
          obtain ⟨i2, hi2⟩ := List.getElem?_of_mem hu
          have lt : i2 < j := by
            have := (List.getElem?_eq_some_iff.mp hi2).1
            simp at this
            omega
          have hi3 : rs[i2]? = some u := by
            rw [List.getElem?_take] at hi2
            rw [if_pos lt] at hi2
            exact hi2
          have := nodup_inj nd (i := i2) (j := j) (x := y.1) (by rw [List.getElem?_map, hi3]; simp [← e, e5]) (by rw [List.getElem?_map, hy]; rfl)
          omega
        refine ⟨rfl, ?_, ?_⟩
        · have : (stK (itS (fun s => rs.lookup s) i) (rs.take j)).length ≤ (rs.take j).length := by unfold stK; exact List.length_filterMap_le _ _
          simp [encSz, LINE]
          simp at this
          omega
        · rw [kvPut_new fresh]
          refine ⟨_, _, rfl, by rw [up_ne qf]; exact x2 _ _ r1, ?_, fun a o n1 n2 e => by rw [up_ne n2]; exact x2 _ _ (r3 a o n1 n2 e)⟩
          rw [up_same]
          unfold stK
          rw [tk, z]
          simp [encSz]
    · rintro σ hh ⟨c, d, rfl, r1, r2, r3⟩
      have lk : (((encRs rs).map (·.1)).length) = rs.length := by simp [encRs]
      rw [lk, List.take_length, stK_it nd] at r2
      have rsps : hh ps = some (.dct 0 (encSz (stL (itS (fun s => rs.lookup s) i) rs))) := r3 _ _ sq sf (by rw [up_ne sf]; exact es)
      have exL : Ext h (up hh q (.dct 0 (encRs rs))) := fun a o e => by
        by_cases z : a = q
        · subst z; rw [up_same]; rw [hq] at e; exact e
        · rw [up_ne z]
          have e2 := ex _ _ e
          have nf := ne_new e2 hpf
          exact r3 a o z nf (by rw [up_ne nf]; exact e2)
      simp [b4_law_sizes, b5_law_sizes, b6_law_sizes]
      have nd1 := (st_nd (F := itS (fun s => rs.lookup s) (i + 1)) nd).1
      refine .inr ⟨_, .inr (.inr ⟨pf, ps, _, _, _, rfl, rfl, sf.symm, by rw [up_ne qf.symm]; exact r2, by rw [up_ne sq]; exact rsps, fun _ => hits_sz _, rfl⟩), ?_⟩
      have lens : ∀ l : List (Sx × Nat), (encSz l).length = l.length := fun l => by simp [encSz]
      rw [lens, lens]
      cases z : ((stL (itS (fun s => rs.lookup s) (i + 1)) rs).length == (stL (itS (fun s => rs.lookup s) i) rs).length && hitB (stL (itS (fun s => rs.lookup s) i) rs) (stL (itS (fun s => rs.lookup s) (i + 1)) rs)) with
      | true =>
        dsimp only
        have st := hit_settled nd (Bool.and_eq_true_iff.mp z).2
        refine k (stL (itS (fun s => rs.lookup s) i) rs) ps _ hps exL (by rw [up_ne sq]; exact rsps) ?_
        rw [szF_it nd]
        exact (it_stay st rs.length ile).symm
      | false =>
        dsimp only
        have ne : i ≠ rs.length := fun e => by
          rw [e, it_settle nd] at z
          rw [hitB_self (by rw [e, it_settle nd] at nd1; exact nd1)] at z
          simp at z
        exact ⟨by omega, pf, _, _, _, _, rfl, by rw [up_ne qf.symm]; exact r2, exL, fresh_back ex hpf⟩
  · rintro σ h' ⟨ile, _⟩
    exfalso
    omega
theorem sizes_ok {n q : Nat} {rs : Rs} {h : AH} {Q : VQ} {X : XP} (nd : (rs.map (·.1)).Nodup) (l6 : rs.length ≤ 6) (d3 : ∀ x ∈ rs, x.2.dp ≤ 3) (hq : h q = some (.dct 0 (encRs rs)))
    (k : ∀ sz p' h', h p' = none → Ext h h' → h' p' = some (.dct 0 (encSz sz)) → szF sz = SZ rs → Q (.ref p') h') : run P (n + 5) s__law_sizes [.ref q] h Q X := sizes_okD (n := n) (dD := 3) nd (by omega) d3 hq k
/-! ### greatest least size, widths -/
def mst (S : SzF) : Kd → Nat
  | .node a => max ((lst S (.node a)).getD 0) (mst S a)
  | .sum a b => max ((lst S (.sum a b)).getD 0) (max (mst S a) (mst S b))
  | .pair a b => max ((lst S (.pair a b)).getD 0) (max (mst S a) (mst S b))
  | k => (lst S k).getD 0
def wd (W : Sx → Nat) : Kd → Nat
  | .rule s => W s
  | .pair a b => wd W a + wd W b
  | .sum a b => max (wd W a) (wd W b)
  | _ => 1
def wst (W : Sx → Nat) : Kd → Nat
  | .node a => max 1 (wst W a)
  | .sum a b => max (wd W (.sum a b)) (max (wst W a) (wst W b))
  | .pair a b => max (wd W (.pair a b)) (max (wst W a) (wst W b))
  | k => wd W k
def kparts : Kd → List Kd
  | .node a => [a]
  | .sum a b => [a, b]
  | .pair a b => [a, b]
  | _ => []
theorem parts_of_ok {n : Nat} {k : Kd} {h : AH} {Q : VQ} {X : XP} (q : Q (.tup ((kparts k).map encK)) h) : run P (n + 1) s__law_parts_of [encK k] h Q X := by
  refine run_of (fd := fd_law_parts_of) rfl rfl ?_
  cases k <;> simp [fd_law_parts_of, start, b0_law_parts_of, b1_law_parts_of, b2_law_parts_of, encK, atI, LINE] <;> first
    | exact q
    | (refine ⟨by decide, ?_⟩; exact q)
/-- one number, and those of the parts: the greatest -/
theorem max_of {x v : Nat} {ys : List Nat} {h : AH} {Q : VQ} {r : Nat} (hr : h r = some (.lst (D.int (x : Int) :: ys.map fun y : Nat => D.int (y : Int)))) (hm : x ≤ v) (ha : ∀ y ∈ ys, y ≤ v) (hi : x = v ∨ v ∈ ys) (q : Q (.int (v : Int)) h) : opBlt .max1 [.ref r] h Q := by
  rw [blt_max1, arg1_eq, aLst_eq hr]
  have ei : intsOf (D.int (x : Int) :: ys.map fun y : Nat => D.int (y : Int)) = some ((x : Int) :: ys.map fun y : Nat => (y : Int)) := by
    have := ints_opt (x :: ys)
    rw [List.map_map] at this
    exact this
  rw [ei, aSome_eq]
  refine ⟨by simp, fun m hmm hall => ?_⟩
  have e : m = (v : Int) := by
    have h1 : m ≤ v := by
      rcases List.mem_cons.mp hmm with e | e
      · omega
      · obtain ⟨y, hy, rfl⟩ := List.mem_map.mp e
        have := ha y hy
        omega
    have h2 : (v : Int) ≤ m := by
      rcases hi with e | e
      · subst e; exact hall _ List.mem_cons_self
      · exact hall _ (List.mem_cons_of_mem _ (List.mem_map.mpr ⟨v, e, rfl⟩))
    omega
  rw [e]
  exact q
theorem most_max (S : SzF) (k : Kd) : (lst S k).getD 0 ≤ mst S k ∧ (∀ y ∈ (kparts k).map (mst S), y ≤ mst S k) ∧ ((lst S k).getD 0 = mst S k ∨ mst S k ∈ (kparts k).map (mst S)) := by
  cases k <;> simp [mst, kparts] <;> omega
theorem wst_max (W : Sx → Nat) (k : Kd) : wd W k ≤ wst W k ∧ (∀ y ∈ (kparts k).map (wst W), y ≤ wst W k) ∧ (wd W k = wst W k ∨ wst W k ∈ (kparts k).map (wst W)) := by
  cases k <;> simp [wst, kparts, wd] <;> omega
theorem kparts_dp {k a : Kd} (h : a ∈ kparts k) : a.dp + 1 ≤ k.dp := by
  cases k <;> simp [kparts] at h
  · subst h; simp [Kd.dp]
  · rcases h with rfl | rfl <;> simp only [Kd.dp] <;> omega
  · rcases h with rfl | rfl <;> simp only [Kd.dp] <;> omega
/-- a comprehension over the parts, a number of each -/
theorem comp_parts {f : Kd → Nat} {body : D → AH → (D → AH → Prop) → (AH → Prop) → Prop} {done : List D → AH → Prop} {h0 : AH} : ∀ (ks : List Kd) (i : Nat) (acc : List D) (h : AH), (∀ a ∈ ks, ∀ h2 yes no, Ext h0 h2 → (∀ h', Ext h2 h' → yes (.int (f a : Nat)) h') → body (encK a) h2 yes no) → acc.length ≤ i → Ext h0 h →
    (∀ h', Ext h0 h' → done (acc ++ ks.map fun a => D.int (f a : Nat)) h') → compU (fun _ => True) body done i (ks.map encK) acc h
  | [], i, acc, h, _, l, x, k => ⟨⟨trivial, l⟩, by simpa using k h x⟩
  | a :: ks, i, acc, h, hb, l, x, k => ⟨⟨trivial, l⟩, hb a List.mem_cons_self h _ _ x fun h' x' => comp_parts ks (i + 1) (acc ++ [.int (f a : Nat)]) h' (fun b hb2 => hb b (List.mem_cons_of_mem _ hb2)) (by simp; omega) (x.trans x') fun h2 x2 => by simpa using k h2 x2⟩
theorem kparts_len (k : Kd) : (kparts k).length ≤ 2 := by cases k <;> simp [kparts]
theorem most_ok : ∀ (d : Nat) (k : Kd), k.dp < d → ∀ (n p : Nat) (sz : List (Sx × Nat)) (h : AH) (Q : VQ) (X : XP), h p = some (.dct 0 (encSz sz)) → (∀ h', Ext h h' → Q (.int (mst (szF sz) k : Nat)) h') → run P (n + d + 1) s__law_most [encK k, .ref p] h Q X := by
  intro d
  induction d with
  | zero => intro k hd; omega
  | succ d ih =>
    intro k hd n p sz h Q X hp q
    refine run_of (fd := fd_law_most) rfl rfl ?_
    simp [fd_law_most, start, b0_law_most, LINE, -blt_max1, -add_ref]
    obtain ⟨m, em⟩ : ∃ m, n + (d + 1) = m + k.dp + 1 := ⟨n + d - k.dp, by omega⟩
    have go : ∀ h1 (o : Option Nat), Ext h h1 → o = lst (szF sz) k → (match dOpt o with
      | .non => ∀ r, h1 r = none → run P (n + (d + 1)) s__law_parts_of [encK k] (up h1 r (.lst [D.int 0])) (fun d_1 h1' => walk .seq [d_1] h1' fun xs ok => compW xs ok (fun x h2 yes no => run P (n + (d + 1)) s__law_most [x, .ref p] h2 yes X) (fun acc h2 => ∀ r_1, h2 r_1 = none → opAdd (.ref r) (.ref r_1) (up h2 r_1 (.lst acc)) fun d h1 => opBlt .max1 [d] h1 Q) h1') X
      | .int i => (i ≠ 0 → ∀ r, h1 r = none → run P (n + (d + 1)) s__law_parts_of [encK k] (up h1 r (.lst [D.int i])) (fun d_1 h1' => walk .seq [d_1] h1' fun xs ok => compW xs ok (fun x h2 yes no => run P (n + (d + 1)) s__law_most [x, .ref p] h2 yes X) (fun acc h2 => ∀ r_1, h2 r_1 = none → opAdd (.ref r) (.ref r_1) (up h2 r_1 (.lst acc)) fun d h1 => opBlt .max1 [d] h1 Q) h1') X) ∧ (i = 0 → ∀ r, h1 r = none → run P (n + (d + 1)) s__law_parts_of [encK k] (up h1 r (.lst [D.int 0])) (fun d_1 h1' => walk .seq [d_1] h1' fun xs ok => compW xs ok (fun x h2 yes no => run P (n + (d + 1)) s__law_most [x, .ref p] h2 yes X) (fun acc h2 => ∀ r_1, h2 r_1 = none → opAdd (.ref r) (.ref r_1) (up h2 r_1 (.lst acc)) fun d h1 => opBlt .max1 [d] h1 Q) h1') X)
      | _ => False) := by
      intro h1 o x1 eo
      have main : ∀ r, h1 r = none → run P (n + (d + 1)) s__law_parts_of [encK k] (up h1 r (.lst [D.int (o.getD 0 : Nat)])) (fun d_1 h1' => walk .seq [d_1] h1' fun xs ok => compW xs ok (fun x h2 yes no => run P (n + (d + 1)) s__law_most [x, .ref p] h2 yes X) (fun acc h2 => ∀ r_1, h2 r_1 = none → opAdd (.ref r) (.ref r_1) (up h2 r_1 (.lst acc)) fun d h1 => opBlt .max1 [d] h1 Q) h1') X := by
        intro r hr
        refine parts_of_ok ?_
        rw [walk_tup]
        refine comp_unroll (by have := kparts_len k; simp [LINE]; omega) ?_
        refine comp_parts (f := mst (szF sz)) (h0 := up h1 r (.lst [D.int (o.getD 0 : Nat)])) (kparts k) 0 [] _ (fun a ha h2 yes no x2 hy => ?_) (Nat.le_refl _) .refl fun h2 x2 r2 hr2 => ?_
        · have := kparts_dp ha
          exact ih a (by omega) n p sz h2 _ _ (x2 _ _ ((x1.trans (Ext.new hr)) _ _ hp)) fun h' x' => hy h' x'
        · have er : h2 r = some (.lst [D.int (o.getD 0 : Nat)]) := x2 _ _ up_same
          rw [add_ref]
          refine ⟨_, _, by rw [up_ne (ne_new er hr2)]; exact er, up_same, by have := kparts_len k; simp [LINE]; omega, fun r3 hr3 => ?_⟩
          obtain ⟨m1, m2, m3⟩ := most_max (szF sz) k
          have hx : Ext h (up (up h2 r2 (.lst ([] ++ (kparts k).map fun a => D.int (mst (szF sz) a : Nat)))) r3 (.lst ([D.int (o.getD 0 : Nat)] ++ ([] ++ (kparts k).map fun a => D.int (mst (szF sz) a : Nat))))) := (((x1.trans (Ext.new hr)).trans x2).trans (Ext.new hr2)).trans (Ext.new hr3)
          refine max_of (x := (lst (szF sz) k).getD 0) (v := mst (szF sz) k) (ys := (kparts k).map (mst (szF sz))) ?_ m1 m2 m3 (q _ hx)
          rw [up_same, eo, List.map_map]
          rfl
      cases o with
      | none => exact fun r hr => main r hr
      | some v =>
        refine ⟨fun _ => fun r hr => main r hr, fun z => fun r hr => ?_⟩
        have := main r hr
        have e0 : v = 0 := by omega
        subst e0
        exact this
    rw [em]
    refine least_ok k m p sz h _ _ hp fun h1 x1 => ?_
    rw [← em]
    exact go h1 _ x1 rfl
def wF (wz : List (Sx × Nat)) : Sx → Nat := fun s => (wz.lookup s).getD 0
theorem kvGet_wz {wz : List (Sx × Nat)} {s : Sx} (h : s ∈ wz.map (·.1)) : kvGet (encSz wz) (.str s) = some (.int (wF wz s : Nat)) := by
  have e1 : kvGet (encSz wz) (.str s) = (wz.lookup s).map fun n : Nat => D.int (n : Int) := kvGet_lk (fun n : Nat => D.int (n : Int)) wz s
  rw [e1]
  unfold wF
  cases z : wz.lookup s with
  | some v => rfl
  | none =>
    exfalso
    obtain ⟨x, hx, e⟩ := List.mem_map.mp h
    subst e
    have : ∀ l : List (Sx × Nat), x ∈ l → l.lookup x.1 ≠ none := fun l => by
      induction l with
      | nil => intro h; cases h
      | cons y r ih =>
        intro hm
        obtain ⟨a, b⟩ := y
        rw [List.lookup_cons]
        by_cases e : x.1 = a
        · simp [e]
        · have e2 : (x.1 == a) = false := by simpa using e
          rw [e2]
          rcases List.mem_cons.mp hm with z | z
          · rw [z] at e; exact absurd rfl e
          · exact ih z
    exact this wz hx z
theorem wide_ok : ∀ (d : Nat) (k : Kd), k.dp < d → ∀ (n p : Nat) (wz : List (Sx × Nat)) (h : AH) (Q : VQ) (X : XP), h p = some (.dct 0 (encSz wz)) → Bw (· ∈ wz.map (·.1)) (fun _ => True) k → Q (.int (wd (wF wz) k : Nat)) h → run P (n + d) s__law_wide [encK k, .ref p] h Q X := by
  intro d
  induction d with
  | zero => intro k hd; omega
  | succ d ih =>
    intro k hd n p wz h Q X hp bw q
    refine run_of (fd := fd_law_wide) rfl rfl ?_
    cases k with
    | rule s =>
      simp [fd_law_wide, start, b0_law_wide, b1_law_wide, encK, atI]
      rw [ix_dct hp, kvGet_wz bw]
      exact ⟨rfl, q⟩
    | pair a b =>
      simp only [Kd.dp] at hd
      simp [fd_law_wide, start, b0_law_wide, b2_law_wide, b3_law_wide, encK, atI]
      refine ih a (by omega) n p wz h _ _ hp bw.1 ?_
      refine ih b (by omega) n p wz h _ _ hp bw.2 ?_
      simpa [wd] using q
    | sum a b =>
      simp only [Kd.dp] at hd
      simp [fd_law_wide, start, b0_law_wide, b2_law_wide, b4_law_wide, b5_law_wide, encK, atI]
      refine ih a (by omega) n p wz h _ _ hp bw.1 ?_
      refine ih b (by omega) n p wz h _ _ hp bw.2 ?_
      have e : (if (wd (wF wz) a : Int) < (wd (wF wz) b : Int) then (wd (wF wz) b : Int) else (wd (wF wz) a : Int)) = ((wd (wF wz) (a.sum b) : Nat) : Int) := by
        simp only [wd]
        split <;> omega
      simp only [blt_max2, arg2_eq, anInt_eq]
      first
        | (rw [e]; exact q)
        | (simp only [gt_iff_lt]; rw [e]; exact q)
    | one => simpa [fd_law_wide, start, b0_law_wide, b2_law_wide, b4_law_wide, b6_law_wide, encK, atI, wd] using q
    | name => simpa [fd_law_wide, start, b0_law_wide, b2_law_wide, b4_law_wide, b6_law_wide, encK, atI, wd] using q
    | none => simpa [fd_law_wide, start, b0_law_wide, b2_law_wide, b4_law_wide, b6_law_wide, encK, atI, wd] using q
    | node a => simpa [fd_law_wide, start, b0_law_wide, b2_law_wide, b4_law_wide, b6_law_wide, encK, atI, wd] using q
theorem Bw.mono {b b' a a' : Sx → Prop} (hb : ∀ s, b s → b' s) (ha : ∀ s, a s → a' s) : ∀ {k : Kd}, Bw b a k → Bw b' a' k
  | .rule s, h => hb s h
  | .node k, h => Bw.mono (k := k) ha ha h
  | .sum x y, h => ⟨Bw.mono (k := x) hb ha h.1, Bw.mono (k := y) hb ha h.2⟩
  | .pair x y, h => ⟨Bw.mono (k := x) hb ha h.1, Bw.mono (k := y) hb ha h.2⟩
  | .one, _ => trivial
  | .name, _ => trivial
  | .none, _ => trivial
theorem Bw.part {a : Sx → Prop} {k x : Kd} (h : Bw a a k) (hx : x ∈ kparts k) : Bw a a x := by
  cases k <;> simp [kparts] at hx
  · subst hx; exact h
  · rcases hx with rfl | rfl
    · exact h.1
    · exact h.2
  · rcases hx with rfl | rfl
    · exact h.1
    · exact h.2
theorem widest_ok : ∀ (d : Nat) (k : Kd), k.dp < d → ∀ (n p : Nat) (wz : List (Sx × Nat)) (h : AH) (Q : VQ) (X : XP), h p = some (.dct 0 (encSz wz)) → Bw (· ∈ wz.map (·.1)) (· ∈ wz.map (·.1)) k → (∀ h', Ext h h' → Q (.int (wst (wF wz) k : Nat)) h') → run P (n + d + 1) s__law_widest [encK k, .ref p] h Q X := by
  intro d
  induction d with
  | zero => intro k hd; omega
  | succ d ih =>
    intro k hd n p wz h Q X hp bw q
    refine run_of (fd := fd_law_widest) rfl rfl ?_
    simp [fd_law_widest, start, b0_law_widest, LINE, -blt_max1, -add_ref]
    refine wide_ok (d + 1) k (by omega) n p wz h _ _ hp (bw.mono (fun _ h => h) fun _ _ => trivial) ?_
    intro r hr
    refine parts_of_ok ?_
    rw [walk_tup]
    refine comp_unroll (by have := kparts_len k; simp [LINE]; omega) ?_
    refine comp_parts (f := wst (wF wz)) (h0 := up h r (.lst [D.int (wd (wF wz) k : Nat)])) (kparts k) 0 [] _ (fun a ha h2 yes no x2 hy => ?_) (Nat.le_refl _) .refl fun h2 x2 r2 hr2 => ?_
    · have := kparts_dp ha
      exact ih a (by omega) n p wz h2 _ _ (x2 _ _ ((Ext.new hr) _ _ hp)) (bw.part ha) fun h' x' => hy h' x'
    · have er : h2 r = some (.lst [D.int (wd (wF wz) k : Nat)]) := x2 _ _ up_same
      rw [add_ref]
      refine ⟨_, _, by rw [up_ne (ne_new er hr2)]; exact er, up_same, by have := kparts_len k; simp [LINE]; omega, fun r3 hr3 => ?_⟩
      obtain ⟨m1, m2, m3⟩ := wst_max (wF wz) k
      have hx : Ext h (up (up h2 r2 (.lst ([] ++ (kparts k).map fun a => D.int (wst (wF wz) a : Nat)))) r3 (.lst ([D.int (wd (wF wz) k : Nat)] ++ ([] ++ (kparts k).map fun a => D.int (wst (wF wz) a : Nat))))) := ((((Ext.new hr)).trans x2).trans (Ext.new hr2)).trans (Ext.new hr3)
      refine max_of (x := wd (wF wz) k) (v := wst (wF wz) k) (ys := (kparts k).map (wst (wF wz))) ?_ m1 m2 m3 (q _ hx)
      rw [up_same, List.map_map]
      rfl
/-! ### the widths of all rules -/
structure RI (ts : List Sx) (rs : Rs) : Prop where
  nm : rs.map (·.1) = ts
  nd : ts.Nodup
  wf : ∀ (i : Nat) x, rs[i]? = some x → x.2.dp ≤ 3 ∧ Bw (· ∈ ts.drop (i + 1)) (· ∈ ts) x.2
def widesL : Rs → List (Sx × Nat)
  | [] => []
  | x :: r => widesL r ++ [(x.1, min 21 (wd (wF (widesL r)) x.2))]
theorem widesL_nm : ∀ rs : Rs, (widesL rs).map (·.1) = (rs.map (·.1)).reverse
  | [] => rfl
  | x :: r => by simp [widesL, widesL_nm r]
def WsI (q pw r : Nat) (rs : Rs) (h : AH) (i : Nat) : St → AH → Prop := fun σ hh => ∃ c : Option D, σ = [some (.ref q), some (.ref pw), c] ∧ hh pw = some (.dct 0 (encSz (widesL (rs.drop (rs.length - i))))) ∧ hh r = some (.lst (rs.map fun x => D.str x.1).reverse) ∧ Ext h hh
theorem wides_ok {n q : Nat} {ts : List Sx} {rs : Rs} {h : AH} {Q : VQ} {X : XP} (ri : RI ts rs) (l6 : rs.length ≤ 6) (hq : h q = some (.dct 0 (encRs rs)))
    (k : ∀ p' h', h p' = none → Ext h h' → h' p' = some (.dct 0 (encSz (widesL rs))) → Q (.ref p') h') : run P (n + 5) s__law_wides [.ref q] h Q X := by
  refine run_of (fd := fd_law_wides) rfl rfl ?_
  simp [fd_law_wides, start, b0_law_wides]
  intro pw hpw
  have qp : q ≠ pw := ne_new hq hpw
  rw [aDctR_eq (by rw [up_ne qp]; exact hq)]
  intro r1 hr1
  rw [aLst_eq up_same]
  intro r hr
  rw [walk_lst up_same]
  have e0 : (encRs rs).map (·.1) = rs.map fun x => D.str x.1 := by unfold encRs; rw [List.map_map]; rfl
  have pr1 : pw ≠ r1 := ne_new up_same hr1
  have pr : pw ≠ r := by
    refine ne_new (h := up (up h pw (.dct 0 [])) r1 (.lst ((encRs rs).map (·.1)))) (o := .dct 0 []) ?_ hr
    rw [up_ne pr1, up_same]
  have ex : Ext h (up (up (up h pw (.dct 0 [])) r1 (.lst ((encRs rs).map (·.1)))) r (.lst ((encRs rs).map (·.1)).reverse)) := ((Ext.new hpw).trans (Ext.new hr1)).trans (Ext.new hr)
  refine ⟨fun i => WsI q pw r rs h i, ⟨none, rfl, ?_, by rw [up_same, e0], ex⟩, fun i σ hh z => ?_, ?_, ?_⟩
  · rw [up_ne pr, up_ne pr1, up_same, Nat.sub_zero, List.drop_length]
    rfl
  · obtain ⟨c, rfl, z1, z2, z3⟩ := z
    rw [e0]; exact z2
  · rintro i x σ hh hx ⟨c, rfl, z1, z2, z3⟩
    rw [e0] at hx
    have il : i < rs.length := by
      have := (List.getElem?_eq_some_iff.mp hx).1
      simpa using this
    obtain ⟨j, hj⟩ : ∃ j, rs.length = i + 1 + j := ⟨rs.length - i - 1, by omega⟩
    have jl : j < rs.length := by omega
    have ex1 : x = .str (rs[j]).1 := by
      rw [← List.map_reverse, List.getElem?_map, List.getElem?_reverse (by omega)] at hx
      rw [show rs.length - 1 - i = j by omega, List.getElem?_eq_getElem jl] at hx
      exact (Option.some.inj hx).symm
    subst ex1
    have ey : rs[j]? = some rs[j] := List.getElem?_eq_getElem jl
    generalize hy : rs[j] = y at ey ⊢
    obtain ⟨w1, w2⟩ := ri.wf j y ey
    have my : y ∈ rs := List.mem_of_getElem? ey
    have nd : (rs.map (·.1)).Nodup := by rw [ri.nm]; exact ri.nd
    have d1 : rs.drop (rs.length - (i + 1)) = y :: rs.drop (rs.length - i) := by
      rw [show rs.length - (i + 1) = j by omega, show rs.length - i = j + 1 by omega, List.drop_eq_getElem_cons jl, hy]
    simp [b1_law_wides]
    rw [ix_dct (z3 _ _ hq), kvGet_rs, lookup_mem nd my]
    refine ⟨rfl, ?_⟩
    dsimp only [Option.map_some]
    refine wide_ok 4 y.2 (by omega) n pw _ hh _ _ z1 (w2.mono (fun s hs => ?_) fun _ _ => trivial) ?_
    · rw [widesL_nm, List.mem_reverse, List.map_drop, ri.nm, show rs.length - i = j + 1 by omega]
      exact hs
    · rw [anInt_eq, set_dct z1]
      have fresh : ∀ kv, kv ∈ encSz (widesL (rs.drop (rs.length - i))) → kv.1 ≠ D.str y.1 := by
        intro kv hkv e
        obtain ⟨z, hz, rfl⟩ := List.mem_map.mp hkv
        injection e with e
        have m1 : z.1 ∈ (widesL (rs.drop (rs.length - i))).map (·.1) := List.mem_map.mpr ⟨z, hz, rfl⟩
        rw [widesL_nm, List.mem_reverse, e, show rs.length - i = j + 1 by omega] at m1
        have n2 : (y.1 :: (rs.drop (j + 1)).map (·.1)).Nodup := by
          have h1 : ((rs.drop j).map (·.1)).Nodup := by rw [List.map_drop]; exact nd.sublist (List.drop_sublist _ _)
          rw [List.drop_eq_getElem_cons jl, hy, List.map_cons] at h1
          exact h1
        exact (List.nodup_cons.mp n2).1 m1
      refine ⟨rfl, ?_, ?_⟩
      · have : (widesL (rs.drop (rs.length - i))).length ≤ rs.length := by
          have h1 := congrArg List.length (widesL_nm (rs.drop (rs.length - i)))
          simp at h1
          omega
        simp [encSz, LINE]
        omega
      · rw [kvPut_new fresh]
        refine ⟨_, rfl, ?_, ?_, ?_⟩
        · rw [up_same, d1]
          have : (if (wd (wF (widesL (rs.drop (rs.length - i)))) y.2 : Int) < 21 then (wd (wF (widesL (rs.drop (rs.length - i)))) y.2 : Int) else 21) = ((min 21 (wd (wF (widesL (rs.drop (rs.length - i)))) y.2) : Nat) : Int) := by
            split <;> omega
          rw [this]
          simp [widesL, encSz]
        · rw [up_ne (fun z => by rw [z] at z2; rw [z1] at z2; cases z2)]
          exact z2
        · exact z3.mut hpw .put
  · rintro σ hh ⟨c, rfl, z1, z2, z3⟩
    simp [b2_law_wides]
    have ll : ((encRs rs).map (·.1)).reverse.length = rs.length := by simp [encRs]
    rw [ll, Nat.sub_self, List.drop_zero] at z1
    exact k pw hh hpw z3 z1
/-! ### the rules -/
def cutR (c : Kd → Bool) (rs : Rs) : Rs := rs.map fun x => if c x.2 = true then (x.1, Kd.one) else x
def cutP (c : Kd → Bool) (j : Nat) (rs : Rs) : Rs := cutR c (rs.take j) ++ rs.drop j
theorem cutR_nm (c : Kd → Bool) (rs : Rs) : (cutR c rs).map (·.1) = rs.map (·.1) := by
  unfold cutR
  rw [List.map_map]
  refine List.map_congr_left fun x _ => ?_
  show (if c x.2 = true then (x.1, Kd.one) else x).1 = x.1
  split <;> rfl
theorem cutP_nm (c : Kd → Bool) (j : Nat) (rs : Rs) : (cutP c j rs).map (·.1) = rs.map (·.1) := by
  unfold cutP
  rw [List.map_append, cutR_nm, ← List.map_append, List.take_append_drop]
theorem cutP_0 (c : Kd → Bool) (rs : Rs) : cutP c 0 rs = rs := by simp [cutP, cutR]
theorem cutP_len (c : Kd → Bool) (rs : Rs) : cutP c rs.length rs = cutR c rs := by simp [cutP]
theorem cutP_at {c : Kd → Bool} {j : Nat} {rs : Rs} {y : Sx × Kd} (e : rs[j]? = some y) : cutP c j rs = cutR c (rs.take j) ++ y :: rs.drop (j + 1) := by
  have hl := (List.getElem?_eq_some_iff.mp e).1
  unfold cutP
  rw [List.drop_eq_getElem_cons hl, (List.getElem?_eq_some_iff.mp e).2]
theorem cutP_next {c : Kd → Bool} {j : Nat} {rs : Rs} {y : Sx × Kd} (e : rs[j]? = some y) : cutP c (j + 1) rs = cutR c (rs.take j) ++ (if c y.2 = true then (y.1, Kd.one) else y) :: rs.drop (j + 1) := by
  unfold cutP
  rw [List.take_add_one, e]
  simp [cutR]
theorem kvPut_rs {A B : Rs} {y : Sx × Kd} {k : Kd} (nd : ((A ++ y :: B).map (·.1)).Nodup) : kvPut (encRs (A ++ y :: B)) (.str y.1) (encK k) = encRs (A ++ (y.1, k) :: B) := by
  rw [List.map_append, List.map_cons, List.nodup_append] at nd
  obtain ⟨n1, n2, n3⟩ := nd
  rw [List.nodup_cons] at n2
  have other : ∀ x : Sx × Kd, x.1 ≠ y.1 → (if (D.str x.1, encK x.2).1 = D.str y.1 then ((D.str x.1, encK x.2).1, encK k) else (D.str x.1, encK x.2)) = (D.str x.1, encK x.2) := fun x h => by
    rw [if_neg]
    intro z
    injection z with z
    exact h z
  unfold kvPut encRs
  rw [if_pos]
  · rw [List.map_append, List.map_append, List.map_cons, List.map_append, List.map_cons, List.map_cons]
    congr 1
    · rw [List.map_map]
      refine List.map_congr_left fun x hx => ?_
      exact other x (n3 x.1 (List.mem_map.mpr ⟨x, hx, rfl⟩) y.1 List.mem_cons_self)
    · congr 1
      · simp
      · rw [List.map_map]
        refine List.map_congr_left fun x hx => ?_
        exact other x fun e => n2.1 (by rw [← e]; exact List.mem_map.mpr ⟨x, hx, rfl⟩)
  · rw [List.any_eq_true]
    exact ⟨(.str y.1, encK y.2), List.mem_map.mpr ⟨y, by simp, rfl⟩, by simp⟩
theorem RI.cut {ts : List Sx} {rs : Rs} (ri : RI ts rs) (c : Kd → Bool) : RI ts (cutR c rs) := by
  refine ⟨by rw [cutR_nm]; exact ri.nm, ri.nd, fun i x hx => ?_⟩
  unfold cutR at hx
  rw [List.getElem?_map] at hx
  cases e : rs[i]? with
  | none => rw [e] at hx; cases hx
  | some y =>
    rw [e] at hx
    have hx := Option.some.inj hx
    obtain ⟨w1, w2⟩ := ri.wf i y e
    dsimp only at hx
    split at hx
    · subst hx; exact ⟨Nat.zero_le _, trivial⟩
    · subst hx; exact ⟨w1, w2⟩
/-! what the widths are good for -/
structure Cert (W : Sx → Nat) (rs : Rs) : Prop where
  le : ∀ x ∈ rs, wd W x.2 ≤ W x.1
  wd20 : ∀ x ∈ rs, wst W x.2 ≤ 20
  pos : ∀ x ∈ rs, 1 ≤ W x.1
theorem Cert.cut {W : Sx → Nat} {rs : Rs} (ce : Cert W rs) (c : Kd → Bool) : Cert W (cutR c rs) := by
  have key : ∀ x ∈ cutR c rs, ∃ y ∈ rs, x.1 = y.1 ∧ (x = y ∨ x.2 = .one) := fun x hx => by
    obtain ⟨y, hy, e⟩ := List.mem_map.mp hx
    split at e
    · subst e; exact ⟨y, hy, rfl, .inr rfl⟩
    · subst e; exact ⟨y, hy, rfl, .inl rfl⟩
  refine ⟨fun x hx => ?_, fun x hx => ?_, fun x hx => ?_⟩
  · obtain ⟨y, hy, e, z | z⟩ := key x hx
    · subst z; exact ce.le x hy
    · rw [z, e]; exact ce.pos y hy
  · obtain ⟨y, hy, e, z | z⟩ := key x hx
    · subst z; exact ce.wd20 x hy
    · rw [z]; show 1 ≤ 20; omega
  · obtain ⟨y, hy, e, _⟩ := key x hx
    rw [e]; exact ce.pos y hy
theorem wd_congr {W W' : Sx → Nat} : ∀ {k : Kd}, Bw (fun s => W s = W' s) (fun _ => True) k → wd W k = wd W' k
  | .rule s, h => h
  | .node k, h => rfl
  | .sum x y, h => by simp only [wd]; rw [wd_congr h.1, wd_congr h.2]
  | .pair x y, h => by simp only [wd]; rw [wd_congr h.1, wd_congr h.2]
  | .one, _ => rfl
  | .name, _ => rfl
  | .none, _ => rfl
theorem wd_pos {W : Sx → Nat} : ∀ {k : Kd}, Bw (fun s => 1 ≤ W s) (fun _ => True) k → 1 ≤ wd W k
  | .rule s, h => h
  | .node k, h => Nat.le_refl 1
  | .sum x y, h => by simp only [wd]; have := wd_pos h.1; omega
  | .pair x y, h => by simp only [wd]; have := wd_pos h.1; omega
  | .one, _ => Nat.le_refl 1
  | .name, _ => Nat.le_refl 1
  | .none, _ => Nat.le_refl 1
theorem lookup_app {α : Type} {A B : List (Sx × α)} {s : Sx} : (A ++ B).lookup s = (A.lookup s).or (B.lookup s) := by
  induction A with
  | nil => rfl
  | cons x A ih =>
    obtain ⟨a, b⟩ := x
    rw [List.cons_append, List.lookup_cons, List.lookup_cons]
    by_cases e : (s == a) = true
    · rw [e]; rfl
    · rw [Bool.not_eq_true] at e
      rw [e]
      exact ih
theorem lookup_dom {α : Type} : ∀ {A : List (Sx × α)} {s : Sx}, s ∈ A.map (·.1) → ∃ v, A.lookup s = some v
  | (a, b) :: A, s, h => by
    rw [List.lookup_cons]
    by_cases e : s = a
    · subst e; exact ⟨b, by simp⟩
    · have e2 : (s == a) = false := by simpa using e
      rw [e2]
      rw [List.map_cons, List.mem_cons] at h
      exact lookup_dom (h.resolve_left e)
theorem wF_suffix : ∀ (pre r : Rs) (s : Sx), s ∈ r.map (·.1) → wF (widesL (pre ++ r)) s = wF (widesL r) s
  | [], r, s, _ => rfl
  | x :: pre, r, s, h => by
    rw [← wF_suffix pre r s h]
    show wF (widesL (pre ++ r) ++ [_]) s = _
    unfold wF
    rw [lookup_app]
    obtain ⟨v, hv⟩ := lookup_dom (A := widesL (pre ++ r)) (s := s) (by rw [widesL_nm, List.mem_reverse, List.map_append]; exact List.mem_append_right _ h)
    rw [hv]
    rfl
theorem wF_head {x : Sx × Kd} {r : Rs} (h : x.1 ∉ r.map (·.1)) : wF (widesL (x :: r)) x.1 = min 21 (wd (wF (widesL r)) x.2) := by
  show wF (widesL r ++ [_]) x.1 = _
  unfold wF
  rw [lookup_app]
  have e : (widesL r).lookup x.1 = none := by
    have : ∀ A : List (Sx × Nat), x.1 ∉ A.map (·.1) → A.lookup x.1 = none := fun A => by
      induction A with
      | nil => intro _; rfl
      | cons y A ih =>
        obtain ⟨a, b⟩ := y
        intro hn
        rw [List.map_cons, List.mem_cons, not_or] at hn
        rw [List.lookup_cons]
        have e2 : (x.1 == a) = false := by simpa using hn.1
        rw [e2]
        exact ih hn.2
    exact this _ (by rw [widesL_nm, List.mem_reverse]; exact h)
  rw [e]
  simp
theorem split_at {rs : Rs} {i : Nat} {x : Sx × Kd} (e : rs[i]? = some x) : rs = rs.take i ++ x :: rs.drop (i + 1) := by
  have hl := (List.getElem?_eq_some_iff.mp e).1
  have h2 := (List.getElem?_eq_some_iff.mp e).2
  rw [← h2, ← List.drop_eq_getElem_cons hl, List.take_append_drop]
theorem RI.names {ts : List Sx} {rs : Rs} (ri : RI ts rs) (i : Nat) : (rs.drop i).map (·.1) = ts.drop i := by rw [List.map_drop, ri.nm]
theorem wF_eq {ts : List Sx} {rs : Rs} (ri : RI ts rs) {i : Nat} {x : Sx × Kd} (e : rs[i]? = some x) : wF (widesL rs) x.1 = min 21 (wd (wF (widesL rs)) x.2) := by
  have nd : (rs.map (·.1)).Nodup := by rw [ri.nm]; exact ri.nd
  have sp := split_at e
  have h1 : wF (widesL rs) x.1 = wF (widesL (x :: rs.drop (i + 1))) x.1 := by
    conv => lhs; rw [sp]
    exact wF_suffix _ _ _ (by simp)
  rw [h1, wF_head]
  · congr 1
    refine wd_congr ((ri.wf i x e).2.mono (fun s hs => ?_) fun _ _ => trivial)
    have h2 : wF (widesL rs) s = wF (widesL (rs.drop (i + 1))) s := by
      have sp2 : rs = (rs.take i ++ [x]) ++ rs.drop (i + 1) := by simpa using sp
      conv => lhs; rw [sp2]
      exact wF_suffix _ _ _ (by rw [ri.names]; exact hs)
    exact h2.symm
  · rw [sp, List.map_append, List.map_cons, List.nodup_append] at nd
    exact (List.nodup_cons.mp nd.2.1).1
theorem wF_pos {ts : List Sx} {rs : Rs} (ri : RI ts rs) : ∀ (m i : Nat) (x : Sx × Kd), rs.length - i ≤ m → rs[i]? = some x → 1 ≤ wF (widesL rs) x.1 := by
  intro m
  induction m with
  | zero =>
    intro i x hm e
    have := (List.getElem?_eq_some_iff.mp e).1
    omega
  | succ m ih =>
    intro i x hm e
    rw [wF_eq ri e]
    have : 1 ≤ wd (wF (widesL rs)) x.2 := wd_pos ((ri.wf i x e).2.mono (fun s hs => by
      rw [← ri.names (i + 1)] at hs
      obtain ⟨y, hy, rfl⟩ := List.mem_map.mp hs
      obtain ⟨j, hj⟩ := List.getElem?_of_mem hy
      rw [List.getElem?_drop] at hj
      exact ih (i + 1 + j) y (by omega) hj) fun _ _ => trivial)
    omega
/-- .. of rules out of which the wide ones are cut -/
theorem cert_cut {ts : List Sx} {rs : Rs} (ri : RI ts rs) : Cert (wF (widesL rs)) (cutR (fun k => decide (20 < wst (wF (widesL rs)) k)) rs) := by
  have key : ∀ x ∈ cutR (fun k => decide (20 < wst (wF (widesL rs)) k)) rs, ∃ y ∈ rs, x.1 = y.1 ∧ ((x = y ∧ wst (wF (widesL rs)) y.2 ≤ 20) ∨ x.2 = .one) := fun x hx => by
    obtain ⟨y, hy, e⟩ := List.mem_map.mp hx
    dsimp only at e
    by_cases z : 20 < wst (wF (widesL rs)) y.2
    · rw [if_pos (by simpa using z)] at e; subst e; exact ⟨y, hy, rfl, .inr rfl⟩
    · rw [if_neg (by simpa using z)] at e; subst e; exact ⟨y, hy, rfl, .inl ⟨rfl, by omega⟩⟩
  have pos : ∀ y ∈ rs, 1 ≤ wF (widesL rs) y.1 := fun y hy => by
    obtain ⟨i, hi⟩ := List.getElem?_of_mem hy
    exact wF_pos ri rs.length i y (by omega) hi
  refine ⟨fun x hx => ?_, fun x hx => ?_, fun x hx => ?_⟩
  · obtain ⟨y, hy, e, ⟨z, z2⟩ | z⟩ := key x hx
    · subst z
      obtain ⟨i, hi⟩ := List.getElem?_of_mem hy
      rw [wF_eq ri hi]
      have := (wst_max (wF (widesL rs)) x.2).1
      omega
    · rw [z, e]; exact pos y hy
  · obtain ⟨y, hy, e, ⟨z, z2⟩ | z⟩ := key x hx
    · subst z; exact z2
    · rw [z]; show 1 ≤ 20; omega
  · obtain ⟨y, hy, e, _⟩ := key x hx
    rw [e]; exact pos y hy
theorem wd_mono {W W' : Sx → Nat} : ∀ {k : Kd}, Bw (fun s => W s ≤ W' s) (fun _ => True) k → wd W k ≤ wd W' k
  | .rule s, h => h
  | .node k, h => Nat.le_refl 1
  | .sum x y, h => by simp only [wd]; have := wd_mono h.1; have := wd_mono h.2; omega
  | .pair x y, h => by simp only [wd]; have := wd_mono h.1; have := wd_mono h.2; omega
  | .one, _ => Nat.le_refl 1
  | .name, _ => Nat.le_refl 1
  | .none, _ => Nat.le_refl 1
theorem wst_mono {W W' : Sx → Nat} : ∀ {k : Kd}, Bw (fun s => W s ≤ W' s) (fun s => W s ≤ W' s) k → wst W k ≤ wst W' k
  | .rule s, h => h
  | .node k, h => by simp only [wst]; have := wst_mono (k := k) h; omega
  | .sum x y, h => by
    have h1 := wst_mono h.1
    have h2 := wst_mono h.2
    have h3 : wd W (x.sum y) ≤ wd W' (x.sum y) := wd_mono (Bw.mono (fun _ z => z) (fun _ _ => trivial) h)
    simp only [wst]; omega
  | .pair x y, h => by
    have h1 := wst_mono h.1
    have h2 := wst_mono h.2
    have h3 : wd W (x.pair y) ≤ wd W' (x.pair y) := wd_mono (Bw.mono (fun _ z => z) (fun _ _ => trivial) h)
    simp only [wst]; omega
  | .one, _ => Nat.le_refl 1
  | .name, _ => Nat.le_refl 1
  | .none, _ => Nat.le_refl 1
/-- the widths reckoned anew are good, too -/
theorem cert_anew {ts : List Sx} {rs : Rs} {W : Sx → Nat} (ri : RI ts rs) (ce : Cert W rs) : Cert (wF (widesL rs)) rs := by
  have le : ∀ (m i : Nat) (x : Sx × Kd), rs.length - i ≤ m → rs[i]? = some x → wF (widesL rs) x.1 ≤ W x.1 := by
    intro m
    induction m with
    | zero =>
      intro i x hm e
      have := (List.getElem?_eq_some_iff.mp e).1
      omega
    | succ m ih =>
      intro i x hm e
      rw [wF_eq ri e]
      have h1 := ce.le x (List.mem_of_getElem? e)
      have : wd (wF (widesL rs)) x.2 ≤ wd W x.2 := wd_mono ((ri.wf i x e).2.mono (fun s hs => by
        rw [← ri.names (i + 1)] at hs
        obtain ⟨y, hy, rfl⟩ := List.mem_map.mp hs
        obtain ⟨j, hj⟩ := List.getElem?_of_mem hy
        rw [List.getElem?_drop] at hj
        exact ih (i + 1 + j) y (by omega) hj) fun _ _ => trivial)
      omega
  have leA : ∀ s, s ∈ ts → wF (widesL rs) s ≤ W s := fun s hs => by
    rw [← ri.nm] at hs
    obtain ⟨y, hy, rfl⟩ := List.mem_map.mp hs
    obtain ⟨j, hj⟩ := List.getElem?_of_mem hy
    exact le rs.length j y (by omega) hj
  have w20 : ∀ x ∈ rs, wst (wF (widesL rs)) x.2 ≤ 20 := fun x hx => by
    obtain ⟨i, hi⟩ := List.getElem?_of_mem hx
    have h1 := ce.wd20 x hx
    have : wst (wF (widesL rs)) x.2 ≤ wst W x.2 := wst_mono ((ri.wf i x hi).2.mono (fun s hs => leA s (List.mem_of_mem_drop hs)) leA)
    omega
  refine ⟨fun x hx => ?_, w20, fun x hx => ?_⟩
  · obtain ⟨i, hi⟩ := List.getElem?_of_mem hx
    rw [wF_eq ri hi]
    have h1 := w20 x hx
    have := (wst_max (wF (widesL rs)) x.2).1
    omega
  · obtain ⟨i, hi⟩ := List.getElem?_of_mem hx
    exact wF_pos ri rs.length i x (by omega) hi
/-! the sizes: cut as often as there are rules -/
def good6 (rs : Rs) : Prop := ∀ x ∈ rs, mst (SZ rs) x.2 ≤ 6
def isOne : Kd → Bool
  | .one => true
  | _ => false
def cnt (rs : Rs) : Nat := rs.countP fun x => !isOne x.2
def cutS (rs : Rs) : Rs := cutR (fun k => decide (6 < mst (SZ rs) k)) rs
theorem cutS_good {rs : Rs} (g : good6 rs) : cutS rs = rs := by
  unfold cutS cutR
  conv => rhs; rw [← List.map_id rs]
  refine List.map_congr_left fun x hx => ?_
  have := g x hx
  rw [if_neg (by simpa using this)]
  rfl
theorem cnt_cut (c : Kd → Bool) (c1 : c .one = false) : ∀ rs : Rs, cnt (cutR c rs) ≤ cnt rs ∧ ((∃ x ∈ rs, c x.2 = true) → cnt (cutR c rs) < cnt rs)
  | [] => ⟨Nat.le_refl _, fun ⟨_, h, _⟩ => nomatch h⟩
  | x :: rs => by
    obtain ⟨h1, h2⟩ := cnt_cut c c1 rs
    unfold cnt cutR at h1 h2 ⊢
    rw [List.map_cons, List.countP_cons, List.countP_cons]
    by_cases z : c x.2 = true
    · have n1 : isOne x.2 = false := by
        cases e : x.2 <;> first | rfl | (rw [e, c1] at z; cases z)
      have n2 : isOne (x.1, Kd.one).2 = true := rfl
      rw [if_pos z, n1, n2]
      simp only [Bool.not_true, Bool.not_false, Bool.false_eq_true, if_false, if_true]
      exact ⟨by omega, fun _ => by omega⟩
    · rw [if_neg z]
      refine ⟨by omega, fun ⟨y, hy, hc⟩ => ?_⟩
      rcases List.mem_cons.mp hy with e | hy
      · subst e; exact absurd hc z
      · have := h2 ⟨y, hy, hc⟩
        omega
theorem cutS_less {rs : Rs} (g : ¬ good6 rs) : cnt (cutS rs) < cnt rs := by
  unfold good6 at g
  obtain ⟨x, hx, z⟩ : ∃ x ∈ rs, 6 < mst (SZ rs) x.2 := by
    refine Classical.byContradiction fun h => g fun x hx => ?_
    refine Classical.byContradiction fun h2 => h ⟨x, hx, by omega⟩
  exact (cnt_cut _ (by simp [mst, lst]) rs).2 ⟨x, hx, by simpa using z⟩
theorem cnt_0 {rs : Rs} (h : cnt rs = 0) : good6 rs := fun x hx => by
  unfold cnt at h
  rw [List.countP_eq_zero] at h
  have := h x hx
  cases e : x.2 <;> rw [e] at this <;> simp [isOne] at this
  simp [mst, lst]
/-- what rules are drawn -/
structure RGood (ts : List Sx) (rs : Rs) : Prop where
  ri : RI ts rs
  l6 : rs.length ≤ 6
  g6 : good6 rs
  ce : ∃ W, Cert W rs
theorem RI.dp3 {ts : List Sx} {rs : Rs} (ri : RI ts rs) : ∀ x ∈ rs, x.2.dp ≤ 3 := fun x hx => by
  obtain ⟨i, hi⟩ := List.getElem?_of_mem hx
  exact (ri.wf i x hi).1
theorem RI.nodup {ts : List Sx} {rs : Rs} (ri : RI ts rs) : (rs.map (·.1)).Nodup := by rw [ri.nm]; exact ri.nd
theorem RI.len {ts : List Sx} {rs : Rs} (ri : RI ts rs) : rs.length = ts.length := by rw [← ri.nm, List.length_map]
theorem cutR_len (c : Kd → Bool) (rs : Rs) : (cutR c rs).length = rs.length := by simp [cutR]
/-- the rules' loops -/
def RlA (p q1 qr : Nat) (ts : List Sx) (h : AH) (i : Nat) : St → AH → Prop := fun σ hh => ∃ (rs : Rs) (c4 c6 : Option D), σ = [some (.ref p), some (.ref q1), some (.ref qr), none, c4, none, c6, none] ∧ hh qr = some (.dct 0 (encRs rs)) ∧ hh q1 = some (.lst (ts.map .str)) ∧ IsDeck p hh ∧ Ke p h hh ∧ h qr = none ∧
  rs.map (·.1) = ts.take i ∧ ∀ (j : Nat) x, rs[j]? = some x → KdOk 3 ts (ts.drop (j + 1)) x.2
def RlB (p q1 qr pw : Nat) (ts : List Sx) (c : Kd → Bool) (rs : Rs) (wz : List (Sx × Nat)) (h : AH) (c6 : Option D) (i : Nat) : St → AH → Prop := fun σ hh => ∃ (c4 : Option D), σ = [some (.ref p), some (.ref q1), some (.ref qr), some (.ref pw), c4, none, c6, none] ∧ hh qr = some (.dct 0 (encRs (cutP c i rs))) ∧ hh q1 = some (.lst (ts.map .str)) ∧ hh pw = some (.dct 0 (encSz wz)) ∧ IsDeck p hh ∧ Ke p h hh ∧ h qr = none
def RlC (p q1 qr pw : Nat) (ts : List Sx) (W : Sx → Nat) (h : AH) (c6 : Option D) (i : Nat) : St → AH → Prop := fun σ hh => ∃ (rs : Rs) (c4 c5 c7 : Option D), σ = [some (.ref p), some (.ref q1), some (.ref qr), some (.ref pw), c4, c5, c6, c7] ∧ hh qr = some (.dct 0 (encRs rs)) ∧ hh q1 = some (.lst (ts.map .str)) ∧ IsDeck p hh ∧ Ke p h hh ∧ h qr = none ∧ RI ts rs ∧ Cert W rs ∧ (good6 rs ∨ cnt rs + i ≤ ts.length)
def RlD (p q1 qr pw : Nat) (ps : Nat) (ts : List Sx) (c : Kd → Bool) (rs : Rs) (sz : List (Sx × Nat)) (h : AH) (c5 c6 : Option D) (i : Nat) : St → AH → Prop := fun σ hh => ∃ (c4 : Option D), σ = [some (.ref p), some (.ref q1), some (.ref qr), some (.ref pw), c4, c5, c6, some (.ref ps)] ∧ hh qr = some (.dct 0 (encRs (cutP c i rs))) ∧ hh q1 = some (.lst (ts.map .str)) ∧ hh ps = some (.dct 0 (encSz sz)) ∧ IsDeck p hh ∧ Ke p h hh ∧ h qr = none
theorem not_deck {p q : Nat} {h : AH} {k : Nat} {kvs : List (D × D)} (d : IsDeck p h) (e : h q = some (.dct k kvs)) : q ≠ p := fun z => by
  subst z
  obtain ⟨ns, n0, e2⟩ := d
  rw [e] at e2; cases e2
theorem encRs_at {A B : Rs} {y : Sx × Kd} (nd : ((A ++ y :: B).map (·.1)).Nodup) : kvGet (encRs (A ++ y :: B)) (.str y.1) = some (encK y.2) := by
  rw [kvGet_rs, lookup_mem nd (by simp)]
  rfl
theorem rules_ok {n p : Nat} {h : AH} {Q : VQ} {X : XP} (hd : IsDeck p h)
    (k : ∀ ts rs q h', h q = none → h' q = some (.dct 0 (encRs rs)) → RGood ts rs → IsDeck p h' → Ke p h h' → Q (.ref q) h') : run P (n + 7) s__law_rules [.ref p] h Q X := by
  refine run_of (fd := fd_law_rules) rfl rfl ?_
  simp [fd_law_rules, start, b0_law_rules]
  refine next_ok hd (by decide) fun v h1 v0 v1 d1 k1 => ?_
  obtain ⟨many, rfl⟩ : ∃ many : Nat, v = many := ⟨v.toNat, by omega⟩
  refine texts_ok (by omega) d1 fun ts q1 h2 hq1 e1 l1 nd1 a8 d2 k2 => ?_
  intro qr hqr
  have q1p : q1 ≠ p := isdeck_ne d2 e1
  have q1r : q1 ≠ qr := ne_new e1 hqr
  have h0r : h qr = none := fresh_ke (k1.trans k2) d2 hqr
  have l6 : ts.length ≤ 6 := by omega
  have e1' : (up h2 qr (.dct 0 [])) q1 = some (.lst (ts.map .str)) := by rw [up_ne q1r]; exact e1
  rw [walk_enum e1']
  refine ⟨fun i => RlA p q1 qr ts h i, ⟨[], none, none, rfl, by rw [up_same]; rfl, by rw [up_ne q1r]; exact e1, d2.put hqr, (k1.trans k2).trans (Ext.new hqr).ke, h0r, rfl, fun j x hx => by simp at hx⟩, fun i σ hh z => ?_, ?_, ?_⟩
  · obtain ⟨rs, c4, c6, rfl, z1, z2, _⟩ := z
    exact z2
  · rintro i x σ hh hx ⟨rs, c4, c6, rfl, z1, z2, z3, z4, _, z6, z7⟩
    obtain ⟨y, hy, rfl⟩ := enumL_at hx
    obtain ⟨s, hs, rfl⟩ := map_at hy
    have il : i < ts.length := (List.getElem?_eq_some_iff.mp hs).1
    have rp : qr ≠ p := not_deck z3 z1
    have lrs : rs.length = i := by
      have := congrArg List.length z6
      simp at this
      omega
    simp [b1_law_rules]
    rw [sl_lst z2]
    intro r hr
    have ec : cut (ts.map D.str) (some ((i : Int) + 1)) none = (ts.drop (i + 1)).map .str := by
      rw [cut_some (by omega) (by simp; omega), List.map_drop]
      congr 1
    refine kind_ok 3 (n + 1) p q1 r ts (ts.drop (i + 1)) _ _ _ (z3.put hr) (by rw [up_ne (ne_new z2 hr)]; exact z2) (by rw [up_same, ec]) fun kd h3 hk d3 k3 => ?_
    have r3 : h3 qr = some (.dct 0 (encRs rs)) := k3 _ _ rp (by rw [up_ne (ne_new z1 hr)]; exact z1)
    have q3 : h3 q1 = some (.lst (ts.map .str)) := k3 _ _ q1p (by rw [up_ne (ne_new z2 hr)]; exact z2)
    have ke3 : Ke p h h3 := (z4.trans (Ext.new hr).ke).trans k3
    have fresh : ∀ kv, kv ∈ encRs rs → kv.1 ≠ D.str s := by
      intro kv hkv e
      obtain ⟨z, hz, rfl⟩ := List.mem_map.mp hkv
      injection e with e
      have m1 : z.1 ∈ ts.take i := by rw [← z6]; exact List.mem_map.mpr ⟨z, hz, rfl⟩
      rw [e] at m1
      obtain ⟨j, hj⟩ := List.getElem?_of_mem m1
      have lj : j < i := by
        have := (List.getElem?_eq_some_iff.mp hj).1
        simp at this
        omega
      rw [List.getElem?_take, if_pos lj] at hj
      have := nodup_inj nd1 hj hs
      omega
    rw [set_dct r3]
    refine ⟨rfl, by simp [encRs, LINE]; omega, ?_⟩
    rw [kvPut_new fresh]
    refine ⟨rs ++ [(s, kd)], _, _, rfl, by rw [up_same]; simp [encRs], by rw [up_ne q1r]; exact q3, d3.ke (fun z => rp z.symm) .put, ke3.mut h0r .put, h0r, ?_, fun j x hx => ?_⟩
    · rw [List.map_append, z6, List.take_add_one, hs]
      rfl
    · by_cases lj : j < rs.length
      · rw [List.getElem?_append_left lj] at hx
        exact z7 j x hx
      · rw [List.getElem?_append_right (by omega)] at hx
        have e0 : j - rs.length = 0 := by
          have := (List.getElem?_eq_some_iff.mp hx).1
          simp at this
          omega
        rw [e0] at hx
        simp at hx
        subst hx
        rw [show j = i by omega]
        exact hk
  · rintro σ hh ⟨rs, c4, c6, rfl, z1, z2, z3, z4, _, z6, z7⟩
    rw [enumL_len, List.length_map, List.take_length] at z6
    have ri : RI ts rs := ⟨z6, nd1, fun i x hx => z7 i x hx⟩
    have rp : qr ≠ p := not_deck z3 z1
    simp [b2_law_rules]
    refine wides_ok (n := n + 1) ri (by rw [ri.len]; exact l6) z1 fun pw h3 hpw x3 ew => ?_
    have q3 := x3 _ _ z2
    have r3 := x3 _ _ z1
    have wr : qr ≠ pw := ne_new z1 hpw
    rw [walk_lst q3]
    refine ⟨fun i => RlB p q1 qr pw ts (fun k => decide (20 < wst (wF (widesL rs)) k)) rs (widesL rs) h c6 i, ⟨c4, rfl, by rw [cutP_0]; exact r3, q3, ew, z3.ext x3, z4.trans x3.ke, h0r⟩, fun i σ hh z => ?_, ?_, ?_⟩
    · obtain ⟨c4, rfl, _, y2, _⟩ := z
      exact y2
    · rintro i x σ hh hx ⟨c4, rfl, y1, y2, y3, y4, y5, _⟩
      obtain ⟨s, hs, rfl⟩ := map_at hx
      have il : i < rs.length := by rw [ri.len]; exact (List.getElem?_eq_some_iff.mp hs).1
      have ey : rs[i]? = some rs[i] := List.getElem?_eq_getElem il
      generalize rs[i] = y at ey
      have es : s = y.1 := by
        have : (rs.map (·.1))[i]? = some y.1 := by rw [List.getElem?_map, ey]; rfl
        rw [ri.nm, hs] at this
        exact Option.some.inj this
      subst es
      have nd := ri.nodup
      have ndc : ((cutP (fun k => decide (20 < wst (wF (widesL rs)) k)) i rs).map (·.1)).Nodup := by rw [cutP_nm]; exact nd
      rw [cutP_at ey] at y1 ndc
      simp [b3_law_rules]
      rw [ix_dct y1, encRs_at ndc]
      refine ⟨rfl, ?_⟩
      dsimp only
      have bw : Bw (· ∈ (widesL rs).map (·.1)) (· ∈ (widesL rs).map (·.1)) y.2 := (ri.wf i y ey).2.mono (fun s hs => by rw [widesL_nm, List.mem_reverse, ri.nm]; exact List.mem_of_mem_drop hs) (fun s hs => by rw [widesL_nm, List.mem_reverse, ri.nm]; exact hs)
      have rp2 : qr ≠ p := rp
      refine widest_ok 4 y.2 (by have := (ri.wf i y ey).1; omega) (n + 1) pw (widesL rs) hh _ _ y3 bw fun h4 x4 => ?_
      by_cases z : 20 < wst (wF (widesL rs)) y.2
      · rw [cmp_gt, decide_eq_true (by omega)]
        simp [b4_law_rules, LINE]
        rw [set_dct (x4 _ _ y1)]
        refine ⟨rfl, ?_, ?_⟩
        · have e9 := cutR_len (fun k => decide (20 < wst (wF (widesL rs)) k)) (rs.take i)
          have e8 : rs.length ≤ 6 := by rw [ri.len]; exact l6
          simp [encRs, LINE, e9]
          omega
        · have key := kvPut_rs (k := .one) ndc
          rw [show D.tup [D.str s_one] = encK .one from rfl, key]
          refine ⟨_, rfl, ?_, by rw [up_ne q1r]; exact x4 _ _ y2, by rw [up_ne wr.symm]; exact x4 _ _ y3, (y4.ext x4).ke (fun z => rp z.symm) .put, (y5.trans x4.ke).mut h0r .put, h0r⟩
          rw [up_same, cutP_next ey, if_pos (by simpa using z)]
      · rw [cmp_gt, decide_eq_false (by omega)]
        dsimp only
        refine ⟨_, rfl, ?_, x4 _ _ y2, x4 _ _ y3, y4.ext x4, y5.trans x4.ke, h0r⟩
        rw [cutP_next ey, if_neg (by simpa using z)]
        exact x4 _ _ y1
    · rintro σ hh ⟨c4, rfl, y1, y2, y3, y4, y5, _⟩
      rw [List.length_map, ← ri.len, cutP_len] at y1
      simp [b5_law_rules]
      rw [len_lst y2]
      have ce := cert_cut ri
      have ri2 := ri.cut (fun k => decide (20 < wst (wF (widesL rs)) k))
      generalize cutR (fun k => decide (20 < wst (wF (widesL rs)) k)) rs = rs2 at y1 ce ri2
      generalize wF (widesL rs) = W at ce
      rw [List.length_map]
      refine ⟨by omega, loop_rng (fun i => RlC p q1 qr pw ts W h c6 i) ⟨rs2, c4, none, none, rfl, y1, y2, y4, y5, h0r, ri2, ce, .inr ?_⟩ (fun _ _ _ _ => trivial) ?_ ?_⟩
      · unfold cnt
        have := List.countP_le_length (p := fun x : Sx × Kd => !isOne x.2) (l := rs2)
        rw [ri2.len] at this
        omega
      · rintro i σ hh hi ⟨rs, c4, c5, c7, rfl, y1, y2, y4, y5, _, ri, ce, g⟩
        simp [b6_law_rules]
        refine sizes_ok (n := n + 1) ri.nodup (by rw [ri.len]; exact l6) ri.dp3 y1 fun sz ps h3 hps x3 es eS => ?_
        have q3 := x3 _ _ y2
        have r3 := x3 _ _ y1
        rw [walk_lst q3]
        have sr : qr ≠ ps := ne_new y1 hps
        refine ⟨fun j => RlD p q1 qr pw ps ts (fun k => decide (6 < mst (SZ rs) k)) rs sz h (some (.int i)) c6 j, ⟨c4, rfl, by rw [cutP_0]; exact r3, q3, es, y4.ext x3, y5.trans x3.ke, h0r⟩, fun i σ hh z => ?_, ?_, ?_⟩
        · obtain ⟨c4, rfl, _, y2, _⟩ := z
          exact y2
        · rintro j x σ hh hx ⟨c4, rfl, y1, y2, y3, y4, y5, _⟩
          obtain ⟨s, hs, rfl⟩ := map_at hx
          have il : j < rs.length := by rw [ri.len]; exact (List.getElem?_eq_some_iff.mp hs).1
          have ey : rs[j]? = some rs[j] := List.getElem?_eq_getElem il
          generalize rs[j] = y at ey
          have es : s = y.1 := by
            have : (rs.map (·.1))[j]? = some y.1 := by rw [List.getElem?_map, ey]; rfl
            rw [ri.nm, hs] at this
            exact Option.some.inj this
          subst es
          have ndc : ((cutP (fun k => decide (6 < mst (SZ rs) k)) j rs).map (·.1)).Nodup := by rw [cutP_nm]; exact ri.nodup
          rw [cutP_at ey] at y1 ndc
          simp [b7_law_rules]
          rw [ix_dct y1, encRs_at ndc]
          refine ⟨rfl, ?_⟩
          dsimp only
          refine most_ok 4 y.2 (by have := (ri.wf j y ey).1; omega) (n + 1) ps sz hh _ _ y3 fun h4 x4 => ?_
          rw [eS]
          by_cases z : 6 < mst (SZ rs) y.2
          · rw [cmp_gt, decide_eq_true (by omega)]
            simp [b8_law_rules, LINE]
            rw [set_dct (x4 _ _ y1)]
            refine ⟨rfl, ?_, ?_⟩
            · have e9 := cutR_len (fun k => decide (6 < mst (SZ rs) k)) (rs.take j)
              have e8 : rs.length ≤ 6 := by rw [ri.len]; exact l6
              simp [encRs, LINE, e9]
              omega
            · have key := kvPut_rs (k := .one) ndc
              rw [show D.tup [D.str s_one] = encK .one from rfl, key]
              refine ⟨_, rfl, ?_, by rw [up_ne q1r]; exact x4 _ _ y2, by rw [up_ne sr.symm]; exact x4 _ _ y3, (y4.ext x4).ke (fun z => rp z.symm) .put, (y5.trans x4.ke).mut h0r .put, h0r⟩
              rw [up_same, cutP_next ey, if_pos (by simpa using z)]
          · rw [cmp_gt, decide_eq_false (by omega)]
            dsimp only
            refine ⟨_, rfl, ?_, x4 _ _ y2, x4 _ _ y3, y4.ext x4, y5.trans x4.ke, h0r⟩
            rw [cutP_next ey, if_neg (by simpa using z)]
            exact x4 _ _ y1
        · rintro σ hh ⟨c4, rfl, y1, y2, y3, y4, y5, _⟩
          rw [List.length_map, ← ri.len, cutP_len] at y1
          refine ⟨cutS rs, _, _, _, rfl, y1, y2, y4, y5, h0r, ri.cut _, ce.cut _, ?_⟩
          rcases Classical.em (good6 rs) with gg | gg
          · rw [cutS_good gg]; exact .inl gg
          · have := cutS_less gg
            have := g.resolve_left gg
            exact .inr (by omega)
      · rintro σ hh ⟨rs, c4, c5, c7, rfl, y1, y2, y4, y5, _, ri, ce, g⟩
        simp [b9_law_rules]
        refine k ts rs qr hh h0r y1 ⟨ri, by rw [ri.len]; exact l6, ?_, W, ce⟩ y4 y5
        rcases g with g | g
        · exact g
        · exact cnt_0 (by simp at g; omega)
/-- what kinds are drawn -/
structure KGood (ts : List Sx) (rs : Rs) (k : Kd) : Prop where
  dp : k.dp ≤ 3
  bw : Bw (· ∈ ts) (· ∈ ts) k
  m6 : mst (SZ rs) k ≤ 6
  w20 : wst (wF (widesL rs)) k ≤ 20
theorem encRs_nm {ts : List Sx} {rs : Rs} (ri : RI ts rs) : (encRs rs).map (·.1) = ts.map .str := by
  rw [← ri.nm]
  unfold encRs
  rw [List.map_map, List.map_map]
  rfl
theorem any_kind_ok {n p q : Nat} {ts : List Sx} {rs : Rs} {h : AH} {Q : VQ} {X : XP} (hd : IsDeck p h) (rg : RGood ts rs) (hq : h q = some (.dct 0 (encRs rs)))
    (k : ∀ kd h', KGood ts rs kd → IsDeck p h' → Ke p h h' → Q (encK kd) h') : run P (n + 7) s__law_any_kind [.ref p, .ref q] h Q X := by
  refine run_of (fd := fd_law_any_kind) rfl rfl ?_
  simp [fd_law_any_kind, start, b0_law_any_kind]
  rw [aDctR_eq hq]
  intro r1 hr1
  rw [aDctR_eq (by rw [up_ne (ne_new hq hr1)]; exact hq)]
  intro r2 hr2
  have qp : q ≠ p := not_deck hd hq
  have e1 : (up (up h r1 (.lst ((encRs rs).map (·.1)))) r2 (.lst ((encRs rs).map (·.1)))) r1 = some (.lst (ts.map .str)) := by
    have : r1 ≠ r2 := ne_new up_same hr2
    rw [up_ne this, up_same, encRs_nm rg.ri]
  refine kind_ok 3 (n + 1) p r1 r2 ts ts _ _ _ ((hd.put hr1).put hr2) e1 (by rw [up_same, encRs_nm rg.ri]) fun kd h1 hk d1 k1 => ?_
  have x0 : Ext h (up (up h r1 (.lst ((encRs rs).map (·.1)))) r2 (.lst ((encRs rs).map (·.1)))) := (Ext.new hr1).trans (Ext.new hr2)
  have ke1 : Ke p h h1 := x0.ke.trans k1
  have hq1 : h1 q = some (.dct 0 (encRs rs)) := ke1 _ _ qp hq
  refine sizes_ok (n := n + 1) rg.ri.nodup rg.l6 rg.ri.dp3 hq1 fun sz ps h2 hps x2 es eS => ?_
  refine most_ok 4 kd (by have := hk.1; omega) (n + 1) ps sz h2 _ _ es fun h3 x3 => ?_
  rw [eS, cmp_gt]
  have name : ∀ (R : Ends) (h' : AH), R.rt = Q → Ext h1 h' → wSs ⟨run P (n + 6), X⟩ b1_law_any_kind R [some (.ref p), some (.ref q), some (encK kd)] h' := fun R h' hR x' => by
    simp [b1_law_any_kind, hR, LINE]
    exact k .name h' ⟨Nat.zero_le _, trivial, by show 1 ≤ 6; omega, by show 1 ≤ 20; omega⟩ (d1.ext x') (ke1.trans x'.ke)
  by_cases z : 6 < mst (SZ rs) kd
  · rw [decide_eq_true (by omega)]
    dsimp only
    exact name _ _ rfl (x2.trans x3)
  · rw [decide_eq_false (by omega)]
    dsimp only
    refine wides_ok (n := n + 1) rg.ri rg.l6 (x3 _ _ (x2 _ _ hq1)) fun pw h4 hpw x4 ew => ?_
    have bw : Bw (· ∈ (widesL rs).map (·.1)) (· ∈ (widesL rs).map (·.1)) kd := hk.2.mono (fun s hs => by rw [widesL_nm, List.mem_reverse, rg.ri.nm]; exact hs) (fun s hs => by rw [widesL_nm, List.mem_reverse, rg.ri.nm]; exact hs)
    refine widest_ok 4 kd (by have := hk.1; omega) (n + 1) pw (widesL rs) h4 _ _ ew bw fun h5 x5 => ?_
    rw [cmp_gt]
    have xx : Ext h1 h5 := ((x2.trans x3).trans x4).trans x5
    by_cases z2 : 20 < wst (wF (widesL rs)) kd
    · rw [decide_eq_true (by omega)]
      dsimp only
      exact name _ _ rfl xx
    · rw [decide_eq_false (by omega)]
      simp [b2_law_any_kind]
      exact k kd h5 ⟨hk.1, hk.2, by omega, by omega⟩ (d1.ext xx) (ke1.trans xx.ke)
/-! ### tops -/
def isRule : Kd → Bool
  | .rule _ => true
  | _ => false
def kword : Kd → Sx
  | .one => s_one
  | .name => s_name
  | .none => s_none
  | .node _ => s_node
  | .sum _ _ => s_sum
  | .pair _ _ => s_pair
  | .rule _ => s_rule
theorem ix0 {k : Kd} {h : AH} {Q : VQ} : opIx (encK k) (.int 0) h Q = Q (.str (kword k)) h := by
  cases k <;> simp [encK, kword, atI]
theorem kword_rule (k : Kd) : decide (kword k = s_rule) = isRule k := by cases k <;> rfl
def tp (rs : Rs) : Nat → Kd → Option Kd
  | 0, k => if isRule k = true then none else some k
  | m + 1, .rule s => (rs.lookup s).bind (tp rs m)
  | _ + 1, k => some k
theorem tp_not {rs : Rs} {m : Nat} {k : Kd} (h : isRule k = false) : tp rs m k = some k := by
  cases m with
  | zero => unfold tp; rw [h]; rfl
  | succ m => cases k <;> first | rfl | cases h
/-- the rules lie there, perhaps walked along -/
def RD (q : Nat) (rs : Rs) (h : AH) : Prop := h q = some (.dct 0 (encRs rs)) ∨ h q = some (.rdct 0 (encRs rs))
theorem RD.of {q : Nat} {rs : Rs} {h : AH} (e : h q = some (.dct 0 (encRs rs))) : RD q rs h := .inl e
theorem RD.ext {q : Nat} {rs : Rs} {h h' : AH} (r : RD q rs h) (x : Ext h h') : RD q rs h' := r.imp (x _ _) (x _ _)
theorem RD.ix {q : Nat} {rs : Rs} {h : AH} (r : RD q rs h) {y : D} {Q : VQ} : opIx (.ref q) y h Q = (keyOk 0 y = true ∧ match kvGet (encRs rs) y with
    | some d => Q d h
    | none => False) := by
  rcases r with e | e
  · exact ix_dct e
  · exact ix_rdct e
theorem top_body {C : Cx} {q m : Nat} {rs : Rs} {k k0 : Kd} {h : AH} {Q : VQ} (hq : RD q rs h) (e : tp rs m k = some k0) (hQ : Q (encK k0) h) : wSs C b0_law_top (RT Q) [some (.ref q), some (encK k)] h := by
  simp only [b0_law_top, wSs_cons]
  simp only [wS]
  refine ⟨fun m σ h' => h' = h ∧ ∃ k, σ = [some (.ref q), some (encK k)] ∧ tp rs m k = some k0, ⟨m, rfl, k, rfl, e⟩, ?_⟩
  rintro m σ h' ⟨rfl, k, rfl, e⟩
  simp [ix0, kword_rule]
  cases z : isRule k with
  | false =>
    rw [tp_not z] at e
    cases e
    simp [b2_law_top]
    exact hQ
  | true =>
    cases k <;> try (cases z; done)
    rename_i s
    cases m with
    | zero => cases e
    | succ m =>
      simp only [tp] at e
      cases z2 : rs.lookup s with
      | none => rw [z2] at e; cases e
      | some k2 =>
        rw [z2] at e
        simp [b1_law_top, encK, atI]
        rw [hq.ix, kvGet_rs, z2]
        exact ⟨rfl, m, by omega, rfl, k2, rfl, e⟩
theorem top_ok {n q m : Nat} {rs : Rs} {k k0 : Kd} {h : AH} {Q : VQ} {X : XP} (hq : RD q rs h) (e : tp rs m k = some k0) (hQ : Q (encK k0) h) : run P (n + 1) s__law_top [.ref q, encK k] h Q X :=
  run_of (fd := fd_law_top) rfl rfl (top_body hq e hQ)
theorem SZ_fix {rs : Rs} (nd : (rs.map (·.1)).Nodup) (s : Sx) : SZ rs s = (rs.lookup s).bind (lst (SZ rs)) := by
  have := congrFun (it_settle nd) s
  unfold SZ
  rw [← this]
  rfl
/-! ### things -/
inductive Th where
  | one | a (i : Int) | n (t : Th) | l (t : Th) | r (t : Th) | p (t u : Th)
def encT : Th → D
  | .one => .tup []
  | .a i => .tup [.str s_a, .int i]
  | .n t => .tup [.str s_n, encT t]
  | .l t => .tup [.str s_l, encT t]
  | .r t => .tup [.str s_r, encT t]
  | .p t u => .tup [.str s_p, encT t, encT u]
def tdp : Th → Nat
  | .n t => tdp t + 1
  | .l t => tdp t + 1
  | .r t => tdp t + 1
  | .p t u => max (tdp t) (tdp u) + 1
  | _ => 0
def tsz : Th → Nat
  | .one => 0
  | .a _ => 1
  | .n t => tsz t + 1
  | .l t => tsz t
  | .r t => tsz t
  | .p t u => tsz t + tsz u
/-- a thing of a kind -/
inductive Is (rs : Rs) : Th → Kd → Prop where
  | one : Is rs .one .one
  | a {i : Int} (h0 : 0 ≤ i) (h1 : i ≤ 1000000000) : Is rs (.a i) .name
  | n {t k} (h : Is rs t k) : Is rs (.n t) (.node k)
  | l {t x y} (h : Is rs t x) : Is rs (.l t) (.sum x y)
  | r {t x y} (h : Is rs t y) : Is rs (.r t) (.sum x y)
  | p {t u x y} (h : Is rs t x) (g : Is rs u y) : Is rs (.p t u) (.pair x y)
  | rule {t s k} (e : rs.lookup s = some k) (h : Is rs t k) : Is rs t (.rule s)
/-- what holds of all kinds that are met -/
def KK (rs : Rs) (W : Sx → Nat) (k : Kd) : Prop := mst (SZ rs) k ≤ 6 ∧ wst W k ≤ 20
theorem KK.part {rs : Rs} {W : Sx → Nat} {k a : Kd} (h : KK rs W k) (ha : a ∈ kparts k) : KK rs W a := by
  have h1 := (most_max (SZ rs) k).2.1 _ (List.mem_map.mpr ⟨a, ha, rfl⟩)
  have h2 := (wst_max W k).2.1 _ (List.mem_map.mpr ⟨a, ha, rfl⟩)
  exact ⟨Nat.le_trans h1 h.1, Nat.le_trans h2 h.2⟩
theorem KK.rule {ts : List Sx} {rs : Rs} {W : Sx → Nat} (rg : RGood ts rs) (ce : Cert W rs) {s : Sx} {k : Kd} (e : rs.lookup s = some k) : KK rs W k := ⟨rg.g6 (s, k) (lookup_in e), ce.wd20 (s, k) (lookup_in e)⟩
theorem KK.le6 {rs : Rs} {W : Sx → Nat} {k : Kd} (h : KK rs W k) {L : Nat} (e : lst (SZ rs) k = some L) : L ≤ 6 := by
  have := (most_max (SZ rs) k).1
  rw [e] at this
  exact Nat.le_trans this h.1
theorem top_ex {ts : List Sx} {rs : Rs} {W : Sx → Nat} (rg : RGood ts rs) (ce : Cert W rs) : ∀ (m i d : Nat) (k : Kd), ts.length - i < m → i ≤ ts.length → k.dp ≤ d → d ≤ 3 → Bw (· ∈ ts.drop i) (· ∈ ts) k →
    ∃ k0 i' d', tp rs m k = some k0 ∧ isRule k0 = false ∧ i' ≤ ts.length ∧ k0.dp ≤ d' ∧ d' ≤ 3 ∧ Bw (· ∈ ts.drop i') (· ∈ ts) k0 ∧ 3 * (6 - i') + d' ≤ 3 * (6 - i) + d ∧ lst (SZ rs) k0 = lst (SZ rs) k ∧ (KK rs W k → KK rs W k0) ∧ ∀ t, Is rs t k0 → Is rs t k := by
  intro m
  induction m with
  | zero => intro i d k h; omega
  | succ m ih =>
    intro i d k hm hi hd d3 bw
    cases z : isRule k with
    | false => exact ⟨k, i, d, tp_not z, z, hi, hd, d3, bw, Nat.le_refl _, rfl, id, fun _ => id⟩
    | true =>
      cases k <;> try (cases z; done)
      rename_i s
      have hs : s ∈ ts.drop i := bw
      obtain ⟨j, hj⟩ := List.getElem?_of_mem hs
      rw [List.getElem?_drop] at hj
      have lj : i + j < ts.length := (List.getElem?_eq_some_iff.mp hj).1
      have l6 := rg.l6
      have le := rg.ri.len
      have hr : ∃ y, rs[i + j]? = some y := ⟨_, List.getElem?_eq_getElem (by omega)⟩
      obtain ⟨y, hy⟩ := hr
      have ey : y.1 = s := by
        have : (rs.map (·.1))[i + j]? = some y.1 := by rw [List.getElem?_map, hy]; rfl
        rw [rg.ri.nm, hj] at this
        exact (Option.some.inj this).symm
      have lk : rs.lookup s = some y.2 := by rw [← ey]; exact lookup_mem rg.ri.nodup (List.mem_of_getElem? hy)
      obtain ⟨w1, w2⟩ := rg.ri.wf (i + j) y hy
      obtain ⟨k0, i', d', a1, a2, a3, a4, a5, a6, a7, a8, a9, a10⟩ := ih (i + j + 1) 3 y.2 (by omega) (by omega) w1 (Nat.le_refl _) w2
      refine ⟨k0, i', d', ?_, a2, a3, a4, a5, a6, by omega, ?_, fun _ => a9 (KK.rule rg ce lk), fun t ht => .rule lk (a10 t ht)⟩
      · simp only [tp, lk]; exact a1
      · rw [a8]
        show _ = SZ rs s
        rw [SZ_fix rg.ri.nodup, lk]
        rfl
/-! ### how great, how deep -/
/-- all its nodes -/
def tno : Th → Nat
  | .one => 1
  | .a _ => 1
  | .n t => tno t + 1
  | .l t => tno t + 1
  | .r t => tno t + 1
  | .p t u => tno t + tno u + 1
/-- its ends -/
def tlv : Th → Nat
  | .n t => tlv t
  | .l t => tlv t
  | .r t => tlv t
  | .p t u => tlv t + tlv u
  | _ => 1
def tnd : Th → Nat
  | .n t => tnd t + 1
  | .l t => tnd t
  | .r t => tnd t
  | .p t u => tnd t + tnd u
  | _ => 0
def tkids : Th → List Th
  | .n t => [t]
  | .l t => [t]
  | .r t => [t]
  | .p t u => [t, u]
  | _ => []
def own (t : Th) : Nat := match t with
  | .a _ => 1
  | .n _ => 1
  | _ => 0
def isA : Th → Bool
  | .a _ => true
  | _ => false
def isN : Th → Bool
  | .n _ => true
  | _ => false
theorem tlv_pos : ∀ t : Th, 1 ≤ tlv t
  | .one => Nat.le_refl 1
  | .a _ => Nat.le_refl 1
  | .n t => tlv_pos t
  | .l t => tlv_pos t
  | .r t => tlv_pos t
  | .p t u => Nat.le_add_right_of_le (tlv_pos t)
theorem tnd_le : ∀ t : Th, tnd t ≤ tsz t
  | .one => Nat.le_refl 0
  | .a _ => Nat.zero_le _
  | .n t => Nat.succ_le_succ (tnd_le t)
  | .l t => tnd_le t
  | .r t => tnd_le t
  | .p t u => Nat.add_le_add (tnd_le t) (tnd_le u)
theorem leaves_ok {rs : Rs} {ts : List Sx} {W : Sx → Nat} (rg : RGood ts rs) (ce : Cert W rs) {t : Th} {k : Kd} (h : Is rs t k) : KK rs W k → tlv t ≤ wd W k + 20 * tnd t := by
  induction h with
  | one => intro _; show 1 ≤ 1; omega
  | a _ _ => intro _; show 1 ≤ 1; omega
  | @n t k h ih =>
    intro kk
    have kp := kk.part (a := k) (by simp [kparts])
    have := ih kp
    have h2 := (wst_max W k).1
    have h3 := kp.2
    simp only [tlv, tnd, wd]
    omega
  | @l t x y h ih =>
    intro kk
    have := ih (kk.part (a := x) (by simp [kparts]))
    simp only [tlv, tnd, wd]
    omega
  | @r t x y h ih =>
    intro kk
    have := ih (kk.part (a := y) (by simp [kparts]))
    simp only [tlv, tnd, wd]
    omega
  | @p t u x y h g ih1 ih2 =>
    intro kk
    have := ih1 (kk.part (a := x) (by simp [kparts]))
    have := ih2 (kk.part (a := y) (by simp [kparts]))
    simp only [tlv, tnd, wd]
    omega
  | @rule t s k e h ih =>
    intro kk
    have := ih (KK.rule rg ce e)
    have h2 : wd W k ≤ W s := ce.le (s, k) (lookup_in e)
    simp only [wd]
    omega
/-- what a thing's first sign says -/
def hd1 (t : Th) : List D := match t with
  | .one => []
  | .a _ => [.str s_a]
  | .n _ => [.str s_n]
  | .l _ => [.str s_l]
  | .r _ => [.str s_r]
  | .p _ _ => [.str s_p]
theorem slw_hd {t : Th} {h : AH} {Q : VQ} : opSlW (encT t) none (some 1) h Q = Q (.tup (hd1 t)) h := by
  cases t <;> simp [encT, hd1, cut, clip]
theorem slw_tl {t : Th} {h : AH} {Q : VQ} : opSlW (encT t) (some 1) none h Q = match t with
    | .a i => Q (.tup [.int i]) h
    | t => Q (.tup ((tkids t).map encT)) h := by
  cases t <;> simp [encT, tkids, cut, clip]
theorem hd_n {t : Th} {h : AH} {q : Bool → Prop} : eqOkX (.tup (hd1 t)) (.tup [.str s_n]) h q = eqOkX (.tup (hd1 t)) (.tup [.str s_n]) h q := rfl
theorem eqX_hd {t : Th} {w : Sx} {h : AH} {q : Bool → Prop} (k : q (decide (hd1 t = [.str w]))) : eqOkX (.tup (hd1 t)) (.tup [.str w]) h q := by
  refine eq_pureX ?_ (by simp [pureD, pureDs]) (.inr (by simp [plain, plains])) (by simpa using k)
  cases t <;> simp [hd1, pureD, pureDs]
theorem ne_hd {t : Th} {w : Sx} {h : AH} {q : Bool → Prop} (k : q (decide (hd1 t = [.str w]))) : eqOk (.tup (hd1 t)) (.tup [.str w]) h q := by
  refine eq_pure ?_ (by simp [pureD, pureDs]) (.inr (by simp [plain, plains])) (by simpa using k)
  cases t <;> simp [hd1, pureD, pureDs]
theorem hd_isN (t : Th) : decide (hd1 t = [.str s_n]) = isN t := by cases t <;> simp [hd1, isN]
theorem hd_isA (t : Th) : decide (hd1 t = [.str s_a]) = isA t := by cases t <;> simp [hd1, isA]
def sumT (f : Th → Nat) (ts : List Th) : Nat := (ts.map f).sum
theorem tsz_own (t : Th) : tsz t = own t + sumT tsz (tkids t) := by cases t <;> simp [tsz, own, tkids, sumT]; omega
theorem tno_own (t : Th) : tno t = 1 + sumT tno (tkids t) := by cases t <;> simp [tno, tkids, sumT] <;> omega
theorem tlv_kids (t : Th) : sumT tlv (tkids t) ≤ tlv t := by cases t <;> simp [tlv, tkids, sumT]
theorem tkids_dp {t u : Th} (h : u ∈ tkids t) : tdp u + 1 ≤ tdp t := by
  cases t <;> simp [tkids] at h
  · subst h; simp [tdp]
  · subst h; simp [tdp]
  · subst h; simp [tdp]
  · rcases h with rfl | rfl <;> simp only [tdp] <;> omega
theorem sumT_app (f : Th → Nat) (a b : List Th) : sumT f (a ++ b) = sumT f a + sumT f b := by simp [sumT]
/-- a pile: the deeper, the lower -/
def Pile (d : Nat) (ts : List Th) : Prop := ∀ (i : Nat) t, ts[i]? = some t → i + tdp t ≤ d
theorem Pile.len {d : Nat} {ts : List Th} (h : Pile d ts) : ts.length ≤ d + 1 := by
  by_cases z : ts.length = 0
  · omega
  · have e : ts[ts.length - 1]? = some (ts[ts.length - 1]'(by omega)) := List.getElem?_eq_getElem _
    have := h _ _ e
    omega
theorem Pile.pop {d : Nat} {ts : List Th} {t : Th} (h : Pile d (ts ++ [t])) : Pile d (ts ++ tkids t) := by
  have ht := h ts.length t (by simp)
  intro i u e
  by_cases l : i < ts.length
  · rw [List.getElem?_append_left l] at e
    exact h i u (by rw [List.getElem?_append_left l]; exact e)
  · rw [List.getElem?_append_right (by omega)] at e
    have hu := tkids_dp (List.mem_of_getElem? e)
    have l2 := (List.getElem?_eq_some_iff.mp e).1
    have : (tkids t).length ≤ 2 := by cases t <;> simp [tkids]
    cases t <;> simp [tkids] at l2 hu e ht ⊢ <;> omega
theorem Pile.base {d : Nat} {ts : List Th} {t : Th} (h : Pile d (ts ++ [t])) : Pile d ts := fun i u e => h i u (by rw [List.getElem?_append_left (List.getElem?_eq_some_iff.mp e).1]; exact e)
/-! ### their data -/
theorem encT_PP : ∀ t : Th, PP (tdp t + 1) (encT t)
  | .one => ⟨by simp [encT, pureD, pureDs], by simp [encT, plain, plains]⟩
  | .a i => ⟨by simp [encT, pureD, pureDs], by simp [encT, plain, plains]⟩
  | .n t => PP.tup fun d hd => by
    simp at hd
    rcases hd with rfl | rfl
    · exact PP.str
    · exact encT_PP t
  | .l t => PP.tup fun d hd => by
    simp at hd
    rcases hd with rfl | rfl
    · exact PP.str
    · exact encT_PP t
  | .r t => PP.tup fun d hd => by
    simp at hd
    rcases hd with rfl | rfl
    · exact PP.str
    · exact encT_PP t
  | .p t u => PP.tup fun d hd => by
    simp at hd
    rcases hd with rfl | rfl | rfl
    · exact PP.str
    · exact (encT_PP t).mono (by simp only [tdp]; omega)
    · exact (encT_PP u).mono (by simp only [tdp]; omega)
theorem atI_mem {xs : List D} {i : Int} (h0 : 0 ≤ i) (h1 : i < xs.length) : ∃ d ∈ xs, atI xs i = some d := by
  refine ⟨xs[i.toNat]'(by omega), List.getElem_mem _, ?_⟩
  unfold atI
  rw [if_pos h0, List.getElem?_eq_getElem (by omega)]
/-! ### where a kind leads -/
theorem top_ri {ts : List Sx} {rs : Rs} (ri : RI ts rs) (l6 : ts.length ≤ 6) : ∀ (m i : Nat) (k : Kd), ts.length - i < m → Bw (· ∈ ts.drop i) (· ∈ ts) k → ∃ k0, tp rs m k = some k0 ∧ isRule k0 = false ∧ Bw (· ∈ ts) (· ∈ ts) k0 ∧ ∀ t, Is rs t k ↔ Is rs t k0 := by
  intro m
  induction m with
  | zero => intro i k h; omega
  | succ m ih =>
    intro i k hm bw
    cases z : isRule k with
    | false => exact ⟨k, tp_not z, z, bw.mono (fun s hs => List.mem_of_mem_drop hs) fun _ h => h, fun _ => Iff.rfl⟩
    | true =>
      cases k <;> try (cases z; done)
      rename_i s
      have hs : s ∈ ts.drop i := bw
      obtain ⟨j, hj⟩ := List.getElem?_of_mem hs
      rw [List.getElem?_drop] at hj
      have lj : i + j < ts.length := (List.getElem?_eq_some_iff.mp hj).1
      have le := ri.len
      obtain ⟨y, hy⟩ : ∃ y, rs[i + j]? = some y := ⟨_, List.getElem?_eq_getElem (by omega)⟩
      have ey : y.1 = s := by
        have : (rs.map (·.1))[i + j]? = some y.1 := by rw [List.getElem?_map, hy]; rfl
        rw [ri.nm, hj] at this
        exact (Option.some.inj this).symm
      have lk : rs.lookup s = some y.2 := by rw [← ey]; exact lookup_mem ri.nodup (List.mem_of_getElem? hy)
      obtain ⟨k0, a1, a2, a3, a4⟩ := ih (i + j + 1) y.2 (by omega) (ri.wf (i + j) y hy).2
      refine ⟨k0, by simp only [tp, lk]; exact a1, a2, a3, fun t => ⟨fun h => ?_, fun h => .rule lk ((a4 t).mpr h)⟩⟩
      cases h with
      | rule e h =>
        rw [lk] at e
        cases e
        exact (a4 t).mp h
/-- kinds that are met: each has a top, its parts are met too -/
structure TR (rs : Rs) (C : Kd → Prop) : Prop where
  top : ∀ k, C k → ∃ k0, tp rs 12 k = some k0 ∧ isRule k0 = false ∧ C k0 ∧ ∀ t, Is rs t k ↔ Is rs t k0
  part : ∀ k a, C k → a ∈ kparts k → C a
  dp : ∀ k, C k → k.dp ≤ 20
noncomputable def tk0 (rs : Rs) (k : Kd) : Kd := (tp rs 12 k).getD k
theorem tk0_ok {rs : Rs} {C : Kd → Prop} (tr : TR rs C) {k : Kd} (w : C k) : tp rs 12 k = some (tk0 rs k) ∧ isRule (tk0 rs k) = false ∧ C (tk0 rs k) ∧ ∀ t, Is rs t k ↔ Is rs t (tk0 rs k) := by
  obtain ⟨k0, a1, a2, a3, a4⟩ := tr.top k w
  unfold tk0
  rw [a1]
  exact ⟨rfl, a2, a3, a4⟩
theorem tp_keep {C : Kd → Prop} {rs : Rs} (hr : ∀ s k, rs.lookup s = some k → C k) : ∀ (m : Nat) (k k0 : Kd), tp rs m k = some k0 → C k → C k0
  | 0, k, k0, e, c => by
    unfold tp at e
    split at e
    · cases e
    · cases e; exact c
  | m + 1, k, k0, e, c => by
    cases k with
    | rule s =>
      simp only [tp] at e
      cases z : rs.lookup s with
      | none => rw [z] at e; cases e
      | some k2 => rw [z] at e; exact tp_keep hr m k2 k0 e (hr s k2 z)
    | _ => rw [tp_not rfl] at e; cases e; exact c
/-- kinds of drawn rules -/
def W3 (ts : List Sx) (k : Kd) : Prop := Bw (· ∈ ts) (· ∈ ts) k ∧ k.dp ≤ 3
theorem tr_ri {ts : List Sx} {rs : Rs} (ri : RI ts rs) (l6 : ts.length ≤ 6) : TR rs (W3 ts) := by
  refine ⟨fun k w => ?_, fun k a w h => ⟨Bw.part w.1 h, Nat.le_trans (Nat.le_of_succ_le (kparts_dp h)) w.2⟩, fun k w => Nat.le_trans w.2 (by decide)⟩
  obtain ⟨k0, a1, a2, a3, a4⟩ := top_ri ri l6 12 0 k (by omega) (by rw [List.drop_zero]; exact w.1)
  exact ⟨k0, a1, a2, ⟨a3, tp_keep (C := fun k => k.dp ≤ 3) (fun s k e => ri.dp3 (s, k) (lookup_in e)) 12 k k0 a1 w.2⟩, a4⟩
/-! ### any data taken for things -/
theorem eqX_ps {x : D} {w : Sx} {h : AH} {q : Bool → Prop} (px : pureD x = true) : eqOkX x (.str w) h q = q (decide (x = .str w)) := by
  apply propext
  constructor
  · rintro (e | ⟨r, e, _⟩)
    · cases x <;> simp [pureD] at px <;> first
        | exact e.2.2.2
    · rcases e with ⟨xs, ys, _, z, _⟩ | ⟨p, q, xs, ys, _, z, _⟩ | ⟨p, q, kvs, kws, r', _, z, _⟩ <;> cases z
  · intro k
    exact eq_pureX px (by simp [pureD]) (.inr (by simp [plain])) k
theorem eq_ps {x : D} {w : Sx} {h : AH} {q : Bool → Prop} (px : pureD x = true) : eqOk x (.str w) h q = q (decide (x = .str w)) := by
  apply propext
  constructor
  · intro e
    cases x <;> simp [pureD] at px <;> exact e.2.2.2
  · intro k
    exact eq_pure px (by simp [pureD]) (.inr (by simp [plain])) k
def isTup : D → Bool
  | .tup _ => true
  | _ => false
def isInt : D → Bool
  | .int _ => true
  | _ => false
theorem isi_pt {x : D} {h : AH} (px : pureD x = true) : opIsi x .tuple h = some (isTup x) := by cases x <;> simp [pureD] at px <;> rfl
theorem isi_pi {x : D} {h : AH} (px : pureD x = true) : opIsi x .int h = some (isInt x) := by cases x <;> simp [pureD] at px <;> rfl
noncomputable def named : List D → Bool
  | [x, .int i] => decide (x = .str s_a) && (decide (0 ≤ i) && decide (i ≤ 1000000000))
  | _ => false
noncomputable def plc : Kd → D → Option (List (Kd × D))
  | .one, .tup [] => some []
  | .name, .tup xs => if named xs = true then some [] else none
  | .node x, .tup [w, t] => if w = .str s_n then some [(x, t)] else none
  | .sum x y, .tup [w, t] => if w = .str s_l then some [(x, t)] else if w = .str s_r then some [(y, t)] else none
  | .pair x y, .tup [w, t, u] => if w = .str s_p then some [(x, t), (y, u)] else none
  | _, _ => none
def encP (x : Kd × D) : D := .tup [encK x.1, x.2]
/-- what an answer of places is -/
def PlQ (l : Option (List (Kd × D))) (h : AH) (Q : VQ) : Prop := (l = none → ∀ h', Ext h h' → Q .non h') ∧ ∀ ps, l = some ps → ∀ r h', h r = none → Ext h h' → h' r = some (.lst (ps.map encP)) → Q (.ref r) h'
/-! ### is it a thing -/
mutual
def dsz : D → Nat
  | .tup ds => dszs ds + 1
  | _ => 1
def dszs : List D → Nat
  | [] => 0
  | d :: ds => dsz d + dszs ds
end
theorem dsz_pos (d : D) : 1 ≤ dsz d := by cases d <;> simp [dsz]
theorem plc_ps {k : Kd} {d : D} {l : List (Kd × D)} (h : plc k d = some l) : ∃ xs, d = .tup xs ∧ l.length ≤ 2 ∧ (∀ x ∈ l, x.1 ∈ kparts k ∧ x.2 ∈ xs) ∧ (l.map fun x => dsz x.2).sum < dsz d := by
  unfold plc at h
  split at h
  · simp at h; subst h; exact ⟨[], rfl, by simp, by simp, by simp [dsz]⟩
  · split at h
    · simp at h; subst h; exact ⟨_, rfl, by simp, by simp, by simp [dsz]⟩
    · cases h
  · split at h
    · simp at h; subst h; exact ⟨_, rfl, by simp, by simp [kparts], by simp [dsz, dszs]; omega⟩
    · cases h
  · split at h
    · simp at h; subst h; exact ⟨_, rfl, by simp, by simp [kparts], by simp [dsz, dszs]; omega⟩
    · split at h
      · simp at h; subst h; exact ⟨_, rfl, by simp, by simp [kparts], by simp [dsz, dszs]; omega⟩
      · cases h
  · split at h
    · simp at h; subst h; exact ⟨_, rfl, by simp, by simp [kparts], by simp [dsz, dszs]; omega⟩
    · cases h
  · cases h
noncomputable def isF (rs : Rs) : Nat → List (Kd × D) → Bool
  | 0, _ => true
  | _ + 1, [] => true
  | m + 1, x :: S => match plc (tk0 rs x.1) x.2 with
    | none => false
    | some l => isF rs m (l.reverse ++ S)
/-- what lies on the pile: all kinds are met, all data plain, less deep the higher -/
def StOk (C : Kd → Prop) (N : Nat) (S : List (Kd × D)) : Prop := ∀ (i : Nat) x, S.reverse[i]? = some x → C x.1 ∧ ∃ m, PP m x.2 ∧ i + m ≤ N
theorem StOk.len {C : Kd → Prop} {N : Nat} {S : List (Kd × D)} (h : StOk C N S) : S.length ≤ N + 1 := by
  by_cases z : S.length = 0
  · omega
  · have e : S.reverse[S.length - 1]? = some (S.reverse[S.length - 1]'(by simp; omega)) := List.getElem?_eq_getElem _
    obtain ⟨_, m, _, l⟩ := h _ _ e
    omega
theorem StOk.tail {C : Kd → Prop} {N : Nat} {x : Kd × D} {S : List (Kd × D)} (h : StOk C N (x :: S)) : StOk C N S := fun i y e => h i y (by
  rw [List.reverse_cons, List.getElem?_append_left (List.getElem?_eq_some_iff.mp e).1]
  exact e)
theorem PP_item {m : Nat} {xs : List D} {x : D} (h : PP m (.tup xs)) (hx : x ∈ xs) : ∃ m', m = m' + 1 ∧ PP m' x := by
  obtain ⟨h1, h2⟩ := h
  cases m with
  | zero => simp [plain] at h2
  | succ m =>
    refine ⟨m, rfl, ?_⟩
    simp only [pureD] at h1
    simp only [plain] at h2
    have : ∀ (l : List D), pureDs l = true → plains m l = true → x ∈ l → PP m x := fun l => by
      induction l with
      | nil => intro _ _ h; cases h
      | cons y r ih =>
        intro a b hm
        simp only [pureDs, plains, Bool.and_eq_true] at a b
        rcases List.mem_cons.mp hm with e | hm
        · subst e; exact ⟨a.1, b.1⟩
        · exact ih a.2 b.2 hm
    exact this xs h1 h2 hx
theorem StOk.step {rs : Rs} {C : Kd → Prop} (tr : TR rs C) {N : Nat} {x : Kd × D} {S l : List (Kd × D)} (h : StOk C N (x :: S)) (e : plc (tk0 rs x.1) x.2 = some l) : StOk C N (l.reverse ++ S) := by
  obtain ⟨xs, ed, l2, hl, _⟩ := plc_ps e
  have hx := h S.length x (by rw [List.reverse_cons, List.getElem?_append_right (by simp)]; simp)
  obtain ⟨wk, m, pp, le⟩ := hx
  have w0 := (tk0_ok tr wk).2.2.1
  intro i y ey
  rw [List.reverse_append, List.reverse_reverse] at ey
  by_cases c : i < S.reverse.length
  · rw [List.getElem?_append_left c] at ey
    exact h.tail i y ey
  · rw [List.getElem?_append_right (by omega)] at ey
    have hy := List.mem_of_getElem? ey
    obtain ⟨h1, h2⟩ := hl y hy
    rw [ed] at pp
    obtain ⟨m', em, pm⟩ := PP_item pp h2
    have li := (List.getElem?_eq_some_iff.mp ey).1
    simp at c li
    exact ⟨tr.part _ _ w0 h1, m', pm, by omega⟩
def szS (S : List (Kd × D)) : Nat := (S.map fun x => dsz x.2).sum
/-- both loops go this way -/
def IsW (C : Kd → Prop) (rs : Rs) (q p N : Nat) (b : Bool) (k d : D) (h : AH) (m : Nat) (σ : St) (h' : AH) : Prop := ∃ (S : List (Kd × D)) (x y z : Option D), σ = [some (.ref q), some k, some d, some (.ref p), x, y, z] ∧ h' p = some (.lst (S.reverse.map encP)) ∧ Ext h h' ∧ szS S < m ∧ isF rs m S = b ∧ StOk C N S
theorem isF_top {rs : Rs} {m : Nat} {x : Kd × D} {S : List (Kd × D)} : isF rs (m + 1) (x :: S) = match plc (tk0 rs x.1) x.2 with
    | none => false
    | some l => isF rs m (l.reverse ++ S) := rfl
section
variable {rs : Rs} {C : Kd → Prop} (tr : TR rs C)
include tr
theorem is_next {q p N m : Nat} {b : Bool} {k d : D} {h h1 : AH} {u : Kd × D} {S l : List (Kd × D)} {x y z : Option D} (hp : h p = none) (ex : Ext h h1) (ms : szS (u :: S) < m) (hb : isF rs m (u :: S) = b) (so : StOk C N (u :: S)) (el : plc (tk0 rs u.1) u.2 = some l) :
    ∃ m', m' < m ∧ IsW C rs q p N b k d h m' [some (.ref q), some k, some d, some (.ref p), x, y, z] (up h1 p (.lst ((S.map encP).reverse ++ l.map encP))) := by
  obtain ⟨m, rfl⟩ : ∃ m', m = m' + 1 := ⟨m - 1, by omega⟩
  rw [isF_top, el] at hb
  obtain ⟨xs, ed, l2, hl, sz⟩ := plc_ps el
  refine ⟨m, by omega, l.reverse ++ S, x, y, z, rfl, by rw [up_same]; simp, ex.mut hp .put, ?_, hb, so.step tr el⟩
  have e1 : szS (l.reverse ++ S) = (l.map fun x => dsz x.2).sum + szS S := by simp [szS]
  have e2 : szS (u :: S) = dsz u.2 + szS S := by simp [szS]
  omega
theorem is_none {m : Nat} {b : Bool} {u : Kd × D} {S : List (Kd × D)} (ms : szS (u :: S) < m) (hb : isF rs m (u :: S) = b) (el : plc (tk0 rs u.1) u.2 = none) : b = false := by
  obtain ⟨m, rfl⟩ : ∃ m', m = m' + 1 := ⟨m - 1, by omega⟩
  rw [isF_top, el] at hb
  exact hb.symm
/-- things of the kind are such -/
theorem isF_true : ∀ (m : Nat) (S : List (Kd × D)), szS S < m → (∀ x ∈ S, C x.1 ∧ ∃ t, x.2 = encT t ∧ Is rs t x.1) → isF rs m S = true
  | 0, _, _, _ => rfl
  | _ + 1, [], _, _ => rfl
  | m + 1, x :: S, hm, a => by
    obtain ⟨wk, t, e, it⟩ := a x List.mem_cons_self
    obtain ⟨t1, t2, t3, t4⟩ := tk0_ok tr wk
    have it0 := (t4 t).mp it
    have key : ∃ l, plc (tk0 rs x.1) x.2 = some l ∧ ∀ y ∈ l, C y.1 ∧ ∃ u, y.2 = encT u ∧ Is rs u y.1 := by
      rw [e]
      generalize tk0 rs x.1 = k0 at t2 t3 it0
      cases it0 with
      | one => exact ⟨[], rfl, fun y hy => nomatch hy⟩
      | a h0 h1 => exact ⟨[], by simp [plc, encT, named, h0, h1], fun y hy => nomatch hy⟩
      | @n u k h => exact ⟨[(k, encT u)], by simp [plc, encT], fun y hy => by rw [List.mem_singleton.mp hy]; exact ⟨tr.part _ _ t3 (by simp [kparts]), u, rfl, h⟩⟩
      | @l u x y h => exact ⟨[(x, encT u)], by simp [plc, encT], fun y hy => by rw [List.mem_singleton.mp hy]; exact ⟨tr.part _ _ t3 (by simp [kparts]), u, rfl, h⟩⟩
      | @r u x y h => exact ⟨[(y, encT u)], by simp [plc, encT], fun z hz => by rw [List.mem_singleton.mp hz]; exact ⟨tr.part _ _ t3 (by simp [kparts]), u, rfl, h⟩⟩
      | @p u v x y h g =>
        refine ⟨[(x, encT u), (y, encT v)], by simp [plc, encT], fun z hz => ?_⟩
        simp at hz
        rcases hz with rfl | rfl
        · exact ⟨tr.part _ _ t3 (by simp [kparts]), u, rfl, h⟩
        · exact ⟨tr.part _ _ t3 (by simp [kparts]), v, rfl, g⟩
      | rule _ _ => cases t2
    obtain ⟨l, el, al⟩ := key
    rw [isF_top, el]
    obtain ⟨_, _, _, _, sz⟩ := plc_ps el
    refine isF_true m _ ?_ fun y hy => ?_
    · have e1 : szS (l.reverse ++ S) = (l.map fun x => dsz x.2).sum + szS S := by simp [szS]
      have e2 : szS (x :: S) = dsz x.2 + szS S := by simp [szS]
      omega
    · rcases List.mem_append.mp hy with hy | hy
      · exact al y (List.mem_reverse.mp hy)
      · exact a y (List.mem_cons_of_mem _ hy)
end
/-! ### the laws' own walk -/
theorem eq_pl {h : AH} {q : Bool → Prop} {p : Nat} {ws : List Sx} {x : D} (px : pureD x = true) (e : h p = some (.lst (ws.map .str))) : memOk x (.ref p) h q = q ((ws.map D.str).any fun y => decide (y = x)) := by
  simp only [memOk, e, pure_strs, plain_strs, px]
  simp
theorem forms_ok {h : AH} {w : Sx} {ws : List Sx} {K : D → AH → Prop} (hw : (w = s_node ∧ ws = [s_n]) ∨ (w = s_sum ∧ ws = [s_l, s_r]) ∨ (w = s_pair ∧ ws = [s_p])) (k : ∀ p h', h p = none → Ext h h' → h' p = some (.lst (ws.map .str)) → K (.ref p) h') :
    ∀ (r : Nat), h r = none → ∀ (r1 : Nat), up h r (.dct 0 []) r1 = none → ∀ (r2 : Nat), up (up h r (.dct 0 [])) r1 (.lst [D.str s_n]) r2 = none → ∀ (r3 : Nat), up (up (up h r (.dct 0 [])) r1 (.lst [D.str s_n])) r2 (.lst [D.str s_l, .str s_r]) r3 = none →
      up (up (up (up h r (.dct 0 [])) r1 (.lst [D.str s_n])) r2 (.lst [D.str s_l, .str s_r])) r3 (.lst [D.str s_p]) r = some (.dct 0 []) ∧
      aSome (pairUp [D.str s_node, .ref r1, .str s_sum, .ref r2, .str s_pair, .ref r3]) fun kvs => keysOk 0 kvs = true ∧
        opIx (.ref r) (.str w) (up (up (up (up (up h r (.dct 0 [])) r1 (.lst [D.str s_n])) r2 (.lst [D.str s_l, .str s_r])) r3 (.lst [D.str s_p])) r (.dct 0 (mergeL [] kvs))) K := by
  intro r hr r1 hr1 r2 hr2 r3 hr3
  have x1 := Ext.new (o := .dct 0 []) hr
  have x2 := Ext.new (o := .lst [D.str s_n]) hr1
  have x3 := Ext.new (o := .lst [D.str s_l, .str s_r]) hr2
  have x4 := Ext.new (o := .lst [D.str s_p]) hr3
  have er : up (up (up (up h r (.dct 0 [])) r1 (.lst [D.str s_n])) r2 (.lst [D.str s_l, .str s_r])) r3 (.lst [D.str s_p]) r = some (.dct 0 []) := x4 _ _ (x3 _ _ (x2 _ _ up_same))
  refine ⟨er, ?_⟩
  have e1 : up (up (up (up h r (.dct 0 [])) r1 (.lst [D.str s_n])) r2 (.lst [D.str s_l, .str s_r])) r3 (.lst [D.str s_p]) r1 = some (.lst [D.str s_n]) := x4 _ _ (x3 _ _ up_same)
  have e2 : up (up (up (up h r (.dct 0 [])) r1 (.lst [D.str s_n])) r2 (.lst [D.str s_l, .str s_r])) r3 (.lst [D.str s_p]) r2 = some (.lst [D.str s_l, .str s_r]) := x4 _ _ up_same
  have s0 : up h r (.dct 0 []) r = some (.dct 0 []) := up_same
  have n1 : r1 ≠ r := (ne_new s0 hr1).symm
  have n2 : r2 ≠ r := (ne_new (x2 _ _ s0) hr2).symm
  have n3 : r3 ≠ r := (ne_new (x3 _ _ (x2 _ _ s0)) hr3).symm
  have f1 : h r1 = none := fresh_back x1 hr1
  have f2 : h r2 = none := fresh_back (x1.trans x2) hr2
  have f3 : h r3 = none := fresh_back ((x1.trans x2).trans x3) hr3
  have ex : ∀ o, Ext h (up (up (up (up (up h r (.dct 0 [])) r1 (.lst [D.str s_n])) r2 (.lst [D.str s_l, .str s_r])) r3 (.lst [D.str s_p])) r o) := fun o => (((x1.trans x2).trans x3).trans x4).mut hr .put
  have ei : pairUp [D.str s_node, .ref r1, .str s_sum, .ref r2, .str s_pair, .ref r3] = some [(D.str s_node, .ref r1), (.str s_sum, .ref r2), (.str s_pair, .ref r3)] := rfl
  rw [ei, aSome_eq]
  refine ⟨rfl, ?_⟩
  rw [ix_dct up_same]
  refine ⟨rfl, ?_⟩
  rcases hw with ⟨rfl, rfl⟩ | ⟨rfl, rfl⟩ | ⟨rfl, rfl⟩
  · have : kvGet (mergeL [] [(D.str s_node, .ref r1), (.str s_sum, .ref r2), (.str s_pair, .ref r3)]) (.str s_node) = some (.ref r1) := by simp [mergeL, kvPut, kvGet]
    rw [this]
    exact k r1 _ f1 (ex _) (by rw [up_ne n1]; exact e1)
  · have : kvGet (mergeL [] [(D.str s_node, .ref r1), (.str s_sum, .ref r2), (.str s_pair, .ref r3)]) (.str s_sum) = some (.ref r2) := by simp [mergeL, kvPut, kvGet]
    rw [this]
    exact k r2 _ f2 (ex _) (by rw [up_ne n2]; exact e2)
  · have : kvGet (mergeL [] [(D.str s_node, .ref r1), (.str s_sum, .ref r2), (.str s_pair, .ref r3)]) (.str s_pair) = some (.ref r3) := by simp [mergeL, kvPut, kvGet]
    rw [this]
    exact k r3 _ f3 (ex _) (by rw [up_ne n3, up_same]; rfl)
theorem places_ok {n m q : Nat} {rs : Rs} {k k0 : Kd} {d : D} {h : AH} {Q : VQ} {X : XP} (hq : RD q rs h) (ht : tp rs m k = some k0) (pd : pureD d = true) (hk : isRule k0 = false) (pq : PlQ (plc k0 d) h Q) : run P (n + 2) s__law_places [.ref q, encK k, d] h Q X := by
  obtain ⟨q0, q1⟩ := pq
  refine run_of (fd := fd_law_places) rfl rfl ?_
  simp [fd_law_places, start, b0_law_places, b1_law_places]
  refine top_ok hq ht ?_
  rw [isi_pt pd]
  cases d with
  | non => simpa [isTup] using q0 (by cases k0 <;> rfl) h .refl
  | int _ => simpa [isTup] using q0 (by cases k0 <;> rfl) h .refl
  | str _ => simpa [isTup] using q0 (by cases k0 <;> rfl) h .refl
  | bl _ => simp [pureD] at pd
  | ref _ => simp [pureD] at pd
  | rol _ => simp [pureD] at pd
  | tup xs =>
    have px : pureDs xs = true := by simpa only [pureD] using pd
    simp [isTup, b2_law_places, ix0]
    -- [None, []][good]
    have pick : ∀ (g : Bool), (plc k0 (.tup xs) = if g = true then some [] else none) → ∀ r, h r = none → ∀ r2, (up h r (.lst [])) r2 = none → opIx (.ref r2) (.int (if g = true then 1 else 0)) (up (up h r (.lst [])) r2 (.lst [.non, .ref r])) Q := fun g eg r hr r2 hr2 => by
      rw [ix_lst up_same]
      have rr : r ≠ r2 := ne_new up_same hr2
      have ex : Ext h (up (up h r (.lst [])) r2 (.lst [.non, .ref r])) := (Ext.new hr).trans (Ext.new hr2)
      cases g with
      | true => exact q1 [] eg r _ hr ex (by rw [up_ne rr, up_same]; rfl)
      | false => exact q0 eg _ ex
    cases k0 with
    | rule s => cases hk
    | one =>
      simp [kword, b3_law_places, LINE]
      intro r hr r2 hr2
      refine eq_pureX pd (by simp [pureD, pureDs]) (.inr (by simp [plain, plains])) ?_
      have := pick (decide (xs = [])) (by cases xs <;> simp [plc]) r hr r2 hr2
      simpa using this
    | none =>
      simp [kword, b4_law_places, b5_law_places, ix0]
      by_cases z : xs = []
      · subst z; simp; exact q0 rfl h .refl
      · rw [decide_eq_false z]
        exact q0 rfl h .refl
    | name =>
      simp [kword, b4_law_places, ix0]
      by_cases z : xs = []
      · subst z; simp [b5_law_places]; exact q0 rfl h .refl
      · rw [decide_eq_false z]
        simp [b6_law_places, ix0, kword, b7_law_places, LINE]
        have fin : ∀ (g : Bool), named xs = g → ∀ r, h r = none → ∀ r2, (up h r (.lst [])) r2 = none → opIx (.ref r2) (.int (if g = true then 1 else 0)) (up (up h r (.lst [])) r2 (.lst [.non, .ref r])) Q := fun g eg => pick g (by simp only [plc]; rw [eg])
        match xs, px, fin with
        | [], _, _ => exact absurd rfl z
        | [x], _, fin => simpa using fin false rfl
        | x :: y :: u :: r, _, fin =>
          have : ¬ ((r.length : Int) + 1 + 1 + 1 = 2) := by omega
          simpa [this] using fin false (by simp [named])
        | [x, y], px, fin =>
          simp only [pureDs, Bool.and_eq_true] at px
          simp [atI, eqX_ps px.1]
          by_cases e : x = .str s_a
          · simp [e]
            rw [isi_pi px.2.1]
            cases y <;> simp [pureD] at px <;> simp [isInt] <;> first
              | (refine fin false ?_; simp [named]; done)
              | skip
            rename_i i
            by_cases z0 : 0 ≤ i
            · simp [z0]
              refine ⟨by unfold powOk; decide, ?_⟩
              have := fin (decide (i ≤ 1000000000)) (by simp [named, e, z0])
              by_cases z1 : i ≤ 1000000000
              · simpa [z1] using this
              · simpa [z1] using this
            · simp [z0]
              have := fin false (by simp [named, e, z0])
              simpa using this
          · simp [e]
            have := fin false (by
              unfold named
              split
              · rename_i h9
                simp_all
              · rfl)
            simpa using this
    | node x =>
      simp [kword, b4_law_places, ix0]
      by_cases z : xs = []
      · subst z; simp [b5_law_places]; exact q0 rfl h .refl
      · rw [decide_eq_false z]
        simp [b6_law_places, ix0, kword, b8_law_places, LINE]
        refine forms_ok (.inl ⟨rfl, rfl⟩) fun p h1 hp x1 e1 => ?_
        obtain ⟨w, r, rfl⟩ := List.exists_cons_of_ne_nil z
        simp only [pureDs, Bool.and_eq_true] at px
        simp [atI, eqX_ps px.1]
        rw [eq_pl px.1 e1]
        by_cases e : w = .str s_n
        · subst e
          simp
          match r, q0, q1 with
          | [], q0, q1 => simp [b9_law_places]; exact q0 rfl h1 x1
          | t :: u :: r, q0, q1 =>
            rw [decide_eq_false (by simp; omega)]
            simp [b9_law_places]; exact q0 rfl h1 x1
          | [t], q0, q1 =>
            simp [b10_law_places, b12_law_places, atI, encK]
            refine ⟨by decide, ?_⟩
            intro r2 hr2
            exact q1 [(x, t)] (by simp [plc]) r2 _ (fresh_back x1 hr2) (x1.trans (Ext.new hr2)) (by rw [up_same, cut_1, cut_1]; rfl)
        · have e' : ¬ D.str s_n = w := fun z => e z.symm
          simp [e', b9_law_places]
          exact q0 (by
            unfold plc
            split <;> first | rfl | skip
            all_goals simp_all) h1 x1
    | pair x y =>
      simp [kword, b4_law_places, ix0]
      by_cases z : xs = []
      · subst z; simp [b5_law_places]; exact q0 rfl h .refl
      · rw [decide_eq_false z]
        simp [b6_law_places, ix0, kword, b8_law_places, LINE]
        refine forms_ok (.inr (.inr ⟨rfl, rfl⟩)) fun p h1 hp x1 e1 => ?_
        obtain ⟨w, r, rfl⟩ := List.exists_cons_of_ne_nil z
        simp only [pureDs, Bool.and_eq_true] at px
        simp [atI, eqX_ps px.1]
        rw [eq_pl px.1 e1]
        by_cases e : w = .str s_p
        · subst e
          simp
          match r, q0, q1 with
          | [], q0, q1 => simp [b9_law_places]; exact q0 rfl h1 x1
          | [t], q0, q1 => simp [b9_law_places]; exact q0 rfl h1 x1
          | t :: u :: v :: r, q0, q1 =>
            rw [decide_eq_false (by simp; omega)]
            simp [b9_law_places]; exact q0 rfl h1 x1
          | [t, u], q0, q1 =>
            simp [b10_law_places, b12_law_places, atI, encK]
            refine ⟨by decide, ?_⟩
            intro r2 hr2
            exact q1 [(x, t), (y, u)] (by simp [plc]) r2 _ (fresh_back x1 hr2) (x1.trans (Ext.new hr2)) (by rw [up_same, cut_1, cut_1]; rfl)
        · have e' : ¬ D.str s_p = w := fun z => e z.symm
          simp [e', b9_law_places]
          exact q0 (by
            unfold plc
            split <;> first | rfl | skip
            all_goals simp_all) h1 x1
    | sum x y =>
      simp [kword, b4_law_places, ix0]
      by_cases z : xs = []
      · subst z; simp [b5_law_places]; exact q0 rfl h .refl
      · rw [decide_eq_false z]
        simp [b6_law_places, ix0, kword, b8_law_places, LINE]
        refine forms_ok (.inr (.inl ⟨rfl, rfl⟩)) fun p h1 hp x1 e1 => ?_
        obtain ⟨w, r, rfl⟩ := List.exists_cons_of_ne_nil z
        simp only [pureDs, Bool.and_eq_true] at px
        simp [atI, eqX_ps px.1]
        rw [eq_pl px.1 e1]
        by_cases e : w = .str s_l ∨ w = .str s_r
        · match r, q0, q1 with
          | [], q0, q1 => rcases e with rfl | rfl <;> (simp [b9_law_places]; exact q0 rfl h1 x1)
          | t :: u :: r, q0, q1 =>
            have : ¬ ((r.length : Int) + 1 + 1 + 1 = 2) := by omega
            rcases e with rfl | rfl <;> (simp [b9_law_places, this]; exact q0 rfl h1 x1)
          | [t], q0, q1 =>
            rcases e with rfl | rfl
            · simp [b10_law_places, b12_law_places, atI, encK]
              refine ⟨by decide, by decide, ?_⟩
              intro r2 hr2
              exact q1 [(x, t)] (by simp [plc]) r2 _ (fresh_back x1 hr2) (x1.trans (Ext.new hr2)) (by rw [up_same, cut_1, cut_1]; rfl)
            · simp [b10_law_places, b11_law_places, atI, encK, LINE]
              intro r2 hr2
              exact q1 [(y, t)] (by simp [plc]) r2 _ (fresh_back x1 hr2) (x1.trans (Ext.new hr2)) (by rw [up_same]; rfl)
        · rw [not_or] at e
          have e' : ¬ D.str s_l = w := fun z => e.1 z.symm
          have e'' : ¬ D.str s_r = w := fun z => e.2 z.symm
          simp [e', e'', b9_law_places]
          exact q0 (by
            unfold plc
            split <;> first | rfl | skip
            all_goals simp_all) h1 x1
section
variable {rs : Rs} {C : Kd → Prop} (tr : TR rs C)
include tr
theorem law_is_ok {n q N : Nat} {k : Kd} {d : D} {h : AH} {Q : VQ} {X : XP} (hq : RD q rs h) (wk : C k) (pd : PP N d) (hN : N ≤ 1000) (hQ : ∀ h', Ext h h' → Q (.bl (isF rs (dsz d + 1) [(k, d)])) h') : run P (n + 3) s__law_is [.ref q, encK k, d] h Q X := by
  refine run_of (fd := fd_law_is) rfl rfl ?_
  simp [fd_law_is, start, b0_law_is, LINE]
  intro p hp
  simp only [wS]
  refine ⟨IsW C rs q p N (isF rs (dsz d + 1) [(k, d)]) (encK k) d h, ⟨_, [(k, d)], none, none, none, rfl, by rw [up_same]; rfl, Ext.new hp, by simp [szS], rfl, fun i x e => ?_⟩, ?_⟩
  · cases i with
    | zero => simp at e; subst e; exact ⟨wk, N, pd, by omega⟩
    | succ i => simp at e
  · rintro m σ h' ⟨S, x, y, z, rfl, e, ex, ms, hb, so⟩
    have ls := so.len
    simp
    rw [len_lst e]
    cases S with
    | nil =>
      simp [b4_law_is]
      have : isF rs (dsz d + 1) [(k, d)] = true := by rw [← hb]; cases m <;> rfl
      rw [this] at hQ
      exact hQ h' ex
    | cons u S =>
      rw [decide_eq_true (by simp)]
      simp [b1_law_is]
      refine ⟨recv_ok (by simp) (by simp) e, ?_⟩
      rw [aLst_eq e]
      have e9 : ((u :: S).reverse.map encP)[((u :: S).reverse.map encP).length - 1]? = some (encP u) := by simp
      rw [e9]
      simp [encP]
      obtain ⟨wku, mu, ppu, lu⟩ := so S.length u (by rw [List.reverse_cons, List.getElem?_append_right (by simp)]; simp)
      obtain ⟨t1, t2, t3, t4⟩ := tk0_ok tr wku
      have hq' : RD q rs (up h' p (.lst ((S.map encP).reverse))) := hq.ext (ex.mut hp .put)
      have ex1 : Ext h (up h' p (.lst ((S.map encP).reverse))) := ex.mut hp .put
      simp at ls
      refine places_ok (n := n) hq' t1 ppu.1 t2 ⟨fun en h2 x2 => ?_, fun l el r h2 hr x2 e2 => ?_⟩
      · simp [b2_law_is]
        rw [is_none tr ms hb en] at hQ
        exact hQ h2 (ex1.trans x2)
      · have pr : p ≠ r := ne_new up_same hr
        have ep : h2 p = some (.lst ((S.map encP).reverse)) := x2 _ _ up_same
        obtain ⟨_, _, l2, _, _⟩ := plc_ps el
        simp [b3_law_is]
        refine ⟨recv_ok (by simp) (by simp) ep, ?_⟩
        rw [aLst_eq ep, aLst_eq e2]
        exact ⟨by simp [LINE]; omega, is_next tr hp (ex1.trans x2) ms hb so el⟩
end
@[local simp] theorem LINE_eqRn : LINE = 16777216 := rfl
/-! ### names, from left to right -/
def tnm : Th → List Int
  | .one => []
  | .a i => [i]
  | .n t => tnm t
  | .l t => tnm t
  | .r t => tnm t
  | .p t u => tnm t ++ tnm u
theorem tnm_len : ∀ t : Th, (tnm t).length ≤ tlv t
  | .one => Nat.zero_le _
  | .a _ => Nat.le_refl 1
  | .n t => tnm_len t
  | .l t => tnm_len t
  | .r t => tnm_len t
  | .p t u => by
    have := tnm_len t
    have := tnm_len u
    simp only [tnm, tlv, List.length_append]
    omega
theorem encT_ne {t : Th} {h : AH} {q : Bool → Prop} (k : q (match t with | .one => true | _ => false)) : eqOkX (encT t) (.tup []) h q := by
  refine eq_pureX (encT_PP t).1 (by simp [pureD, pureDs]) (.inr (by simp [plain, plains])) ?_
  cases t <;> simpa [encT] using k
def isOneT : Th → Bool
  | .one => true
  | _ => false
theorem ne_one {t : Th} {h : AH} {q : Bool → Prop} (k : q (isOneT t)) : eqOk (encT t) (.tup []) h q := by
  refine eq_pure (encT_PP t).1 (by simp [pureD, pureDs]) (.inr (by simp [plain, plains])) ?_
  cases t <;> simpa [encT, isOneT] using k
theorem eq_one {t : Th} {h : AH} {q : Bool → Prop} (k : q (isOneT t)) : eqOkX (encT t) (.tup []) h q := .inl (ne_one k)
def NmQ (t : Th) (h : AH) (Q : VQ) : Prop := ∀ r h', h r = none → Ext h h' → h' r = some (.lst ((tnm t).map .int)) → Q (.ref r) h'
/-! ### put otherwise -/
def ren (f : Int → Int) : Th → Th
  | .one => .one
  | .a i => .a (f i)
  | .n t => .n (ren f t)
  | .l t => .l (ren f t)
  | .r t => .r (ren f t)
  | .p t u => .p (ren f t) (ren f u)
theorem ren_tdp (f : Int → Int) : ∀ t : Th, tdp (ren f t) = tdp t
  | .one => rfl
  | .a _ => rfl
  | .n t => by simp only [ren, tdp, ren_tdp f t]
  | .l t => by simp only [ren, tdp, ren_tdp f t]
  | .r t => by simp only [ren, tdp, ren_tdp f t]
  | .p t u => by simp only [ren, tdp, ren_tdp f t, ren_tdp f u]
theorem ren_tlv (f : Int → Int) : ∀ t : Th, tlv (ren f t) = tlv t
  | .one => rfl
  | .a _ => rfl
  | .n t => by simp only [ren, tlv, ren_tlv f t]
  | .l t => by simp only [ren, tlv, ren_tlv f t]
  | .r t => by simp only [ren, tlv, ren_tlv f t]
  | .p t u => by simp only [ren, tlv, ren_tlv f t, ren_tlv f u]
theorem ren_id : ∀ t : Th, ren (fun i => i) t = t
  | .one => rfl
  | .a _ => rfl
  | .n t => by simp only [ren, ren_id t]
  | .l t => by simp only [ren, ren_id t]
  | .r t => by simp only [ren, ren_id t]
  | .p t u => by simp only [ren, ren_id t, ren_id u]
theorem ren_is {rs : Rs} {f : Int → Int} (hf : ∀ i : Int, 0 ≤ i → i ≤ 1000000000 → 0 ≤ f i ∧ f i ≤ 1000000000) {t : Th} {k : Kd} (h : Is rs t k) : Is rs (ren f t) k := by
  induction h with
  | one => exact .one
  | a h0 h1 => exact .a (hf _ h0 h1).1 (hf _ h0 h1).2
  | n _ ih => exact .n ih
  | l _ ih => exact .l ih
  | r _ ih => exact .r ih
  | p _ _ ih1 ih2 => exact .p ih1 ih2
  | rule e _ ih => exact .rule e ih
/-- names' new names -/
abbrev Nms := List (Int × Int)
def encN (ns : Nms) : List (D × D) := ns.map fun x => (.int x.1, .int x.2)
def nmF (ns : Nms) (i : Int) : Int := (ns.lookup i).getD i
theorem kvGet_N : ∀ {ns : Nms} {i : Int}, kvGet (encN ns) (.int i) = (ns.lookup i).map .int
  | [], i => rfl
  | (a, b) :: r, i => by
    show kvGet ((.int a, .int b) :: encN r) (.int i) = _
    rw [kvGet_cons, List.lookup_cons, kvGet_N (ns := r)]
    by_cases e : a = i
    · subst e; simp
    · have e2 : ¬ i = a := fun z => e z.symm
      have e3 : ¬ D.int a = D.int i := fun z => e (by injection z)
      have e4 : (i == a) = false := by simp [e2]
      rw [if_neg e3, e4]
theorem renamed_ok : ∀ (t : Th) (n q : Nat) (ns : Nms) (h : AH) (Q : VQ) (X : XP), h q = some (.dct 0 (encN ns)) → (∀ h', Ext h h' → Q (encT (ren (nmF ns) t)) h') → run P (n + tdp t + 1) s_renamed [encT t, .ref q] h Q X := by
  have one : ∀ (w : Sx) (t u : Th), w ≠ s_a → encT t = .tup [.str w, encT u] → isOneT t = false → tdp t = tdp u + 1 → (∀ f, encT (ren f t) = .tup [.str w, encT (ren f u)]) → (∀ (n q : Nat) (ns : Nms) (h : AH) (Q : VQ) (X : XP), h q = some (.dct 0 (encN ns)) → (∀ h', Ext h h' → Q (encT (ren (nmF ns) u)) h') → run P (n + tdp u + 1) s_renamed [encT u, .ref q] h Q X) →
      ∀ (n q : Nat) (ns : Nms) (h : AH) (Q : VQ) (X : XP), h q = some (.dct 0 (encN ns)) → (∀ h', Ext h h' → Q (encT (ren (nmF ns) t)) h') → run P (n + tdp t + 1) s_renamed [encT t, .ref q] h Q X := by
    intro w t u hw et e1 ed er ih n q ns h Q X hq k
    refine run_of (fd := fd_renamed) rfl rfl ?_
    simp [fd_renamed, start, b0_renamed]
    refine eq_one ?_
    rw [e1, et]
    simp [b2_renamed, atI, decide_eq_false hw, b4_renamed, cut, clip]
    refine comp_unroll (by simp [LINE]) ?_
    simp [compU_cons, compU_nil]
    rw [ed]
    refine ih n q ns h _ _ hq fun h1 x1 => ?_
    refine fun r hr => ?_
    rw [seq_lst up_same, aSome_eq]
    simp
    rw [er] at k
    exact k _ (x1.trans (Ext.new hr))
  intro t
  induction t with
  | one =>
    intro n q ns h Q X hq k
    refine run_of (fd := fd_renamed) rfl rfl ?_
    simp [fd_renamed, start, b0_renamed]
    refine eq_one ?_
    simp [isOneT, b1_renamed]
    exact k h .refl
  | a i =>
    intro n q ns h Q X hq k
    refine run_of (fd := fd_renamed) rfl rfl ?_
    simp [fd_renamed, start, b0_renamed]
    refine eq_one ?_
    simp [isOneT, b2_renamed, encT, atI, b3_renamed]
    refine ⟨recv_dct rfl hq, ?_⟩
    rw [aDct_eq hq, kvGet_N]
    refine ⟨rfl, ?_⟩
    have k1 := k h .refl
    simp only [ren, encT, nmF] at k1
    cases e : ns.lookup i with
    | none =>
      rw [e] at k1
      simpa using k1
    | some j =>
      rw [e] at k1
      simpa using k1
  | n u ih => exact one s_n (.n u) u (by decide) rfl rfl rfl (fun _ => rfl) ih
  | l u ih => exact one s_l (.l u) u (by decide) rfl rfl rfl (fun _ => rfl) ih
  | r u ih => exact one s_r (.r u) u (by decide) rfl rfl rfl (fun _ => rfl) ih
  | p u v ih1 ih2 =>
    intro n q ns h Q X hq k
    refine run_of (fd := fd_renamed) rfl rfl ?_
    simp [fd_renamed, start, b0_renamed]
    refine eq_one ?_
    simp [isOneT, encT, b2_renamed, atI, b4_renamed, cut, clip]
    obtain ⟨mu, emu⟩ : ∃ m, n + tdp (u.p v) = m + tdp u + 1 := ⟨n + (tdp (u.p v) - tdp u - 1), by simp only [tdp]; omega⟩
    obtain ⟨mv, emv⟩ : ∃ m, n + tdp (u.p v) = m + tdp v + 1 := ⟨n + (tdp (u.p v) - tdp v - 1), by simp only [tdp]; omega⟩
    refine comp_unroll (by simp [LINE]) ?_
    simp [compU_cons, compU_nil]
    rw [emu]
    refine ih1 mu q ns h _ _ hq fun h1 x1 => ?_
    rw [← emu, emv]
    refine ih2 mv q ns h1 _ _ (x1 _ _ hq) fun h2 x2 => ?_
    refine fun r hr => ?_
    rw [seq_lst up_same, aSome_eq]
    simp
    exact k _ ((x1.trans x2).trans (Ext.new hr))
theorem Pile.popR {d : Nat} {ts : List Th} {t : Th} (h : Pile d (ts ++ [t])) : Pile d (ts ++ (tkids t).reverse) := by
  have ht := h ts.length t (by simp)
  intro i u e
  by_cases l : i < ts.length
  · rw [List.getElem?_append_left l] at e
    exact h i u (by rw [List.getElem?_append_left l]; exact e)
  · rw [List.getElem?_append_right (by omega)] at e
    have hu := tkids_dp (List.mem_reverse.mp (List.mem_of_getElem? e))
    have l2 := (List.getElem?_eq_some_iff.mp e).1
    have : (tkids t).length ≤ 2 := by cases t <;> simp [tkids]
    rw [List.length_reverse] at l2
    cases t <;> simp [tkids] at l2 hu e ht ⊢ <;> omega
/-! ### the names told -/
theorem tnm_kids (t : Th) (h : isA t = false) : tnm t = ((tkids t).map tnm).flatten := by
  cases t <;> first | (cases h; done) | simp [tnm, tkids]
def NmT (t : Th) (p q : Nat) (h : AH) (m : Nat) (σ : St) (h' : AH) : Prop := ∃ (us : List Th) (fs : List Int) (x : Option D), σ = [some (encT t), some (.ref p), some (.ref q), x] ∧ h' p = some (.lst (fs.map .int)) ∧ h' q = some (.lst (us.map encT)) ∧ Ext h h' ∧ fs ++ (us.reverse.map tnm).flatten = tnm t ∧ m = sumT tno us ∧ Pile (tdp t) us
theorem tlr_kids {t : Th} (h : isA t = false) : ∃ ws, encT t = .tup ws ∧ ws.tail.reverse = (tkids t).reverse.map encT := by
  cases t <;> first | (cases h; done) | exact ⟨_, rfl, by simp [tkids]⟩
theorem names_in_ok {n : Nat} {t : Th} {h : AH} {Q : VQ} {X : XP} (hl : tdp t < 1000) (hv : tlv t ≤ 100000) (k : NmQ t h Q) : run P (n + 1) s_names_in [encT t] h Q X := by
  refine run_of (fd := fd_names_in) rfl rfl ?_
  simp [fd_names_in, start, b0_names_in, LINE]
  intro p hp q hq
  have pq : p ≠ q := ne_new up_same hq
  simp only [wS]
  have hq0 : h q = none := fresh_back (Ext.new hp) hq
  refine ⟨NmT t p q h, ⟨_, [t], [], none, rfl, by rw [up_ne pq, up_same]; rfl, up_same, (Ext.new hp).trans (Ext.new hq), by simp, rfl, fun i u e => ?_⟩, ?_⟩
  · cases i with
    | zero => simp at e; subst e; omega
    | succ i => simp at e
  · rintro m σ h' ⟨us, fs, x, rfl, ef, e, ex, hs, rfl, pl⟩
    have lu := pl.len
    simp
    rw [len_lst e]
    rcases List.eq_nil_or_concat us with z | ⟨vs, u, z⟩
    · subst z
      simp [b5_names_in]
      have : fs = tnm t := by simpa using hs
      rw [this] at ef
      exact k p h' hp ex ef
    · rw [List.concat_eq_append] at z
      subst z
      rw [decide_eq_true (by simp)]
      simp [b1_names_in, LINE]
      refine ⟨recv_ok (by simp) (by simp) e, ?_⟩
      rw [aLst_eq e]
      have e9 : (List.map encT (vs ++ [u]))[(List.map encT (vs ++ [u])).length - 1]? = some (encT u) := by simp
      rw [e9]
      simp
      have hno := tno_own u
      have hu2 : sumT tno (vs ++ [u]) = sumT tno vs + tno u := by rw [sumT_app]; simp [sumT]
      have ex1 : Ext h (up h' q (.lst (vs.map encT))) := ex.mut hq0 .put
      have ef1 : (up h' q (.lst (vs.map encT))) p = some (.lst (fs.map .int)) := by rw [up_ne pq]; exact ef
      have lv : vs.length < 1000 := by simp at lu; omega
      have hs2 : fs ++ (tnm u ++ (vs.reverse.map tnm).flatten) = tnm t := by simpa using hs
      have lf : fs.length ≤ 100000 := by
        have h1 := congrArg List.length hs2
        have h2 := tnm_len t
        simp only [List.length_append] at h1
        omega
      refine ne_one ?_
      cases z1 : isOneT u with
      | true =>
        have e1 : u = .one := by cases u <;> first | rfl | cases z1
        subst e1
        simp [b3_names_in]
        refine ne_one ?_
        exact ⟨sumT tno vs, by omega, vs, fs, _, rfl, ef1, up_same, ex1, by simpa [tnm] using hs2, rfl, pl.base⟩
      | false =>
        have go : ∀ (R : Ends), isA u = false → R.nx = (fun σ' h' => ∃ m', m' < sumT tno (vs ++ [u]) ∧ NmT t p q h m' σ' h') → wSs ⟨run P n, X⟩ b3_names_in R [some (encT t), some (.ref p), some (.ref q), some (encT u)] (up h' q (.lst (vs.map encT))) := by
          intro R za hR
          simp [b3_names_in]
          refine ne_one ?_
          rw [z1]
          obtain ⟨ws, ew, et⟩ := tlr_kids za
          simp [b4_names_in]
          refine ⟨recv_ok (by simp) (by simp) up_same, ?_⟩
          rw [ew, aTup_eq, aLst_eq up_same]
          have l2 : (tkids u).length ≤ 2 := by cases u <;> simp [tkids]
          have l3 := congrArg List.length et
          simp at l3
          simp
          refine ⟨by omega, ?_⟩
          rw [hR, et, ← ew]
          refine ⟨sumT tno (vs ++ (tkids u).reverse), ?_, vs ++ (tkids u).reverse, fs, _, rfl, by rw [up_ne pq]; exact ef1, by rw [up_same]; simp, ex1.mut hq0 .put, ?_, rfl, pl.popR⟩
          · have : sumT tno (tkids u).reverse = sumT tno (tkids u) := by simp [sumT]
            rw [sumT_app, hu2]; omega
          · rw [← hs2, tnm_kids u za]
            simp
        cases u with
        | one => cases z1
        | a i =>
          simp [encT, atI, b2_names_in]
          refine ⟨recv_ok (by simp) (by simp) ef1, ?_⟩
          rw [aLst_eq ef1]
          refine ⟨by simp [LINE]; omega, sumT tno vs, by omega, vs, fs ++ [i], _, rfl, by rw [up_same]; simp, by rw [up_ne (fun z => pq z.symm)]; exact up_same, ex1.mut hp .put, ?_, rfl, pl.base⟩
          rw [← hs2]
          simp [tnm]
        | n v =>
          simp [encT, atI]
          exact go _ rfl rfl
        | l v =>
          simp [encT, atI]
          exact go _ rfl rfl
        | r v =>
          simp [encT, atI]
          exact go _ rfl rfl
        | p v w =>
          simp [encT, atI]
          exact go _ rfl rfl
/-! ### names put in -/
noncomputable def nput (ns : Nms) (a b : Int) : Nms := if (ns.any fun x => decide (x.1 = a)) = true then ns.map (fun x => if x.1 = a then (x.1, b) else x) else ns ++ [(a, b)]
theorem kvPut_N (ns : Nms) (a b : Int) : kvPut (encN ns) (.int a) (.int b) = encN (nput ns a b) := by
  have e : ((encN ns).any fun kv => decide (kv.1 = D.int a)) = ns.any fun x => decide (x.1 = a) := by
    unfold encN
    rw [List.any_map]
    congr 1
    funext x
    by_cases z : x.1 = a
    · simp [z]
    · have : ¬ D.int x.1 = D.int a := fun w => z (by injection w)
      simp [z]
  unfold kvPut nput
  rw [e]
  split
  · unfold encN
    rw [List.map_map, List.map_map]
    apply List.map_congr_left
    intro x _
    by_cases z : x.1 = a
    · simp [z]
    · simp [z]
  · simp [encN]
theorem lookup_memN : ∀ {ns : Nms} {i j : Int}, ns.lookup i = some j → (i, j) ∈ ns
  | (a, b) :: r, i, j, h => by
    rw [List.lookup_cons] at h
    by_cases e : i = a
    · subst e
      simp at h
      subst h
      exact List.mem_cons_self
    · have e4 : (i == a) = false := by simp [e]
      rw [e4] at h
      exact List.mem_cons_of_mem _ (lookup_memN h)
def WkT (t : Th) (p q : Nat) (h : AH) (m : Nat) (σ : St) (h' : AH) : Prop := ∃ (us : List Th) (many : Nat) (fs : List Int) (x : Option D), σ = [some (encT t), some (.int many), some (.ref p), some (.ref q), x] ∧ h' p = some (.lst (fs.map .int)) ∧ h' q = some (.lst (us.map encT)) ∧ Ext h h' ∧ fs ++ (us.reverse.map tnm).flatten = tnm t ∧ many + sumT tsz us = tsz t ∧ m = sumT tno us ∧ Pile (tdp t) us
theorem walked_ok {n : Nat} {t : Th} {h : AH} {Q : VQ} {X : XP} (hl : tdp t < 1000) (hv : tlv t ≤ 10000000) (k : ∀ p h', h p = none → Ext h h' → h' p = some (.lst ((tnm t).map .int)) → Q (.tup [.int (tsz t : Nat), .ref p]) h') : run P (n + 1) s__law_walked [encT t] h Q X := by
  refine run_of (fd := fd_law_walked) rfl rfl ?_
  simp [fd_law_walked, start, b0_law_walked]
  intro p hp q hq
  have pq : p ≠ q := ne_new up_same hq
  simp only [wS]
  have hq0 : h q = none := fresh_back (Ext.new hp) hq
  refine ⟨WkT t p q h, ⟨_, [t], 0, [], none, rfl, by rw [up_ne pq, up_same]; rfl, up_same, (Ext.new hp).trans (Ext.new hq), by simp, by simp [sumT], rfl, fun i u e => ?_⟩, ?_⟩
  · cases i with
    | zero => simp at e; subst e; omega
    | succ i => simp at e
  · rintro m σ h' ⟨us, many, fs, x, rfl, ef, e, ex, hs, hm, rfl, pl⟩
    have lu := pl.len
    simp
    rw [len_lst e]
    rcases List.eq_nil_or_concat us with z | ⟨vs, u, z⟩
    · subst z
      simp [b4_law_walked]
      have e1 : fs = tnm t := by simpa using hs
      have e2 : many = tsz t := by simpa [sumT] using hm
      rw [e1] at ef
      rw [e2]
      exact k p h' hp ex ef
    · rw [List.concat_eq_append] at z
      subst z
      rw [decide_eq_true (by simp)]
      simp [b1_law_walked]
      refine ⟨recv_ok (by simp) (by simp) e, ?_⟩
      rw [aLst_eq e]
      have e9 : (List.map encT (vs ++ [u]))[(List.map encT (vs ++ [u])).length - 1]? = some (encT u) := by simp
      rw [e9]
      simp
      rw [slw_hd]
      refine eqX_hd ?_
      rw [hd_isA]
      have hno := tno_own u
      have hown := tsz_own u
      have hu2 : sumT tno (vs ++ [u]) = sumT tno vs + tno u := by rw [sumT_app]; simp [sumT]
      have hu3 : sumT tsz (vs ++ [u]) = sumT tsz vs + tsz u := by rw [sumT_app]; simp [sumT]
      have ex1 : Ext h (up h' q (.lst (vs.map encT))) := ex.mut hq0 .put
      have ef1 : (up h' q (.lst (vs.map encT))) p = some (.lst (fs.map .int)) := by rw [up_ne pq]; exact ef
      have lv : vs.length < 1000 := by simp at lu; omega
      have hs2 : fs ++ (tnm u ++ (vs.reverse.map tnm).flatten) = tnm t := by simpa using hs
      have lf : fs.length ≤ 10000000 := by
        have h1 := congrArg List.length hs2
        have h2 := tnm_len t
        simp only [List.length_append] at h1
        omega
      cases za : isA u with
      | true =>
        have e1 : ∃ i, u = .a i := by cases u <;> first | exact ⟨_, rfl⟩ | cases za
        obtain ⟨i, rfl⟩ := e1
        simp [b2_law_walked, encT, atI, opAdd]
        refine ⟨recv_ok (by simp) (by simp) ef1, ?_⟩
        rw [aLst_eq ef1]
        refine ⟨by simp; omega, sumT tno vs, by omega, vs, many + 1, fs ++ [i], _, rfl, by rw [up_same]; simp, by rw [up_ne (fun z => pq z.symm)]; exact up_same, ex1.mut hp .put, ?_, ?_, rfl, pl.base⟩
        · rw [← hs2]
          simp [tnm]
        · simp [own, tkids, sumT] at hown
          omega
      | false =>
        simp [b3_law_walked]
        rw [slw_hd]
        refine eqX_hd ?_
        rw [hd_isN]
        refine ⟨recv_ok (by simp) (by simp) up_same, ?_⟩
        obtain ⟨ws, ew, et⟩ := tlr_kids za
        rw [ew, aTup_eq, aLst_eq up_same]
        have l2 : (tkids u).length ≤ 2 := by cases u <;> simp [tkids]
        have l3 := congrArg List.length et
        simp at l3
        refine ⟨by simp; omega, ?_⟩
        rw [et, ← ew]
        have eo : (if isN u = true then (1 : Int) else 0) = ((own u : Nat) : Int) := by cases u <;> first | rfl | (cases za; done)
        rw [eo]
        refine ⟨sumT tno (vs ++ (tkids u).reverse), ?_, vs ++ (tkids u).reverse, many + own u, fs, some (encT u), by simp, by rw [up_ne pq]; exact ef1, by rw [up_same]; simp, ex1.mut hq0 .put, ?_, ?_, rfl, pl.popR⟩
        · have : sumT tno (tkids u).reverse = sumT tno (tkids u) := by simp [sumT]
          rw [sumT_app, hu2]; omega
        · rw [← hs2, tnm_kids u za]
          simp
        · have : sumT tsz (tkids u).reverse = sumT tsz (tkids u) := by simp [sumT]
          rw [sumT_app]; omega
@[local simp] theorem LINE_eqC : LINE = 16777216 := rfl
/-! ### how many shapes: the plain count -/
abbrev Cn := Nat → Nat
def c0 : Cn := fun _ => 0
def c1 (j0 : Nat) : Cn := fun j => if j = j0 then 1 else 0
def cadd (a b : Cn) : Cn := fun j => a j + b j
/-- of pairs -/
def cmul (a b : Cn) : Cn := fun j => ((List.range (j + 1)).map fun i => a i * b (j - i)).sum
def csum (f : Nat → Cn) : Nat → Cn
  | 0 => c0
  | n + 1 => cadd (csum f n) (f n)
def cn (rs : Rs) : Nat → Kd → Nat → Cn
  | 0, _, _ => c0
  | n + 1, .rule r, s => match rs.lookup r with
    | some k => cn rs n k s
    | none => c0
  | n + 1, .sum a b, s => cadd (cn rs n a s) (cn rs n b s)
  | n + 1, .pair a b, s => csum (fun p => cmul (cn rs n a p) (cn rs n b (s - p))) (s + 1)
  | n + 1, .node a, s => match s with
    | 0 => c0
    | t + 1 => cn rs n a t
  | _ + 1, .one, s => if s = 0 then c1 0 else c0
  | _ + 1, .name, s => if s = 1 then c1 1 else c0
  | _ + 1, .none, _ => c0
theorem csum_congr {f g : Nat → Cn} : ∀ n, (∀ p, p < n → f p = g p) → csum f n = csum g n
  | 0, _ => rfl
  | n + 1, h => by
    simp only [csum]
    rw [csum_congr n fun p hp => h p (by omega), h n (by omega)]
/-- enough room to count: s the size, the bare rules behind the i-th -/
def rm (s i d : Nat) : Nat := 40 * s + 4 * (6 - i) + d + 1
section
variable {ts : List Sx} {rs : Rs}
theorem lookup_at {r : Sx} {i : Nat} (ri : RI ts rs) (h : r ∈ ts.drop i) : ∃ j k, i ≤ j ∧ j < ts.length ∧ rs.lookup r = some k ∧ k.dp ≤ 3 ∧ Bw (· ∈ ts.drop (j + 1)) (· ∈ ts) k := by
  obtain ⟨j, hj⟩ := List.getElem?_of_mem h
  rw [List.getElem?_drop] at hj
  have lj : i + j < ts.length := (List.getElem?_eq_some_iff.mp hj).1
  have l2 : i + j < rs.length := by rw [ri.len]; exact lj
  have e1 : rs[i + j]? = some rs[i + j] := List.getElem?_eq_getElem l2
  have e2 : (rs.map (·.1))[i + j]? = some r := by rw [ri.nm]; exact hj
  rw [List.getElem?_map, e1] at e2
  simp at e2
  obtain ⟨w1, w2⟩ := ri.wf _ _ e1
  refine ⟨i + j, rs[i + j].2, by omega, lj, ?_, w1, w2⟩
  rw [← e2]
  exact lookup_mem ri.nodup (List.getElem_mem l2)
theorem bw_all {k : Kd} (h : Bw (· ∈ ts) (· ∈ ts) k) : Bw (· ∈ ts.drop 0) (· ∈ ts) k := by rw [List.drop_zero]; exact h
/-- more room counts the same -/
theorem cn_room (ri : RI ts rs) (l6 : ts.length ≤ 6) : ∀ (n m : Nat) (k : Kd) (s i : Nat), i ≤ ts.length → k.dp ≤ 3 → Bw (· ∈ ts.drop i) (· ∈ ts) k → rm s i k.dp ≤ n → rm s i k.dp ≤ m → cn rs n k s = cn rs m k s := by
  intro n
  induction n with
  | zero => intro m k s i _ _ _ h; simp [rm] at h
  | succ n ih =>
    intro m k s i hi hd hb h1 h2
    cases m with
    | zero => simp [rm] at h2
    | succ m =>
      cases k with
      | one => rfl
      | name => rfl
      | none => rfl
      | rule r =>
        obtain ⟨j, k, ij, jl, e, d3, b⟩ := lookup_at ri hb
        simp only [cn, e]
        simp only [rm, Kd.dp] at h1 h2
        exact ih m k s (j + 1) (by omega) d3 b (by simp only [rm]; omega) (by simp only [rm]; omega)
      | node a =>
        simp only [cn]
        cases s with
        | zero => rfl
        | succ t =>
          simp only [rm, Kd.dp] at h1 h2 hd
          exact ih m a t 0 (Nat.zero_le _) (by omega) (bw_all hb) (by simp only [rm]; omega) (by simp only [rm]; omega)
      | sum a b =>
        simp only [cn]
        simp only [rm, Kd.dp] at h1 h2 hd
        rw [ih m a s i hi (by omega) hb.1 (by simp only [rm]; omega) (by simp only [rm]; omega), ih m b s i hi (by omega) hb.2 (by simp only [rm]; omega) (by simp only [rm]; omega)]
      | pair a b =>
        simp only [cn]
        simp only [rm, Kd.dp] at h1 h2 hd
        refine csum_congr _ fun p hp => ?_
        rw [ih m a p i hi (by omega) hb.1 (by simp only [rm]; omega) (by simp only [rm]; omega), ih m b (s - p) i hi (by omega) hb.2 (by simp only [rm]; omega) (by simp only [rm]; omega)]
end
theorem csum_at : ∀ (n : Nat) (f : Nat → Cn) (j : Nat), csum f n j = ((List.range n).map fun p => f p j).sum
  | 0, f, j => rfl
  | n + 1, f, j => by
    rw [List.range_succ, List.map_append, List.sum_append]
    simp [csum, cadd, csum_at n f j]
theorem zsum {l : List Nat} {f : Nat → Nat} (h : ∀ x ∈ l, f x = 0) : (l.map f).sum = 0 := by
  induction l with
  | nil => rfl
  | cons x l ih => rw [List.map_cons, List.sum_cons, h x List.mem_cons_self, ih fun y hy => h y (List.mem_cons_of_mem _ hy)]
/-- no shape has more names than its size -/
theorem cn_top (rs : Rs) : ∀ (n : Nat) (k : Kd) (s j : Nat), s < j → cn rs n k s j = 0 := by
  intro n
  induction n with
  | zero => intro k s j _; rfl
  | succ n ih =>
    intro k s j h
    cases k with
    | one =>
      simp only [cn]
      split
      · simp [c1]; omega
      · rfl
    | name =>
      simp only [cn]
      split
      · simp [c1]; omega
      · rfl
    | none => rfl
    | rule r =>
      simp only [cn]
      cases rs.lookup r with
      | none => rfl
      | some k => exact ih k s j h
    | node a =>
      simp only [cn]
      cases s with
      | zero => rfl
      | succ t => exact ih a t j (by omega)
    | sum a b =>
      simp only [cn, cadd]
      rw [ih a s j h, ih b s j h]
    | pair a b =>
      simp only [cn]
      rw [csum_at]
      have z : ∀ p ∈ List.range (s + 1), cmul (cn rs n a p) (cn rs n b (s - p)) j = 0 := fun p hp => by
        have hp := List.mem_range.mp hp
        unfold cmul
        have z2 : ∀ i ∈ List.range (j + 1), cn rs n a p i * cn rs n b (s - p) (j - i) = 0 := fun i hi => by
          have hi := List.mem_range.mp hi
          by_cases c : p < i
          · rw [ih a p i c, Nat.zero_mul]
          · rw [ih b (s - p) (j - i) (by omega), Nat.mul_zero]
        exact zsum z2
      exact zsum z
/-- the count with room enough -/
def CT (rs : Rs) (k : Kd) (s : Nat) : Cn := cn rs (40 * s + 80) k s
theorem CT_top {rs : Rs} {k : Kd} {s j : Nat} (h : s < j) : CT rs k s j = 0 := cn_top rs _ k s j h
section
variable {ts : List Sx} {rs : Rs}
def W3' (ts : List Sx) (k : Kd) : Prop := Bw (· ∈ ts) (· ∈ ts) k ∧ k.dp ≤ 3
theorem bw_drop {i : Nat} : ∀ {k : Kd}, Bw (· ∈ ts.drop i) (· ∈ ts) k → Bw (· ∈ ts) (· ∈ ts) k
  | .rule s, h => List.mem_of_mem_drop h
  | .node a, h => h
  | .sum a b, h => ⟨bw_drop h.1, bw_drop h.2⟩
  | .pair a b, h => ⟨bw_drop h.1, bw_drop h.2⟩
  | .one, _ => trivial
  | .name, _ => trivial
  | .none, _ => trivial
theorem CT_eq (ri : RI ts rs) (l6 : ts.length ≤ 6) {k : Kd} (w : W3' ts k) {n s : Nat} (h : 40 * s + 28 ≤ n) : cn rs n k s = CT rs k s :=
  cn_room ri l6 n (40 * s + 80) k s 0 (Nat.zero_le _) w.2 (bw_all w.1) (by have := w.2; simp only [rm]; omega) (by have := w.2; simp only [rm]; omega)
theorem CT_rule (ri : RI ts rs) (l6 : ts.length ≤ 6) {r : Sx} {k : Kd} {s : Nat} (e : rs.lookup r = some k) (w : W3' ts k) : CT rs (.rule r) s = CT rs k s := by
  unfold CT
  rw [show 40 * s + 80 = (40 * s + 79) + 1 from rfl]
  simp only [cn, e]
  exact CT_eq ri l6 w (by omega)
theorem CT_sum (ri : RI ts rs) (l6 : ts.length ≤ 6) {a b : Kd} {s : Nat} (wa : W3' ts a) (wb : W3' ts b) : CT rs (.sum a b) s = cadd (CT rs a s) (CT rs b s) := by
  show cn rs (40 * s + 79 + 1) (.sum a b) s = _
  simp only [cn]
  rw [CT_eq ri l6 wa (by omega), CT_eq ri l6 wb (by omega)]
theorem CT_pair (ri : RI ts rs) (l6 : ts.length ≤ 6) {a b : Kd} {s : Nat} (wa : W3' ts a) (wb : W3' ts b) : CT rs (.pair a b) s = csum (fun p => cmul (CT rs a p) (CT rs b (s - p))) (s + 1) := by
  show cn rs (40 * s + 79 + 1) (.pair a b) s = _
  simp only [cn]
  refine csum_congr _ fun p hp => ?_
  rw [CT_eq ri l6 wa (by omega), CT_eq ri l6 wb (by omega)]
theorem CT_node (ri : RI ts rs) (l6 : ts.length ≤ 6) {a : Kd} {s : Nat} (wa : W3' ts a) : CT rs (.node a) (s + 1) = CT rs a s := by
  show cn rs (40 * (s + 1) + 79 + 1) (.node a) (s + 1) = _
  simp only [cn]
  exact CT_eq ri l6 wa (by omega)
theorem CT_node0 {rs : Rs} {a : Kd} : CT rs (.node a) 0 = c0 := rfl
theorem CT_one {rs : Rs} {s : Nat} : CT rs .one s = if s = 0 then c1 0 else c0 := rfl
theorem CT_name {rs : Rs} {s : Nat} : CT rs .name s = if s = 1 then c1 1 else c0 := rfl
theorem CT_none {rs : Rs} {s : Nat} : CT rs .none s = c0 := rfl
end
theorem kvPut_keys' {kvs : List (D × D)} {k v : D} (nd : (kvs.map (·.1)).Nodup) : ((kvPut kvs k v).map (·.1)).Nodup := by
  unfold kvPut
  split
  · have : (kvs.map (fun kv => if kv.1 = k then (kv.1, v) else kv)).map (·.1) = kvs.map (·.1) := by
      rw [List.map_map]
      apply List.map_congr_left
      intro x _
      simp only [Function.comp]
      split <;> rfl
    rw [this]; exact nd
  · rename_i z
    rw [List.map_append, List.nodup_append]
    refine ⟨nd, by simp, fun x hx y hy e => z ?_⟩
    obtain ⟨w, hw, rfl⟩ := List.mem_map.mp hx
    simp at hy
    rw [List.any_eq_true]
    exact ⟨w, hw, by simp [e, hy]⟩
/-! ### a dict of counts -/
structure CD (kvs : List (D × D)) (s : Nat) (f : Cn) : Prop where
  nd : (kvs.map (·.1)).Nodup
  en : ∀ kv ∈ kvs, ∃ j : Nat, j ≤ s ∧ kv = (.int j, .int (f j))
  all : ∀ j : Nat, f j ≠ 0 → D.int j ∈ kvs.map (·.1)
  pos : ∀ j : Nat, D.int j ∈ kvs.map (·.1) → f j ≠ 0
theorem CD.nil {s : Nat} : CD [] s c0 := ⟨List.nodup_nil, (fun _ h => nomatch h), (fun j h => (h rfl).elim), fun _ h => nomatch h⟩
theorem kvGet_no {k : D} : ∀ {kvs : List (D × D)}, k ∉ kvs.map (·.1) → kvGet kvs k = none
  | [], _ => rfl
  | (a, v) :: kvs, h => by
    rw [kvGet_cons, if_neg (fun e => h (by rw [← e]; simp))]
    exact kvGet_no fun m => h (by simp only [List.map_cons]; exact List.mem_cons_of_mem _ m)
theorem CD.get {kvs : List (D × D)} {s : Nat} {f : Cn} (c : CD kvs s f) (j : Nat) : (kvGet kvs (.int j)).getD (.int 0) = .int (f j : Nat) := by
  by_cases m : D.int j ∈ kvs.map (·.1)
  · obtain ⟨kv, hkv, e⟩ := List.mem_map.mp m
    obtain ⟨i, _, e2⟩ := c.en kv hkv
    rw [e2] at e
    dsimp only at e
    injection e with e
    have e : i = j := by omega
    subst e
    rw [e2] at hkv
    rw [kvGet_mem c.nd hkv]
    rfl
  · rw [kvGet_no m]
    have : f j = 0 := Classical.byContradiction fun z => m (c.all j z)
    rw [this]
    rfl
theorem CD.len {kvs : List (D × D)} {s : Nat} {f : Cn} (c : CD kvs s f) : kvs.length ≤ s + 1 := by
  have h : ∀ x ∈ kvs.map (·.1), x ∈ (List.range (s + 1)).map fun j : Nat => D.int (j : Int) := fun x hx => by
    obtain ⟨kv, hkv, rfl⟩ := List.mem_map.mp hx
    obtain ⟨j, hj, e⟩ := c.en kv hkv
    exact List.mem_map.mpr ⟨j, List.mem_range.mpr (by omega), by rw [e]⟩
  have := List.Nodup.length_le_of_subset c.nd h
  simpa using this
theorem kvPut_in {kvs : List (D × D)} {k v : D} {kv : D × D} (h : kv ∈ kvPut kvs k v) : kv ∈ kvs ∨ (kv.1 = k ∧ ((∃ x ∈ kvs, x.1 = kv.1) ∨ kv.1 = k)) := by
  unfold kvPut at h
  split at h
  · obtain ⟨x, hx, e⟩ := List.mem_map.mp h
    split at e
    · rename_i z
      right
      rw [← e]
      exact ⟨z, .inl ⟨x, hx, rfl⟩⟩
    · left
      rw [← e]; exact hx
  · rcases List.mem_append.mp h with h | h
    · exact .inl h
    · right
      rw [List.mem_singleton.mp h]
      exact ⟨rfl, .inr rfl⟩
theorem CD.put {kvs : List (D × D)} {s : Nat} {f : Cn} (c : CD kvs s f) {j v : Nat} (hj : j ≤ s) (hv : v ≠ 0) : CD (kvPut kvs (.int j) (.int v)) s (fun i => if i = j then v else f i) := by
  refine ⟨kvPut_keys' c.nd, fun kv h => ?_, fun i hi => ?_, fun i hi => ?_⟩
  · unfold kvPut at h
    split at h
    · obtain ⟨x, hx, e⟩ := List.mem_map.mp h
      obtain ⟨i, hi, ex⟩ := c.en x hx
      subst ex
      dsimp only at e
      split at e
      · rename_i z
        injection z with z
        have z : i = j := by omega
        subst z
        exact ⟨i, hi, by rw [← e]; simp⟩
      · rename_i z
        refine ⟨i, hi, ?_⟩
        rw [← e, if_neg (fun w => z (by rw [w]))]
    · rename_i z
      rcases List.mem_append.mp h with h' | h'
      · obtain ⟨i, hi, ex⟩ := c.en kv h'
        refine ⟨i, hi, ?_⟩
        rw [ex, if_neg]
        rintro rfl
        exact z (List.any_eq_true.mpr ⟨kv, h', by rw [ex]; simp⟩)
      · rw [List.mem_singleton.mp h']
        exact ⟨j, hj, by simp⟩
  · unfold kvPut
    split
    · have : (kvs.map fun kv => if kv.1 = D.int j then (kv.1, D.int v) else kv).map (·.1) = kvs.map (·.1) := by
        rw [List.map_map]
        apply List.map_congr_left
        intro x _
        simp only [Function.comp]
        split <;> rfl
      rw [this]
      by_cases z : i = j
      · subst z
        rename_i y
        obtain ⟨x, hx, e⟩ := List.any_eq_true.mp y
        exact List.mem_map.mpr ⟨x, hx, of_decide_eq_true e⟩
      · rw [if_neg z] at hi
        exact c.all i hi
    · rw [List.map_append]
      by_cases z : i = j
      · subst z; simp
      · rw [if_neg z] at hi
        exact List.mem_append_left _ (c.all i hi)
  · by_cases z : i = j
    · subst z; rw [if_pos rfl]; exact hv
    · rw [if_neg z]
      refine c.pos i ?_
      obtain ⟨kv, hkv, e⟩ := List.mem_map.mp hi
      rcases kvPut_in hkv with h1 | ⟨h1, h2⟩
      · exact List.mem_map.mpr ⟨kv, h1, e⟩
      · rcases h2 with ⟨x, hx, ex⟩ | h2
        · exact List.mem_map.mpr ⟨x, hx, by rw [ex, e]⟩
        · rw [h1] at e
          injection e with e
          omega
/-- what is added of the first i entries -/
noncomputable def upto (kvs : List (D × D)) (g : Cn) (i : Nat) : Cn := fun j => if D.int j ∈ (kvs.take i).map (·.1) then g j else 0
def AdI (a b r : Nat) (kb : List (D × D)) (s : Nat) (f g : Cn) (h0 : AH) (i : Nat) : St → AH → Prop := fun σ h => ∃ (kr : List (D × D)) (x3 x4 : Option D), σ = [some (.ref a), some (.ref b), some (.ref r), x3, x4] ∧ h r = some (.dct 0 kr) ∧ CD kr s (cadd f (upto kb g i)) ∧ ∀ c o, c ≠ r → h0 c = some o → h c = some o
theorem added_ok {n a b s : Nat} {ka kb : List (D × D)} {f g : Cn} {h : AH} {Q : VQ} {X : XP} (hs : s ≤ 1000) (ha : h a = some (.dct 0 ka)) (hb : h b = some (.dct 0 kb)) (ca : CD ka s f) (cb : CD kb s g)
    (k : ∀ r kr h', h r = none → Ext h h' → h' r = some (.dct 0 kr) → CD kr s (cadd f g) → Q (.ref r) h') : run P (n + 1) s_added [.ref a, .ref b] h Q X := by
  refine run_of (fd := fd_added) rfl rfl ?_
  simp [fd_added, start, b0_added]
  rw [aDctR_eq ha]
  intro r hr
  have rb : b ≠ r := ne_new hb hr
  have eb : (up h r (.dct 0 ka)) b = some (.dct 0 kb) := by rw [up_ne rb]; exact hb
  rw [lock_at rfl eb, walk_items up_same]
  have lb := cb.len
  refine ⟨fun i => AdI a b r kb s f g (up (up h r (.dct 0 ka)) b (.rdct 0 kb)) i, ⟨ka, none, none, rfl, by rw [up_ne rb.symm]; exact up_same, ?_, fun c o _ e => e⟩, (fun _ _ _ _ => trivial), ?_, ?_⟩
  · have : cadd f (upto kb g 0) = f := by funext j; simp [cadd, upto]
    rw [this]; exact ca
  · rintro i x σ hh hx ⟨kr, x3, x4, rfl, e1, c, st⟩
    obtain ⟨kv, hkv, rfl⟩ := map_at hx
    have mkv := List.mem_of_getElem? hkv
    obtain ⟨j, js, ej⟩ := cb.en kv mkv
    have new : D.int j ∉ (kb.take i).map (·.1) := fun m => by
      rw [List.map_take] at m
      obtain ⟨i', hi'⟩ := List.getElem?_of_mem m
      have li : i' < i := by
        have := (List.getElem?_eq_some_iff.mp hi').1
        simp at this
        omega
      rw [List.getElem?_take, if_pos li] at hi'
      have e2 : (kb.map (·.1))[i]? = some (D.int j) := by rw [List.getElem?_map, hkv, ej]; rfl
      have := nodup_inj cb.nd hi' e2
      omega
    rw [ej]
    simp [b1_added]
    refine ⟨recv_dct rfl e1, ?_⟩
    rw [aDct_eq e1, c.get j]
    refine ⟨rfl, ?_⟩
    have u0 : cadd f (upto kb g i) j = f j := by simp only [cadd, upto, if_neg new, Nat.add_zero]
    rw [u0]
    simp
    rw [set_dct e1]
    have lr := c.len
    have gp : g j ≠ 0 := cb.pos j (List.mem_map.mpr ⟨kv, mkv, by rw [ej]⟩)
    have cp := c.put (v := f j + g j) js (by omega)
    refine ⟨rfl, by have : LINE = 16777216 := rfl; omega, _, _, _, rfl, up_same, ?_, fun c o nc e => by rw [up_ne nc]; exact st c o nc e⟩
    have ef : (fun i_1 => if i_1 = j then f j + g j else cadd f (upto kb g i) i_1) = cadd f (upto kb g (i + 1)) := by
      funext j'
      have tk : kb.take (i + 1) = kb.take i ++ [kv] := by rw [List.take_add_one, hkv]; rfl
      simp only [cadd, upto, tk, List.map_append, List.mem_append, List.map_cons, List.map_nil, List.mem_singleton, ej]
      by_cases z : j' = j
      · subst z
        simp
      · have z2 : ¬ (D.int (j' : Int) = D.int (j : Int)) := fun w => z (by injection w with w; omega)
        simp [z, z2]
    rw [← ef]
    simpa using cp
  · rintro σ hh ⟨kr, x3, x4, rfl, e1, c, st⟩
    simp [b2_added]
    have e2 : hh b = some (.rdct 0 kb) := st b _ rb up_same
    refine k r kr _ hr (fun c o e => ?_) (by rw [up_ne rb.symm]; exact e1) ?_
    · by_cases z : c = b
      · subst z; rw [up_same, ← e, hb]
      · rw [up_ne z]
        refine st c o (ne_new e hr) ?_
        rw [up_ne z, up_ne (ne_new e hr)]
        exact e
    · have : cadd f (upto kb g (kb.map fun kv => D.tup [kv.1, kv.2]).length) = cadd f g := by
        funext j
        simp only [cadd, upto, List.length_map, List.take_length]
        by_cases m : D.int j ∈ kb.map (·.1)
        · rw [if_pos m]
        · rw [if_neg m, Classical.byContradiction fun z => m (cb.all j z)]
      rw [this] at c
      exact c
/-! ### sums over keys -/
theorem nodup_of_map {α β : Type} (f : α → β) : ∀ {l : List α}, (l.map f).Nodup → l.Nodup
  | [], _ => List.nodup_nil
  | x :: l, h => by
    rw [List.map_cons, List.nodup_cons] at h
    rw [List.nodup_cons]
    exact ⟨fun m => h.1 (List.mem_map.mpr ⟨x, m, rfl⟩), nodup_of_map f h.2⟩
theorem CD.js {kvs : List (D × D)} {s : Nat} {f : Cn} (c : CD kvs s f) : ∃ js : List Nat, kvs = js.map (fun j : Nat => (D.int (j : Int), D.int (f j : Nat))) ∧ js.Nodup ∧ (∀ j ∈ js, j ≤ s) ∧ (∀ j, f j ≠ 0 → j ∈ js) ∧ ∀ j ∈ js, f j ≠ 0 := by
  have key : ∀ (l : List (D × D)), (∀ kv ∈ l, ∃ j : Nat, j ≤ s ∧ kv = (.int j, .int (f j))) → ∃ js : List Nat, l = js.map (fun j : Nat => (D.int (j : Int), D.int (f j : Nat))) ∧ ∀ j ∈ js, j ≤ s := by
    intro l
    induction l with
    | nil => exact fun _ => ⟨[], rfl, fun _ h => nomatch h⟩
    | cons x l ih =>
      intro h
      obtain ⟨j, hj, e⟩ := h x List.mem_cons_self
      obtain ⟨js, e2, a⟩ := ih fun y hy => h y (List.mem_cons_of_mem _ hy)
      refine ⟨j :: js, by rw [e, e2]; rfl, fun y hy => ?_⟩
      rcases List.mem_cons.mp hy with rfl | hy
      · exact hj
      · exact a y hy
  obtain ⟨js, e, a⟩ := key kvs c.en
  refine ⟨js, e, ?_, a, fun j hj => ?_, fun j hj => c.pos j (by rw [e, List.map_map]; exact List.mem_map.mpr ⟨j, hj, rfl⟩)⟩
  · have := c.nd
    rw [e, List.map_map] at this
    exact nodup_of_map _ this
  · have := c.all j hj
    rw [e, List.map_map] at this
    obtain ⟨i, hi, z⟩ := List.mem_map.mp this
    simp at z
    have : i = j := by omega
    rw [← this]; exact hi
theorem sum_sub {F : Nat → Nat} : ∀ {js L : List Nat}, js.Nodup → (∀ x ∈ js, x ∈ L) → (∀ x ∈ L, x ∉ js → F x = 0) → L.Nodup → (js.map F).sum = (L.map F).sum
  | [], L, _, _, z, _ => (zsum fun x hx => z x hx (by simp)).symm
  | x :: js, L, nd, sub, z, nl => by
    have hx := sub x List.mem_cons_self
    have p := List.perm_cons_erase hx
    have e : (L.map F).sum = F x + ((L.erase x).map F).sum := by
      have := (p.map F).sum_nat
      rw [this, List.map_cons, List.sum_cons]
    rw [List.nodup_cons] at nd
    rw [e, List.map_cons, List.sum_cons, sum_sub (L := L.erase x) nd.2 (fun y hy => (List.mem_erase_of_ne (fun w => nd.1 (by rw [← w]; exact hy))).mpr (sub y (List.mem_cons_of_mem _ hy))) (fun y hy hn => ?_) (nl.erase x)]
    have ⟨h1, h2⟩ := (List.Nodup.mem_erase_iff nl).mp hy
    refine z y h2 fun m => ?_
    rcases List.mem_cons.mp m with w | m
    · exact h1 w
    · exact hn m
theorem sum_range_le {F : Nat → Nat} (j : Nat) : ∀ n, j ≤ n → ((List.range (n + 1)).map fun x => if x ≤ j then F x else 0).sum = ((List.range (j + 1)).map F).sum := by
  intro n
  induction n with
  | zero =>
    intro h
    obtain rfl : j = 0 := by omega
    simp
  | succ n ih =>
    intro h
    by_cases c : j ≤ n
    · rw [List.range_succ, List.map_append, List.sum_append, ih c]
      have : ¬ n + 1 ≤ j := by omega
      simp [this]
    · obtain rfl : j = n + 1 := by omega
      congr 1
      apply List.map_congr_left
      intro x hx
      have := List.mem_range.mp hx
      rw [if_pos (by omega)]
/-- what pairs of the two give -/
def prT (f g : Cn) (ks : List Nat) (x j : Nat) : Nat := (ks.map fun y => if x + y = j then f x * g y else 0).sum
theorem prT_eq {f g : Cn} {ks : List Nat} (nd : ks.Nodup) (all : ∀ j, g j ≠ 0 → j ∈ ks) (x j : Nat) : prT f g ks x j = if x ≤ j then f x * g (j - x) else 0 := by
  unfold prT
  by_cases h : x ≤ j
  · rw [if_pos h]
    by_cases m : (j - x) ∈ ks
    · have := sum_sub (F := fun y => if x + y = j then f x * g y else 0) (js := [j - x]) (L := ks) (by simp) (fun y hy => by rw [List.mem_singleton.mp hy]; exact m) (fun y _ hn => ?_) nd
      · rw [← this]
        simp
        intro w
        omega
      · rw [if_neg]
        intro e
        exact hn (List.mem_singleton.mpr (by omega))
    · have z : g (j - x) = 0 := Classical.byContradiction fun z => m (all _ z)
      rw [z, Nat.mul_zero]
      refine zsum fun y hy => ?_
      rw [if_neg]
      rintro rfl
      exact m (by rw [Nat.add_sub_cancel_left]; exact hy)
  · rw [if_neg h]
    refine zsum fun y hy => ?_
    rw [if_neg (by omega)]
theorem prs_eq {f g : Cn} {js ks : List Nat} {s : Nat} (nj : js.Nodup) (aj : ∀ j, f j ≠ 0 → j ∈ js) (lj : ∀ j ∈ js, j ≤ s) (nk : ks.Nodup) (ak : ∀ j, g j ≠ 0 → j ∈ ks) (j : Nat) : (js.map fun x => prT f g ks x j).sum = cmul f g j := by
  have e1 : (js.map fun x => prT f g ks x j) = js.map fun x => if x ≤ j then f x * g (j - x) else 0 := List.map_congr_left fun x _ => prT_eq nk ak x j
  rw [e1]
  rw [sum_sub (L := List.range (max s j + 1)) nj (fun x hx => List.mem_range.mpr (by have := lj x hx; omega)) (fun x _ hn => ?_) List.nodup_range]
  · exact sum_range_le (F := fun x => f x * g (j - x)) j (max s j) (by omega)
  · have : f x = 0 := Classical.byContradiction fun z => hn (aj x z)
    simp [this]
def CrJ (a b r : Nat) (cx cf : D) (ks : List Nat) (f g F : Cn) (x u : Nat) (h0 : AH) (i : Nat) : St → AH → Prop := fun σ h => ∃ (kr : List (D × D)) (x5 x6 : Option D), σ = [some (.ref a), some (.ref b), some (.ref r), some cx, some cf, x5, x6] ∧ h r = some (.dct 0 kr) ∧ CD kr u (fun j => F j + prT f g (ks.take i) x j) ∧ ∀ c o, c ≠ r → h0 c = some o → h c = some o
theorem cr_in {C : Cx} {R : Ends} {a b r x s t : Nat} {kr kb : List (D × D)} {ks : List Nat} {f g F : Cn} {x5 x6 : Option D} {hh : AH} (hs : s + t ≤ 1000) (bw : ∃ w, 0 < w ∧ w ≤ 500000 ∧ ∀ j, f j < 2 ^ w ∧ g j < 2 ^ w) (ek : kb = ks.map fun j : Nat => (D.int (j : Int), D.int (g j : Nat))) (lk : ∀ j ∈ ks, j ≤ t) (fx : f x ≠ 0) (gk : ∀ j ∈ ks, g j ≠ 0) (hx : x ≤ s) (hr : hh r = some (.dct 0 kr)) (cr : CD kr (s + t) F) (hb : hh b = some (.rdct 0 kb))
    (k : ∀ kr' x5 x6 h', h' r = some (.dct 0 kr') → CD kr' (s + t) (fun j => F j + prT f g ks x j) → (∀ c o, c ≠ r → hh c = some o → h' c = some o) → R.nx [some (.ref a), some (.ref b), some (.ref r), some (.int x), some (.int (f x : Nat)), x5, x6] h') :
    wS C (.for_ (.tp [5, 6]) .items (.cons (.var 1) .nil) b2_crossed) R [some (.ref a), some (.ref b), some (.ref r), some (.int x), some (.int (f x : Nat)), x5, x6] hh := by
  simp
  rw [walk_items hb]
  refine ⟨fun i => CrJ a b r (.int x) (.int (f x : Nat)) ks f g F x (s + t) hh i, ⟨kr, x5, x6, rfl, hr, by simpa [prT] using cr, fun _ _ _ e => e⟩, (fun _ _ _ _ => trivial), ?_, ?_⟩
  · rintro i y σ h' hy ⟨kr, x5, x6, rfl, e1, c, st⟩
    rw [ek, List.map_map] at hy
    obtain ⟨j, hj, rfl⟩ := map_at hy
    have mj := lk j (List.mem_of_getElem? hj)
    simp [b2_crossed]
    refine ⟨recv_dct rfl e1, ?_⟩
    have cast : (x : Int) + (j : Int) = ((x + j : Nat) : Int) := by omega
    rw [aDct_eq e1, cast, c.get (x + j)]
    refine ⟨rfl, ?_⟩
    simp
    obtain ⟨w, w0, w1, w2⟩ := bw
    refine ⟨.inr (.inr ⟨w, w0, w1, by simpa using (w2 x).1, by simpa using (w2 j).2⟩), ?_⟩
    rw [cast, set_dct e1]
    have lr := c.len
    have cp := c.put (j := x + j) (v := F (x + j) + prT f g (ks.take i) x (x + j) + f x * g j) (by omega) (by have := Nat.mul_ne_zero fx (gk j (List.mem_of_getElem? hj)); omega)
    refine ⟨rfl, by have : LINE = 16777216 := rfl; omega, _, _, _, rfl, up_same, ?_, fun c o nc e => by rw [up_ne nc]; exact st c o nc e⟩
    have ef : (fun i_1 => if i_1 = x + j then F (x + j) + prT f g (ks.take i) x (x + j) + f x * g j else F i_1 + prT f g (ks.take i) x i_1) = fun j' => F j' + prT f g (ks.take (i + 1)) x j' := by
      funext j'
      have tk : ks.take (i + 1) = ks.take i ++ [j] := by rw [List.take_add_one, hj]; rfl
      simp only [prT, tk, List.map_append, List.sum_append, List.map_cons, List.map_nil, List.sum_cons, List.sum_nil]
      by_cases z : j' = x + j
      · subst z; simp; omega
      · rw [if_neg z, if_neg (fun w => z w.symm)]; omega
    rw [ef] at cp
    simpa using cp
  · rintro σ h' ⟨kr, x5, x6, rfl, e1, c, st⟩
    have : ks.take (kb.map fun kv => D.tup [kv.1, kv.2]).length = ks := by rw [ek]; simp
    rw [this] at c
    exact k kr x5 x6 h' e1 c st
def CrI (a b r : Nat) (js ks : List Nat) (f g : Cn) (u : Nat) (h0 : AH) (i : Nat) : St → AH → Prop := fun σ h => ∃ (kr : List (D × D)) (x3 x4 x5 x6 : Option D), σ = [some (.ref a), some (.ref b), some (.ref r), x3, x4, x5, x6] ∧ h r = some (.dct 0 kr) ∧ CD kr u (fun j => ((js.take i).map fun x => prT f g ks x j).sum) ∧ ∀ c o, c ≠ r → h0 c = some o → h c = some o
theorem crossed_ok {n a b s t : Nat} {ka kb : List (D × D)} {f g : Cn} {h : AH} {Q : VQ} {X : XP} (hs : s + t ≤ 1000) (bw : ∃ w, 0 < w ∧ w ≤ 500000 ∧ ∀ j, f j < 2 ^ w ∧ g j < 2 ^ w) (ha : h a = some (.dct 0 ka)) (hb : h b = some (.dct 0 kb)) (ca : CD ka s f) (cb : CD kb t g)
    (k : ∀ r kr h', h r = none → Ext h h' → h' r = some (.dct 0 kr) → CD kr (s + t) (cmul f g) → Q (.ref r) h') : run P (n + 1) s_crossed [.ref a, .ref b] h Q X := by
  obtain ⟨js, ea, nj, lj, aj, fj⟩ := ca.js
  obtain ⟨ks, eb, nk, lk, ak, gk⟩ := cb.js
  refine run_of (fd := fd_crossed) rfl rfl ?_
  simp [fd_crossed, start, b0_crossed]
  intro r hr
  have ra : a ≠ r := ne_new ha hr
  have rb : b ≠ r := ne_new hb hr
  have ea1 : (up h r (.dct 0 [])) a = some (.dct 0 ka) := by rw [up_ne ra]; exact ha
  refine .inl ?_
  rw [lock_at rfl ea1, walk_items up_same]
  have la := ca.len
  refine ⟨fun i => CrI a b r js ks f g (s + t) (up (up h r (.dct 0 [])) a (.rdct 0 ka)) i, ⟨[], none, none, none, none, rfl, by rw [up_ne ra.symm]; exact up_same, CD.nil, fun _ _ _ e => e⟩, (fun _ _ _ _ => trivial), ?_, ?_⟩
  · rintro i y σ hh hy ⟨kr, x3, x4, x5, x6, rfl, e1, c, st⟩
    rw [ea, List.map_map] at hy
    obtain ⟨x, hx, rfl⟩ := map_at hy
    have mx := lj x (List.mem_of_getElem? hx)
    have next : ∀ (kr' : List (D × D)) (x5 x6 : Option D) (h' : AH), h' r = some (.dct 0 kr') → CD kr' (s + t) (fun j => ((js.take i).map fun x => prT f g ks x j).sum + prT f g ks x j) → (∀ c o, c ≠ r → (up (up h r (.dct 0 [])) a (.rdct 0 ka)) c = some o → h' c = some o) → CrI a b r js ks f g (s + t) (up (up h r (.dct 0 [])) a (.rdct 0 ka)) (i + 1) [some (.ref a), some (.ref b), some (.ref r), some (.int x), some (.int (f x : Nat)), x5, x6] h' := fun kr' x5 x6 h' e2 c2 st2 => by
      refine ⟨kr', _, _, x5, x6, rfl, e2, ?_, st2⟩
      have tk : js.take (i + 1) = js.take i ++ [x] := by rw [List.take_add_one, hx]; rfl
      have : (fun j => ((js.take (i + 1)).map fun x => prT f g ks x j).sum) = fun j => ((js.take i).map fun x => prT f g ks x j).sum + prT f g ks x j := by
        funext j
        rw [tk, List.map_append, List.sum_append]
        simp
      rw [this]
      exact c2
    by_cases ab : a = b
    · subst ab
      have ha2 : hh a = some (.rdct 0 ka) := st a _ ra up_same
      rw [ha] at hb
      have ekk : ka = kb := by injection hb with z; injection z
      have key := cr_in (C := ⟨run P n, X⟩) (R := { nx := CrI a a r js ks f g (s + t) (up (up h r (.dct 0 [])) a (.rdct 0 ka)) (i + 1), rt := Q, bk := fun _ _ => False, ct := fun _ _ => False }) (a := a) (b := a) (f := f) (x5 := x5) (x6 := x6) hs bw (ekk.trans eb) lk (fj x (List.mem_of_getElem? hx)) gk mx e1 c ha2 (fun kr' x5 x6 h' e2 c2 st2 => next kr' x5 x6 h' e2 c2 fun c o nc e => st2 c o nc (st c o nc e))
      simp [b1_crossed] at key ⊢
      exact .inr key
    · have hb2 : hh b = some (.dct 0 kb) := st b _ rb (by rw [up_ne (fun z => ab z.symm), up_ne rb]; exact hb)
      have key := cr_in (C := ⟨run P n, X⟩) (R := { nx := fun σ' h' => CrI a b r js ks f g (s + t) (up (up h r (.dct 0 [])) a (.rdct 0 ka)) (i + 1) σ' (up h' b (.dct 0 kb)), rt := Q, bk := fun _ _ => False, ct := fun _ _ => False }) (a := a) (b := b) (f := f) (x5 := x5) (x6 := x6) (hh := up hh b (.rdct 0 kb)) hs bw eb lk (fj x (List.mem_of_getElem? hx)) gk mx (by rw [up_ne rb.symm]; exact e1) c up_same (fun kr' x5 x6 h' e2 c2 st2 => next kr' x5 x6 _ (by rw [up_ne rb.symm]; exact e2) c2 fun c o nc e => by
        by_cases z : c = b
        · subst z
          rw [up_same, ← e, up_ne (fun z => ab z.symm), up_ne rb, hb]
        · rw [up_ne z]
          exact st2 c o nc (by rw [up_ne z]; exact st c o nc e))
      simp [b1_crossed] at key ⊢
      refine .inl ?_
      rw [lock_at rfl hb2]
      exact key
  · rintro σ hh ⟨kr, x3, x4, x5, x6, rfl, e1, c, st⟩
    simp [b3_crossed]
    refine k r kr _ hr (fun c o e => ?_) (by rw [up_ne ra.symm]; exact e1) ?_
    · by_cases z : c = a
      · subst z; rw [up_same, ← e, ha]
      · rw [up_ne z]
        refine st c o (ne_new e hr) ?_
        rw [up_ne z, up_ne (ne_new e hr)]
        exact e
    · have t1 : js.take (ka.map fun kv => D.tup [kv.1, kv.2]).length = js := by rw [ea]; simp
      rw [t1] at c
      have : (fun j => (js.map fun x => prT f g ks x j).sum) = cmul f g := by
        funext j
        exact prs_eq nj aj lj nk ak j
      rw [this] at c
      exact c
/-! ### the counts are not too wide -/
theorem sum_le_mul {l : List Nat} {f : Nat → Nat} {B : Nat} (h : ∀ x ∈ l, f x ≤ B) : (l.map f).sum ≤ l.length * B := by
  induction l with
  | nil => simp
  | cons x l ih =>
    rw [List.map_cons, List.sum_cons, List.length_cons, Nat.succ_mul]
    have := h x List.mem_cons_self
    have := ih fun y hy => h y (List.mem_cons_of_mem _ hy)
    omega
theorem wd_wst (W : Sx → Nat) : ∀ k : Kd, (∀ s, k ≠ .rule s) → wd W k ≤ wst W k
  | .one, _ => by simp [wd, wst]
  | .name, _ => by simp [wd, wst]
  | .none, _ => by simp [wd, wst]
  | .rule s, h => (h s rfl).elim
  | .node a, _ => by simp [wd, wst]; omega
  | .sum a b, _ => by simp only [wst]; omega
  | .pair a b, _ => by simp only [wst]; omega
theorem pair_wide {s j T Rr : Nat} {u v : Nat → Cn} (hs : s ≤ 40) (hj : j ≤ s) (term : ∀ p, p ≤ s → ∀ x, x ≤ j → u p x * v p (j - x) * 2 ^ 80 ≤ T) (e0 : T ≤ Rr * 2 ^ 29) : ((List.range (s + 1)).map fun p => cmul (u p) (v p) j).sum * 2 ^ 40 ≤ Rr := by
  have c1 : ∀ p, p ≤ s → ∀ x, x ≤ j → u p x * v p (j - x) ≤ T / 2 ^ 80 := fun p hp x hx => (Nat.le_div_iff_mul_le (by decide)).mpr (term p hp x hx)
  have c2 : ∀ p ∈ List.range (s + 1), cmul (u p) (v p) j ≤ 41 * (T / 2 ^ 80) := fun p hp => by
    have hp := List.mem_range.mp hp
    have := sum_le_mul (l := List.range (j + 1)) (f := fun x => u p x * v p (j - x)) (B := T / 2 ^ 80) fun x hx => c1 p (by omega) x (by have := List.mem_range.mp hx; omega)
    rw [List.length_range] at this
    exact Nat.le_trans this (Nat.mul_le_mul_right _ (by omega))
  have c3 := sum_le_mul c2
  rw [List.length_range] at c3
  have c4 : ((List.range (s + 1)).map fun p => cmul (u p) (v p) j).sum ≤ 2048 * (T / 2 ^ 80) := by
    refine Nat.le_trans c3 ?_
    rw [← Nat.mul_assoc]
    exact Nat.mul_le_mul_right _ (by omega)
  have c5 : T / 2 ^ 80 * 2 ^ 80 ≤ T := Nat.div_mul_le_self _ _
  refine Nat.le_of_mul_le_mul_right (c := 2 ^ 29) ?_ (by decide)
  refine Nat.le_trans ?_ (Nat.le_trans c5 e0)
  refine Nat.le_trans (Nat.mul_le_mul_right _ (Nat.mul_le_mul_right _ c4)) ?_
  refine Nat.le_of_eq ?_
  rw [Nat.mul_assoc, ← Nat.pow_add, Nat.mul_comm 2048, Nat.mul_assoc, show (2048 : Nat) = 2 ^ 11 from rfl, ← Nat.pow_add]
section
variable {ts : List Sx} {rs : Rs} {W : Sx → Nat}
theorem cn_wide (ri : RI ts rs) (l6 : ts.length ≤ 6) (ce : Cert W rs) (wr : ∀ s, W s ≤ 21) : ∀ (n : Nat) (k : Kd) (s i j : Nat), i ≤ ts.length → k.dp ≤ 3 → Bw (· ∈ ts.drop i) (· ∈ ts) k → wst W k ≤ 21 → s ≤ 40 →
    cn rs n k s j * 2 ^ 40 ≤ 2 ^ (64 * wd W k + (4 * (6 - i) + k.dp) + 2000 * s) := by
  intro n
  induction n with
  | zero => intro k s i j _ _ _ _ _; simp [cn, c0]
  | succ n ih =>
    intro k s i j hi hd hb hw hs
    have leaf : ∀ v : Nat, v ≤ 1 → 1 ≤ wd W k → v * 2 ^ 40 ≤ 2 ^ (64 * wd W k + (4 * (6 - i) + k.dp) + 2000 * s) := fun v hv h1 => by
      have : (2 : Nat) ^ 40 ≤ 2 ^ (64 * wd W k + (4 * (6 - i) + k.dp) + 2000 * s) := Nat.pow_le_pow_right (by decide) (by omega)
      have : v * 2 ^ 40 ≤ 1 * 2 ^ 40 := Nat.mul_le_mul_right _ hv
      omega
    cases k with
    | one => exact leaf _ (by simp only [cn]; split <;> simp [c1, c0] <;> split <;> omega) (by simp [wd])
    | name => exact leaf _ (by simp only [cn]; split <;> simp [c1, c0] <;> split <;> omega) (by simp [wd])
    | none => exact leaf _ (by simp [cn, c0]) (by simp [wd])
    | rule r =>
      obtain ⟨j', k, ij, jl, e, d3, b⟩ := lookup_at ri hb
      simp only [cn, e]
      have m := lookup_in e
      have h1 : wd W k ≤ W r := ce.le _ m
      have h2 : wst W k ≤ 20 := ce.wd20 _ m
      refine Nat.le_trans (ih k s (j' + 1) j (by omega) d3 b (by omega) hs) (Nat.pow_le_pow_right (by decide) ?_)
      simp only [wd, Kd.dp]
      omega
    | node a =>
      simp only [cn]
      cases s with
      | zero => simp [c0]
      | succ t =>
        simp only [Kd.dp] at hd
        simp only [wst] at hw
        have wa : wd W a ≤ 21 := by
          cases a with
          | rule s => exact wr s
          | _ => exact Nat.le_trans (wd_wst W _ (by intro s z; cases z)) (by omega)
        refine Nat.le_trans (ih a t 0 j (Nat.zero_le _) (by omega) (bw_all hb) (by omega) (by omega)) (Nat.pow_le_pow_right (by decide) ?_)
        simp only [wd, Kd.dp]
        omega
    | sum a b =>
      simp only [cn, cadd]
      simp only [Kd.dp] at hd
      simp only [wst] at hw
      have h1 := ih a s i j hi (by omega) hb.1 (by omega) hs
      have h2 := ih b s i j hi (by omega) hb.2 (by omega) hs
      simp only [wd, Kd.dp]
      have p1 : (2 : Nat) ^ (64 * wd W a + (4 * (6 - i) + a.dp) + 2000 * s) ≤ 2 ^ (64 * max (wd W a) (wd W b) + (4 * (6 - i) + max a.dp b.dp) + 2000 * s) := Nat.pow_le_pow_right (by decide) (by omega)
      have p2 : (2 : Nat) ^ (64 * wd W b + (4 * (6 - i) + b.dp) + 2000 * s) ≤ 2 ^ (64 * max (wd W a) (wd W b) + (4 * (6 - i) + max a.dp b.dp) + 2000 * s) := Nat.pow_le_pow_right (by decide) (by omega)
      have p3 : (2 : Nat) ^ (64 * max (wd W a) (wd W b) + (4 * (6 - i) + (max a.dp b.dp + 1)) + 2000 * s) = 2 * 2 ^ (64 * max (wd W a) (wd W b) + (4 * (6 - i) + max a.dp b.dp) + 2000 * s) := by
        rw [show 64 * max (wd W a) (wd W b) + (4 * (6 - i) + (max a.dp b.dp + 1)) + 2000 * s = (64 * max (wd W a) (wd W b) + (4 * (6 - i) + max a.dp b.dp) + 2000 * s) + 1 by omega, Nat.pow_succ, Nat.mul_comm]
      rw [p3, Nat.add_mul, Nat.two_mul]
      exact Nat.add_le_add (Nat.le_trans h1 p1) (Nat.le_trans h2 p2)
    | pair a b =>
      by_cases hj : s < j
      · rw [cn_top rs (n + 1) (.pair a b) s j hj, Nat.zero_mul]
        exact Nat.zero_le _
      simp only [cn]
      simp only [Kd.dp] at hd
      simp only [wst] at hw
      rw [csum_at]
      have term : ∀ p, p ≤ s → ∀ x, x ≤ j → cn rs n a p x * cn rs n b (s - p) (j - x) * 2 ^ 80 ≤ 2 ^ (64 * (wd W a + wd W b) + (8 * (6 - i) + a.dp + b.dp) + 2000 * s) := fun p hp x hx => by
        have h1 := ih a p i x hi (by omega) hb.1 (by omega) (by omega)
        have h2 := ih b (s - p) i (j - x) hi (by omega) hb.2 (by omega) (by omega)
        have := Nat.mul_le_mul h1 h2
        rw [← Nat.pow_add] at this
        have e1 : cn rs n a p x * 2 ^ 40 * (cn rs n b (s - p) (j - x) * 2 ^ 40) = cn rs n a p x * cn rs n b (s - p) (j - x) * 2 ^ 80 := by
          rw [show (2 : Nat) ^ 80 = 2 ^ 40 * 2 ^ 40 by rw [← Nat.pow_add]]
          simp only [Nat.mul_assoc, Nat.mul_left_comm]
        rw [e1] at this
        refine Nat.le_trans this (Nat.pow_le_pow_right (by decide) (by omega))
      have e0 : (2 : Nat) ^ (64 * (wd W a + wd W b) + (8 * (6 - i) + a.dp + b.dp) + 2000 * s) ≤ 2 ^ (64 * wd W (.pair a b) + (4 * (6 - i) + (Kd.pair a b).dp) + 2000 * s) * 2 ^ 29 := by
        rw [← Nat.pow_add]
        refine Nat.pow_le_pow_right (by decide) ?_
        simp only [wd, Kd.dp]
        omega
      generalize (2 : Nat) ^ (64 * wd W (.pair a b) + (4 * (6 - i) + (Kd.pair a b).dp) + 2000 * s) = Rr at e0
      generalize (2 : Nat) ^ (64 * (wd W a + wd W b) + (8 * (6 - i) + a.dp + b.dp) + 2000 * s) = T at term e0
      exact pair_wide hs (by omega) term e0
end
section
variable {ts : List Sx} {rs : Rs} {W : Sx → Nat}
theorem CT_wide (ri : RI ts rs) (l6 : ts.length ≤ 6) (ce : Cert W rs) (wr : ∀ s, W s ≤ 21) {k : Kd} (wk : W3' ts k) (hw : wst W k ≤ 21) (hw2 : wd W k ≤ 21) {s j w : Nat} (hs : s ≤ 40) (h : 85000 ≤ w) : CT rs k s j < 2 ^ w := by
  have h1 := cn_wide ri l6 ce wr (40 * s + 80) k s 0 j (Nat.zero_le _) wk.2 (bw_all wk.1) hw hs
  have d3 := wk.2
  have h2 : (2 : Nat) ^ (64 * wd W k + (4 * (6 - 0) + k.dp) + 2000 * s) ≤ 2 ^ w := Nat.pow_le_pow_right (by decide) (by omega)
  have h3 : CT rs k s j * 2 ^ 40 ≤ 2 ^ w := Nat.le_trans h1 h2
  have p : 0 < 2 ^ w := Nat.pow_pos (by decide)
  generalize (2 : Nat) ^ w = Z at h3 p
  have h4 : CT rs k s j * 2 ≤ CT rs k s j * 2 ^ 40 := Nat.mul_le_mul_left _ (by decide)
  generalize CT rs k s j = v at h3 h4
  have := Nat.le_trans h4 h3
  omega
end
/-! ### keys of kinds and sizes -/
theorem encK_PP : ∀ k : Kd, PP (k.dp + 1) (encK k)
  | .one => PP.tup fun d hd => by simp at hd; subst hd; exact PP.str
  | .name => PP.tup fun d hd => by simp at hd; subst hd; exact PP.str
  | .none => PP.tup fun d hd => by simp at hd; subst hd; exact PP.str
  | .rule _ => PP.tup fun d hd => by
    simp at hd
    rcases hd with rfl | rfl <;> exact PP.str
  | .node a => PP.tup fun d hd => by
    simp at hd
    rcases hd with rfl | rfl
    · exact PP.str
    · exact encK_PP a
  | .sum a b => PP.tup fun d hd => by
    simp at hd
    rcases hd with rfl | rfl | rfl
    · exact PP.str
    · exact (encK_PP a).mono (by simp only [Kd.dp]; omega)
    · exact (encK_PP b).mono (by simp only [Kd.dp]; omega)
  | .pair a b => PP.tup fun d hd => by
    simp at hd
    rcases hd with rfl | rfl | rfl
    · exact PP.str
    · exact (encK_PP a).mono (by simp only [Kd.dp]; omega)
    · exact (encK_PP b).mono (by simp only [Kd.dp]; omega)
def keyD (k : Kd) (s : Nat) : D := .tup [encK k, .int (s : Int)]
theorem nk_key {k : Kd} {s : Nat} (h : k.dp ≤ 3) : nkOk (keyD k s) = true := by
  obtain ⟨h1, h2⟩ := (encK_PP k).mono (m := 7) (by omega)
  simp [keyD, nkOk, pureDs, plains, h1, h2, pureD, plain]
theorem encK_inj' : ∀ {a b : Kd}, encK a = encK b → a = b
  | .one, b, h => by cases b <;> simp [encK] at h ⊢
  | .name, b, h => by cases b <;> simp [encK] at h ⊢
  | .none, b, h => by cases b <;> simp [encK] at h ⊢
  | .rule s, b, h => by cases b <;> simp [encK] at h ⊢; exact h
  | .node x, b, h => by cases b <;> simp [encK] at h ⊢; exact encK_inj' h
  | .sum x y, b, h => by cases b <;> simp [encK] at h ⊢; exact ⟨encK_inj' h.1, encK_inj' h.2⟩
  | .pair x y, b, h => by cases b <;> simp [encK] at h ⊢; exact ⟨encK_inj' h.1, encK_inj' h.2⟩
theorem keyD_inj {k k' : Kd} {s s' : Nat} (h : keyD k s = keyD k' s') : k = k' ∧ s = s' := by
  simp only [keyD, D.tup.injEq, List.cons.injEq, D.int.injEq, and_true] at h
  exact ⟨encK_inj' h.1, by omega⟩
/-! ### what is held -/
def HeldOk (KL : List Kd) (rs : Rs) (kvs : List (D × D)) (h : AH) : Prop := (kvs.map (·.1)).Nodup ∧ ∀ kv ∈ kvs, ∃ (k : Kd) (s r : Nat) (d : List (D × D)), kv = (keyD k s, .ref r) ∧ h r = some (.dct 0 d) ∧ CD d s (CT rs k s) ∧ k ∈ KL ∧ s ≤ 40
theorem HeldOk.get {KL : List Kd} {rs : Rs} {kvs : List (D × D)} {h : AH} (c : HeldOk KL rs kvs h) {k : Kd} {s : Nat} (m : (kvGet kvs (keyD k s)).isSome = true) : ∃ r d, kvGet kvs (keyD k s) = some (.ref r) ∧ h r = some (.dct 0 d) ∧ CD d s (CT rs k s) := by
  obtain ⟨v, hv⟩ := Option.isSome_iff_exists.mp m
  have mem : (keyD k s, v) ∈ kvs := by
    unfold kvGet at hv
    cases e : kvs.find? fun kv => decide (kv.1 = keyD k s) with
    | none => rw [e] at hv; cases hv
    | some kv =>
      rw [e] at hv
      injection hv with hv
      have h1 := List.mem_of_find?_eq_some e
      have h2 : kv.1 = keyD k s := by simpa using List.find?_some e
      rw [← hv, ← h2]
      exact h1
  obtain ⟨k', s', r, d, e, hr, cd, _⟩ := c.2 _ mem
  injection e with e1 e2
  obtain ⟨rfl, rfl⟩ := keyD_inj e1
  exact ⟨r, d, by rw [hv, e2], hr, cd⟩
theorem kvPut_mem' {kvs : List (D × D)} {k v : D} {kv : D × D} (h : kv ∈ kvPut kvs k v) : kv ∈ kvs ∨ kv = (k, v) := by
  unfold kvPut at h
  split at h
  · obtain ⟨x, hx, e⟩ := List.mem_map.mp h
    split at e
    · rename_i z
      right
      rw [← e, z]
    · left
      rw [← e]; exact hx
  · rcases List.mem_append.mp h with h | h
    · exact .inl h
    · exact .inr (List.mem_singleton.mp h)
theorem HeldOk.put {KL : List Kd} {rs : Rs} {kvs d : List (D × D)} {h : AH} {k : Kd} {s r : Nat} (c : HeldOk KL rs kvs h) (hr : h r = some (.dct 0 d)) (cd : CD d s (CT rs k s)) (mk : k ∈ KL) (ms : s ≤ 40) : HeldOk KL rs (kvPut kvs (keyD k s) (.ref r)) h :=
  ⟨kvPut_keys' c.1, fun kv m => (kvPut_mem' m).elim (c.2 kv) fun e => ⟨k, s, r, d, e, hr, cd, mk, ms⟩⟩
/-- all but what is held at ph stays -/
theorem HeldOk.ke {KL : List Kd} {rs : Rs} {kvs : List (D × D)} {h h' : AH} {ph : Nat} {kw : List (D × D)} (c : HeldOk KL rs kvs h) (hp : h ph = some (.dcn kw)) (x : Ke ph h h') : HeldOk KL rs kvs h' :=
  ⟨c.1, fun kv m => by
    obtain ⟨k, s, r, d, e, hr, cd, mm⟩ := c.2 kv m
    exact ⟨k, s, r, d, e, x r _ (fun z => by subst z; rw [hp] at hr; cases hr) hr, cd, mm⟩⟩
theorem kv_mono {kvs : List (D × D)} {a k v : D} (h : (kvGet kvs a).isSome = true) : (kvGet (kvPut kvs k v) a).isSome = true := by
  rw [kvGet_put]
  split
  · rfl
  · exact h
theorem RD.ke {q p : Nat} {rs : Rs} {h h' : AH} (r : RD q rs h) (n : q ≠ p) (x : Ke p h h') : RD q rs h' := r.imp (x _ _ n) (x _ _ n)
theorem RD.aR {q : Nat} {rs : Rs} {h : AH} {f : Nat → Nat → List (D × D) → Prop} (r : RD q rs h) : aDctR (.ref q) h f = f q 0 (encRs rs) := by
  rcases r with e | e
  · exact aDctR_eq e
  · exact aDctR_req e
theorem RD.ne {q p : Nat} {rs : Rs} {h : AH} {o : Ob} (r : RD q rs h) (e : h p = some o) (n1 : ∀ k kvs, o ≠ .dct k kvs) (n2 : ∀ k kvs, o ≠ .rdct k kvs) : q ≠ p := fun z => by
  subst z
  rcases r with r | r <;> rw [e] at r
  · exact n1 _ _ (Option.some.inj r)
  · exact n2 _ _ (Option.some.inj r)
/-- held -/
def Hd (kvs : List (D × D)) (k : Kd) (s : Nat) : Prop := (kvGet kvs (keyD k s)).isSome = true
/-- what a row is made of is held -/
def Kids (rs : Rs) (kvs : List (D × D)) : Kd → Nat → Prop
  | .rule r, s => ∀ k', rs.lookup r = some k' → Hd kvs k' s
  | .sum a b, s => Hd kvs a s ∧ Hd kvs b s
  | .pair a b, s => ∀ p, p ≤ s → Hd kvs a p ∧ (CT rs a p ≠ c0 → Hd kvs b (s - p))
  | .node a, s => ∀ u, s = u + 1 → Hd kvs a u
  | _, _ => True
theorem Kids.mo {rs : Rs} {kvs kvs' : List (D × D)} (m : ∀ a, (kvGet kvs a).isSome = true → (kvGet kvs' a).isSome = true) : ∀ {k : Kd} {s : Nat}, Kids rs kvs k s → Kids rs kvs' k s
  | .rule _, _, h => fun k' e => m _ (h k' e)
  | .sum _ _, _, h => ⟨m _ h.1, m _ h.2⟩
  | .pair _ _, _, h => fun p hp => ⟨m _ (h p hp).1, fun z => m _ ((h p hp).2 z)⟩
  | .node _, _, h => fun u e => m _ (h u e)
  | .one, _, _ => trivial
  | .name, _, _ => trivial
  | .none, _, _ => trivial
def HC (rs : Rs) (kvs : List (D × D)) : Prop := ∀ k s, Hd kvs k s → Kids rs kvs k s
theorem HC.put {rs : Rs} {kvs : List (D × D)} {k : Kd} {s : Nat} {v : D} (c : HC rs kvs) (kd : Kids rs kvs k s) : HC rs (kvPut kvs (keyD k s) v) := fun k1 s1 h => by
  by_cases z : keyD k s = keyD k1 s1
  · obtain ⟨rfl, rfl⟩ := keyD_inj z
    exact kd.mo fun a => kv_mono
  · refine (c k1 s1 ?_).mo fun a => kv_mono
    unfold Hd at h
    rw [kvGet_put, if_neg z] at h
    exact h
/-- a Tally as it stands: its rules at q, what it holds at ph -/
structure TL (KL : List Kd) (rs : Rs) (ps q ph : Nat) (sz : Int) (kvs : List (D × D)) (h : AH) : Prop where
  me : h ps = some (.ins s_Tally [(s_rules, .ref q), (s_held, .ref ph), (s_sizes, .int sz)])
  ru : RD q rs h
  he : h ph = some (.dcn kvs)
  ok : HeldOk KL rs kvs h
  hc : HC rs kvs
/-- what a run of counted or fresh leaves -/
structure TG (KL : List Kd) (rs : Rs) (ps q ph : Nat) (sz : Int) (kvs : List (D × D)) (h : AH) (kvs' : List (D × D)) (h' : AH) : Prop where
  tl : TL KL rs ps q ph sz kvs' h'
  ke : Ke ph h h'
  mo : ∀ a, (kvGet kvs a).isSome = true → (kvGet kvs' a).isSome = true
theorem TG.refl {KL : List Kd} {rs : Rs} {ps q ph : Nat} {sz : Int} {kvs : List (D × D)} {h : AH} (t : TL KL rs ps q ph sz kvs h) : TG KL rs ps q ph sz kvs h kvs h := ⟨t, .refl, fun _ m => m⟩
theorem TG.trans {KL : List Kd} {rs : Rs} {ps q ph : Nat} {sz : Int} {kvs kvs1 kvs2 : List (D × D)} {h h1 h2 : AH} (a : TG KL rs ps q ph sz kvs h kvs1 h1) (b : TG KL rs ps q ph sz kvs1 h1 kvs2 h2) : TG KL rs ps q ph sz kvs h kvs2 h2 := ⟨b.tl, a.ke.trans b.ke, fun x m => b.mo x (a.mo x m)⟩
theorem TL.ext {KL : List Kd} {rs : Rs} {ps q ph : Nat} {sz : Int} {kvs : List (D × D)} {h h' : AH} (t : TL KL rs ps q ph sz kvs h) (x : Ext h h') : TL KL rs ps q ph sz kvs h' := ⟨x _ _ t.me, t.ru.ext x, x _ _ t.he, t.ok.ke t.he x.ke, t.hc⟩
theorem TG.ext {KL : List Kd} {rs : Rs} {ps q ph : Nat} {sz : Int} {kvs kvs' : List (D × D)} {h h1 h2 : AH} (a : TG KL rs ps q ph sz kvs h kvs' h1) (x : Ext h1 h2) : TG KL rs ps q ph sz kvs h kvs' h2 := ⟨a.tl.ext x, a.ke.trans x.ke, a.mo⟩
theorem flat_len : ∀ KL : List Kd, (KL.flatMap fun k => (List.range 41).map fun s => keyD k s).length = KL.length * 41
  | [] => rfl
  | k :: KL => by
    have := flat_len KL
    rw [List.flatMap_cons, List.length_append, this, List.length_map, List.length_range, List.length_cons]
    omega
/-- so many are held at most -/
theorem HeldOk.len {KL : List Kd} {rs : Rs} {kvs : List (D × D)} {h : AH} (c : HeldOk KL rs kvs h) : kvs.length ≤ KL.length * 41 := by
  have sub : ∀ x ∈ kvs.map (·.1), x ∈ KL.flatMap fun k => (List.range 41).map fun s => keyD k s := fun x hx => by
    obtain ⟨kv, hkv, rfl⟩ := List.mem_map.mp hx
    obtain ⟨k, s, r, d, e, _, _, mk, ms⟩ := c.2 kv hkv
    rw [e]
    exact List.mem_flatMap.mpr ⟨k, mk, List.mem_map.mpr ⟨s, List.mem_range.mpr (by omega), rfl⟩⟩
  have h1 := List.Nodup.length_le_of_subset c.1 sub
  have h2 := flat_len KL
  rw [h2, List.length_map] at h1
  exact h1
section
variable {KL : List Kd} {rs : Rs} {ps q ph : Nat} {sz : Int}
theorem lk_held {q ph : Nat} {sz : Int} : List.lookup s_held [(s_rules, D.ref q), (s_held, D.ref ph), (s_sizes, D.int sz)] = some (.ref ph) := rfl
theorem lk_rules {q ph : Nat} {sz : Int} : List.lookup s_rules [(s_rules, D.ref q), (s_held, D.ref ph), (s_sizes, D.int sz)] = some (.ref q) := rfl
theorem lk_sizes {q ph : Nat} {sz : Int} : List.lookup s_sizes [(s_rules, D.ref q), (s_held, D.ref ph), (s_sizes, D.int sz)] = some (.int sz) := rfl
theorem lk_no {m : Sx} {q ph : Nat} {sz : Int} (h1 : m ≠ s_rules) (h2 : m ≠ s_held) (h3 : m ≠ s_sizes) : ∀ (a : Sx) (b : D), (a, b) ∈ [(s_rules, D.ref q), (s_held, D.ref ph), (s_sizes, D.int sz)] → ¬ m = a := fun a b hab => by
  simp only [List.mem_cons, Prod.mk.injEq, List.not_mem_nil, or_false] at hab
  rcases hab with ⟨rfl, _⟩ | ⟨rfl, _⟩ | ⟨rfl, _⟩ <;> assumption
theorem counted_step {m s : Nat} {k : Kd} {kvs : List (D × D)} {h : AH} {Q : VQ} {X : XP} (t : TL KL rs ps q ph sz kvs h) (kd : k.dp ≤ 3) (mk : k ∈ KL) (ms : s ≤ 40) (lK : KL.length ≤ 1000)
    (fr : kvGet kvs (keyD k s) = none → ∀ Q1, (∀ kvs' h' r d, TG KL rs ps q ph sz kvs h kvs' h' → h' r = some (.dct 0 d) → CD d s (CT rs k s) → Kids rs kvs' k s → Q1 (.ref r) h') → run P m (metN s_Tally s_fresh) [.ref ps, encK k, .int s] h Q1 X)
    (kQ : ∀ kvs' h' r d, TG KL rs ps q ph sz kvs h kvs' h' → (kvGet kvs' (keyD k s)).isSome = true → h' r = some (.dct 0 d) → CD d s (CT rs k s) → Q (.ref r) h') : run P (m + 1) (metN s_Tally s_counted) [.ref ps, encK k, .int s] h Q X := by
  refine run_of (fd := fd_Tally_counted) rfl rfl ?_
  have nk := nk_key (s := s) kd
  have ek : D.tup [encK k, .int (s : Int)] = keyD k s := rfl
  have fin : ∀ kvs' h', TG KL rs ps q ph sz kvs h kvs' h' → (kvGet kvs' (keyD k s)).isSome = true → wSs ⟨run P m, X⟩ b2_Tally_counted (RT Q) [some (.ref ps), some (encK k), some (.int s)] h' := fun kvs' h' g mm => by
    simp [b2_Tally_counted]
    rw [aIns_eq g.tl.me, lk_held, aSome_eq, ek, ix_dcn g.tl.he]
    obtain ⟨r, d, e1, e2, e3⟩ := g.tl.ok.get mm
    rw [e1]
    exact ⟨nk, kQ kvs' h' r d g mm e2 e3⟩
  simp [fd_Tally_counted, start, b0_Tally_counted]
  rw [aIns_eq t.me, lk_held, aSome_eq, ek, mem_dcn t.he]
  refine ⟨nk, ?_⟩
  cases e : kvGet kvs (keyD k s) with
  | some v => exact fin kvs h (.refl t) (by rw [e]; rfl)
  | none =>
    simp [b1_Tally_counted]
    rw [aIns_eq t.me]
    refine ⟨rfl, lk_no (by decide) (by decide) (by decide), fr e _ fun kvs' h' r d g hr cd kids => ?_⟩
    rw [aIns_eq g.tl.me, lk_held, aSome_eq, ek, set_dcn g.tl.he]
    have ln := g.tl.ok.len
    have : KL.length * 41 ≤ 1000 * 41 := Nat.mul_le_mul_right _ lK
    have rp : r ≠ ph := fun z => by rw [z, g.tl.he] at hr; cases hr
    have pp : ps ≠ ph := fun z => by have := g.tl.me; rw [z, g.tl.he] at this; cases this
    have qp : q ≠ ph := g.tl.ru.ne g.tl.he (by simp) (by simp)
    refine ⟨nk, by have : LINE = 16777216 := rfl; omega, fin (kvPut kvs' (keyD k s) (.ref r)) _ ⟨⟨by rw [up_ne pp]; exact g.tl.me, g.tl.ru.ke qp .put, up_same, ?_, g.tl.hc.put kids⟩, g.ke.trans .put, fun a ma => kv_mono (g.mo a ma)⟩ ?_⟩
    · exact (g.tl.ok.put hr cd mk ms).ke g.tl.he .put
    · rw [kvGet_put]; simp
end
/-- the kinds that come -/
structure KS (ts : List Sx) (rs : Rs) (W : Sx → Nat) (KL : List Kd) : Prop where
  ri : RI ts rs
  l6 : ts.length ≤ 6
  ce : Cert W rs
  wr : ∀ s, W s ≤ 21
  w3 : ∀ k ∈ KL, W3' ts k
  w1 : ∀ k ∈ KL, wst W k ≤ 21
  w2 : ∀ k ∈ KL, wd W k ≤ 21
  pt : ∀ k ∈ KL, ∀ a ∈ kparts k, a ∈ KL
  ru : ∀ r k, rs.lookup r = some k → k ∈ KL
  len : KL.length ≤ 1000
theorem KS.bw {ts : List Sx} {rs : Rs} {W : Sx → Nat} {KL : List Kd} (K : KS ts rs W KL) {a b : Kd} (ma : a ∈ KL) (mb : b ∈ KL) {p q : Nat} (hp : p ≤ 40) (hq : q ≤ 40) : ∃ w, 0 < w ∧ w ≤ 500000 ∧ ∀ j, CT rs a p j < 2 ^ w ∧ CT rs b q j < 2 ^ w := by
  have key : ∀ w, 85000 ≤ w → ∀ j, CT rs a p j < 2 ^ w ∧ CT rs b q j < 2 ^ w := fun w hw j => ⟨CT_wide K.ri K.l6 K.ce K.wr (K.w3 a ma) (K.w1 a ma) (K.w2 a ma) hp hw, CT_wide K.ri K.l6 K.ce K.wr (K.w3 b mb) (K.w1 b mb) (K.w2 b mb) hq hw⟩
  obtain ⟨w, hw, h9⟩ : ∃ w, 85000 ≤ w ∧ w ≤ 500000 := ⟨85000, by omega, by omega⟩
  exact ⟨w, by omega, h9, key w hw⟩
theorem CD.one (j s : Nat) (h : j ≤ s) : CD [(.int (j : Int), .int 1)] s (c1 j) := ⟨by simp, fun kv m => by
    rw [List.mem_singleton.mp m]
    exact ⟨j, h, by simp [c1]⟩, fun i hi => by
    have : i = j := Classical.byContradiction fun z => hi (by simp [c1, z])
    simp [this], fun i hi => by
    simp at hi
    have : i = j := by omega
    simp [c1, this]⟩
/-- what fresh asks of k at s -/
def Nx (rs : Rs) (k : Kd) (s : Nat) (a : Kd) (s' : Nat) : Prop := (∃ r, k = .rule r ∧ rs.lookup r = some a ∧ s' = s) ∨ (∃ x y, k = .sum x y ∧ (a = x ∨ a = y) ∧ s' = s) ∨ (∃ x y, k = .pair x y ∧ (a = x ∨ a = y) ∧ s' ≤ s) ∨ (k = .node a ∧ s = s' + 1)
def FrI (KL : List Kd) (rs : Rs) (ps q ph : Nat) (sz : Int) (kvs : List (D × D)) (h : AH) (a b : Kd) (s : Nat) (i : Nat) : St → AH → Prop := fun σ hh => ∃ (kvs1 d : List (D × D)) (rf : Nat) (x4 x5 : Option D), σ = [some (.ref ps), some (encK (.pair a b)), some (.int (s : Int)), some (.ref rf), x4, x5] ∧ TG KL rs ps q ph sz kvs h kvs1 hh ∧ hh rf = some (.dct 0 d) ∧ CD d s (csum (fun p => cmul (CT rs a p) (CT rs b (s - p))) i) ∧ ∀ p, p < i → Hd kvs1 a p ∧ (CT rs a p ≠ c0 → Hd kvs1 b (s - p))
section
variable {ts : List Sx} {rs : Rs} {W : Sx → Nat} {KL : List Kd} {ps q ph : Nat} {sz : Int}
theorem fresh_ok (K : KS ts rs W KL) {m s : Nat} {k : Kd} {kvs : List (D × D)} {h : AH} {Q : VQ} {X : XP} (t : TL KL rs ps q ph sz kvs h) (mk : k ∈ KL) (ms : s ≤ 40)
    (cn : ∀ a s', Nx rs k s a s' → ∀ kvs1 h1 Q1, TG KL rs ps q ph sz kvs h kvs1 h1 → (∀ kvs' h' r d, TG KL rs ps q ph sz kvs h kvs' h' → Ke ph h1 h' → h' r = some (.dct 0 d) → CD d s' (CT rs a s') → Hd kvs' a s' → (∀ x, (kvGet kvs1 x).isSome = true → (kvGet kvs' x).isSome = true) → Q1 (.ref r) h') → run P (m + 1) (metN s_Tally s_counted) [.ref ps, encK a, .int (s' : Nat)] h1 Q1 X)
    (kQ : ∀ kvs' h' r d, TG KL rs ps q ph sz kvs h kvs' h' → h' r = some (.dct 0 d) → CD d s (CT rs k s) → Kids rs kvs' k s → Q (.ref r) h') : run P (m + 2) (metN s_Tally s_fresh) [.ref ps, encK k, .int s] h Q X := by
  refine run_of (fd := fd_Tally_fresh) rfl rfl ?_
  have w := K.w3 k mk
  have emp : ∀ (d : List (D × D)), CD d s (CT rs k s) → Kids rs kvs k s → ∀ r, h r = none → Q (.ref r) (up h r (.dct 0 d)) := fun d cd kd r hr => kQ kvs _ r d ((TG.refl t).ext (Ext.new hr)) up_same cd kd
  have ext : ∀ {kvs1 h1 h2}, TG KL rs ps q ph sz kvs h kvs1 h1 → Ext h1 h2 → TG KL rs ps q ph sz kvs h kvs1 h2 := fun g x => g.ext x
  cases k with
  | rule r =>
    obtain ⟨j, k', _, _, e, _, _⟩ := lookup_at K.ri (i := 0) (r := r) (by rw [List.drop_zero]; exact w.1)
    simp [fd_Tally_fresh, start, b0_Tally_fresh, ix0, kword, b1_Tally_fresh]
    rw [aIns_eq t.me]
    refine ⟨rfl, lk_no (by decide) (by decide) (by decide), ?_⟩
    rw [aIns_eq t.me, lk_rules, aSome_eq]
    simp [encK, atI]
    rw [t.ru.ix, kvGet_rs, e]
    refine ⟨rfl, ?_⟩
    dsimp only [Option.map_some]
    refine cn k' s (.inl ⟨r, rfl, e, rfl⟩) kvs h _ (.refl t) fun kvs' h' r' d g _ hr cd hd _ => kQ kvs' h' r' d g hr ?_ (fun k2 e2 => by rw [e] at e2; cases e2; exact hd)
    rw [CT_rule K.ri K.l6 e (K.w3 _ (K.ru r k' e))]
    exact cd
  | one =>
    rw [CT_one] at emp
    simp [fd_Tally_fresh, start, b0_Tally_fresh, ix0, kword, b2_Tally_fresh, b4_Tally_fresh, b9_Tally_fresh, b11_Tally_fresh]
    by_cases z : s = 0
    · rw [if_pos z] at emp
      subst z
      simp [b12_Tally_fresh, pairUp, keysOk, mergeL, kvPut]
      intro r hr
      refine ⟨up_same, ?_⟩
      have := emp _ (CD.one 0 0 (Nat.le_refl 0)) trivial r hr
      simpa [up_up, keyOk] using this
    · rw [if_neg z] at emp
      simp [z, b13_Tally_fresh, ix0, kword, b15_Tally_fresh]
      exact emp [] CD.nil trivial
  | name =>
    rw [CT_name] at emp
    simp [fd_Tally_fresh, start, b0_Tally_fresh, ix0, kword, b2_Tally_fresh, b4_Tally_fresh, b9_Tally_fresh, b11_Tally_fresh, b13_Tally_fresh]
    by_cases z : s = 1
    · rw [if_pos z] at emp
      subst z
      simp [b14_Tally_fresh, pairUp, keysOk, mergeL, kvPut]
      intro r hr
      refine ⟨up_same, ?_⟩
      have := emp _ (CD.one 1 1 (Nat.le_refl 1)) trivial r hr
      simpa [up_up, keyOk] using this
    · rw [if_neg z] at emp
      have z2 : ¬ (s : Int) = 1 := by omega
      simp [z, z2, b15_Tally_fresh]
      exact emp [] CD.nil trivial
  | none =>
    rw [CT_none] at emp
    simp [fd_Tally_fresh, start, b0_Tally_fresh, ix0, kword, b2_Tally_fresh, b4_Tally_fresh, b9_Tally_fresh, b11_Tally_fresh, b13_Tally_fresh, b15_Tally_fresh]
    exact emp [] CD.nil trivial
  | node a =>
    simp [fd_Tally_fresh, start, b0_Tally_fresh, ix0, kword, b2_Tally_fresh, b4_Tally_fresh, b9_Tally_fresh]
    cases s with
    | zero =>
      simp [b11_Tally_fresh, ix0, kword, b13_Tally_fresh, b15_Tally_fresh]
      exact emp [] CD.nil (fun u e => nomatch e)
    | succ u =>
      rw [decide_eq_true (by omega)]
      simp [b10_Tally_fresh]
      rw [aIns_eq t.me]
      refine ⟨rfl, lk_no (by decide) (by decide) (by decide), ?_⟩
      simp [encK, atI]
      refine cn a u (.inr (.inr (.inr ⟨rfl, rfl⟩))) kvs h _ (.refl t) fun kvs' h' r' d g _ hr cd hd _ => kQ kvs' h' r' d g hr ?_ (fun u2 e2 => by cases e2; exact hd)
      rw [CT_node K.ri K.l6 (K.w3 a (K.pt _ mk a (by simp [kparts])))]
      exact ⟨cd.nd, (fun kv m => by obtain ⟨j, hj, e⟩ := cd.en kv m; exact ⟨j, by omega, e⟩), cd.all, cd.pos⟩
  | sum a b =>
    simp [fd_Tally_fresh, start, b0_Tally_fresh, ix0, kword, b2_Tally_fresh, b3_Tally_fresh]
    rw [aIns_eq t.me]
    refine ⟨rfl, lk_no (by decide) (by decide) (by decide), ?_⟩
    simp [encK, atI]
    refine cn a s (.inr (.inl ⟨a, b, rfl, .inl rfl, rfl⟩)) kvs h _ (.refl t) fun kvs1 h1 r1 d1 g1 _ hr1 cd1 hd1 _ => ?_
    rw [aIns_eq g1.tl.me]
    refine ⟨rfl, lk_no (by decide) (by decide) (by decide), ?_⟩
    refine cn b s (.inr (.inl ⟨a, b, rfl, .inr rfl, rfl⟩)) kvs1 h1 _ g1 fun kvs2 h2 r2 d2 g2 ke2 hr2 cd2 hd2 mo2 => ?_
    have rp : r1 ≠ ph := fun z => by rw [z, g1.tl.he] at hr1; cases hr1
    refine added_ok (n := m) (by omega) (ke2 _ _ rp hr1) hr2 cd1 cd2 fun r kr h3 hr x3 e3 c3 => kQ kvs2 h3 r kr (g2.ext x3) e3 ?_ ⟨mo2 _ hd1, hd2⟩
    rw [CT_sum K.ri K.l6 (K.w3 a (K.pt _ mk a (by simp [kparts]))) (K.w3 b (K.pt _ mk b (by simp [kparts])))]
    exact c3
  | pair a b =>
    have ma := K.pt _ mk a (by simp [kparts])
    have mb := K.pt _ mk b (by simp [kparts])
    simp [fd_Tally_fresh, start, b0_Tally_fresh, ix0, kword, b2_Tally_fresh, b4_Tally_fresh, b5_Tally_fresh]
    intro rf hrf
    refine ⟨by omega, by omega, loop_rng (fun i => FrI KL rs ps q ph sz kvs h a b s i) ⟨kvs, [], rf, none, none, rfl, (TG.refl t).ext (Ext.new hrf), up_same, CD.nil, fun p hp => absurd hp (Nat.not_lt_zero p)⟩ (fun _ _ _ _ => trivial) ?_ ?_⟩
    · rintro i σ hh hi ⟨kvs1, d, rf, x4, x5, rfl, g, e, c, al⟩
      have is : i ≤ s := by omega
      simp [b6_Tally_fresh]
      rw [aIns_eq g.tl.me]
      refine ⟨rfl, lk_no (by decide) (by decide) (by decide), ?_⟩
      simp [encK, atI]
      refine cn a i (.inr (.inr (.inl ⟨a, b, rfl, .inl rfl, is⟩))) kvs1 hh _ g fun kvs2 h2 r1 d1 g2 ke2 hr1 cd1 hd1 mo1 => ?_
      rw [len_dct hr1]
      have rfp : rf ≠ ph := fun z => by rw [z, g.tl.he] at e; cases e
      have e2 := ke2 _ _ rfp e
      have nx2 : ∀ kvs3 : List (D × D), (∀ x, (kvGet kvs1 x).isSome = true → (kvGet kvs3 x).isSome = true) → Hd kvs3 a i → (CT rs a i ≠ c0 → Hd kvs3 b (s - i)) → ∀ p, p < i + 1 → Hd kvs3 a p ∧ (CT rs a p ≠ c0 → Hd kvs3 b (s - p)) := fun kvs3 mo ha hb p hp => by
        rcases Nat.lt_succ_iff_lt_or_eq.mp hp with h | h
        · exact ⟨mo _ (al p h).1, fun z => mo _ ((al p h).2 z)⟩
        · subst h; exact ⟨ha, hb⟩
      by_cases z : d1 = []
      · subst z
        simp
        have c0' : CT rs a i = c0 := by
          funext j
          exact Classical.byContradiction fun w => nomatch cd1.all j w
        have ez : csum (fun p => cmul (CT rs a p) (CT rs b (s - p))) (i + 1) = csum (fun p => cmul (CT rs a p) (CT rs b (s - p))) i := by
          funext j
          have : cmul (CT rs a i) (CT rs b (s - i)) j = 0 := by
            rw [c0']
            unfold cmul
            exact zsum fun x _ => Nat.zero_mul _
          simp only [csum, cadd, this, Nat.add_zero]
        exact ⟨kvs2, d, rf, _, _, rfl, g2, e2, by rw [ez]; exact c, nx2 kvs2 mo1 hd1 fun z => absurd c0' z⟩
      · have lp := List.length_pos_iff.mpr z
        rw [decide_eq_true (by omega)]
        simp [b7_Tally_fresh]
        rw [aIns_eq g2.tl.me]
        refine ⟨rfl, lk_no (by decide) (by decide) (by decide), ?_⟩
        simp [encK, atI]
        have esub : (s : Int) - (i : Int) = ((s - i : Nat) : Int) := by omega
        rw [esub]
        refine cn b (s - i) (.inr (.inr (.inl ⟨a, b, rfl, .inr rfl, by omega⟩))) kvs2 h2 _ g2 fun kvs3 h3 r2 d2 g3 ke3 hr2 cd2 hd2 mo2 => ?_
        have r1p : r1 ≠ ph := fun w => by rw [w, g2.tl.he] at hr1; cases hr1
        have su : i + (s - i) = s := by omega
        refine crossed_ok (n := m) (by omega) (K.bw ma mb (by omega) (by omega)) (ke3 _ _ r1p hr1) hr2 cd1 cd2 fun r3 d3 h4 hr3 x4 e4 c4 => ?_
        rw [su] at c4
        refine added_ok (n := m) (by omega) (x4 _ _ (ke3 _ _ rfp e2)) e4 c c4 fun r4 d4 h5 hr4 x5 e5 c5 => ?_
        exact ⟨kvs3, d4, r4, _, _, rfl, (g3.ext x4).ext x5, e5, c5, nx2 kvs3 (fun x m => mo2 x (mo1 x m)) (mo2 _ hd1) fun _ => hd2⟩
    · rintro σ hh ⟨kvs1, d, rf, x4, x5, rfl, g, e, c, al⟩
      simp [b8_Tally_fresh]
      refine kQ kvs1 hh rf d g e ?_ (fun p hp => al p (by omega))
      rw [CT_pair K.ri K.l6 (K.w3 a ma) (K.w3 b mb)]
      have : ((s : Int) + 1 - 0).toNat = s + 1 := by omega
      rw [this] at c
      exact c
end
/-- all rules are held at s -/
def Hs (ts : List Sx) (kvs : List (D × D)) (s : Nat) : Prop := ∀ r ∈ ts, (kvGet kvs (keyD (.rule r) s)).isSome = true
/-- room enough for k at s -/
def Rm (ts : List Sx) (kvs : List (D × D)) (k : Kd) (s i μ : Nat) : Prop := (Hs ts kvs s ∧ k.dp + 1 ≤ μ) ∨ (Bw (· ∈ ts.drop i) (· ∈ ts) k ∧ i ≤ ts.length ∧ 4 * (6 - i) + k.dp + 1 ≤ μ)
section
variable {ts : List Sx} {rs : Rs} {W : Sx → Nat} {KL : List Kd} {ps q ph : Nat} {sz : Int}
theorem counted_ok (K : KS ts rs W KL) {n : Nat} {X : XP} : ∀ (μ : Nat) (k : Kd) (s i : Nat) (kvs : List (D × D)) (h : AH) (Q : VQ), k ∈ KL → s ≤ 40 → (∀ s', s' < s → Hs ts kvs s') → Rm ts kvs k s i μ → TL KL rs ps q ph sz kvs h →
    (∀ kvs' h' r d, TG KL rs ps q ph sz kvs h kvs' h' → (kvGet kvs' (keyD k s)).isSome = true → h' r = some (.dct 0 d) → CD d s (CT rs k s) → Q (.ref r) h') → run P (n + 2 * μ + 1) (metN s_Tally s_counted) [.ref ps, encK k, .int (s : Nat)] h Q X := by
  intro μ
  induction μ with
  | zero => intro k s i kvs h Q _ _ _ rm; rcases rm with ⟨_, z⟩ | ⟨_, _, z⟩ <;> omega
  | succ μ ih =>
    intro k s i kvs h Q mk ms low rm t kQ
    have w := K.w3 k mk
    rw [show n + 2 * (μ + 1) + 1 = (n + 2 * μ + 2) + 1 by omega]
    refine counted_step t w.2 mk ms K.len (fun hn Q1 k1 => ?_) kQ
    rw [show n + 2 * μ + 2 = (n + 2 * μ) + 2 from rfl]
    refine fresh_ok K t mk ms (fun a s' nx kvs1 h1 Q2 g kQ2 => ?_) k1
    have lowg : ∀ s'', s'' < s → Hs ts kvs1 s'' := fun s'' l r hr => g.mo _ (low s'' l r hr)
    have fin : ∀ j, a ∈ KL → s' ≤ s → Rm ts kvs1 a s' j μ → run P (n + 2 * μ + 1) (metN s_Tally s_counted) [.ref ps, encK a, .int (s' : Nat)] h1 Q2 X := fun j ma sl r2 => ih a s' j kvs1 h1 Q2 ma (by omega) (fun s'' l => lowg s'' (by omega)) r2 g.tl fun kvs' h' r d g2 hd hr cd => kQ2 kvs' h' r d (g.trans g2) g2.ke hr cd hd g2.mo
    have held : ∀ {x : Kd} {u : Nat}, Hs ts kvs u → Hs ts kvs1 u := fun hh r hr => g.mo _ (hh r hr)
    rcases nx with ⟨r, rfl, e, rfl⟩ | ⟨x, y, rfl, e, rfl⟩ | ⟨x, y, rfl, e, sl⟩ | ⟨rfl, e⟩
    · rcases rm with ⟨hh, z⟩ | ⟨b, il, z⟩
      · have := hh r w.1
        rw [hn] at this
        cases this
      · obtain ⟨j, k', ij, jl, e2, d3, b2⟩ := lookup_at K.ri b
        rw [e] at e2
        cases e2
        simp only [Kd.dp] at z
        have l6 := K.l6
        exact fin (j + 1) (K.ru r _ e) (Nat.le_refl _) (.inr ⟨b2, by omega, by omega⟩)
    · have ma : a ∈ KL := K.pt _ mk a (by rcases e with rfl | rfl <;> simp [kparts])
      have da : a.dp + 1 ≤ (Kd.sum x y).dp := by rcases e with rfl | rfl <;> simp only [Kd.dp] <;> omega
      refine fin i ma (Nat.le_refl _) ?_
      rcases rm with ⟨hh, z⟩ | ⟨b, il, z⟩
      · exact .inl ⟨held (x := a) hh, by omega⟩
      · exact .inr ⟨by rcases e with rfl | rfl <;> first | exact b.1 | exact b.2, il, by omega⟩
    · have ma : a ∈ KL := K.pt _ mk a (by rcases e with rfl | rfl <;> simp [kparts])
      have da : a.dp + 1 ≤ (Kd.pair x y).dp := by rcases e with rfl | rfl <;> simp only [Kd.dp] <;> omega
      refine fin i ma sl ?_
      rcases Nat.lt_or_ge s' s with l | l
      · exact .inl ⟨lowg s' l, by rcases rm with ⟨_, z⟩ | ⟨_, _, z⟩ <;> omega⟩
      · obtain rfl : s' = s := by omega
        rcases rm with ⟨hh, z⟩ | ⟨b, il, z⟩
        · exact .inl ⟨held (x := a) hh, by omega⟩
        · exact .inr ⟨by rcases e with rfl | rfl <;> first | exact b.1 | exact b.2, il, by omega⟩
    · subst e
      have ma : a ∈ KL := K.pt _ mk a (by simp [kparts])
      refine fin 0 ma (by omega) (.inl ⟨lowg s' (by omega), ?_⟩)
      rcases rm with ⟨_, z⟩ | ⟨_, _, z⟩ <;> simp only [Kd.dp] at z <;> omega
end
/-- all counts of a dict together -/
def tot (f : Cn) (s : Nat) : Nat := ((List.range (s + 1)).map f).sum
theorem ints_js (f : Cn) : ∀ js : List Nat, intsOf (js.map fun j => D.int (f j : Nat)) = some (js.map fun j => ((f j : Nat) : Int))
  | [] => rfl
  | j :: js => by simp [intsOf, ints_js f js]
theorem sum_castN (f : Cn) : ∀ js : List Nat, (js.map fun j => ((f j : Nat) : Int)).sum = (((js.map f).sum : Nat) : Int)
  | [] => rfl
  | j :: js => by simp [sum_castN f js]
theorem CD.sum {kvs : List (D × D)} {s : Nat} {f : Cn} (c : CD kvs s f) : ∃ ns : List Int, intsOf (kvs.map (·.2)) = some ns ∧ ns.sum = ((tot f s : Nat) : Int) := by
  obtain ⟨js, e, nd, le, al, _⟩ := c.js
  refine ⟨js.map fun j => ((f j : Nat) : Int), ?_, ?_⟩
  · rw [e, List.map_map]
    exact ints_js f js
  · rw [sum_castN]
    congr 1
    exact sum_sub nd (fun x hx => List.mem_range.mpr (by have := le x hx; omega)) (fun x _ hn => Classical.byContradiction fun z => hn (al x z)) List.nodup_range
section
variable {ts : List Sx} {rs : Rs} {W : Sx → Nat} {KL : List Kd} {ps q ph : Nat}
/-- all rules at sizes below u are held -/
def Lo (ts : List Sx) (kvs : List (D × D)) (u : Nat) : Prop := ∀ s', s' < u → Hs ts kvs s'
theorem Lo.mo {kvs kvs' : List (D × D)} {u : Nat} (l : Lo ts kvs u) (m : ∀ a, (kvGet kvs a).isSome = true → (kvGet kvs' a).isSome = true) : Lo ts kvs' u := fun s' hs r hr => m _ (l s' hs r hr)
def CaJ (KL : List Kd) (rs : Rs) (ts : List Sx) (ps q ph : Nat) (sz : Int) (K size : D) (h0 : AH) (u : Nat) (ys : List Sx) (i : Nat) : St → AH → Prop := fun σ h => ∃ (kvs : List (D × D)) (x4 : Option D), σ = [some (.ref ps), some K, some size, some (.int (u : Int)), x4] ∧ TL KL rs ps q ph sz kvs h ∧ Ke ph h0 h ∧ Lo ts kvs u ∧ ∀ y ∈ ys.take i, (kvGet kvs (keyD (.rule y) u)).isSome = true
end
section
variable {ts : List Sx} {rs : Rs} {W : Sx → Nat} {KL : List Kd} {ps q ph : Nat}
theorem fill_ok (K : KS ts rs W KL) (rk : ∀ r ∈ ts, Kd.rule r ∈ KL) {n u : Nat} {sz : Int} {Kk size : D} {kvs : List (D × D)} {x4 : Option D} {h : AH} {X : XP} {R : Ends} (hu : u ≤ 40) (t : TL KL rs ps q ph sz kvs h) (lo : Lo ts kvs u)
    (k : ∀ kvs' x4 h', TL KL rs ps q ph sz kvs' h' → Ke ph h h' → Lo ts kvs' (u + 1) → wSs ⟨run P (n + 2 * 26 + 1), X⟩ b3_Tally_counts_at R [some (.ref ps), some Kk, some size, some (.int (u : Int)), x4] h') :
    wSs ⟨run P (n + 2 * 26 + 1), X⟩ b1_Tally_counts_at R [some (.ref ps), some Kk, some size, some (.int (u : Int)), x4] h := by
  simp [b1_Tally_counts_at]
  rw [aIns_eq t.me, lk_rules, aSome_eq, t.ru.aR]
  have es : strsOf ((encRs rs).map (·.1)) = some ts := by rw [encRs_nm K.ri, strsOf_map]
  rw [es, aSome_eq]
  have l6 := K.l6
  refine ⟨by omega, fun ys pm r hr => ?_⟩
  have t1 := t.ext (Ext.new (o := .lst (ys.map .str)) hr)
  have rp : r ≠ ph := (ne_new t.he hr).symm
  rw [walk_lst up_same]
  refine ⟨fun i σ h' => CaJ KL rs ts ps q ph sz Kk size (up h r (.lst (ys.map .str))) u ys i σ h', ⟨kvs, x4, rfl, t1, .refl, lo, by simp⟩, ?_, ?_, ?_⟩
  · rintro i σ h' ⟨kvs, x4, rfl, tl, ke, lo, al⟩
    exact ke r _ rp up_same
  · rintro i x σ h' hx ⟨kvs1, x4, rfl, tl, ke, lo1, al⟩
    obtain ⟨y, hy, rfl⟩ := map_at hx
    have my : y ∈ ts := pm.mem_iff.mp (List.mem_of_getElem? hy)
    simp [b2_Tally_counts_at]
    rw [aIns_eq tl.me]
    refine ⟨rfl, lk_no (by decide) (by decide) (by decide), ?_⟩
    refine counted_ok K 26 (.rule y) u 0 kvs1 h' _ (rk y my) hu lo1 (.inr ⟨bw_all my, Nat.zero_le _, by simp only [Kd.dp]; omega⟩) tl fun kvs' h2 r2 d g mm _ _ => ?_
    refine ⟨kvs', _, rfl, g.tl, ke.trans g.ke, lo1.mo g.mo, fun z hz => ?_⟩
    rw [List.take_add_one, hy] at hz
    rcases List.mem_append.mp hz with hz | hz
    · exact g.mo _ (al z hz)
    · simp at hz; subst hz; exact mm
  · rintro σ h' ⟨kvs1, x4, rfl, tl, ke, lo1, al⟩
    rw [List.length_map, List.take_length] at al
    refine k kvs1 x4 h' tl ((Ext.new hr).ke.trans ke) fun s' hs rr hrr => ?_
    rcases Nat.lt_or_ge s' u with l | l
    · exact lo1 s' l rr hrr
    · obtain rfl : s' = u := by omega
      exact al rr (pm.mem_iff.mpr hrr)
end
/-- all but ps and ph stays -/
def K2 (ps ph : Nat) (h h' : AH) : Prop := ∀ a o, a ≠ ps → a ≠ ph → h a = some o → h' a = some o
theorem K2.trans {ps ph : Nat} {h h1 h2 : AH} (x : K2 ps ph h h1) (y : K2 ps ph h1 h2) : K2 ps ph h h2 := fun a o n1 n2 e => y a o n1 n2 (x a o n1 n2 e)
theorem K2.ke {ps ph : Nat} {h h' : AH} (x : Ke ph h h') : K2 ps ph h h' := fun a o _ n e => x a o n e
theorem K2.ks {ps ph : Nat} {h h' : AH} (x : Ke ps h h') : K2 ps ph h h' := fun a o n _ e => x a o n e
section
variable {ts : List Sx} {rs : Rs} {W : Sx → Nat} {KL : List Kd} {ps q ph : Nat}
def CaO (KL : List Kd) (rs : Rs) (ts : List Sx) (ps q ph : Nat) (K size : D) (h0 : AH) (u : Nat) (i : Nat) : St → AH → Prop := fun σ h => ∃ (kvs : List (D × D)) (x3 x4 : Option D), σ = [some (.ref ps), some K, some size, x3, x4] ∧ TL KL rs ps q ph ((u + i : Nat) : Int) kvs h ∧ K2 ps ph h0 h ∧ Lo ts kvs (u + i)
theorem counts_at_ok (K : KS ts rs W KL) (rk : ∀ r ∈ ts, Kd.rule r ∈ KL) {n s u : Nat} {k : Kd} {kvs : List (D × D)} {h : AH} {Q : VQ} {X : XP} (mk : k ∈ KL) (hs : s ≤ 40) (t : TL KL rs ps q ph (u : Nat) kvs h) (lo : Lo ts kvs u)
    (hu : u ≤ 1000) (kQ : ∀ kvs' h' r d, TL KL rs ps q ph ((max u s : Nat) : Int) kvs' h' → K2 ps ph h h' → Lo ts kvs' (max u s) → h' r = some (.dct 0 d) → CD d s (CT rs k s) → Hd kvs' k s → Q (.ref r) h') : run P (n + 58) (metN s_Tally s_counts_at) [.ref ps, encK k, .int (s : Nat)] h Q X := by
  refine run_of (fd := fd_Tally_counts_at) rfl rfl ?_
  simp [fd_Tally_counts_at, start, b0_Tally_counts_at]
  rw [aIns_eq t.me, lk_sizes, aSome_eq]
  simp
  refine ⟨by omega, loop_rng (fun i => CaO KL rs ts ps q ph (encK k) (.int (s : Int)) h u i) ⟨kvs, none, none, rfl, t, fun _ _ _ _ e => e, lo⟩ (fun _ _ _ _ => trivial) ?_ ?_⟩
  · rintro i σ hh hi ⟨kvs1, x3, x4, rfl, t1, k1, lo1⟩
    have eu : (u : Int) + (i : Int) = ((u + i : Nat) : Int) := by omega
    rw [eu]
    refine fill_ok K rk (n := n + 4) (by omega) t1 lo1 fun kvs2 x4 h2 t2 ke2 lo2 => ?_
    simp [b3_Tally_counts_at]
    rw [aIns_eq t2.me]
    have pp : ph ≠ ps := fun z => by have := t2.me; rw [← z, t2.he] at this; cases this
    have qp : q ≠ ps := t2.ru.ne t2.me (by simp) (by simp)
    have e3 : ((u : Int) + (i : Int) + 1) = ((u + (i + 1) : Nat) : Int) := by omega
    refine ⟨rfl, by simp, kvs2, _, _, rfl, ⟨by rw [up_same, e3]; rfl, t2.ru.ke qp .put, by rw [up_ne pp]; exact t2.he, ⟨t2.ok.1, fun kv m => ?_⟩, t2.hc⟩, (k1.trans (.ke ke2)).trans (.ks .put), lo2⟩
    obtain ⟨k', s', r, d, e, hr, cd, mm⟩ := t2.ok.2 kv m
    have rp : r ≠ ps := fun z => by rw [z, t2.me] at hr; cases hr
    exact ⟨k', s', r, d, e, by rw [up_ne rp]; exact hr, cd, mm⟩
  · rintro σ hh ⟨kvs1, x3, x4, rfl, t1, k1, lo1⟩
    have em : u + ((s : Int) - (u : Int)).toNat = max u s := by omega
    rw [em] at t1 lo1
    simp [b4_Tally_counts_at]
    rw [aIns_eq t1.me]
    refine ⟨rfl, lk_no (by decide) (by decide) (by decide), ?_⟩
    have d3 := (K.w3 k mk).2
    refine counted_ok K (n := n) 28 k s 0 kvs1 hh _ mk hs (fun s' l => lo1 s' (by omega)) (.inr ⟨bw_all (K.w3 k mk).1, Nat.zero_le _, by omega⟩) t1 fun kvs' h2 r2 d g mm hr cd => ?_
    exact kQ kvs' h2 r2 d g.tl (k1.trans (.ke g.ke)) (lo1.mo g.mo) hr cd mm
end
section
variable {ts : List Sx} {rs : Rs} {W : Sx → Nat} {KL : List Kd} {q : Nat}
theorem tally_new {n : Nat} {h : AH} {Q : VQ} {X : XP} (hr : RD q rs h) (kQ : ∀ ps ph h', h ps = none → h ph = none → TL KL rs ps q ph (0 : Nat) [] h' → Ext h h' → Q (.ref ps) h') : run P (n + 2) (mkN s_Tally) [.ref q] h Q X := by
  unfold run
  have e0 : P (mkN s_Tally) = none := rfl
  rw [e0]
  dsimp only [mkN]
  intro ps hps
  refine run_of (fd := fd_Tally___init__) rfl rfl ?_
  simp [fd_Tally___init__, start, b0_Tally___init__]
  rw [aIns_eq up_same]
  refine ⟨rfl, ?_⟩
  simp only [putA, up_up]
  refine ⟨by simp, fun ph hph => ?_⟩
  have pp : ph ≠ ps := fun z => by subst z; rw [up_same] at hph; cases hph
  rw [up_ne pp] at hph
  have e1 : (up (up h ps (.ins s_Tally [(s_rules, .ref q)])) ph (.dcn [])) ps = some (.ins s_Tally [(s_rules, .ref q)]) := by rw [up_ne pp.symm, up_same]
  rw [aIns_eq e1]
  refine ⟨rfl, by simp, ?_⟩
  rw [aIns_eq up_same]
  refine ⟨rfl, by simp [putA], ?_⟩
  have fin : Ext h (up (up (up h ps (.ins s_Tally [(s_rules, .ref q)])) ph (.dcn [])) ps (.ins s_Tally [(s_rules, .ref q), (s_held, .ref ph), (s_sizes, .int 0)])) := fun a o e => by
    have n1 : a ≠ ps := ne_new e hps
    have n2 : a ≠ ph := ne_new e hph
    rw [up_ne n1, up_ne n2, up_ne n1]
    exact e
  have := kQ ps ph (up (up (up h ps (.ins s_Tally [(s_rules, .ref q)])) ph (.dcn [])) ps (.ins s_Tally [(s_rules, .ref q), (s_held, .ref ph), (s_sizes, .int 0)])) hps hph ⟨up_same, hr.ext fin, by rw [up_ne pp, up_same], ⟨List.nodup_nil, fun _ m => nomatch m⟩, fun k s h => nomatch h⟩ fin
  simpa [up_up, putA] using this
end
/-! ### the shapes, listed -/
def nms (t : Th) : Nat := (tnm t).length
def shf (m : Nat) (t : Th) : Th := ren (fun i => i + (m : Int)) t
def prd (xs ys : List Th) : List Th := xs.flatMap fun x => ys.map fun y => .p x (shf (nms x) y)
def sh (rs : Rs) : Nat → Kd → Nat → List Th
  | 0, _, _ => []
  | n + 1, .rule r, s => match rs.lookup r with
    | some k => sh rs n k s
    | none => []
  | n + 1, .sum a b, s => (sh rs n a s).map .l ++ (sh rs n b s).map .r
  | n + 1, .pair a b, s => (List.range (s + 1)).flatMap fun p => prd (sh rs n a p) (sh rs n b (s - p))
  | n + 1, .node a, s => match s with
    | 0 => []
    | t + 1 => (sh rs n a t).map .n
  | _ + 1, .one, s => if s = 0 then [.one] else []
  | _ + 1, .name, s => if s = 1 then [.a 0] else []
  | _ + 1, .none, _ => []
theorem ren_tnm (f : Int → Int) : ∀ t : Th, tnm (ren f t) = (tnm t).map f
  | .one => rfl
  | .a _ => rfl
  | .n t => by simp only [ren, tnm, ren_tnm f t]
  | .l t => by simp only [ren, tnm, ren_tnm f t]
  | .r t => by simp only [ren, tnm, ren_tnm f t]
  | .p t u => by simp only [ren, tnm, ren_tnm f t, ren_tnm f u, List.map_append]
theorem ren_tsz (f : Int → Int) : ∀ t : Th, tsz (ren f t) = tsz t
  | .one => rfl
  | .a _ => rfl
  | .n t => by simp only [ren, tsz, ren_tsz f t]
  | .l t => by simp only [ren, tsz, ren_tsz f t]
  | .r t => by simp only [ren, tsz, ren_tsz f t]
  | .p t u => by simp only [ren, tsz, ren_tsz f t, ren_tsz f u]
theorem ren_ren (f g : Int → Int) : ∀ t : Th, ren f (ren g t) = ren (fun i => f (g i)) t
  | .one => rfl
  | .a _ => rfl
  | .n t => by simp only [ren, ren_ren f g t]
  | .l t => by simp only [ren, ren_ren f g t]
  | .r t => by simp only [ren, ren_ren f g t]
  | .p t u => by simp only [ren, ren_ren f g t, ren_ren f g u]
theorem ren_inj {f : Int → Int} (hf : ∀ i j, f i = f j → i = j) : ∀ {t u : Th}, ren f t = ren f u → t = u
  | .one, u, h => by cases u <;> simp [ren] at h ⊢
  | .a _, u, h => by cases u <;> simp [ren] at h ⊢; exact hf _ _ h
  | .n t, u, h => by cases u <;> simp [ren] at h ⊢; exact ren_inj hf h
  | .l t, u, h => by cases u <;> simp [ren] at h ⊢; exact ren_inj hf h
  | .r t, u, h => by cases u <;> simp [ren] at h ⊢; exact ren_inj hf h
  | .p t t', u, h => by cases u <;> simp [ren] at h ⊢; exact ⟨ren_inj hf h.1, ren_inj hf h.2⟩
theorem shf_inj {m : Nat} {t u : Th} (h : shf m t = shf m u) : t = u := ren_inj (fun i j e => by omega) h
theorem shf0 (t : Th) : shf 0 t = t := by
  unfold shf
  have : (fun i : Int => i + ((0 : Nat) : Int)) = fun i => i := by funext i; simp
  rw [this]; exact ren_id t
theorem nms_shf (m : Nat) (t : Th) : nms (shf m t) = nms t := by simp [nms, shf, ren_tnm]
theorem nms_tsz : ∀ t : Th, nms t ≤ tsz t
  | .one => Nat.le_refl 0
  | .a _ => Nat.le_refl 1
  | .n t => Nat.le_succ_of_le (nms_tsz t)
  | .l t => nms_tsz t
  | .r t => nms_tsz t
  | .p t u => by
    have := nms_tsz t
    have := nms_tsz u
    unfold nms at *
    simp only [tnm, tsz, List.length_append]
    omega
theorem prd_mem {xs ys : List Th} {t : Th} (h : t ∈ prd xs ys) : ∃ x ∈ xs, ∃ y ∈ ys, t = .p x (shf (nms x) y) := by
  obtain ⟨x, hx, h⟩ := List.mem_flatMap.mp h
  obtain ⟨y, hy, rfl⟩ := List.mem_map.mp h
  exact ⟨x, hx, y, hy, rfl⟩
theorem sh_sz {rs : Rs} : ∀ (n : Nat) (k : Kd) (s : Nat) (t : Th), t ∈ sh rs n k s → tsz t = s := by
  intro n
  induction n with
  | zero => intro k s t h; cases h
  | succ n ih =>
    intro k s t h
    cases k with
    | one =>
      simp only [sh] at h
      split at h
      · rename_i z; rw [List.mem_singleton.mp h]; exact z.symm
      · cases h
    | name =>
      simp only [sh] at h
      split at h
      · rename_i z; rw [List.mem_singleton.mp h]; exact z.symm
      · cases h
    | none => cases h
    | rule r =>
      simp only [sh] at h
      cases e : rs.lookup r with
      | none => rw [e] at h; cases h
      | some k => rw [e] at h; exact ih k s t h
    | node a =>
      cases s with
      | zero => cases h
      | succ s =>
        simp only [sh] at h
        obtain ⟨u, hu, rfl⟩ := List.mem_map.mp h
        simp only [tsz, ih a s u hu]
    | sum a b =>
      simp only [sh] at h
      rcases List.mem_append.mp h with h | h
      · obtain ⟨u, hu, rfl⟩ := List.mem_map.mp h
        exact ih a s u hu
      · obtain ⟨u, hu, rfl⟩ := List.mem_map.mp h
        exact ih b s u hu
    | pair a b =>
      simp only [sh] at h
      obtain ⟨p, hp, h⟩ := List.mem_flatMap.mp h
      have := List.mem_range.mp hp
      obtain ⟨x, hx, y, hy, rfl⟩ := prd_mem h
      simp only [tsz, shf, ren_tsz, ih a p x hx, ih b (s - p) y hy]
      omega
/-- names from 0 on, each once -/
def upN (n : Nat) : List Int := (List.range n).map fun i : Nat => (i : Int)
theorem upN_add (m n : Nat) : upN (m + n) = upN m ++ (upN n).map fun i => i + (m : Int) := by
  unfold upN
  rw [List.range_add, List.map_append, List.map_map, List.map_map]
  congr 1
  apply List.map_congr_left
  intro x _
  simp
  omega
theorem upN_len (n : Nat) : (upN n).length = n := by simp [upN]
theorem sh_nm {rs : Rs} : ∀ (n : Nat) (k : Kd) (s : Nat) (t : Th), t ∈ sh rs n k s → tnm t = upN (nms t) := by
  intro n
  induction n with
  | zero => intro k s t h; cases h
  | succ n ih =>
    intro k s t h
    cases k with
    | one =>
      simp only [sh] at h
      split at h
      · rw [List.mem_singleton.mp h]; rfl
      · cases h
    | name =>
      simp only [sh] at h
      split at h
      · rw [List.mem_singleton.mp h]; rfl
      · cases h
    | none => cases h
    | rule r =>
      simp only [sh] at h
      cases e : rs.lookup r with
      | none => rw [e] at h; cases h
      | some k => rw [e] at h; exact ih k s t h
    | node a =>
      cases s with
      | zero => cases h
      | succ s =>
        simp only [sh] at h
        obtain ⟨u, hu, rfl⟩ := List.mem_map.mp h
        exact ih a s u hu
    | sum a b =>
      simp only [sh] at h
      rcases List.mem_append.mp h with h | h
      · obtain ⟨u, hu, rfl⟩ := List.mem_map.mp h
        exact ih a s u hu
      · obtain ⟨u, hu, rfl⟩ := List.mem_map.mp h
        exact ih b s u hu
    | pair a b =>
      simp only [sh] at h
      obtain ⟨p, hp, h⟩ := List.mem_flatMap.mp h
      obtain ⟨x, hx, y, hy, rfl⟩ := prd_mem h
      have e1 := ih a p x hx
      have e2 := ih b (s - p) y hy
      have e3 : nms (.p x (shf (nms x) y)) = nms x + nms y := by
        show (tnm x ++ tnm (shf (nms x) y)).length = _
        rw [List.length_append]
        have := nms_shf (nms x) y
        unfold nms at *
        omega
      rw [e3, upN_add]
      show tnm x ++ tnm (shf (nms x) y) = _
      unfold shf
      rw [ren_tnm, ← e1, ← e2]
theorem sh_is {rs : Rs} : ∀ (n : Nat) (k : Kd) (s : Nat) (t : Th), t ∈ sh rs n k s → ∀ f : Int → Int, (∀ i : Int, 0 ≤ i → i ≤ s → 0 ≤ f i ∧ f i ≤ 1000000000) → Is rs (ren f t) k := by
  intro n
  induction n with
  | zero => intro k s t h; cases h
  | succ n ih =>
    intro k s t h f hf
    cases k with
    | one =>
      simp only [sh] at h
      split at h
      · rw [List.mem_singleton.mp h]; exact .one
      · cases h
    | name =>
      simp only [sh] at h
      split at h
      · rw [List.mem_singleton.mp h]
        obtain ⟨h1, h2⟩ := hf 0 (by omega) (by omega)
        exact .a h1 h2
      · cases h
    | none => cases h
    | rule r =>
      simp only [sh] at h
      cases e : rs.lookup r with
      | none => rw [e] at h; cases h
      | some k => rw [e] at h; exact .rule e (ih k s t h f hf)
    | node a =>
      cases s with
      | zero => cases h
      | succ s =>
        simp only [sh] at h
        obtain ⟨u, hu, rfl⟩ := List.mem_map.mp h
        exact .n (ih a s u hu f fun i h0 h1 => hf i h0 (by omega))
    | sum a b =>
      simp only [sh] at h
      rcases List.mem_append.mp h with h | h
      · obtain ⟨u, hu, rfl⟩ := List.mem_map.mp h
        exact .l (ih a s u hu f hf)
      · obtain ⟨u, hu, rfl⟩ := List.mem_map.mp h
        exact .r (ih b s u hu f hf)
    | pair a b =>
      simp only [sh] at h
      obtain ⟨p, hp, h⟩ := List.mem_flatMap.mp h
      have lp := List.mem_range.mp hp
      obtain ⟨x, hx, y, hy, rfl⟩ := prd_mem h
      have l1 : nms x ≤ p := by have := nms_tsz x; rw [sh_sz n a p x hx] at this; exact this
      refine .p (ih a p x hx f fun i h0 h1 => hf i h0 (by omega)) ?_
      show Is rs (ren f (ren _ y)) b
      rw [ren_ren]
      exact ih b (s - p) y hy _ fun i h0 h1 => hf _ (by omega) (by omega)
theorem sh_is' {rs : Rs} {n s : Nat} {k : Kd} {t : Th} (hs : s ≤ 1000) (h : t ∈ sh rs n k s) : Is rs t k := by
  have := sh_is n k s t h (fun i => i) fun i h0 h1 => ⟨h0, by omega⟩
  rw [ren_id] at this
  exact this
theorem nodup_map_inj {α β : Type} {f : α → β} {l : List α} (hf : ∀ a b, f a = f b → a = b) (h : l.Nodup) : (l.map f).Nodup := by
  unfold List.Nodup at *
  rw [List.pairwise_map]
  exact h.imp fun n e => n (hf _ _ e)
theorem prd_nodup {xs ys : List Th} (h1 : xs.Nodup) (h2 : ys.Nodup) : (prd xs ys).Nodup := by
  unfold prd List.Nodup
  rw [List.pairwise_flatMap]
  refine ⟨fun x hx => nodup_map_inj (fun a b e => ?_) h2, h1.imp fun n u hu v hv e => ?_⟩
  · injection e with _ e
    exact shf_inj e
  · obtain ⟨y, _, rfl⟩ := List.mem_map.mp hu
    obtain ⟨z, _, rfl⟩ := List.mem_map.mp hv
    injection e with e
    exact n e
theorem sh_nodup {rs : Rs} : ∀ (n : Nat) (k : Kd) (s : Nat), (sh rs n k s).Nodup := by
  intro n
  induction n with
  | zero => intro k s; exact List.nodup_nil
  | succ n ih =>
    intro k s
    cases k with
    | one => simp only [sh]; split <;> simp
    | name => simp only [sh]; split <;> simp
    | none => exact List.nodup_nil
    | rule r =>
      simp only [sh]
      cases e : rs.lookup r with
      | none => exact List.nodup_nil
      | some k => exact ih k s
    | node a =>
      cases s with
      | zero => exact List.nodup_nil
      | succ s => exact nodup_map_inj (fun a b e => by injection e) (ih a s)
    | sum a b =>
      simp only [sh]
      rw [List.nodup_append]
      refine ⟨nodup_map_inj (fun a b e => by injection e) (ih a s), nodup_map_inj (fun a b e => by injection e) (ih b s), fun x hx y hy e => ?_⟩
      obtain ⟨u, _, rfl⟩ := List.mem_map.mp hx
      obtain ⟨v, _, rfl⟩ := List.mem_map.mp hy
      cases e
    | pair a b =>
      simp only [sh]
      unfold List.Nodup
      rw [List.pairwise_flatMap]
      refine ⟨fun p _ => prd_nodup (ih a p) (ih b (s - p)), (List.nodup_range (n := s + 1)).imp fun {p q} n u hu v hv e => ?_⟩
      obtain ⟨x, hx, y, _, rfl⟩ := prd_mem hu
      obtain ⟨x', hx', y', _, rfl⟩ := prd_mem hv
      injection e with e
      subst e
      have e1 := sh_sz _ a p x hx
      have e2 := sh_sz _ a q x hx'
      omega
/-! ### as many as are counted -/
def cntT (l : List Th) : Cn := fun j => l.countP fun t => decide (nms t = j)
theorem cntT_map {f : Th → Th} (hf : ∀ t, nms (f t) = nms t) (l : List Th) : cntT (l.map f) = cntT l := by
  funext j
  unfold cntT
  rw [List.countP_map]
  congr 1
  funext t
  simp [hf]
theorem cntT_app (a b : List Th) : cntT (a ++ b) = cadd (cntT a) (cntT b) := by
  funext j
  simp [cntT, cadd, List.countP_append]
theorem cntT_nil : cntT [] = c0 := rfl
theorem cmul_add {f g h : Cn} : cmul (cadd f g) h = cadd (cmul f h) (cmul g h) := by
  funext j
  show ((List.range (j + 1)).map fun i => (f i + g i) * h (j - i)).sum = ((List.range (j + 1)).map fun i => f i * h (j - i)).sum + ((List.range (j + 1)).map fun i => g i * h (j - i)).sum
  induction (List.range (j + 1)) with
  | nil => rfl
  | cons x l ih =>
    simp only [List.map_cons, List.sum_cons] at ih ⊢
    rw [ih, Nat.add_mul]
    omega
theorem cmul_0 {h : Cn} : cmul c0 h = c0 := by
  funext j
  unfold cmul c0
  exact zsum fun x _ => Nat.zero_mul _
theorem cmul_1 {h : Cn} {m j : Nat} : cmul (c1 m) h j = if m ≤ j then h (j - m) else 0 := by
  unfold cmul c1
  by_cases c : m ≤ j
  · rw [if_pos c]
    have := sum_sub (F := fun i => (if i = m then 1 else 0) * h (j - i)) (js := [m]) (L := List.range (j + 1)) (by simp) (fun x hx => by rw [List.mem_singleton.mp hx]; exact List.mem_range.mpr (by omega)) (fun x _ hn => by
      have : ¬ x = m := fun z => hn (List.mem_singleton.mpr z)
      simp [this]) List.nodup_range
    rw [← this]
    simp
  · rw [if_neg c]
    refine zsum fun x hx => ?_
    have := List.mem_range.mp hx
    have : ¬ x = m := by omega
    simp [this]
theorem cntT_prd (ys : List Th) : ∀ xs : List Th, cntT (prd xs ys) = cmul (cntT xs) (cntT ys)
  | [] => by
    have : prd [] ys = [] := rfl
    rw [this, cntT_nil, cmul_0]
  | x :: xs => by
    have e : prd (x :: xs) ys = ys.map (fun y => .p x (shf (nms x) y)) ++ prd xs ys := by simp [prd]
    have e2 : cntT (x :: xs) = cadd (c1 (nms x)) (cntT xs) := by
      funext j
      simp only [cntT, cadd, c1, List.countP_cons, decide_eq_true_eq]
      rw [Nat.add_comm]
      congr 1
      by_cases z : nms x = j
      · rw [if_pos z, if_pos z.symm]
      · rw [if_neg z, if_neg (fun w => z w.symm)]
    rw [e, cntT_app, e2, cmul_add, cntT_prd ys xs]
    congr 1
    funext j
    rw [cmul_1]
    unfold cntT
    rw [List.countP_map]
    have : ((fun t => decide (nms t = j)) ∘ fun y => Th.p x (shf (nms x) y)) = fun y => decide (nms x + nms y = j) := by
      funext y
      have e3 : nms (.p x (shf (nms x) y)) = nms x + nms y := by
        show (tnm x ++ tnm (shf (nms x) y)).length = _
        rw [List.length_append]
        have := nms_shf (nms x) y
        unfold nms at *
        omega
      simp [e3]
    rw [this]
    split
    · congr 1
      funext y
      rw [decide_eq_decide]
      omega
    · rw [List.countP_eq_zero]
      intro y _
      simp
      omega
theorem cntT_flat (f : Nat → List Th) : ∀ n : Nat, cntT ((List.range n).flatMap f) = csum (fun p => cntT (f p)) n
  | 0 => rfl
  | n + 1 => by
    rw [List.range_succ, List.flatMap_append, cntT_app, cntT_flat f n]
    simp [csum]
theorem sh_cn {rs : Rs} : ∀ (n : Nat) (k : Kd) (s : Nat), cntT (sh rs n k s) = cn rs n k s := by
  intro n
  induction n with
  | zero => intro k s; rfl
  | succ n ih =>
    intro k s
    cases k with
    | one =>
      simp only [sh, cn]
      split
      · funext j
        by_cases z : j = 0
        · subst z; rfl
        · have : ¬ (0 = j) := fun w => z w.symm
          simp [cntT, nms, tnm, c1, z, this]
      · rfl
    | name =>
      simp only [sh, cn]
      split
      · funext j
        by_cases z : j = 1
        · subst z; rfl
        · have : ¬ (1 = j) := fun w => z w.symm
          simp [cntT, nms, tnm, c1, z, this]
      · rfl
    | none => rfl
    | rule r =>
      simp only [sh, cn]
      cases e : rs.lookup r with
      | none => rfl
      | some k => exact ih k s
    | node a =>
      cases s with
      | zero => rfl
      | succ s =>
        simp only [sh, cn]
        rw [cntT_map (f := .n) (fun t => rfl), ih]
    | sum a b =>
      simp only [sh, cn]
      rw [cntT_app, cntT_map (f := .l) (fun t => rfl), cntT_map (f := .r) (fun t => rfl), ih, ih]
    | pair a b =>
      simp only [sh, cn]
      rw [cntT_flat]
      refine csum_congr _ fun p _ => ?_
      rw [cntT_prd, ih, ih]
theorem len_tot {s : Nat} : ∀ {l : List Th}, (∀ t ∈ l, nms t ≤ s) → l.length = tot (cntT l) s
  | [], _ => by
    have : tot (cntT []) s = 0 := zsum fun x _ => rfl
    rw [this]; rfl
  | t :: l, h => by
    have ih := len_tot (l := l) fun u hu => h u (List.mem_cons_of_mem _ hu)
    have ht := h t List.mem_cons_self
    have e : cntT (t :: l) = cadd (c1 (nms t)) (cntT l) := by
      funext j
      simp only [cntT, cadd, c1, List.countP_cons, decide_eq_true_eq]
      rw [Nat.add_comm]
      congr 1
      by_cases z : nms t = j
      · rw [if_pos z, if_pos z.symm]
      · rw [if_neg z, if_neg (fun w => z w.symm)]
    have e2 : tot (cadd (c1 (nms t)) (cntT l)) s = tot (c1 (nms t)) s + tot (cntT l) s := by
      unfold tot cadd
      induction (List.range (s + 1)) with
      | nil => rfl
      | cons x l ih => simp only [List.map_cons, List.sum_cons] at ih ⊢; rw [ih]; omega
    have e3 : tot (c1 (nms t)) s = 1 := by
      unfold tot
      have := sum_sub (F := c1 (nms t)) (js := [nms t]) (L := List.range (s + 1)) (by simp) (fun x hx => by rw [List.mem_singleton.mp hx]; exact List.mem_range.mpr (by omega)) (fun x _ hn => by
        have : ¬ x = nms t := fun z => hn (List.mem_singleton.mpr z)
        simp [c1, this]) List.nodup_range
      rw [← this]
      simp [c1]
    rw [e, e2, e3, ← ih, List.length_cons]
    omega
/-! ### the law's own rows -/
def cells (f : Cn) (s : Nat) : List D := (List.range (s + 1)).map fun j => D.int (f j : Nat)
theorem cells_len {f : Cn} {s : Nat} : (cells f s).length = s + 1 := by simp [cells]
theorem cells_at {f : Cn} {s j : Nat} (h : j ≤ s) : (cells f s)[j]? = some (.int (f j : Nat)) := by
  simp only [cells, List.getElem?_map]
  rw [List.getElem?_range (by omega)]
  rfl
theorem atI_cells {f : Cn} {s j : Nat} (h : j ≤ s) : atI (cells f s) (j : Int) = some (.int (f j : Nat)) := by
  unfold atI
  rw [if_pos (by omega), Int.toNat_natCast]
  exact cells_at h
theorem cells_congr {f g : Cn} {s : Nat} (h : ∀ j, j ≤ s → f j = g j) : cells f s = cells g s := by
  unfold cells
  apply List.map_congr_left
  intro j hj
  rw [h j (by have := List.mem_range.mp hj; omega)]
theorem cells_set {f : Cn} {s j v : Nat} (h : j ≤ s) : (cells f s).set j (.int (v : Nat)) = cells (fun i => if i = j then v else f i) s := by
  apply List.ext_getElem?
  intro i
  rw [List.getElem?_set]
  by_cases z : j = i
  · subst z
    rw [if_pos rfl, cells_at h, cells_len, if_pos (by omega), if_pos rfl]
  · rw [if_neg z]
    by_cases l : i ≤ s
    · rw [cells_at l, cells_at l, if_neg (fun w => z w.symm)]
    · rw [List.getElem?_eq_none (by rw [cells_len]; omega), List.getElem?_eq_none (by rw [cells_len]; omega)]
theorem cells_c0 (s : Nat) : (List.replicate (s + 1) [D.int 0]).flatten = cells c0 s := by
  have : ∀ n : Nat, (List.replicate n [D.int 0]).flatten = (List.range n).map fun j => D.int (c0 j : Nat) := by
    intro n
    induction n with
    | zero => rfl
    | succ n ih => rw [List.replicate_succ', List.flatten_concat, ih, List.range_succ, List.map_append]; rfl
  exact this _
theorem cells_more {f : Cn} {t : Nat} (h : f (t + 1) = 0) : cells f t ++ [D.int 0] = cells f (t + 1) := by
  unfold cells
  rw [List.range_succ (n := t + 1), List.map_append]
  simp [h]
theorem zip_cells {f g : Cn} {s : Nat} : zipL (cells f s) (cells g s) = (List.range (s + 1)).map fun j => D.tup [.int (f j : Nat), .int (g j : Nat)] := by
  have : ∀ l : List Nat, zipL (l.map fun j => D.int (f j : Nat)) (l.map fun j => D.int (g j : Nat)) = l.map fun j => D.tup [.int (f j : Nat), .int (g j : Nat)] := by
    intro l
    induction l with
    | nil => rfl
    | cons x l ih => simp [zipL, ih]
  exact this _
theorem cells_ints {f : Cn} {s : Nat} : ∃ ns : List Int, intsOf (cells f s) = some ns ∧ ns.sum = ((tot f s : Nat) : Int) :=
  ⟨_, ints_js f _, sum_castN f _⟩
def LrJ (rf b : Nat) (q ph : D) (K S one part here0 here : D) (f g F : Cn) (x s : Nat) (h0 : AH) (i : Nat) : St → AH → Prop := fun σ h => ∃ (x10 x11 : Option D), σ = [some q, some ph, some K, some S, some (.ref rf), some one, some part, some (.ref b), some here0, some here, x10, x11] ∧ h rf = some (.lst (cells (fun j => F j + prT f g (List.range i) x j) s)) ∧ ∀ c o, c ≠ rf → h0 c = some o → h c = some o
theorem lr_in {C : Cx} {R : Ends} {rf b x t s : Nat} {q ph K S one part : D} {f g F : Cn} {x10 x11 : Option D} {hh : AH} (hs : x + t ≤ s) (h4 : s ≤ 40) (bw : ∃ w, 0 < w ∧ w ≤ 500000 ∧ ∀ j, f j < 2 ^ w ∧ g j < 2 ^ w) (hr : hh rf = some (.lst (cells F s))) (hb : hh b = some (.lst (cells g t))) (nb : b ≠ rf)
    (k : ∀ x10 x11 h', h' rf = some (.lst (cells (fun j => F j + prT f g (List.range (t + 1)) x j) s)) → (∀ c o, c ≠ rf → hh c = some o → h' c = some o) → R.nx [some q, some ph, some K, some S, some (.ref rf), some one, some part, some (.ref b), some (.int (x : Nat)), some (.int (f x : Nat)), x10, x11] h') :
    wSs C b13_law_fresh R [some q, some ph, some K, some S, some (.ref rf), some one, some part, some (.ref b), some (.int (x : Nat)), some (.int (f x : Nat)), x10, x11] hh := by
  simp [b13_law_fresh]
  rw [walk_enum hb]
  refine ⟨fun i => LrJ rf b q ph K S one part (.int (x : Nat)) (.int (f x : Nat)) f g F x s hh i, ⟨x10, x11, rfl, by simpa [prT] using hr, fun _ _ _ e => e⟩, ?_, ?_, ?_⟩
  · rintro i σ h' ⟨x10, x11, rfl, e1, st⟩
    exact st b _ nb hb
  · rintro i y σ h' hy ⟨x10, x11, rfl, e1, st⟩
    obtain ⟨z, hz, rfl⟩ := enumL_at hy
    have it : i < t + 1 := by have := (List.getElem?_eq_some_iff.mp hz).1; rw [cells_len] at this; exact this
    rw [cells_at (by omega)] at hz
    cases hz
    simp [b14_law_fresh]
    have cast : (x : Int) + (i : Int) = ((x + i : Nat) : Int) := by omega
    rw [cast, ix_lst e1, atI_cells (by omega)]
    simp
    obtain ⟨w, w0, w1, w2⟩ := bw
    refine ⟨.inr (.inr ⟨w, w0, w1, by simpa using (w2 x).1, by simpa using (w2 i).2⟩), ?_⟩
    rw [cast, set_lst e1]
    refine ⟨⟨by omega, by rw [cells_len]; omega⟩, _, _, rfl, ?_, fun c o nc e => by rw [up_ne nc]; exact st c o nc e⟩
    rw [up_same, Int.toNat_natCast]
    have e0 : ((F (x + i) : Nat) : Int) + ((prT f g (List.range i) x (x + i) : Nat) : Int) + ((f x : Nat) : Int) * ((g i : Nat) : Int) = ((F (x + i) + prT f g (List.range i) x (x + i) + f x * g i : Nat) : Int) := by simp
    rw [e0, cells_set (by omega)]
    congr 2
    refine cells_congr fun j _ => ?_
    have tk : List.range (i + 1) = List.range i ++ [i] := List.range_succ
    simp only [prT, tk, List.map_append, List.sum_append, List.map_cons, List.map_nil, List.sum_cons, List.sum_nil]
    by_cases z : j = x + i
    · subst z; simp; omega
    · rw [if_neg z, if_neg (fun w => z w.symm)]; omega
  · rintro σ h' ⟨x10, x11, rfl, e1, st⟩
    rw [enumL_len, cells_len] at e1
    exact k x10 x11 h' e1 st
def LrI (rf a b : Nat) (q ph : D) (K S part : D) (t : Nat) (f g F : Cn) (s : Nat) (h0 : AH) (i : Nat) : St → AH → Prop := fun σ h => ∃ (x8 x9 x10 x11 : Option D), σ = [some q, some ph, some K, some S, some (.ref rf), some (.ref a), some part, some (.ref b), x8, x9, x10, x11] ∧ h rf = some (.lst (cells (fun j => F j + ((List.range i).map fun x => prT f g (List.range (t + 1)) x j).sum) s)) ∧ ∀ c o, c ≠ rf → h0 c = some o → h c = some o
theorem lr_mid {C : Cx} {R : Ends} {rf a b p t s : Nat} {q ph K S part : D} {f g F : Cn} {x8 x9 x10 x11 : Option D} {hh : AH} (hs : p + t ≤ s) (h4 : s ≤ 40) (bw : ∃ w, 0 < w ∧ w ≤ 500000 ∧ ∀ j, f j < 2 ^ w ∧ g j < 2 ^ w) (hr : hh rf = some (.lst (cells F s))) (ha : hh a = some (.lst (cells f p))) (hb : hh b = some (.lst (cells g t))) (na : a ≠ rf) (nb : b ≠ rf) (tf : ∀ j, p < j → f j = 0) (tg : ∀ j, t < j → g j = 0)
    (k : ∀ x8 x9 x10 x11 h', h' rf = some (.lst (cells (fun j => F j + cmul f g j) s)) → (∀ c o, c ≠ rf → hh c = some o → h' c = some o) → R.nx [some q, some ph, some K, some S, some (.ref rf), some (.ref a), some part, some (.ref b), x8, x9, x10, x11] h') :
    wS C (.for_ (.tp [8, 9]) .enum (.cons (.var 5) .nil) b13_law_fresh) R [some q, some ph, some K, some S, some (.ref rf), some (.ref a), some part, some (.ref b), x8, x9, x10, x11] hh := by
  simp
  rw [walk_enum ha]
  refine ⟨fun i => LrI rf a b q ph K S part t f g F s hh i, ⟨x8, x9, x10, x11, rfl, by simpa using hr, fun _ _ _ e => e⟩, ?_, ?_, ?_⟩
  · rintro i σ h' ⟨x8, x9, x10, x11, rfl, e1, st⟩
    exact st a _ na ha
  · rintro i y σ h' hy ⟨x8, x9, x10, x11, rfl, e1, st⟩
    obtain ⟨z, hz, rfl⟩ := enumL_at hy
    have it : i < p + 1 := by have := (List.getElem?_eq_some_iff.mp hz).1; rw [cells_len] at this; exact this
    rw [cells_at (by omega)] at hz
    cases hz
    have sm : ∀ j, ((List.range (i + 1)).map fun x => prT f g (List.range (t + 1)) x j).sum = ((List.range i).map fun x => prT f g (List.range (t + 1)) x j).sum + prT f g (List.range (t + 1)) i j := fun j => by
      rw [List.range_succ (n := i), List.map_append, List.sum_append]; simp
    simp
    refine lr_in (F := fun j => F j + ((List.range i).map fun x => prT f g (List.range (t + 1)) x j).sum) (by omega) h4 bw e1 (st b _ nb hb) nb fun x10 x11 h2 e2 st2 => ?_
    refine ⟨_, _, x10, x11, rfl, ?_, fun c o nc e => st2 c o nc (st c o nc e)⟩
    rw [e2]
    congr 2
    refine cells_congr fun j _ => ?_
    rw [sm]
    omega
  · rintro σ h' ⟨x8, x9, x10, x11, rfl, e1, st⟩
    rw [enumL_len, cells_len] at e1
    refine k x8 x9 x10 x11 h' ?_ st
    rw [e1]
    congr 2
    refine cells_congr fun j _ => ?_
    rw [prs_eq (f := f) (g := g) (s := p) List.nodup_range (fun j hj => List.mem_range.mpr (Nat.lt_succ_of_le (Nat.le_of_not_lt fun z => hj (tf j z)))) (fun j hj => by have := List.mem_range.mp hj; omega) List.nodup_range (fun j hj => List.mem_range.mpr (Nat.lt_succ_of_le (Nat.le_of_not_lt fun z => hj (tg j z)))) j]
def HeldL (KL : List Kd) (rs : Rs) (kvs : List (D × D)) (h : AH) : Prop := (kvs.map (·.1)).Nodup ∧ ∀ kv ∈ kvs, ∃ (k : Kd) (s r : Nat), kv = (keyD k s, .ref r) ∧ h r = some (.lst (cells (CT rs k s) s)) ∧ k ∈ KL ∧ s ≤ 40
theorem HeldL.get {KL : List Kd} {rs : Rs} {kvs : List (D × D)} {h : AH} (c : HeldL KL rs kvs h) {k : Kd} {s : Nat} (m : (kvGet kvs (keyD k s)).isSome = true) : ∃ r, kvGet kvs (keyD k s) = some (.ref r) ∧ h r = some (.lst (cells (CT rs k s) s)) := by
  obtain ⟨v, hv⟩ := Option.isSome_iff_exists.mp m
  have mem : (keyD k s, v) ∈ kvs := by
    unfold kvGet at hv
    cases e : kvs.find? fun kv => decide (kv.1 = keyD k s) with
    | none => rw [e] at hv; cases hv
    | some kv =>
      rw [e] at hv
      injection hv with hv
      have h1 := List.mem_of_find?_eq_some e
      have h2 : kv.1 = keyD k s := by simpa using List.find?_some e
      rw [← hv, ← h2]
      exact h1
  obtain ⟨k', s', r, e, hr, _⟩ := c.2 _ mem
  injection e with e1 e2
  obtain ⟨rfl, rfl⟩ := keyD_inj e1
  exact ⟨r, by rw [hv, e2], hr⟩
theorem HeldL.put {KL : List Kd} {rs : Rs} {kvs : List (D × D)} {h : AH} {k : Kd} {s r : Nat} (c : HeldL KL rs kvs h) (hr : h r = some (.lst (cells (CT rs k s) s))) (mk : k ∈ KL) (ms : s ≤ 40) : HeldL KL rs (kvPut kvs (keyD k s) (.ref r)) h :=
  ⟨kvPut_keys' c.1, fun kv m => (kvPut_mem' m).elim (c.2 kv) fun e => ⟨k, s, r, e, hr, mk, ms⟩⟩
theorem HeldL.ke {KL : List Kd} {rs : Rs} {kvs : List (D × D)} {h h' : AH} {ph : Nat} {kw : List (D × D)} (c : HeldL KL rs kvs h) (hp : h ph = some (.dcn kw)) (x : Ke ph h h') : HeldL KL rs kvs h' :=
  ⟨c.1, fun kv m => by
    obtain ⟨k, s, r, e, hr, mm⟩ := c.2 kv m
    exact ⟨k, s, r, e, x r _ (fun z => by subst z; rw [hp] at hr; cases hr) hr, mm⟩⟩
theorem HeldL.len {KL : List Kd} {rs : Rs} {kvs : List (D × D)} {h : AH} (c : HeldL KL rs kvs h) : kvs.length ≤ KL.length * 41 := by
  have sub : ∀ x ∈ kvs.map (·.1), x ∈ KL.flatMap fun k => (List.range 41).map fun s => keyD k s := fun x hx => by
    obtain ⟨kv, hkv, rfl⟩ := List.mem_map.mp hx
    obtain ⟨k, s, r, e, _, mk, ms⟩ := c.2 kv hkv
    rw [e]
    exact List.mem_flatMap.mpr ⟨k, mk, List.mem_map.mpr ⟨s, List.mem_range.mpr (by omega), rfl⟩⟩
  have h1 := List.Nodup.length_le_of_subset c.1 sub
  have h2 := flat_len KL
  rw [h2, List.length_map] at h1
  exact h1

structure LH (KL : List Kd) (rs : Rs) (q ph : Nat) (kvs : List (D × D)) (h : AH) : Prop where
  ru : RD q rs h
  he : h ph = some (.dcn kvs)
  ok : HeldL KL rs kvs h
structure LG (KL : List Kd) (rs : Rs) (q ph : Nat) (kvs : List (D × D)) (h : AH) (kvs' : List (D × D)) (h' : AH) : Prop where
  tl : LH KL rs q ph kvs' h'
  ke : Ke ph h h'
  mo : ∀ a, (kvGet kvs a).isSome = true → (kvGet kvs' a).isSome = true
  nh : ∀ x, h x ≠ none → D.ref x ∉ kvs.map (·.2) → D.ref x ∉ kvs'.map (·.2)
theorem LG.refl {KL : List Kd} {rs : Rs} {q ph : Nat} {kvs : List (D × D)} {h : AH} (t : LH KL rs q ph kvs h) : LG KL rs q ph kvs h kvs h := ⟨t, .refl, fun _ m => m, fun _ _ m => m⟩
theorem LG.trans {KL : List Kd} {rs : Rs} {q ph : Nat} {kvs kvs1 kvs2 : List (D × D)} {h h1 h2 : AH} (a : LG KL rs q ph kvs h kvs1 h1) (b : LG KL rs q ph kvs1 h1 kvs2 h2) : LG KL rs q ph kvs h kvs2 h2 := ⟨b.tl, a.ke.trans b.ke, fun x m => b.mo x (a.mo x m), fun x hx n => b.nh x (fun z => by
  by_cases e : x = ph
  · subst e; rw [a.tl.he] at z; cases z
  · cases e2 : h x with
    | none => exact hx e2
    | some o => rw [a.ke x o e e2] at z; cases z) (a.nh x hx n)⟩
theorem LH.ext {KL : List Kd} {rs : Rs} {q ph : Nat} {kvs : List (D × D)} {h h' : AH} (t : LH KL rs q ph kvs h) (x : Ext h h') : LH KL rs q ph kvs h' := ⟨t.ru.ext x, x _ _ t.he, t.ok.ke t.he x.ke⟩
theorem LG.ext {KL : List Kd} {rs : Rs} {q ph : Nat} {kvs kvs' : List (D × D)} {h h1 h2 : AH} (a : LG KL rs q ph kvs h kvs' h1) (x : Ext h1 h2) : LG KL rs q ph kvs h kvs' h2 := ⟨a.tl.ext x, a.ke.trans x.ke, a.mo, a.nh⟩
theorem LG.none {KL : List Kd} {rs : Rs} {q ph : Nat} {kvs kvs' : List (D × D)} {h h' : AH} {r : Nat} (a : LG KL rs q ph kvs h kvs' h') (n : h' r = Option.none) : h r = Option.none := by
  cases e : h r with
  | none => rfl
  | some o =>
    by_cases z : r = ph
    · subst z; rw [a.tl.he] at n; cases n
    · rw [a.ke r o z e] at n; cases n
theorem LG.mut {KL : List Kd} {rs : Rs} {q ph : Nat} {kvs kvs' : List (D × D)} {h h' h2 : AH} {r : Nat} (a : LG KL rs q ph kvs h kvs' h') (n : h r = Option.none) (hn : D.ref r ∉ kvs'.map (·.2)) (qr : q ≠ r) (pr : ph ≠ r) (x : ∀ c o, c ≠ r → h' c = some o → h2 c = some o) : LG KL rs q ph kvs h kvs' h2 :=
  ⟨⟨a.tl.ru.imp (x _ _ qr) (x _ _ qr), x _ _ pr a.tl.he, a.tl.ok.1, fun kv m => by
    obtain ⟨k, s, u, e, hr, mm⟩ := a.tl.ok.2 kv m
    refine ⟨k, s, u, e, x _ _ (fun z => hn (List.mem_map.mpr ⟨kv, m, by rw [e, z]⟩)) hr, mm⟩⟩, fun c o nc e => x c o (fun z => by subst z; rw [n] at e; cases e) (a.ke c o nc e), a.mo, a.nh⟩
section
variable {KL : List Kd} {rs : Rs} {q ph : Nat}
theorem row_step {m s : Nat} {k : Kd} {kvs : List (D × D)} {h : AH} {Q : VQ} {X : XP} (t : LH KL rs q ph kvs h) (kd : k.dp ≤ 3) (mk : k ∈ KL) (ms : s ≤ 40) (lK : KL.length ≤ 1000)
    (fr : kvGet kvs (keyD k s) = none → ∀ Q1, (∀ kvs' h' r, LG KL rs q ph kvs h kvs' h' → h' r = some (.lst (cells (CT rs k s) s)) → (h r = none ∨ D.ref r ∈ kvs'.map (·.2)) → Q1 (.ref r) h') → run P m s__law_fresh [.ref q, .ref ph, encK k, .int s] h Q1 X)
    (kQ : ∀ kvs' h' r, LG KL rs q ph kvs h kvs' h' → kvGet kvs' (keyD k s) = some (.ref r) → h' r = some (.lst (cells (CT rs k s) s)) → Q (.ref r) h') : run P (m + 1) s__law_row [.ref q, .ref ph, encK k, .int s] h Q X := by
  refine run_of (fd := fd_law_row) rfl rfl ?_
  have nk := nk_key (s := s) kd
  have ek : D.tup [encK k, .int (s : Int)] = keyD k s := rfl
  have fin : ∀ kvs' h', LG KL rs q ph kvs h kvs' h' → (kvGet kvs' (keyD k s)).isSome = true → wSs ⟨run P m, X⟩ b2_law_row (RT Q) [some (.ref q), some (.ref ph), some (encK k), some (.int s)] h' := fun kvs' h' g mm => by
    simp [b2_law_row]
    rw [ek, ix_dcn g.tl.he]
    obtain ⟨r, e1, e2⟩ := g.tl.ok.get mm
    rw [e1]
    exact ⟨nk, kQ kvs' h' r g e1 e2⟩
  simp [fd_law_row, start, b0_law_row]
  rw [ek, mem_dcn t.he]
  refine ⟨nk, ?_⟩
  cases e : kvGet kvs (keyD k s) with
  | some v => exact fin kvs h (.refl t) (by rw [e]; rfl)
  | none =>
    simp [b1_law_row]
    refine fr e _ fun kvs' h' r g hr nw => ?_
    rw [ek, set_dcn g.tl.he]
    have ln := g.tl.ok.len
    have : KL.length * 41 ≤ 1000 * 41 := Nat.mul_le_mul_right _ lK
    have rp : r ≠ ph := fun z => by rw [z, g.tl.he] at hr; cases hr
    have qp : q ≠ ph := g.tl.ru.ne g.tl.he (by simp) (by simp)
    refine ⟨nk, by have : LINE = 16777216 := rfl; omega, fin (kvPut kvs' (keyD k s) (.ref r)) _ ⟨⟨g.tl.ru.ke qp .put, up_same, ?_⟩, g.ke.trans .put, fun a ma => kv_mono (g.mo a ma), fun x hx n m => ?_⟩ ?_⟩
    · exact (g.tl.ok.put hr mk ms).ke g.tl.he .put
    · obtain ⟨kv, hkv, e2⟩ := List.mem_map.mp m
      rcases kvPut_mem' hkv with h1 | h1
      · exact g.nh x hx n (List.mem_map.mpr ⟨kv, h1, e2⟩)
      · rw [h1] at e2
        injection e2 with e2
        subst e2
        exact nw.elim (fun z => hx z) (fun z => g.nh _ hx n z)
    · rw [kvGet_put]; simp
def LfI (KL : List Kd) (rs : Rs) (q ph rf : Nat) (kvs : List (D × D)) (h : AH) (a b : Kd) (s : Nat) (i : Nat) : St → AH → Prop := fun σ hh => ∃ (kvs1 : List (D × D)) (x5 x6 x7 x8 x9 x10 x11 : Option D), σ = [some (.ref q), some (.ref ph), some (encK (.pair a b)), some (.int (s : Int)), some (.ref rf), x5, x6, x7, x8, x9, x10, x11] ∧ LG KL rs q ph kvs h kvs1 hh ∧ D.ref rf ∉ kvs1.map (·.2) ∧ hh rf = some (.lst (cells (csum (fun p => cmul (CT rs a p) (CT rs b (s - p))) i) s))
end
section
variable {ts : List Sx} {rs : Rs} {W : Sx → Nat} {KL : List Kd} {q ph : Nat}
theorem lfresh_ok (K : KS ts rs W KL) {m s : Nat} {k : Kd} {kvs : List (D × D)} {h : AH} {Q : VQ} {X : XP} (t : LH KL rs q ph kvs h) (mk : k ∈ KL) (ms : s ≤ 40)
    (cn : ∀ a s', Nx rs k s a s' → ∀ kvs1 h1 Q1, LG KL rs q ph kvs h kvs1 h1 → (∀ kvs' h' r, LG KL rs q ph kvs1 h1 kvs' h' → h' r = some (.lst (cells (CT rs a s') s')) → D.ref r ∈ kvs'.map (·.2) → Q1 (.ref r) h') → run P (m + 1) s__law_row [.ref q, .ref ph, encK a, .int (s' : Nat)] h1 Q1 X)
    (kQ : ∀ kvs' h' r, LG KL rs q ph kvs h kvs' h' → h' r = some (.lst (cells (CT rs k s) s)) → (h r = none ∨ D.ref r ∈ kvs'.map (·.2)) → Q (.ref r) h') : run P (m + 2) s__law_fresh [.ref q, .ref ph, encK k, .int s] h Q X := by
  refine run_of (fd := fd_law_fresh) rfl rfl ?_
  have w := K.w3 k mk
  simp [fd_law_fresh, start, b0_law_fresh]
  intro r0 hr0
  rw [mul_ref]
  refine ⟨[.int 0], up_same, by omega, by omega, by simp [LINE]; omega, fun rf hrf => ?_⟩
  have es : ((s : Int) + 1).toNat = s + 1 := by omega
  rw [es, cells_c0]
  have hrf0 := fresh_back (Ext.new hr0) hrf
  have x0 : Ext h (up (up h r0 (.lst [.int 0])) rf (.lst (cells c0 s))) := (Ext.new hr0).trans (Ext.new hrf)
  have t0 := (LG.refl t).ext x0
  generalize hg : up (up h r0 (.lst [.int 0])) rf (.lst (cells c0 s)) = h0 at t0 x0
  have hf : h0 rf = some (.lst (cells c0 s)) := by rw [← hg]; exact up_same
  have emp : CT rs k s = c0 → Q (.ref rf) h0 := fun e => kQ kvs h0 rf t0 (by rw [e]; exact hf) (.inl hrf0)
  have rfp : rf ≠ ph := fun z => by rw [z, t0.tl.he] at hf; cases hf
  have rfq : q ≠ rf := t0.tl.ru.ne hf (by simp) (by simp)
  have one1 : ∀ j : Nat, j ≤ s → CT rs k s = c1 j → Q (.ref rf) (up h0 rf (.lst ((cells c0 s).set j (.int 1)))) := fun j hj e => by
    refine kQ kvs _ rf ((LG.refl t).ext (x0.mut hrf0 .put)) ?_ (.inl hrf0)
    rw [up_same, e, show D.int 1 = D.int ((1 : Nat) : Int) from rfl, cells_set hj]
    rfl
  have nrf : D.ref rf ∉ kvs.map (·.2) := fun m => by
    obtain ⟨kv, hkv, e⟩ := List.mem_map.mp m
    obtain ⟨k', s', r, e2, hr, _⟩ := t.ok.2 kv hkv
    rw [e2] at e
    injection e with e
    subst e
    rw [hrf0] at hr
    cases hr
  cases k with
  | rule r =>
    obtain ⟨j, k', _, _, e, _, _⟩ := lookup_at K.ri (i := 0) (r := r) (by rw [List.drop_zero]; exact w.1)
    simp [ix0, kword, b1_law_fresh]
    simp [encK, atI]
    rw [t0.tl.ru.ix, kvGet_rs, e]
    refine ⟨rfl, ?_⟩
    dsimp only [Option.map_some]
    refine cn k' s (.inl ⟨r, rfl, e, rfl⟩) kvs h0 _ t0 fun kvs' h' r' g hr mr => kQ kvs' h' r' (t0.trans g) ?_ (.inr mr)
    rw [CT_rule K.ri K.l6 e (K.w3 _ (K.ru r k' e))]
    exact hr
  | one =>
    rw [CT_one] at emp one1
    simp [ix0, kword, b2_law_fresh, b3_law_fresh, b4_law_fresh, b6_law_fresh, b8_law_fresh, b10_law_fresh, b15_law_fresh]
    by_cases z : s = 0
    · subst z
      simp
      rw [set_lst hf]
      refine ⟨⟨by omega, by rw [cells_len]; omega⟩, ?_⟩
      simp [ix0, kword]
      exact one1 0 (Nat.le_refl _) rfl
    · rw [if_neg z] at emp
      simp [z, ix0, kword]
      exact emp rfl
  | name =>
    rw [CT_name] at emp one1
    simp [ix0, kword, b2_law_fresh, b4_law_fresh, b5_law_fresh, b6_law_fresh, b8_law_fresh, b10_law_fresh, b15_law_fresh]
    by_cases z : s = 1
    · subst z
      simp
      rw [set_lst hf]
      refine ⟨⟨by omega, by rw [cells_len]; omega⟩, ?_⟩
      simp [ix0, kword]
      exact one1 1 (Nat.le_refl _) rfl
    · rw [if_neg z] at emp
      have z2 : ¬ (s : Int) = 1 := by omega
      simp [z, z2, ix0, kword]
      exact emp rfl
  | none =>
    simp [ix0, kword, b2_law_fresh, b4_law_fresh, b6_law_fresh, b8_law_fresh, b10_law_fresh, b15_law_fresh]
    exact emp CT_none
  | node a =>
    simp [ix0, kword, b2_law_fresh, b4_law_fresh, b6_law_fresh]
    cases s with
    | zero =>
      simp [b8_law_fresh, b10_law_fresh, b15_law_fresh, ix0, kword]
      exact emp rfl
    | succ u =>
      rw [decide_eq_true (by omega)]
      simp [b7_law_fresh]
      simp [encK, atI]
      refine cn a u (.inr (.inr (.inr ⟨rfl, rfl⟩))) kvs h0 _ t0 fun kvs' h' r' g hr _ => ?_
      intro r1 hr1
      have hr' : (up h' r1 (.lst [.int 0])) r' = some (.lst (cells (CT rs a u) u)) := by rw [up_ne (ne_new hr hr1)]; exact hr
      refine ⟨_, _, hr', up_same, by rw [cells_len]; simp [LINE]; omega, fun r2 hr2 => ?_⟩
      refine kQ kvs' _ r2 ((t0.trans g).ext ((Ext.new hr1).trans (Ext.new hr2))) ?_ (.inl (LG.none (t0.trans g) (fresh_back (Ext.new hr1) hr2)))
      rw [up_same, CT_node K.ri K.l6 (K.w3 a (K.pt _ mk a (by simp [kparts]))), cells_more (CT_top (by omega))]
  | sum a b =>
    simp [ix0, kword, b2_law_fresh, b4_law_fresh, b6_law_fresh, b8_law_fresh, b9_law_fresh]
    simp [encK, atI]
    have ma := K.pt _ mk a (by simp [kparts])
    have mb := K.pt _ mk b (by simp [kparts])
    refine cn a s (.inr (.inl ⟨a, b, rfl, .inl rfl, rfl⟩)) kvs h0 _ t0 fun kvs1 h1 r1 g1 hr1 _ => ?_
    refine cn b s (.inr (.inl ⟨a, b, rfl, .inr rfl, rfl⟩)) kvs1 h1 _ (t0.trans g1) fun kvs2 h2 r2 g2 hr2 _ => ?_
    have rp : r1 ≠ ph := fun z => by rw [z, g1.tl.he] at hr1; cases hr1
    have hr1' := g2.ke _ _ rp hr1
    rw [walk_zipL hr1' hr2, zip_cells]
    refine ⟨fun i acc h' => h' = h2 ∧ acc = (List.range i).map fun j => D.int (CT rs (.sum a b) s j : Nat), ⟨rfl, rfl⟩, ?_, by simp [LINE]; omega, ?_, ?_⟩
    · rintro i acc h' ⟨rfl, rfl⟩
      exact ⟨⟨hr1', hr2⟩, by simp⟩
    · rintro i x acc h' hx ⟨rfl, rfl⟩
      obtain ⟨j, hj, rfl⟩ := map_at hx
      have : i = j := by
        have := (List.getElem?_eq_some_iff.mp hj)
        obtain ⟨l, e⟩ := this
        simpa using e
      subst this
      simp [setT, setT.setTs, forget]
      rw [List.range_succ, List.map_append, CT_sum K.ri K.l6 (K.w3 a ma) (K.w3 b mb)]
      simp [cadd]
    · rintro acc h' ⟨rfl, rfl⟩
      intro r3 hr3
      refine kQ kvs2 _ r3 (((t0.trans g1).trans g2).ext (Ext.new hr3)) ?_ (.inl (LG.none ((t0.trans g1).trans g2) hr3))
      rw [up_same]
      simp [cells]
  | pair a b =>
    have ma := K.pt _ mk a (by simp [kparts])
    have mb := K.pt _ mk b (by simp [kparts])
    simp [ix0, kword, b2_law_fresh, b4_law_fresh, b6_law_fresh, b8_law_fresh, b10_law_fresh, b11_law_fresh]
    refine ⟨by omega, by omega, loop_rng (fun i => LfI KL rs q ph rf kvs h a b s i) ⟨kvs, none, none, none, none, none, none, none, rfl, t0, nrf, hf⟩ (fun _ _ _ _ => trivial) ?_ ?_⟩
    · rintro i σ hh hi ⟨kvs1, x5, x6, x7, x8, x9, x10, x11, rfl, g, nf, e⟩
      have is : i ≤ s := by omega
      simp [b12_law_fresh]
      simp [encK, atI]
      refine cn a i (.inr (.inr (.inl ⟨a, b, rfl, .inl rfl, is⟩))) kvs1 hh _ g fun kvs2 h2 r1 g2 hr1 m1 => ?_
      have esub : (s : Int) - (i : Int) = ((s - i : Nat) : Int) := by omega
      rw [esub]
      refine cn b (s - i) (.inr (.inr (.inl ⟨a, b, rfl, .inr rfl, by omega⟩))) kvs2 h2 _ (g.trans g2) fun kvs3 h3 r2 g3 hr2 m2 => ?_
      have r1p : r1 ≠ ph := fun z => by rw [z, g2.tl.he] at hr1; cases hr1
      have e2 := g2.ke _ _ rfp e
      have e3 := g3.ke _ _ rfp e2
      have hr1' := g3.ke _ _ r1p hr1
      have n2 := g2.nh rf (by rw [e]; simp) nf
      have n3 := g3.nh rf (by rw [e2]; simp) n2
      have n13 : r1 ≠ rf := fun z => n2 (by rw [← z]; exact m1)
      have n23 : r2 ≠ rf := fun z => n3 (by rw [← z]; exact m2)
      have key := lr_mid (C := ⟨run P (m + 1), X⟩) (R := { nx := LfI KL rs q ph rf kvs h a b s (i + 1), ct := LfI KL rs q ph rf kvs h a b s (i + 1), rt := Q, bk := fun σ h => wSs ⟨run P (m + 1), X⟩ b15_law_fresh (RT Q) σ h }) (q := .ref q) (ph := .ref ph) (K := encK (.pair a b)) (S := .int (s : Nat)) (part := .int (i : Nat)) (x8 := x8) (x9 := x9) (x10 := x10) (x11 := x11) (by omega) ms (K.bw ma mb (by omega) (by omega)) e3 hr1' hr2 n13 n23 (fun j hj => CT_top hj) (fun j hj => CT_top hj) fun x8 x9 x10 x11 h4 e4 st4 => ?_
      · simpa [encK] using key
      · refine ⟨kvs3, _, _, _, _, _, _, _, rfl, ((g.trans g2).trans g3).mut hrf0 n3 rfq rfp.symm st4, n3, ?_⟩
        rw [e4]
        rfl
    · rintro σ hh ⟨kvs1, x5, x6, x7, x8, x9, x10, x11, rfl, g, nf, e⟩
      simp [b15_law_fresh]
      refine kQ kvs1 hh rf g ?_ (.inl hrf0)
      rw [CT_pair K.ri K.l6 (K.w3 a ma) (K.w3 b mb)]
      have : ((s : Int) + 1 - 0).toNat = s + 1 := by omega
      rw [this] at e
      exact e
end
section
variable {ts : List Sx} {rs : Rs} {W : Sx → Nat} {KL : List Kd} {q ph : Nat}
theorem row_ok (K : KS ts rs W KL) {n : Nat} {X : XP} : ∀ (μ : Nat) (k : Kd) (s i : Nat) (kvs : List (D × D)) (h : AH) (Q : VQ), k ∈ KL → s ≤ 40 → (∀ s', s' < s → Hs ts kvs s') → Rm ts kvs k s i μ → LH KL rs q ph kvs h →
    (∀ kvs' h' r, LG KL rs q ph kvs h kvs' h' → kvGet kvs' (keyD k s) = some (.ref r) → h' r = some (.lst (cells (CT rs k s) s)) → Q (.ref r) h') → run P (n + 2 * μ + 1) s__law_row [.ref q, .ref ph, encK k, .int (s : Nat)] h Q X := by
  intro μ
  induction μ with
  | zero => intro k s i kvs h Q _ _ _ rm; rcases rm with ⟨_, z⟩ | ⟨_, _, z⟩ <;> omega
  | succ μ ih =>
    intro k s i kvs h Q mk ms low rm t kQ
    have w := K.w3 k mk
    rw [show n + 2 * (μ + 1) + 1 = (n + 2 * μ + 2) + 1 by omega]
    refine row_step t w.2 mk ms K.len (fun hn Q1 k1 => ?_) kQ
    rw [show n + 2 * μ + 2 = (n + 2 * μ) + 2 from rfl]
    refine lfresh_ok K t mk ms (fun a s' nx kvs1 h1 Q2 g kQ2 => ?_) k1
    have lowg : ∀ s'', s'' < s → Hs ts kvs1 s'' := fun s'' l r hr => g.mo _ (low s'' l r hr)
    have fin : ∀ j, a ∈ KL → s' ≤ s → Rm ts kvs1 a s' j μ → run P (n + 2 * μ + 1) s__law_row [.ref q, .ref ph, encK a, .int (s' : Nat)] h1 Q2 X := fun j ma sl r2 => ih a s' j kvs1 h1 Q2 ma (by omega) (fun s'' l => lowg s'' (by omega)) r2 g.tl fun kvs' h' r g2 e hr => kQ2 kvs' h' r g2 hr (by
      unfold kvGet at e
      cases e3 : kvs'.find? fun kv => decide (kv.1 = keyD a s') with
      | none => rw [e3] at e; cases e
      | some kv =>
        rw [e3] at e
        injection e with e
        exact List.mem_map.mpr ⟨kv, List.mem_of_find?_eq_some e3, e⟩)
    have held : ∀ {u : Nat}, Hs ts kvs u → Hs ts kvs1 u := fun hh r hr => g.mo _ (hh r hr)
    rcases nx with ⟨r, rfl, e, rfl⟩ | ⟨x, y, rfl, e, rfl⟩ | ⟨x, y, rfl, e, sl⟩ | ⟨rfl, e⟩
    · rcases rm with ⟨hh, z⟩ | ⟨b, il, z⟩
      · have := hh r w.1
        rw [hn] at this
        cases this
      · obtain ⟨j, k', ij, jl, e2, d3, b2⟩ := lookup_at K.ri b
        rw [e] at e2
        cases e2
        simp only [Kd.dp] at z
        have l6 := K.l6
        exact fin (j + 1) (K.ru r _ e) (Nat.le_refl _) (.inr ⟨b2, by omega, by omega⟩)
    · have ma : a ∈ KL := K.pt _ mk a (by rcases e with rfl | rfl <;> simp [kparts])
      have da : a.dp + 1 ≤ (Kd.sum x y).dp := by rcases e with rfl | rfl <;> simp only [Kd.dp] <;> omega
      refine fin i ma (Nat.le_refl _) ?_
      rcases rm with ⟨hh, z⟩ | ⟨b, il, z⟩
      · exact .inl ⟨held hh, by omega⟩
      · exact .inr ⟨by rcases e with rfl | rfl <;> first | exact b.1 | exact b.2, il, by omega⟩
    · have ma : a ∈ KL := K.pt _ mk a (by rcases e with rfl | rfl <;> simp [kparts])
      have da : a.dp + 1 ≤ (Kd.pair x y).dp := by rcases e with rfl | rfl <;> simp only [Kd.dp] <;> omega
      refine fin i ma sl ?_
      rcases Nat.lt_or_ge s' s with l | l
      · exact .inl ⟨lowg s' l, by rcases rm with ⟨_, z⟩ | ⟨_, _, z⟩ <;> omega⟩
      · obtain rfl : s' = s := by omega
        rcases rm with ⟨hh, z⟩ | ⟨b, il, z⟩
        · exact .inl ⟨held hh, by omega⟩
        · exact .inr ⟨by rcases e with rfl | rfl <;> first | exact b.1 | exact b.2, il, by omega⟩
    · subst e
      have ma : a ∈ KL := K.pt _ mk a (by simp [kparts])
      refine fin 0 ma (by omega) (.inl ⟨lowg s' (by omega), ?_⟩)
      rcases rm with ⟨_, z⟩ | ⟨_, _, z⟩ <;> simp only [Kd.dp] at z <;> omega
/-- a row asked, where those of all smaller sizes are held -/
theorem row_at (K : KS ts rs W KL) {n s : Nat} {k : Kd} {kvs : List (D × D)} {h : AH} {Q : VQ} {X : XP} (mk : k ∈ KL) (hs : s ≤ 40) (lo : Lo ts kvs s) (t : LH KL rs q ph kvs h)
    (kQ : ∀ kvs' h' r, LG KL rs q ph kvs h kvs' h' → kvGet kvs' (keyD k s) = some (.ref r) → h' r = some (.lst (cells (CT rs k s) s)) → Q (.ref r) h') : run P (n + 57) s__law_row [.ref q, .ref ph, encK k, .int (s : Nat)] h Q X := by
  have w := K.w3 k mk
  exact row_ok K (n := n) 28 k s 0 kvs h Q mk hs lo (.inr ⟨bw_all w.1, Nat.zero_le _, by have := w.2; omega⟩) t kQ
def LsI (KL : List Kd) (rs : Rs) (ts : List Sx) (q ph : Nat) (m : D) (h : AH) (u : Nat) : St → AH → Prop := fun σ hh => ∃ (kvs : List (D × D)) (x3 x4 : Option D), σ = [some (.ref q), some m, some (.ref ph), x3, x4] ∧ LH KL rs q ph kvs hh ∧ hh q = some (.dct 0 (encRs rs)) ∧ Ext h hh ∧ Lo ts kvs u ∧ ∀ x, h x ≠ none → D.ref x ∉ kvs.map (·.2)
def LsJ (KL : List Kd) (rs : Rs) (ts : List Sx) (q ph : Nat) (m : D) (h hb : AH) (u : Nat) (i : Nat) : St → AH → Prop := fun σ hh => ∃ (kvs : List (D × D)) (x4 : Option D), σ = [some (.ref q), some m, some (.ref ph), some (.int (u : Nat)), x4] ∧ LH KL rs q ph kvs hh ∧ hh q = some (.rdct 0 (encRs rs)) ∧ Ke ph h hh ∧ Lo ts kvs u ∧ (∀ y ∈ ts.take i, (kvGet kvs (keyD (.rule y) u)).isSome = true) ∧ ∀ x, hb x ≠ none → D.ref x ∉ kvs.map (·.2)
theorem rows_ok (K : KS ts rs W KL) (rk : ∀ r ∈ ts, Kd.rule r ∈ KL) {n m : Nat} {h : AH} {Q : VQ} {X : XP} (hm : m ≤ 40) (hq : h q = some (.dct 0 (encRs rs)))
    (kQ : ∀ ph kvs h', h ph = none → LH KL rs q ph kvs h' → Ext h h' → Lo ts kvs (m + 1) → (∀ x, h x ≠ none → D.ref x ∉ kvs.map (·.2)) → Q (.ref ph) h') : run P (n + 58) s__law_rows [.ref q, .int (m : Nat)] h Q X := by
  refine run_of (fd := fd_law_rows) rfl rfl ?_
  simp [fd_law_rows, start, b0_law_rows]
  intro ph hph
  have pq : q ≠ ph := ne_new hq hph
  have hq0 : (up h ph (.dcn [])) q = some (.dct 0 (encRs rs)) := by rw [up_ne pq]; exact hq
  refine ⟨by omega, by omega, loop_rng (fun u => LsI KL rs ts q ph (.int (m : Nat)) h u) ⟨[], none, none, rfl, ⟨.of hq0, up_same, List.nodup_nil, fun _ z => nomatch z⟩, hq0, Ext.new hph, fun s' l => absurd l (by omega), by simp⟩ (fun _ _ _ _ => trivial) ?_ ?_⟩
  · rintro u σ hh hu ⟨kvs, x3, x4, rfl, t, hq1, ex, lo, nn⟩
    simp [b1_law_rows]
    rw [lock_at rfl hq1, walk_keys up_same]
    have t1 : LH KL rs q ph kvs (up hh q (.rdct 0 (encRs rs))) := ⟨.inr up_same, by rw [up_ne pq.symm]; exact t.he, t.ok.1, fun kv mm => by
      obtain ⟨k, s, r, e, hr, z⟩ := t.ok.2 kv mm
      exact ⟨k, s, r, e, by rw [up_ne (fun w => by subst w; rw [hq1] at hr; cases hr)]; exact hr, z⟩⟩
    refine ⟨fun i => LsJ KL rs ts q ph (.int (m : Nat)) (up hh q (.rdct 0 (encRs rs))) h u i, ⟨kvs, x4, rfl, t1, up_same, .refl, lo, by simp, nn⟩, (fun _ _ _ _ => trivial), ?_, ?_⟩
    · rintro i x σ h1 hx ⟨kvs1, x4, rfl, t2, hq2, ke, lo1, al, nn1⟩
      have al1 : ∀ x, h x ≠ none → h1 x ≠ none := fun x hx z => by
        cases e2 : h x with
        | none => exact hx e2
        | some o =>
          by_cases w : x = q
          · subst w; rw [hq2] at z; cases z
          · have := ke x o (ne_new e2 hph) (by rw [up_ne w]; exact ex x o e2)
            rw [this] at z; cases z
      rw [encRs_nm K.ri] at hx
      obtain ⟨y, hy, rfl⟩ := map_at hx
      have my : y ∈ ts := List.mem_of_getElem? hy
      simp [b2_law_rows]
      refine row_at K (n := n) (k := .rule y) (rk y my) (by omega) lo1 t2 fun kvs2 h2 r g mm hr => ?_
      refine ⟨kvs2, _, rfl, g.tl, g.ke _ _ pq hq2, ke.trans g.ke, lo1.mo g.mo, fun z hz => ?_, fun x hx => g.nh x (al1 x hx) (nn1 x hx)⟩
      rw [List.take_add_one, hy] at hz
      rcases List.mem_append.mp hz with hz | hz
      · exact g.mo _ (al z hz)
      · simp at hz; subst hz; rw [mm]; rfl
    · rintro σ h1 ⟨kvs1, x4, rfl, t2, hq2, ke, lo1, al, nn1⟩
      have el : ((encRs rs).map (·.1)).length = ts.length := by rw [encRs_nm K.ri, List.length_map]
      rw [el, List.take_length] at al
      refine ⟨kvs1, _, _, rfl, ⟨.of up_same, by rw [up_ne pq.symm]; exact t2.he, t2.ok.1, fun kv mm => ?_⟩, up_same, fun a o e => ?_, fun s' hs rr hrr => ?_, nn1⟩
      · obtain ⟨k, s, r, e, hr, z⟩ := t2.ok.2 kv mm
        exact ⟨k, s, r, e, by rw [up_ne (fun w => by subst w; rw [hq2] at hr; cases hr)]; exact hr, z⟩
      · have e1 := ex a o e
        by_cases z : a = q
        · subst z; rw [up_same, ← e1, hq1]
        · rw [up_ne z]
          refine ke a o (ne_new e hph) ?_
          rw [up_ne z]; exact e1
      · rcases Nat.lt_or_ge s' u with l | l
        · exact lo1 s' l rr hrr
        · obtain rfl : s' = u := by omega
          exact al rr hrr
  · rintro σ hh ⟨kvs, x3, x4, rfl, t, hq1, ex, lo, nn⟩
    simp [b3_law_rows]
    have : ((m : Int) + 1 - 0).toNat = m + 1 := by omega
    rw [this] at lo
    exact kQ ph kvs hh hph t ex lo nn
end
/-! ### all kinds that come -/
def subs : Kd → List Kd
  | .node a => .node a :: subs a
  | .sum a b => .sum a b :: (subs a ++ subs b)
  | .pair a b => .pair a b :: (subs a ++ subs b)
  | k => [k]
theorem subs_me (k : Kd) : k ∈ subs k := by cases k <;> simp [subs]
theorem subs_pt : ∀ {k x a : Kd}, x ∈ subs k → a ∈ kparts x → a ∈ subs k
  | .one, x, a, h, m => by simp [subs] at h; subst h; simp [kparts] at m
  | .name, x, a, h, m => by simp [subs] at h; subst h; simp [kparts] at m
  | .none, x, a, h, m => by simp [subs] at h; subst h; simp [kparts] at m
  | .rule _, x, a, h, m => by simp [subs] at h; subst h; simp [kparts] at m
  | .node k, x, a, h, m => by
    simp only [subs, List.mem_cons] at h ⊢
    rcases h with rfl | h
    · simp [kparts] at m; subst m; exact .inr (subs_me _)
    · exact .inr (subs_pt h m)
  | .sum k l, x, a, h, m => by
    simp only [subs, List.mem_cons, List.mem_append] at h ⊢
    rcases h with rfl | h | h
    · simp [kparts] at m
      rcases m with rfl | rfl
      · exact .inr (.inl (subs_me _))
      · exact .inr (.inr (subs_me _))
    · exact .inr (.inl (subs_pt h m))
    · exact .inr (.inr (subs_pt h m))
  | .pair k l, x, a, h, m => by
    simp only [subs, List.mem_cons, List.mem_append] at h ⊢
    rcases h with rfl | h | h
    · simp [kparts] at m
      rcases m with rfl | rfl
      · exact .inr (.inl (subs_me _))
      · exact .inr (.inr (subs_me _))
    · exact .inr (.inl (subs_pt h m))
    · exact .inr (.inr (subs_pt h m))
theorem subs_len : ∀ k : Kd, (subs k).length + 1 ≤ 2 ^ (k.dp + 1)
  | .one => by simp [subs, Kd.dp]
  | .name => by simp [subs, Kd.dp]
  | .none => by simp [subs, Kd.dp]
  | .rule _ => by simp [subs, Kd.dp]
  | .node k => by
    have := subs_len k
    simp only [subs, Kd.dp, List.length_cons]
    rw [Nat.pow_succ]
    omega
  | .sum k l => by
    have h1 := subs_len k
    have h2 := subs_len l
    have p1 : 2 ^ (k.dp + 1) ≤ 2 ^ (max k.dp l.dp + 1) := Nat.pow_le_pow_right (by decide) (by omega)
    have p2 : 2 ^ (l.dp + 1) ≤ 2 ^ (max k.dp l.dp + 1) := Nat.pow_le_pow_right (by decide) (by omega)
    simp only [subs, Kd.dp, List.length_cons, List.length_append]
    rw [Nat.pow_succ]
    omega
  | .pair k l => by
    have h1 := subs_len k
    have h2 := subs_len l
    have p1 : 2 ^ (k.dp + 1) ≤ 2 ^ (max k.dp l.dp + 1) := Nat.pow_le_pow_right (by decide) (by omega)
    have p2 : 2 ^ (l.dp + 1) ≤ 2 ^ (max k.dp l.dp + 1) := Nat.pow_le_pow_right (by decide) (by omega)
    simp only [subs, Kd.dp, List.length_cons, List.length_append]
    rw [Nat.pow_succ]
    omega
theorem subs_len3 {k : Kd} (h : k.dp ≤ 3) : (subs k).length ≤ 15 := by
  have h1 := subs_len k
  have : 2 ^ (k.dp + 1) ≤ 2 ^ (3 + 1) := Nat.pow_le_pow_right (by decide) (by omega)
  have : (2 : Nat) ^ (3 + 1) = 16 := rfl
  omega
section
variable {ts : List Sx} {W : Sx → Nat}
def KI (ts : List Sx) (W : Sx → Nat) (k : Kd) : Prop := W3' ts k ∧ wst W k ≤ 21
theorem KI.part {k a : Kd} (h : KI ts W k) (m : a ∈ kparts k) : KI ts W a := by
  refine ⟨⟨h.1.1.part m, by have := kparts_dp m; have := h.1.2; omega⟩, ?_⟩
  have := (wst_max W k).2.1 (wst W a) (List.mem_map.mpr ⟨a, m, rfl⟩)
  have := h.2
  omega
theorem KI.ofsubs : ∀ {k : Kd}, KI ts W k → ∀ x ∈ subs k, KI ts W x
  | .one, h, x, m => by simp [subs] at m; subst m; exact h
  | .name, h, x, m => by simp [subs] at m; subst m; exact h
  | .none, h, x, m => by simp [subs] at m; subst m; exact h
  | .rule _, h, x, m => by simp [subs] at m; subst m; exact h
  | .node a, h, x, m => by
    simp only [subs, List.mem_cons] at m
    rcases m with rfl | m
    · exact h
    · exact KI.ofsubs (h.part (by simp [kparts])) x m
  | .sum a b, h, x, m => by
    simp only [subs, List.mem_cons, List.mem_append] at m
    rcases m with rfl | m | m
    · exact h
    · exact KI.ofsubs (h.part (by simp [kparts])) x m
    · exact KI.ofsubs (h.part (by simp [kparts])) x m
  | .pair a b, h, x, m => by
    simp only [subs, List.mem_cons, List.mem_append] at m
    rcases m with rfl | m | m
    · exact h
    · exact KI.ofsubs (h.part (by simp [kparts])) x m
    · exact KI.ofsubs (h.part (by simp [kparts])) x m
end
def KLof (ts : List Sx) (rs : Rs) (k : Kd) : List Kd := subs k ++ rs.flatMap (fun x => subs x.2) ++ ts.map Kd.rule
theorem flat15 : ∀ {rs : Rs}, (∀ x ∈ rs, x.2.dp ≤ 3) → (rs.flatMap fun x => subs x.2).length ≤ 15 * rs.length
  | [], _ => by simp
  | x :: rs, h => by
    have := flat15 (rs := rs) fun y hy => h y (List.mem_cons_of_mem _ hy)
    have := subs_len3 (h x List.mem_cons_self)
    rw [List.flatMap_cons, List.length_append, List.length_cons]
    omega
theorem ks_of {ts : List Sx} {rs : Rs} {W : Sx → Nat} {k : Kd} (ri : RI ts rs) (l6 : ts.length ≤ 6) (ce : Cert W rs) (wr : ∀ s, W s ≤ 21) (hk : KI ts W k) : KS ts rs W (KLof ts rs k) := by
  have rsK : ∀ x ∈ rs, KI ts W x.2 := fun x hx => by
    obtain ⟨i, hi⟩ := List.getElem?_of_mem hx
    obtain ⟨h1, h2⟩ := ri.wf i x hi
    exact ⟨⟨bw_drop h2, h1⟩, by have := ce.wd20 x hx; omega⟩
  have all : ∀ x ∈ KLof ts rs k, KI ts W x := fun x hx => by
    simp only [KLof, List.mem_append, List.mem_flatMap, List.mem_map] at hx
    rcases hx with (h | ⟨y, hy, h⟩) | ⟨r, hr, rfl⟩
    · exact hk.ofsubs x h
    · exact (rsK y hy).ofsubs x h
    · exact ⟨⟨hr, by simp [Kd.dp]⟩, wr r⟩
  refine ⟨ri, l6, ce, wr, fun x hx => (all x hx).1, fun x hx => (all x hx).2, fun x hx => Nat.le_trans (wst_max W x).1 (all x hx).2, fun x hx a ha => ?_, fun r k' e => ?_, ?_⟩
  · simp only [KLof, List.mem_append, List.mem_flatMap, List.mem_map] at hx ⊢
    rcases hx with (h | ⟨y, hy, h⟩) | ⟨r, hr, rfl⟩
    · exact .inl (.inl (subs_pt h ha))
    · exact .inl (.inr ⟨y, hy, subs_pt h ha⟩)
    · simp [kparts] at ha
  · have m := lookup_in e
    simp only [KLof, List.mem_append, List.mem_flatMap, List.mem_map]
    exact .inl (.inr ⟨_, m, subs_me _⟩)
  · have h1 := subs_len3 hk.1.2
    have h2 := flat15 (rs := rs) fun x hx => (rsK x hx).1.2
    have h3 := ri.len
    simp only [KLof, List.length_append, List.length_map]
    omega
theorem ks_rk {ts : List Sx} {rs : Rs} {k : Kd} : ∀ r ∈ ts, Kd.rule r ∈ KLof ts rs k := fun r hr => by
  simp only [KLof, List.mem_append, List.mem_map]
  exact .inr ⟨r, hr, rfl⟩
theorem ks_me {ts : List Sx} {rs : Rs} {k : Kd} : k ∈ KLof ts rs k := by
  simp only [KLof, List.mem_append]
  exact .inl (.inl (subs_me _))
theorem widesL_21 : ∀ rs : Rs, ∀ x ∈ widesL rs, x.2 ≤ 21
  | [], x, h => nomatch h
  | y :: rs, x, h => by
    rcases List.mem_append.mp h with h | h
    · exact widesL_21 rs x h
    · rw [List.mem_singleton.mp h]; dsimp only; omega
theorem wF_21 (rs : Rs) (s : Sx) : wF (widesL rs) s ≤ 21 := by
  unfold wF
  cases e : (widesL rs).lookup s with
  | none => simp
  | some v => exact widesL_21 rs _ (lookup_in e)
@[local simp] theorem LINE_eqB14 : LINE = 16777216 := rfl
theorem flat_congr {α β : Type} {f g : α → List β} : ∀ {l : List α}, (∀ x ∈ l, f x = g x) → l.flatMap f = l.flatMap g
  | [], _ => rfl
  | x :: l, h => by
    rw [List.flatMap_cons, List.flatMap_cons, h x List.mem_cons_self, flat_congr fun y hy => h y (List.mem_cons_of_mem _ hy)]
section
variable {ts : List Sx} {rs : Rs}
theorem sh_room (ri : RI ts rs) (l6 : ts.length ≤ 6) : ∀ (n m : Nat) (k : Kd) (s i : Nat), i ≤ ts.length → k.dp ≤ 3 → Bw (· ∈ ts.drop i) (· ∈ ts) k → rm s i k.dp ≤ n → rm s i k.dp ≤ m → sh rs n k s = sh rs m k s := by
  intro n
  induction n with
  | zero => intro m k s i _ _ _ h; simp [rm] at h
  | succ n ih =>
    intro m k s i hi hd hb h1 h2
    cases m with
    | zero => simp [rm] at h2
    | succ m =>
      cases k with
      | one => rfl
      | name => rfl
      | none => rfl
      | rule r =>
        obtain ⟨j, k, ij, jl, e, d3, b⟩ := lookup_at ri hb
        simp only [sh, e]
        simp only [rm, Kd.dp] at h1 h2
        exact ih m k s (j + 1) (by omega) d3 b (by simp only [rm]; omega) (by simp only [rm]; omega)
      | node a =>
        simp only [sh]
        cases s with
        | zero => rfl
        | succ t =>
          simp only [rm, Kd.dp] at h1 h2 hd
          show (sh rs n a t).map Th.n = (sh rs m a t).map Th.n
          congr 1
          exact ih m a t 0 (Nat.zero_le _) (by omega) (bw_all hb) (by simp only [rm]; omega) (by simp only [rm]; omega)
      | sum a b =>
        simp only [sh]
        simp only [rm, Kd.dp] at h1 h2 hd
        rw [ih m a s i hi (by omega) hb.1 (by simp only [rm]; omega) (by simp only [rm]; omega), ih m b s i hi (by omega) hb.2 (by simp only [rm]; omega) (by simp only [rm]; omega)]
      | pair a b =>
        simp only [sh]
        simp only [rm, Kd.dp] at h1 h2 hd
        refine flat_congr fun p hp => ?_
        have hp := List.mem_range.mp hp
        rw [ih m a p i hi (by omega) hb.1 (by simp only [rm]; omega) (by simp only [rm]; omega), ih m b (s - p) i hi (by omega) hb.2 (by simp only [rm]; omega) (by simp only [rm]; omega)]
/-- how deep -/
theorem sh_tdp (ri : RI ts rs) (l6 : ts.length ≤ 6) : ∀ (n : Nat) (k : Kd) (s i : Nat) (t : Th), i ≤ ts.length → k.dp ≤ 3 → Bw (· ∈ ts.drop i) (· ∈ ts) k → t ∈ sh rs n k s → tdp t ≤ 18 * s + 3 * (6 - i) + k.dp := by
  intro n
  induction n with
  | zero => intro k s i t _ _ _ h; cases h
  | succ n ih =>
    intro k s i t hi hd hb h
    cases k with
    | one =>
      simp only [sh] at h
      split at h
      · rw [List.mem_singleton.mp h]; exact Nat.zero_le _
      · cases h
    | name =>
      simp only [sh] at h
      split at h
      · rw [List.mem_singleton.mp h]; exact Nat.zero_le _
      · cases h
    | none => cases h
    | rule r =>
      obtain ⟨j, k, ij, jl, e, d3, b⟩ := lookup_at ri hb
      simp only [sh, e] at h
      have := ih k s (j + 1) t (by omega) d3 b h
      simp only [Kd.dp]
      omega
    | node a =>
      cases s with
      | zero => cases h
      | succ s =>
        simp only [sh] at h
        obtain ⟨u, hu, rfl⟩ := List.mem_map.mp h
        simp only [Kd.dp] at hd
        have := ih a s 0 u (Nat.zero_le _) (by omega) (bw_all hb) hu
        simp only [Kd.dp, tdp]
        omega
    | sum a b =>
      simp only [sh] at h
      simp only [Kd.dp] at hd
      rcases List.mem_append.mp h with h | h
      · obtain ⟨u, hu, rfl⟩ := List.mem_map.mp h
        have := ih a s i u hi (by omega) hb.1 hu
        simp only [Kd.dp, tdp]
        omega
      · obtain ⟨u, hu, rfl⟩ := List.mem_map.mp h
        have := ih b s i u hi (by omega) hb.2 hu
        simp only [Kd.dp, tdp]
        omega
    | pair a b =>
      simp only [sh] at h
      simp only [Kd.dp] at hd
      obtain ⟨p, hp, h⟩ := List.mem_flatMap.mp h
      have lp := List.mem_range.mp hp
      obtain ⟨x, hx, y, hy, rfl⟩ := prd_mem h
      have h1 := ih a p i x hi (by omega) hb.1 hx
      have h2 := ih b (s - p) i y hi (by omega) hb.2 hy
      simp only [Kd.dp, tdp, shf, ren_tdp]
      have : 18 * p ≤ 18 * s := Nat.mul_le_mul_left _ (by omega)
      have : 18 * (s - p) ≤ 18 * s := Nat.mul_le_mul_left _ (by omega)
      omega
end
def SH (rs : Rs) (k : Kd) (s : Nat) : List Th := sh rs (40 * s + 80) k s
section
variable {ts : List Sx} {rs : Rs}
theorem SH_eq (ri : RI ts rs) (l6 : ts.length ≤ 6) {k : Kd} (w : W3' ts k) {n s : Nat} (h : 40 * s + 28 ≤ n) : sh rs n k s = SH rs k s :=
  sh_room ri l6 n (40 * s + 80) k s 0 (Nat.zero_le _) w.2 (bw_all w.1) (by have := w.2; simp only [rm]; omega) (by have := w.2; simp only [rm]; omega)
theorem SH_rule (ri : RI ts rs) (l6 : ts.length ≤ 6) {r : Sx} {k : Kd} {s : Nat} (e : rs.lookup r = some k) (w : W3' ts k) : SH rs (.rule r) s = SH rs k s := by
  unfold SH
  rw [show 40 * s + 80 = (40 * s + 79) + 1 from rfl]
  simp only [sh, e]
  exact SH_eq ri l6 w (by omega)
theorem SH_sum (ri : RI ts rs) (l6 : ts.length ≤ 6) {a b : Kd} {s : Nat} (wa : W3' ts a) (wb : W3' ts b) : SH rs (.sum a b) s = (SH rs a s).map .l ++ (SH rs b s).map .r := by
  show sh rs (40 * s + 79 + 1) (.sum a b) s = _
  simp only [sh]
  rw [SH_eq ri l6 wa (by omega), SH_eq ri l6 wb (by omega)]
theorem SH_pair (ri : RI ts rs) (l6 : ts.length ≤ 6) {a b : Kd} {s : Nat} (wa : W3' ts a) (wb : W3' ts b) : SH rs (.pair a b) s = (List.range (s + 1)).flatMap fun p => prd (SH rs a p) (SH rs b (s - p)) := by
  show sh rs (40 * s + 79 + 1) (.pair a b) s = _
  simp only [sh]
  refine flat_congr fun p hp => ?_
  have hp := List.mem_range.mp hp
  rw [SH_eq ri l6 wa (by omega), SH_eq ri l6 wb (by omega)]
theorem SH_node (ri : RI ts rs) (l6 : ts.length ≤ 6) {a : Kd} {s : Nat} (wa : W3' ts a) : SH rs (.node a) (s + 1) = (SH rs a s).map .n := by
  show sh rs (40 * (s + 1) + 79 + 1) (.node a) (s + 1) = _
  simp only [sh]
  rw [SH_eq ri l6 wa (by omega)]
theorem SH_node0 {a : Kd} : SH rs (.node a) 0 = [] := rfl
theorem SH_one {s : Nat} : SH rs .one s = if s = 0 then [.one] else [] := rfl
theorem SH_name {s : Nat} : SH rs .name s = if s = 1 then [.a 0] else [] := rfl
theorem SH_none {s : Nat} : SH rs .none s = [] := rfl
theorem SH_len {k : Kd} {s : Nat} : (SH rs k s).length = tot (CT rs k s) s := by
  unfold SH CT
  rw [← sh_cn]
  exact len_tot fun t ht => by
    have := nms_tsz t
    rw [sh_sz _ k s t ht] at this
    exact this
theorem SH_nil {k : Kd} {s : Nat} : SH rs k s = [] ↔ CT rs k s = c0 := by
  constructor
  · intro h
    unfold SH at h
    unfold CT
    rw [← sh_cn, h]
    rfl
  · intro h
    have := SH_len (rs := rs) (k := k) (s := s)
    rw [h] at this
    have z : tot c0 s = 0 := zsum fun x _ => rfl
    rw [z] at this
    exact List.eq_nil_of_length_eq_zero this
end
theorem CD.nil_iff {kvs : List (D × D)} {s : Nat} {f : Cn} (c : CD kvs s f) : kvs = [] ↔ f = c0 := by
  constructor
  · rintro rfl
    funext j
    exact Classical.byContradiction fun z => nomatch c.all j z
  · rintro rfl
    cases kvs with
    | nil => rfl
    | cons kv r =>
      obtain ⟨j, _, e⟩ := c.en kv List.mem_cons_self
      exact absurd rfl (c.pos j (by rw [e]; simp))
theorem ren_congr {f g : Int → Int} : ∀ {t : Th}, (∀ i ∈ tnm t, f i = g i) → ren f t = ren g t
  | .one, _ => rfl
  | .a i, h => by
    show Th.a (f i) = Th.a (g i)
    rw [h i (by simp [tnm])]
  | .n t, h => by simp only [ren]; rw [ren_congr (t := t) h]
  | .l t, h => by simp only [ren]; rw [ren_congr (t := t) h]
  | .r t, h => by simp only [ren]; rw [ren_congr (t := t) h]
  | .p t u, h => by
    simp only [ren]
    rw [ren_congr (t := t) fun i hi => h i (by simp [tnm, hi]), ren_congr (t := u) fun i hi => h i (by simp [tnm, hi])]
theorem nput_lookup {ns : Nms} {a b i : Int} : (nput ns a b).lookup i = if a = i then some b else ns.lookup i := by
  have h : ((nput ns a b).lookup i).map D.int = (if a = i then some b else ns.lookup i).map D.int := by
    rw [← kvGet_N, ← kvPut_N, kvGet_put]
    by_cases z : a = i
    · subst z; simp
    · have : ¬ D.int a = D.int i := fun w => z (by injection w)
      rw [if_neg this, if_neg z, kvGet_N]
  generalize (nput ns a b).lookup i = x at h
  generalize (if a = i then some b else ns.lookup i) = y at h
  cases x <;> cases y <;> simp at h ⊢
  exact h
theorem nput_len {ns : Nms} {a b : Int} : (nput ns a b).length ≤ ns.length + 1 := by
  unfold nput
  split <;> simp
def ShI (t : Th) (m p r : Nat) (h0 : AH) (i : Nat) : St → AH → Prop := fun σ h => ∃ (ns : Nms) (x : Option D), σ = [some (encT t), some (.int (m : Int)), some (.ref p), x] ∧ h p = some (.dct 0 (encN ns)) ∧ h r = some (.lst ((tnm t).map .int)) ∧ Ext h0 h ∧ ns.length ≤ i ∧ (∀ x j, ns.lookup x = some j → j = x + (m : Int)) ∧ ∀ x ∈ (tnm t).take i, (ns.lookup x).isSome = true
theorem shifted_ok {n m : Nat} {t : Th} {h : AH} {Q : VQ} {X : XP} (hl : tdp t < 1000) (hv : tlv t ≤ 100000) (k : ∀ h', Ext h h' → Q (encT (shf m t)) h') : run P (n + tdp t + 2) s_shifted [encT t, .int (m : Nat)] h Q X := by
  refine run_of (fd := fd_shifted) rfl rfl ?_
  simp [fd_shifted, start, b0_shifted]
  by_cases m0 : m = 0
  · subst m0
    simp [b1_shifted]
    have := k h .refl
    rw [shf0] at this
    exact this
  · have : ¬ (m : Int) = 0 := by omega
    rw [decide_eq_false (by simpa using m0)]
    simp [b2_shifted]
    intro p hp
    refine names_in_ok (n := n + tdp t) hl hv fun r h1 hr x1 e1 => ?_
    have pr : p ≠ r := ne_new up_same hr
    have hr0 : h r = none := fresh_back (Ext.new hp) hr
    rw [walk_lst e1]
    refine ⟨ShI t m p r h, ⟨[], none, rfl, x1 _ _ up_same, e1, (Ext.new hp).trans x1, Nat.le_refl 0, (fun x j z => by cases z), by simp⟩, ?_, ?_, ?_⟩
    · rintro i σ h' ⟨ns, x, rfl, ep, er, ex, ln, al, cv⟩
      exact er
    · rintro i x σ h' hx ⟨ns, x4, rfl, ep, er, ex, ln, al, cv⟩
      obtain ⟨v, hv, rfl⟩ := map_at hx
      simp [b3_shifted]
      rw [set_dct ep, kvPut_N]
      have li : i < (tnm t).length := (List.getElem?_eq_some_iff.mp hv).1
      have l2 := tnm_len t
      refine ⟨rfl, by simp [encN]; omega, nput ns v (v + m), _, rfl, up_same, by rw [up_ne pr.symm]; exact er, ex.mut hp .put, by have := nput_len (ns := ns) (a := v) (b := v + m); omega, fun x j hj => ?_, fun x hx => ?_⟩
      · rw [nput_lookup] at hj
        split at hj
        · rename_i z; subst z; exact (Option.some.inj hj).symm
        · exact al x j hj
      · rw [nput_lookup]
        split
        · rfl
        · rename_i z
          rw [List.take_add_one, hv] at hx
          rcases List.mem_append.mp hx with hx | hx
          · exact cv x hx
          · simp at hx; exact absurd hx.symm z
    · rintro σ h' ⟨ns, x, rfl, ep, er, ex, ln, al, cv⟩
      rw [List.length_map, List.take_length] at cv
      simp [b4_shifted]
      refine renamed_ok t n p ns h' _ _ ep fun h2 x2 => ?_
      have e : ren (nmF ns) t = shf m t := ren_congr fun i hi => by
        obtain ⟨j, hj⟩ := Option.isSome_iff_exists.mp (cv i hi)
        unfold nmF
        rw [hj]
        exact al i j hj
      rw [e]
      exact k h2 (ex.trans x2)
theorem comp_map {α : Type} {g f : α → D} {ok : AH → Prop} {body : D → AH → (D → AH → Prop) → (AH → Prop) → Prop} {done : List D → AH → Prop} {h0 : AH} {xs : List α} (hz : xs.length ≤ LINE) (hok : ∀ h, Ext h0 h → ok h)
    (hb : ∀ a ∈ xs, ∀ h yes no, Ext h0 h → (∀ h', Ext h h' → yes (f a) h') → body (g a) h yes no) (hd : ∀ h', Ext h0 h' → done (xs.map f) h') : compW (xs.map g) ok body done h0 := by
  refine ⟨fun i acc h => acc = (xs.take i).map f ∧ Ext h0 h, ⟨by simp, .refl⟩, ?_, by rw [List.length_map]; exact hz, ?_, ?_⟩
  · rintro i acc h ⟨rfl, ex⟩
    exact ⟨hok h ex, by simp; omega⟩
  · rintro i x acc h e ⟨rfl, ex⟩
    obtain ⟨a, ha, rfl⟩ := map_at e
    refine hb a (List.mem_of_getElem? ha) h _ _ ex fun h' x' => ⟨?_, ex.trans x'⟩
    rw [List.take_add_one, ha]
    simp
  · rintro acc h ⟨rfl, ex⟩
    rw [List.length_map, List.take_length]
    exact hd h ex
def PaI (xs ys : List Th) (p q r : Nat) (h0 : AH) (i : Nat) : St → AH → Prop := fun σ h => ∃ (x3 x4 x5 : Option D), σ = [some (.ref p), some (.ref q), some (.ref r), x3, x4, x5] ∧ h r = some (.lst ((prd (xs.take i) ys).map encT)) ∧ Ext h0 h
theorem prd_take {xs ys : List Th} {x : Th} {i : Nat} (h : xs[i]? = some x) : prd (xs.take (i + 1)) ys = prd (xs.take i) ys ++ ys.map fun y => .p x (shf (nms x) y) := by
  rw [List.take_add_one, h]
  simp [prd]
theorem prd_len {xs ys : List Th} : (prd xs ys).length = xs.length * ys.length := by
  induction xs with
  | nil => simp [prd]
  | cons x xs ih =>
    have : prd (x :: xs) ys = ys.map (fun y => .p x (shf (nms x) y)) ++ prd xs ys := by simp [prd]
    rw [this, List.length_append, ih, List.length_map, List.length_cons, Nat.succ_mul, Nat.add_comm]
theorem paired_ok {n d p q : Nat} {xs ys : List Th} {h : AH} {Q : VQ} {X : XP} (hp : h p = some (.lst (xs.map encT))) (hq : h q = some (.lst (ys.map encT))) (lx : xs.length ≤ 1000) (ly : ys.length ≤ 1000) (hx : ∀ x ∈ xs, tdp x < 1000 ∧ tlv x ≤ 100000) (hy : ∀ y ∈ ys, tdp y ≤ d ∧ tlv y ≤ 100000) (hd : d < 1000)
    (k : ∀ r h', h r = none → Ext h h' → h' r = some (.lst ((prd xs ys).map encT)) → Q (.ref r) h') : run P (n + d + 3) s_paired [.ref p, .ref q] h Q X := by
  refine run_of (fd := fd_paired) rfl rfl ?_
  simp [fd_paired, start, b0_paired]
  intro r hr
  have x0 : Ext h (up h r (.lst [])) := Ext.new hr
  rw [walk_lst (x0 _ _ hp)]
  have pr : p ≠ r := ne_new hp hr
  have qr : q ≠ r := ne_new hq hr
  refine ⟨PaI xs ys p q r h, ⟨none, none, none, rfl, by rw [up_same]; rfl, x0⟩, ?_, ?_, ?_⟩
  · rintro i σ h' ⟨x3, x4, x5, rfl, er, ex⟩
    exact ex _ _ hp
  · rintro i x σ h' e ⟨x3, x4, x5, rfl, er, ex⟩
    obtain ⟨t, ht, rfl⟩ := map_at e
    have mt := List.mem_of_getElem? ht
    simp [b1_paired]
    refine names_in_ok (n := n + d + 1) (hx t mt).1 (hx t mt).2 fun r1 h1 hr1 x1 e1 => ?_
    rw [len_lst e1]
    simp
    refine ⟨recv_ok (by simp) (by simp) (x1 _ _ er), ?_⟩
    have hq1 := x1 _ _ (ex _ _ hq)
    rw [walk_lst hq1]
    refine comp_map (f := fun y => encT (.p t (shf (nms t) y))) (by simp; omega) (fun h2 x2 => x2 _ _ hq1) (fun y my h2 yes no x2 ky => ?_) fun h2 x2 => ?_
    · obtain ⟨m, em⟩ : ∃ m, n + d + 2 = m + tdp y + 2 := ⟨n + (d - tdp y), by have := (hy y my).1; omega⟩
      rw [em]
      refine shifted_ok (by have := (hy y my).1; omega) (hy y my).2 fun h3 x3 => ?_
      exact ky h3 x3
    · intro r2 hr2
      have er2 : h2 r = some (.lst ((prd (xs.take i) ys).map encT)) := x2 _ _ (x1 _ _ er)
      have rr2 : r ≠ r2 := ne_new er2 hr2
      rw [aLst_eq (by rw [up_ne rr2]; exact er2)]
      rw [aLst_eq up_same]
      have l1 : (prd (xs.take i) ys).length ≤ 1000000 := by
        rw [prd_len]
        have : (xs.take i).length ≤ 1000 := by simp; omega
        exact Nat.mul_le_mul this ly
      refine ⟨by simp; omega, _, _, _, rfl, ?_, ?_⟩
      · rw [up_same, prd_take ht]
        simp
      · exact ((((ex.trans x1).trans x2).trans (Ext.new hr2))).mut hr .put
  · rintro σ h' ⟨x3, x4, x5, rfl, er, ex⟩
    rw [List.length_map, List.take_length] at er
    simp [b2_paired]
    exact k r h' hr ex er
theorem top_of_ok {n q m : Nat} {rs : Rs} {k k0 : Kd} {h : AH} {Q : VQ} {X : XP} (hq : RD q rs h) (e : tp rs m k = some k0) (hQ : Q (encK k0) h) : run P (n + 1) s_top_of [.ref q, encK k] h Q X :=
  run_of (fd := fd_top_of) rfl rfl (top_body hq e hQ)
theorem tp_ind {rs : Rs} {M : Kd → Prop} (step : ∀ r k, rs.lookup r = some k → M (.rule r) → M k) : ∀ (m : Nat) (k k0 : Kd), tp rs m k = some k0 → M k → M k0
  | 0, k, k0, e, c => by
    unfold tp at e
    split at e
    · cases e
    · cases e; exact c
  | m + 1, k, k0, e, c => by
    cases k with
    | rule s =>
      simp only [tp] at e
      cases z : rs.lookup s with
      | none => rw [z] at e; cases e
      | some k2 => rw [z] at e; exact tp_ind step m k2 k0 e (step s k2 z c)
    | _ => rw [tp_not rfl] at e; cases e; exact c
section
variable {ts : List Sx} {rs : Rs} {W : Sx → Nat} {KL : List Kd} {ps q ph : Nat}
theorem KS.leaves (K : KS ts rs W KL) {t : Th} {k : Kd} (h : Is rs t k) : k ∈ KL → tlv t ≤ wd W k + 21 * tnd t := by
  induction h with
  | one => intro _; show 1 ≤ 1; omega
  | a _ _ => intro _; show 1 ≤ 1; omega
  | @n t k h ih =>
    intro m
    have mk := K.pt _ m k (by simp [kparts])
    have := ih mk
    have h2 := K.w2 k mk
    simp only [tlv, tnd, wd]
    omega
  | @l t x y h ih =>
    intro m
    have := ih (K.pt _ m x (by simp [kparts]))
    simp only [tlv, tnd, wd]
    omega
  | @r t x y h ih =>
    intro m
    have := ih (K.pt _ m y (by simp [kparts]))
    simp only [tlv, tnd, wd]
    omega
  | @p t u x y h g ih1 ih2 =>
    intro m
    have := ih1 (K.pt _ m x (by simp [kparts]))
    have := ih2 (K.pt _ m y (by simp [kparts]))
    simp only [tlv, tnd, wd]
    omega
  | @rule t s k e h ih =>
    intro m
    have := ih (K.ru s k e)
    have h2 : wd W k ≤ W s := K.ce.le (s, k) (lookup_in e)
    simp only [wd]
    omega
theorem SH_tlv (K : KS ts rs W KL) {k : Kd} {s : Nat} {t : Th} (mk : k ∈ KL) (hs : s ≤ 40) (h : t ∈ SH rs k s) : tlv t ≤ 1000 := by
  have h1 := K.leaves (sh_is' (by omega) h) mk
  have h2 := tnd_le t
  rw [sh_sz _ k s t h] at h2
  have h3 := K.w2 k mk
  omega
theorem SH_tdp (K : KS ts rs W KL) {k : Kd} {s i : Nat} {t : Th} (hi : i ≤ ts.length) (hd : k.dp ≤ 3) (hb : Bw (· ∈ ts.drop i) (· ∈ ts) k) (h : t ∈ SH rs k s) : tdp t ≤ 18 * s + 3 * (6 - i) + k.dp :=
  sh_tdp K.ri K.l6 _ k s i t hi hd hb h
theorem counts_held {n s u : Nat} {k : Kd} {kvs : List (D × D)} {h : AH} {Q : VQ} {X : XP} (t : TL KL rs ps q ph (u : Nat) kvs h) (hd : Hd kvs k s) (kd : k.dp ≤ 3) (su : s ≤ u) (hu : u ≤ 1000)
    (kQ : ∀ r d, h r = some (.dct 0 d) → CD d s (CT rs k s) → Q (.ref r) h) : run P (n + 2) (metN s_Tally s_counts_at) [.ref ps, encK k, .int (s : Nat)] h Q X := by
  refine run_of (fd := fd_Tally_counts_at) rfl rfl ?_
  simp [fd_Tally_counts_at, start, b0_Tally_counts_at]
  rw [aIns_eq t.me, lk_sizes, aSome_eq]
  simp
  have e0 : rangeL (u : Int) (s : Int) = [] := by
    have : ((s : Int) - (u : Int)).toNat = 0 := by omega
    simp [rangeL, this]
  rw [e0]
  refine ⟨by omega, loop_unroll ?_⟩
  rw [loopU_nil]
  refine ⟨trivial, ?_⟩
  simp [b4_Tally_counts_at]
  rw [aIns_eq t.me]
  refine ⟨rfl, lk_no (by decide) (by decide) (by decide), ?_⟩
  refine run_of (fd := fd_Tally_counted) rfl rfl ?_
  have nk := nk_key (s := s) kd
  have ek : D.tup [encK k, .int (s : Int)] = keyD k s := rfl
  simp [fd_Tally_counted, start, b0_Tally_counted]
  rw [aIns_eq t.me, lk_held, aSome_eq, ek, mem_dcn t.he]
  refine ⟨nk, ?_⟩
  obtain ⟨r, d, e1, e2, e3⟩ := t.ok.get hd
  rw [e1]
  simp [b2_Tally_counted]
  rw [aIns_eq t.me, lk_held, aSome_eq, ek, ix_dcn t.he, e1]
  exact ⟨nk, kQ r d e2 e3⟩
end
section
variable {ts : List Sx} {rs : Rs} {W : Sx → Nat} {KL : List Kd} {ps q ph : Nat}
theorem flat_le {f : Nat → List Th} {n p : Nat} (hp : p < n) : (f p).length ≤ ((List.range n).flatMap f).length := by
  obtain ⟨a, b, e⟩ := List.append_of_mem (List.mem_range.mpr hp)
  rw [e, List.flatMap_append, List.flatMap_cons, List.length_append, List.length_append]
  omega
def LiI (rs : Rs) (ps r s : Nat) (k0 a b : Kd) (h1 : AH) (i : Nat) : St → AH → Prop := fun σ h => ∃ (x4 x5 : Option D), σ = [some (.ref ps), some (encK k0), some (.int (s : Int)), some (.ref r), x4, x5] ∧ h r = some (.lst (((List.range i).flatMap fun p => prd (SH rs a p) (SH rs b (s - p))).map encT)) ∧ Ext h1 h
theorem listed_step (K : KS ts rs W KL) {n μ s i u : Nat} {k : Kd} {S : AH → Prop} {h : AH} {Q : VQ} {X : XP} (mk : k ∈ KL) (hs : s ≤ 40) (hi : i ≤ ts.length) (hb : Bw (· ∈ ts.drop i) (· ∈ ts) k) (hμ : 18 * s + 3 * (6 - i) + k.dp ≤ μ) (hμ2 : μ ≤ 900) (l150 : (SH rs k s).length ≤ 150) (su : s ≤ u) (hu : u ≤ 1000)
    (ih : ∀ (a : Kd) (s' j : Nat) (kvs' : List (D × D)) (h' : AH) (Q' : VQ), a ∈ KL → s' ≤ s → j ≤ ts.length → Bw (· ∈ ts.drop j) (· ∈ ts) a → 18 * s' + 3 * (6 - j) + a.dp < μ → (SH rs a s').length ≤ 150 → TL KL rs ps q ph (u : Nat) kvs' h' → Hd kvs' a s' →
      (∀ r h'', h' r = none → Ext h' h'' → h'' r = some (.lst ((SH rs a s').map encT)) → Q' (.ref r) h'') → run P (n + μ + 6) s_listed [.ref ps, encK a, .int (s' : Nat)] h' Q' X)
    (hc : ∀ Q1 : VQ, (∀ kvs1 h1 r d, TL KL rs ps q ph (u : Nat) kvs1 h1 → Hd kvs1 k s → S h1 → h1 r = some (.dct 0 d) → CD d s (CT rs k s) → Q1 (.ref r) h1) → run P (n + μ + 6) (metN s_Tally s_counts_at) [.ref ps, encK k, .int (s : Nat)] h Q1 X)
    (ins : ∃ sz, h ps = some (.ins s_Tally [(s_rules, .ref q), (s_held, .ref ph), (s_sizes, .int sz)]))
    (kQ : ∀ h1 r h2, S h1 → Ext h1 h2 → h1 r = none → h2 r = some (.lst ((SH rs k s).map encT)) → Q (.ref r) h2) : run P (n + μ + 7) s_listed [.ref ps, encK k, .int (s : Nat)] h Q X := by
  refine run_of (fd := fd_listed) rfl rfl ?_
  simp [fd_listed, start, b0_listed]
  obtain ⟨sz, hme⟩ := ins
  rw [aIns_eq hme]
  refine ⟨rfl, lk_no (by decide) (by decide) (by decide), hc _ fun kvs1 h1 r d t hd hS er cd => ?_⟩
  rw [len_dct er]
  have kq := fun r h2 => kQ h1 r h2 hS
  by_cases z : SH rs k s = []
  · have dz : d = [] := cd.nil_iff.mpr (SH_nil.mp z)
    subst dz
    simp [b1_listed]
    intro r2 hr2
    refine kq r2 _ (Ext.new hr2) hr2 ?_
    rw [up_same, z]
    rfl
  · have dz : ¬ d = [] := fun w => z (SH_nil.mpr (cd.nil_iff.mp w))
    have lp := List.length_pos_iff.mpr dz
    rw [decide_eq_false (by simpa using dz)]
    simp [b2_listed]
    rw [aIns_eq t.me, lk_rules, aSome_eq]
    have tr := tr_ri K.ri K.l6
    obtain ⟨t1, t2, t3, t4⟩ := tk0_ok tr (show W3 ts k from K.w3 k mk)
    generalize tk0 rs k = k0 at t1 t2 t3 t4
    obtain ⟨mk0, hd0, e0, j, jl, bj, hj⟩ := tp_ind (rs := rs) (M := fun x => x ∈ KL ∧ Hd kvs1 x s ∧ SH rs x s = SH rs k s ∧ ∃ i, i ≤ ts.length ∧ Bw (· ∈ ts.drop i) (· ∈ ts) x ∧ 18 * s + 3 * (6 - i) + x.dp ≤ μ) (fun r x e m => by
      obtain ⟨m1, m2, m3, i', m4, m5, m6⟩ := m
      have mx := K.ru r x e
      obtain ⟨j, x', ij, jl, e2, d3, b2⟩ := lookup_at K.ri m5
      rw [e] at e2
      cases e2
      have l6 := K.l6
      exact ⟨mx, t.hc _ _ m2 x e, by rw [← m3]; exact (SH_rule K.ri K.l6 e (K.w3 x mx)).symm, j + 1, by omega, b2, by simp only [Kd.dp] at m6; omega⟩) 12 k k0 t1 ⟨mk, hd, rfl, i, hi, hb, hμ⟩
    have kids := t.hc _ _ hd0
    refine top_of_ok (n := n + μ + 5) t.ru t1 ?_
    rw [← e0] at z l150 kq
    have d0 := (K.w3 k0 mk0).2
    cases k0 with
    | rule r => cases t2
    | one =>
      simp [ix0, kword, b3_listed]
      intro r2 hr2
      refine kq r2 _ (Ext.new hr2) hr2 ?_
      rw [SH_one] at z ⊢
      split at z
      · rename_i w
        rw [up_same, if_pos w]
        rfl
      · exact absurd rfl z
    | none => exact absurd rfl z
    | name =>
      simp [ix0, kword, b4_listed, b5_listed]
      intro r2 hr2
      refine kq r2 _ (Ext.new hr2) hr2 ?_
      rw [SH_name] at z ⊢
      split at z
      · rename_i w
        rw [up_same, if_pos w]
        rfl
      · exact absurd rfl z
    | node a =>
      cases s with
      | zero => exact absurd rfl z
      | succ v =>
        have ma := K.pt _ mk0 a (by simp [kparts])
        have wa := K.w3 a ma
        rw [SH_node K.ri K.l6 wa] at z l150 kq
        simp [ix0, kword, b4_listed, b6_listed, b7_listed, encK, atI]
        have ev : ((v : Int) + 1 - 1) = ((v : Nat) : Int) := by omega
        try simp only [ev]
        simp only [Kd.dp] at hj
        refine ih a v 0 kvs1 h1 _ ma (by omega) (Nat.zero_le _) (bw_all wa.1) (by omega) (by simpa using l150) t (kids v rfl) fun r2 h2 hr2 x2 e2 => ?_
        rw [walk_lst e2]
        refine comp_map (f := fun y => encT (.n y)) (by simp at l150 ⊢; omega) (fun h3 x3 => x3 _ _ e2) (fun y my h3 yes no x3 ky => ?_) fun h3 x3 => ?_
        · exact ky h3 .refl
        · intro r3 hr3
          refine kq r3 _ ((x2.trans x3).trans (Ext.new hr3)) (fresh_back (x2.trans x3) hr3) ?_
          rw [up_same]
          simp
    | sum a b =>
      have ma := K.pt _ mk0 a (by simp [kparts])
      have mb := K.pt _ mk0 b (by simp [kparts])
      have wa := K.w3 a ma
      have wb := K.w3 b mb
      rw [SH_sum K.ri K.l6 wa wb] at z l150 kq
      simp [ix0, kword, b4_listed, b6_listed, b8_listed, b9_listed, encK, atI]
      simp only [Kd.dp] at hj
      simp only [List.length_append, List.length_map] at l150
      refine ih a s j kvs1 h1 _ ma (Nat.le_refl _) jl bj.1 (by omega) (by omega) t kids.1 fun r2 h2 hr2 x2 e2 => ?_
      rw [walk_lst e2]
      refine comp_map (f := fun y => encT (.l y)) (by simp; omega) (fun h3 x3 => x3 _ _ e2) (fun y my h3 yes no x3 ky => ky h3 .refl) fun h3 x3 => ?_
      intro r3 hr3
      have x4 : Ext h1 (up h3 r3 (.lst ((SH rs a s).map fun y => encT (.l y)))) := (x2.trans x3).trans (Ext.new hr3)
      refine ih b s j kvs1 _ _ mb (Nat.le_refl _) jl bj.2 (by omega) (by omega) (t.ext x4) kids.2 fun r5 h5 hr5 x5 e5 => ?_
      rw [walk_lst e5]
      refine comp_map (f := fun y => encT (.r y)) (by simp; omega) (fun h6 x6 => x6 _ _ e5) (fun y my h6 yes no x6 ky => ky h6 .refl) fun h6 x6 => ?_
      intro r7 hr7
      have x7 : Ext h1 h6 := (x4.trans x5).trans x6
      have e3 : h6 r3 = some (.lst ((SH rs a s).map fun y => encT (.l y))) := x6 _ _ (x5 _ _ up_same)
      have n37 : r3 ≠ r7 := ne_new e3 hr7
      refine ⟨(SH rs a s).map fun y => encT (.l y), ⟨by rw [up_ne n37]; exact e3, (SH rs b s).map fun y => encT (.r y), up_same, by simp; omega, fun r8 hr8 => ?_⟩⟩
      have x8 := (x7.trans (Ext.new hr7)).trans (Ext.new (o := .lst ((SH rs a s).map (fun y => encT (.l y)) ++ (SH rs b s).map fun y => encT (.r y))) hr8)
      refine kq r8 _ x8 (fresh_back (x7.trans (Ext.new hr7)) hr8) ?_
      rw [up_same]
      simp
      rfl
    | pair a b =>
      have ma := K.pt _ mk0 a (by simp [kparts])
      have mb := K.pt _ mk0 b (by simp [kparts])
      have wa := K.w3 a ma
      have wb := K.w3 b mb
      rw [SH_pair K.ri K.l6 wa wb] at z l150 kq
      simp [ix0, kword, b4_listed, b6_listed, b8_listed, b10_listed]
      simp only [Kd.dp] at hj d0
      intro r2 hr2
      refine ⟨by omega, by omega, loop_rng (fun i => LiI rs ps r2 s (.pair a b) a b h1 i) ⟨none, none, rfl, by rw [up_same]; rfl, Ext.new hr2⟩ (fun _ _ _ _ => trivial) ?_ ?_⟩
      · rintro p σ h' hp ⟨x4, x5, rfl, er2, ex⟩
        have ps1 : p ≤ s := by omega
        have t' := t.ext ex
        simp [b11_listed, encK, atI]
        rw [aIns_eq t'.me]
        refine ⟨rfl, lk_no (by decide) (by decide) (by decide), ?_⟩
        refine counts_held (n := n + μ + 4) t' (kids p ps1).1 wa.2 (by omega) hu fun r3 d3 er3 cd3 => ?_
        rw [len_dct er3]
        have skip : prd (SH rs a p) (SH rs b (s - p)) = [] → LiI rs ps r2 s (.pair a b) a b h1 (p + 1) [some (.ref ps), some (encK (.pair a b)), some (.int (s : Int)), some (.ref r2), some (.int p), x5] h' := fun w => by
          refine ⟨_, _, rfl, ?_, ex⟩
          rw [List.range_succ, List.flatMap_append]
          simp [w]
          exact er2
        by_cases za : SH rs a p = []
        · have dz3 : d3 = [] := cd3.nil_iff.mpr (SH_nil.mp za)
          subst dz3
          simp
          exact skip (by rw [za]; rfl)
        · have dz3 : ¬ d3 = [] := fun w => za (SH_nil.mpr (cd3.nil_iff.mp w))
          have lp3 := List.length_pos_iff.mpr dz3
          rw [decide_eq_true (by omega)]
          simp
          rw [aIns_eq t'.me]
          refine ⟨rfl, lk_no (by decide) (by decide) (by decide), ?_⟩
          have esub : (s : Int) - (p : Int) = ((s - p : Nat) : Int) := by omega
          rw [esub]
          have hdb := (kids p ps1).2 fun w => za (SH_nil.mpr w)
          refine counts_held (n := n + μ + 4) t' hdb wb.2 (by omega) hu fun r4 d4 er4 cd4 => ?_
          rw [len_dct er4]
          by_cases zb : SH rs b (s - p) = []
          · have dz4 : d4 = [] := cd4.nil_iff.mpr (SH_nil.mp zb)
            subst dz4
            simp
            refine skip ?_
            rw [zb]
            simp [prd]
          · have dz4 : ¬ d4 = [] := fun w => zb (SH_nil.mpr (cd4.nil_iff.mp w))
            have lp4 := List.length_pos_iff.mpr dz4
            rw [decide_eq_true (by omega)]
            simp [b12_listed, encK, atI]
            refine ⟨recv_ok (by simp) (by simp) er2, ?_⟩
            have lprd := flat_le (f := fun p => prd (SH rs a p) (SH rs b (s - p))) (n := s + 1) (p := p) (by omega)
            rw [prd_len] at lprd
            have pa := List.length_pos_iff.mpr za
            have pb := List.length_pos_iff.mpr zb
            have la : (SH rs a p).length ≤ 150 := Nat.le_trans (Nat.le_mul_of_pos_right _ pb) (Nat.le_trans lprd l150)
            have lb : (SH rs b (s - p)).length ≤ 150 := Nat.le_trans (Nat.le_mul_of_pos_left _ pa) (Nat.le_trans lprd l150)
            refine ih a p j kvs1 h' _ ma ps1 jl bj.1 (by omega) la t' (kids p ps1).1 fun r5 h5 hr5 x5' e5 => ?_
            rw [esub]
            refine ih b (s - p) j kvs1 h5 _ mb (by omega) jl bj.2 (by omega) lb (t'.ext x5') hdb fun r6 h6 hr6 x6 e6 => ?_
            have lv1 : ∀ x ∈ SH rs a p, tdp x < 1000 ∧ tlv x ≤ 100000 := fun x hx => ⟨by have := SH_tdp K jl wa.2 bj.1 hx; omega, by have := SH_tlv K ma (by omega) hx; omega⟩
            have lv2 : ∀ y ∈ SH rs b (s - p), tdp y ≤ μ ∧ tlv y ≤ 100000 := fun y hy => ⟨by have := SH_tdp K jl wb.2 bj.2 hy; omega, by have := SH_tlv K mb (by omega) hy; omega⟩
            rw [show n + μ + 6 = (n + 3) + μ + 3 by omega]
            refine paired_ok (n := n + 3) (d := μ) (x6 _ _ e5) e6 (by omega) (by omega) lv1 lv2 (by omega) fun r7 h7 hr7 x7 e7 => ?_
            have ex7 : Ext h' h7 := (x5'.trans x6).trans x7
            rw [aLst_eq (ex7 _ _ er2), aLst_eq e7]
            have lq := flat_le (f := fun p => prd (SH rs a p) (SH rs b (s - p))) (n := s + 1) (p := p) (by omega)
            have l3 : ((List.range p).flatMap fun p => prd (SH rs a p) (SH rs b (s - p))).length ≤ 150 := by
              have : List.range (s + 1) = List.range p ++ (List.range (s + 1 - p)).map (p + ·) := by
                rw [← List.range_add]
                congr 1
                omega
              rw [this, List.flatMap_append, List.length_append] at l150
              omega
            refine ⟨by simp only [List.length_map]; omega, _, _, rfl, ?_, (ex.trans ex7).mut hr2 .put⟩
            rw [up_same, List.range_succ, List.flatMap_append]
            simp
      · rintro σ h' ⟨x4, x5, rfl, er2, ex⟩
        have e9 : ((s : Int) + 1 - 0).toNat = s + 1 := by omega
        rw [e9] at er2
        simp [b13_listed]
        exact kq r2 h' ex hr2 er2
end
section
variable {ts : List Sx} {rs : Rs} {W : Sx → Nat} {KL : List Kd} {ps q ph : Nat}
theorem TL.ins {sz : Int} {kvs : List (D × D)} {h : AH} (t : TL KL rs ps q ph sz kvs h) : ∃ sz, h ps = some (.ins s_Tally [(s_rules, .ref q), (s_held, .ref ph), (s_sizes, .int sz)]) := ⟨sz, t.me⟩
theorem listed_in (K : KS ts rs W KL) {n u : Nat} {X : XP} (hu : u ≤ 40) : ∀ (μ : Nat) (k : Kd) (s i : Nat) (kvs : List (D × D)) (h : AH) (Q : VQ), μ ≤ 900 → k ∈ KL → s ≤ u → i ≤ ts.length → Bw (· ∈ ts.drop i) (· ∈ ts) k → 18 * s + 3 * (6 - i) + k.dp < μ → (SH rs k s).length ≤ 150 → TL KL rs ps q ph (u : Nat) kvs h → Hd kvs k s →
    (∀ r h', h r = none → Ext h h' → h' r = some (.lst ((SH rs k s).map encT)) → Q (.ref r) h') → run P (n + μ + 6) s_listed [.ref ps, encK k, .int (s : Nat)] h Q X := by
  intro μ
  induction μ with
  | zero => intro k s i kvs h Q _ _ _ _ _ z; omega
  | succ μ ih =>
    intro k s i kvs h Q hμ mk hs hi hb hm l150 t hd kQ
    rw [show n + (μ + 1) + 6 = n + μ + 7 by omega]
    refine listed_step K (S := fun h1 => h1 = h) mk (by omega) hi hb (by omega) (by omega) l150 hs (by omega) (fun a s' j kvs' h' Q' m1 m2 m3 m4 m5 m6 m7 m8 m9 => ih a s' j kvs' h' Q' (by omega) m1 (by omega) m3 m4 m5 m6 m7 m8 m9) (fun Q1 k1 => ?_) t.ins ?_
    · rw [show n + μ + 6 = (n + μ + 4) + 2 by omega]
      exact counts_held t hd (K.w3 k mk).2 hs (by omega) fun r d e c => k1 kvs h r d t hd rfl e c
    · rintro h1 r h2 rfl x n1 e
      exact kQ r h2 n1 x e
theorem listed_ok (K : KS ts rs W KL) (rk : ∀ r ∈ ts, Kd.rule r ∈ KL) {n s : Nat} {k : Kd} {h : AH} {Q : VQ} {X : XP} (mk : k ∈ KL) (hs : s ≤ 9) (l150 : (SH rs k s).length ≤ 150) (t : TL KL rs ps q ph (0 : Nat) [] h)
    (kQ : ∀ h1 r h2, K2 ps ph h h1 → Ext h1 h2 → h1 r = none → h2 r = some (.lst ((SH rs k s).map encT)) → Q (.ref r) h2) : run P (n + 192) s_listed [.ref ps, encK k, .int (s : Nat)] h Q X := by
  have d3 := (K.w3 k mk).2
  refine listed_step K (μ := 185) (u := max 0 s) (S := fun h1 => K2 ps ph h h1) mk (by omega) (Nat.zero_le _) (bw_all (K.w3 k mk).1) (by omega) (by omega) l150 (by omega) (by omega) (fun a s' j kvs' h' Q' m1 m2 m3 m4 m5 m6 m7 m8 m9 => listed_in K (by omega) 185 a s' j kvs' h' Q' (by omega) m1 (by omega) m3 m4 m5 m6 m7 m8 m9) (fun Q1 k1 => ?_) t.ins kQ
  rw [show n + 185 + 6 = (n + 133) + 58 by omega]
  refine counts_at_ok K rk mk (by omega) t (fun s' l => absurd l (by omega)) (by omega) fun kvs' h' r d t' k2 lo er cd hd => ?_
  exact k1 kvs' h' r d t' hd k2 er cd
end
theorem cmp_encT : ∀ a b : Th, cmpb (encT a) (encT b) = true
  | .one, b => by cases b <;> simp [encT, cmpb, cmpbs]
  | .a i, b => by cases b <;> simp [encT, cmpb, cmpbs] <;> split <;> rfl
  | .n a, b => by
    cases b <;> simp [encT, cmpb, cmpbs]
    exact .inr (cmp_encT a _)
  | .l a, b => by
    cases b <;> simp [encT, cmpb, cmpbs]
    exact .inr (cmp_encT a _)
  | .r a, b => by
    cases b <;> simp [encT, cmpb, cmpbs]
    exact .inr (cmp_encT a _)
  | .p a c, b => by
    cases b <;> simp [encT, cmpb, cmpbs]
    split
    · exact .inr (cmp_encT c _)
    · exact cmp_encT a _
theorem encT_inj : ∀ {t u : Th}, encT t = encT u → t = u
  | .one, u, h => by cases u <;> simp [encT] at h ⊢
  | .a _, u, h => by cases u <;> simp [encT] at h ⊢; exact h
  | .n t, u, h => by cases u <;> simp [encT] at h ⊢; exact encT_inj h
  | .l t, u, h => by cases u <;> simp [encT] at h ⊢; exact encT_inj h
  | .r t, u, h => by cases u <;> simp [encT] at h ⊢; exact encT_inj h
  | .p t t', u, h => by cases u <;> simp [encT] at h ⊢; exact ⟨encT_inj h.1, encT_inj h.2⟩
theorem prd_no1 {xs ys : List Th} : Th.one ∉ prd xs ys := fun h => by
  obtain ⟨x, _, y, _, e⟩ := prd_mem h
  cases e
/-- the empty thing is alone -/
theorem sh_one {rs : Rs} : ∀ (n : Nat) (k : Kd) (s : Nat), Th.one ∈ sh rs n k s → sh rs n k s = [.one] := by
  intro n
  induction n with
  | zero => intro k s h; cases h
  | succ n ih =>
    intro k s h
    cases k with
    | one =>
      simp only [sh] at h ⊢
      split at h
      · rename_i z; rw [if_pos z]
      · cases h
    | name =>
      simp only [sh] at h
      split at h
      · simp at h
      · cases h
    | none => cases h
    | rule r =>
      simp only [sh] at h ⊢
      cases e : rs.lookup r with
      | none => rw [e] at h; cases h
      | some k => rw [e] at h; exact ih k s h
    | node a =>
      cases s with
      | zero => cases h
      | succ s =>
        simp only [sh] at h
        obtain ⟨u, hu, e⟩ := List.mem_map.mp h
        cases e
    | sum a b =>
      simp only [sh] at h
      rcases List.mem_append.mp h with h | h
      · obtain ⟨u, hu, e⟩ := List.mem_map.mp h
        cases e
      · obtain ⟨u, hu, e⟩ := List.mem_map.mp h
        cases e
    | pair a b =>
      simp only [sh] at h
      obtain ⟨p, hp, h⟩ := List.mem_flatMap.mp h
      exact absurd h prd_no1
theorem sortT {l : List Th} (h1 : l.length < 2 ∨ Th.one ∉ l) (hd : ∀ t ∈ l, tdp t ≤ 185) : sortOk (l.map encT) := by
  rcases h1 with h1 | h1
  · exact .inl (by simpa using h1)
  · refine .inr (.inr (.inr ⟨pureDs_of fun d hd => ?_, plains_of fun d hd => ?_, ⟨3, .inr (.inl rfl), fun d hd => ?_⟩, fun d hd e he => ?_⟩))
    · obtain ⟨t, ht, rfl⟩ := List.mem_map.mp hd
      exact (encT_PP t).1
    · obtain ⟨t, ht, rfl⟩ := List.mem_map.mp hd
      rename_i hd2
      exact ((encT_PP t).mono (by have := hd2 t ht; omega)).2
    · obtain ⟨t, ht, rfl⟩ := List.mem_map.mp hd
      cases t with
      | one => exact absurd ht h1
      | _ => exact ⟨_, _, rfl, rfl⟩
    · obtain ⟨t, ht, rfl⟩ := List.mem_map.mp hd
      obtain ⟨u, hu, rfl⟩ := List.mem_map.mp he
      exact cmp_encT t u
theorem lt_encT {t u : Th} {h : AH} {q : Bool → Prop} (ht : tdp t ≤ 185) : opCmp .lt (encT t) (encT u) h q = q (ltD (encT t) (encT u)) := by
  have key : ∀ (xs ys : List D), encT t = .tup xs → encT u = .tup ys → opCmp .lt (encT t) (encT u) h q = q (ltD (encT t) (encT u)) := fun xs ys e1 e2 => by
    have c := cmp_encT t u
    have p1 := (encT_PP t).1
    have p2 := (encT_PP u).1
    have p3 := ((encT_PP t).mono (m := 191) (by omega)).2
    rw [e1] at c p1 p3
    rw [e2] at c p2
    rw [e1, e2, cmp_ltT]
    simp only [cmpb, pureD] at c p1 p2
    simp only [plain] at p3
    have : ltD (.tup xs) (.tup ys) = ltDs xs ys := by simp only [ltD]
    rw [this, c, p1, p2]
    simp [p3]
  cases t <;> cases u <;> exact key _ _ rfl rfl
section
variable {ts : List Sx} {rs : Rs} {W : Sx → Nat} {KL : List Kd} {q : Nat}
theorem shapes_ok (K : KS ts rs W KL) (rk : ∀ r ∈ ts, Kd.rule r ∈ KL) {n s : Nat} {k : Kd} {h : AH} {Q : VQ} {X : XP} (hr : RD q rs h) (mk : k ∈ KL) (hs : s ≤ 9) (l150 : (SH rs k s).length ≤ 150)
    (kQ : ∀ zs r h2, Ext h h2 → h r = none → h2 r = some (.lst zs) → zs.Perm ((SH rs k s).map encT) → zs.Pairwise (fun a b => ltD b a = false) → Q (.ref r) h2) : run P (n + 193) s_shapes [.ref q, encK k, .int (s : Nat)] h Q X := by
  refine run_of (fd := fd_shapes) rfl rfl ?_
  simp [fd_shapes, start, b0_shapes]
  refine tally_new (KL := KL) (n := n + 190) hr fun ps ph h1 hps hph t x => ?_
  refine listed_ok K rk (n := n) mk hs l150 t fun h2 r h3 k2 x3 n3 e3 => ?_
  have ex : Ext h h2 := fun a o e => k2 a o (ne_new e hps) (ne_new e hph) (x a o e)
  have d3 := (K.w3 k mk).2
  rw [sortP_lst e3]
  refine ⟨sortT ?_ fun t ht => ?_, fun zs pz oz r4 hr4 => ?_⟩
  · by_cases z : Th.one ∈ SH rs k s
    · left
      have := sh_one _ k s z
      unfold SH
      rw [this]
      simp
    · exact .inr z
  · have := SH_tdp K (Nat.zero_le _) d3 (bw_all (K.w3 k mk).1) ht
    omega
  · exact kQ zs r4 _ ((ex.trans x3).trans (Ext.new hr4)) (fresh_back (ex.trans x3) hr4) up_same pz oz
end
@[local simp] theorem mth_clear {x : D} {h : AH} {Q : VQ} : opMth .clear x [] h Q = aLst x h fun p xs => Q .non (up h p (.lst [])) := by simp [opMth]
theorem rangeL_upN (n : Nat) : rangeL 0 (n : Int) = (upN n).map D.int := by
  unfold rangeL upN
  rw [List.map_map]
  have : ((n : Int) - 0).toNat = n := by omega
  rw [this]
  apply List.map_congr_left
  intro x _
  simp
theorem ints_pure (l : List Int) : pureDs (l.map D.int) = true := pureDs_of fun d hd => by
  obtain ⟨i, _, rfl⟩ := List.mem_map.mp hd
  rfl
theorem ints_plain (l : List Int) : plains 190 (l.map D.int) = true := plains_of fun d hd => by
  obtain ⟨i, _, rfl⟩ := List.mem_map.mp hd
  simp [plain]
section
variable {ts : List Sx} {rs : Rs} {W : Sx → Nat} {KL : List Kd} {q : Nat}
def RiI (q r : Nat) (K s c : D) (zs : List D) (h0 : AH) : St → AH → Prop := fun σ h => ∃ (x5 x6 x7 x8 : Option D), σ = [some (.ref q), some K, some s, some c, some (.ref r), x5, x6, x7, x8] ∧ h r = some (.lst zs) ∧ Ext h0 h
theorem law_right_ok (K : KS ts rs W KL) (rk : ∀ r ∈ ts, Kd.rule r ∈ KL) {n s : Nat} {k : Kd} {h : AH} {Q : VQ} {X : XP} (hr : RD q rs h) (mk : k ∈ KL) (hs : s ≤ 9) (l150 : tot (CT rs k s) s ≤ 150)
    (kQ : ∀ h2, Ext h h2 → Q (.bl true) h2) : run P (n + 194) s__law_right [.ref q, encK k, .int (s : Nat), .int (tot (CT rs k s) s : Nat)] h Q X := by
  rw [← SH_len] at l150 ⊢
  refine run_of (fd := fd_law_right) rfl rfl ?_
  simp [fd_law_right, start, b0_law_right]
  refine shapes_ok K rk (n := n) hr mk hs l150 fun zs r h1 x1 hr1 e1 pz oz => ?_
  have lz : zs.length = (SH rs k s).length := by rw [pz.length_eq, List.length_map]
  have isl : opIsi (.ref r) .list h1 = some true := by simp [opIsi, e1]
  rw [isl]
  simp
  rw [len_lst e1, lz]
  simp [b2_law_right]
  rw [walk_enum e1]
  have d3 := (K.w3 k mk).2
  have nz : zs.Nodup := pz.nodup_iff.mpr (nodup_map_inj (fun a b e => encT_inj e) (sh_nodup _ k s))
  have tr := tr_ri K.ri K.l6
  refine ⟨fun i => RiI q r (encK k) (.int (s : Int)) (.int ((SH rs k s).length : Int)) zs h1, ⟨none, none, none, none, rfl, e1, .refl⟩, ?_, ?_, ?_⟩
  · rintro i σ h' ⟨x5, x6, x7, x8, rfl, er, ex⟩
    exact er
  · rintro i x σ h' hx ⟨x5, x6, x7, x8, rfl, er, ex⟩
    obtain ⟨z, hz, rfl⟩ := enumL_at hx
    obtain ⟨t, ht, rfl⟩ := List.mem_map.mp (pz.mem_iff.mp (List.mem_of_getElem? hz))
    have dt : tdp t ≤ 185 := by
      have := SH_tdp K (Nat.zero_le _) d3 (bw_all (K.w3 k mk).1) ht
      omega
    have vt := SH_tlv K mk (by omega) ht
    have it : Is rs t k := sh_is' (by omega) ht
    have zt := sh_sz _ k s t ht
    have nt := sh_nm _ k s t ht
    simp [b3_law_right]
    refine law_is_ok tr (n := n + 190) (hr.ext (x1.trans ex)) (show W3 ts k from K.w3 k mk) (encT_PP t) (by omega) fun h2 x2 => ?_
    have f1 : isF rs (dsz (encT t) + 1) [(k, encT t)] = true := isF_true tr _ _ (by simp [szS]) fun x hx => by
      rw [List.mem_singleton.mp hx]
      exact ⟨K.w3 k mk, t, rfl, it⟩
    rw [f1]
    simp
    have er2 := x2 _ _ er
    have rest : ∀ B : St → AH → Prop, wSs ⟨run P (n + 193), X⟩ b5_law_right { nx := RiI q r (encK k) (.int (s : Int)) (.int ((SH rs k s).length : Int)) zs h1, ct := RiI q r (encK k) (.int (s : Int)) (.int ((SH rs k s).length : Int)) zs h1, bk := B, rt := Q } [some (.ref q), some (encK k), some (.int (s : Int)), some (.int ((SH rs k s).length : Int)), some (.ref r), some (.int (i : Int)), some (encT t), x7, x8] h2 := fun B => by
      simp [b5_law_right]
      refine walked_ok (n := n + 192) (by omega) (by omega) fun r3 h3 hr3 x3 e3 => ?_
      simp [zt]
      rw [len_lst e3]
      have ln : nms t ≤ 9 := by have := nms_tsz t; omega
      have ln2 : (tnm t).length = nms t := rfl
      rw [List.length_map, ln2]
      refine ⟨by omega, fun r4 hr4 => ⟨_, by rw [up_ne (ne_new e3 hr4)]; exact e3, _, up_same, ints_pure _, ?_, .inl (ints_plain _), ?_⟩⟩
      · rw [rangeL_upN]; exact ints_pure _
      · rw [rangeL_upN, nt]
        simp
        exact ⟨_, _, _, _, rfl, (x3.trans (Ext.new hr4)) _ _ er2, ((ex.trans x2).trans x3).trans (Ext.new hr4)⟩
    by_cases i0 : i = 0
    · subst i0
      simp
      exact rest _
    · have : 0 < i := by omega
      simp [this]
      rw [ix_lst er2]
      have li : i < zs.length := (List.getElem?_eq_some_iff.mp hz).1
      have ea : atI zs ((i : Int) - 1) = zs[i - 1]? := by
        unfold atI
        rw [if_pos (by omega)]
        congr 1
        omega
      have hp : zs[i - 1]? = some (zs[i - 1]'(by omega)) := List.getElem?_eq_getElem (by omega)
      obtain ⟨u, hu, eu⟩ := List.mem_map.mp (pz.mem_iff.mp (List.mem_of_getElem? hp))
      rw [ea, hp]
      dsimp only
      have du : tdp u ≤ 185 := by
        have := SH_tdp K (Nat.zero_le _) d3 (bw_all (K.w3 k mk).1) hu
        omega
      rw [← eu, lt_encT du]
      have lt1 : ltD (encT t) (encT u) = false := by
        have := (List.pairwise_iff_getElem.mp oz) (i - 1) i (by omega) li (by omega)
        rw [← eu] at this
        rw [(List.getElem?_eq_some_iff.mp hz).2] at this
        exact this
      have ne1 : encT u ≠ encT t := fun e => by
        rw [← eu, e] at hp
        have := nodup_inj nz hp hz
        omega
      have lt2 : ltD (encT u) (encT t) = true := by
        cases e : ltD (encT u) (encT t) with
        | true => rfl
        | false => exact absurd (ltD_tot _ _ e lt1) ne1
      rw [lt2]
      exact rest _
  · rintro σ h' ⟨x5, x6, x7, x8, rfl, er, ex⟩
    simp [b7_law_right]
    refine ⟨recv_ok (by simp) (by simp) er, ?_⟩
    rw [aLst_eq er]
    exact kQ _ ((x1.trans ex).mut hr1 .put)
end
def LwI (sc k : D) (KL : List Kd) (rs : Rs) (ts : List Sx) (p q ph m : Nat) (_ : Nat) : St → AH → Prop := fun σ h => ∃ (kvs : List (D × D)) (x6 x7 : Option D), σ = [some sc, some (.ref p), some (.int (m : Nat)), some (.ref q), some k, some (.ref ph), x6, x7] ∧ LH KL rs q ph kvs h ∧ Lo ts kvs (m + 1)
theorem rangeL_at {a b : Int} {i : Nat} {x : D} (h : (rangeL a b).reverse[i]? = some x) : ∃ j : Int, a ≤ j ∧ j < b ∧ x = .int j := by
  have m := List.mem_reverse.mp (List.mem_of_getElem? h)
  unfold rangeL at m
  obtain ⟨k, hk, rfl⟩ := List.mem_map.mp m
  have := List.mem_range.mp hk
  exact ⟨a + k, by omega, by omega, rfl⟩
section
variable {ts : List Sx} {rs : Rs} {W : Sx → Nat} {KL : List Kd} {p q ph m : Nat}
theorem one_ok (K : KS ts rs W KL) (rk : ∀ r ∈ ts, Kd.rule r ∈ KL) {s : Nat} {k : Kd} {sc : D} {kvs : List (D × D)} {x7 : Option D} {h : AH} {X : XP} {R : Ends} {b : Ss} (mk : k ∈ KL) (hm : m ≤ 9) (hs : s ≤ m) (t : LH KL rs q ph kvs h) (lo : Lo ts kvs (m + 1)) (eb : b = b1_law ∨ b = b4_law)
    (hn : ∀ σ h', LwI sc (encK k) KL rs ts p q ph m 0 σ h' → R.nx σ h') : wSs ⟨run P 230, X⟩ b R [some sc, some (.ref p), some (.int (m : Nat)), some (.ref q), some (encK k), some (.ref ph), some (.int (s : Nat)), x7] h := by
  have tail : ∀ b2, wSs ⟨run P 230, X⟩ (.cons (.asg (.nm 7) (.blt .sum (.cons (.call s__law_row (.cons (.var 3) (.cons (.var 5) (.cons (.var 4) (.cons (.var 6) .nil))))) .nil))) (.cons (.ife (.bop true (.cons (.cmp .le (.var 7) (.int 150)) (.cons (.not (.call s__law_right (.cons (.var 3) (.cons (.var 4) (.cons (.var 6) (.cons (.var 7) .nil)))))) .nil))) b2 .nil) .nil)) R [some sc, some (.ref p), some (.int (m : Nat)), some (.ref q), some (encK k), some (.ref ph), some (.int (s : Nat)), x7] h := fun b2 => by
    simp
    refine row_at K (n := 173) mk (by omega) (fun s' l => lo s' (by omega)) t fun kvs2 h2 r g er hr => ?_
    obtain ⟨ns, en1, en2⟩ := cells_ints (f := CT rs k s) (s := s)
    rw [aLst_eq hr, en1, aSome_eq, en2]
    have nx : ∀ h3, Ext h2 h3 → R.nx [some sc, some (.ref p), some (.int (m : Nat)), some (.ref q), some (encK k), some (.ref ph), some (.int (s : Nat)), some (.int (tot (CT rs k s) s : Nat))] h3 := fun h3 x3 => hn _ _ ⟨kvs2, _, _, rfl, g.tl.ext x3, lo.mo g.mo⟩
    by_cases z : tot (CT rs k s) s ≤ 150
    · have z2 : ((tot (CT rs k s) s : Nat) : Int) ≤ 150 := by omega
      rw [decide_eq_true z2]
      dsimp only
      refine law_right_ok K rk (n := 36) g.tl.ru mk (by omega) z fun h3 x3 => ?_
      simp
      exact nx h3 x3
    · have z2 : ¬ ((tot (CT rs k s) s : Nat) : Int) ≤ 150 := by omega
      rw [decide_eq_false z2]
      exact nx h2 .refl
  rcases eb with rfl | rfl
  · exact tail b2_law
  · exact tail b5_law
end
theorem law_okN : ∀ ns : List Int, ns.length ≤ 63 → run P 231 s_law [.rol (ns.map .int)] (fun _ => none) (fun d _ => d = .bl true) (fun _ _ _ => False) := by
  intro ns hl
  refine run_of (fd := fd_law) rfl rfl ?_
  simp [fd_law, start, b0_law]
  refine deck_ok (n := 229) fun p h0 _ _ d0 => ?_
  intro r0 hr0
  have d0' := d0.put (o := .lst [D.int 5, .int 5, .int 5, .int 9]) hr0
  refine next_ok (n := 229) d0' (by decide) fun v h1 v0 v1 d1 k1 => ?_
  obtain ⟨m0, hm0, e1⟩ : ∃ m0 : Nat, m0 ≤ 9 ∧ atI [D.int 5, .int 5, .int 5, .int 9] v = some (.int (m0 : Int)) := by
    obtain ⟨w, rfl⟩ : ∃ w : Nat, v = (w : Int) := ⟨v.toNat, by omega⟩
    have : w = 0 ∨ w = 1 ∨ w = 2 ∨ w = 3 := by omega
    rcases this with rfl | rfl | rfl | rfl
    · exact ⟨5, by omega, rfl⟩
    · exact ⟨5, by omega, rfl⟩
    · exact ⟨5, by omega, rfl⟩
    · exact ⟨9, by omega, rfl⟩
  have rp : r0 ≠ p := d0.ne hr0
  rw [ix_lst (k1 _ _ rp up_same), e1]
  simp
  refine rules_ok (n := 223) d1 fun ts rs q h3 _ hq rg d3 k3 => ?_
  refine any_kind_ok (n := 223) d3 rg hq fun kd h4 kg d4 k4 => ?_
  have qp : q ≠ p := not_deck d3 hq
  have hq4 := k4 _ _ qp hq
  obtain ⟨W0, ce0⟩ := rg.ce
  have ce := cert_anew rg.ri ce0
  have l6 : ts.length ≤ 6 := by rw [← rg.ri.len]; exact rg.l6
  have K := ks_of (k := kd) rg.ri l6 ce (wF_21 rs) ⟨⟨kg.bw, kg.dp⟩, by have := kg.w20; omega⟩
  have rk : ∀ r ∈ ts, Kd.rule r ∈ KLof ts rs kd := ks_rk
  have mk : kd ∈ KLof ts rs kd := ks_me
  generalize KLof ts rs kd = KL at K rk mk
  refine rows_ok K rk (n := 172) (by omega) hq4 fun ph kvs h5 hph t x5 lo _ => ?_
  refine ⟨by omega, fun i => LwI (.rol (ns.map .int)) (encK kd) KL rs ts p q ph m0 i, ⟨kvs, none, none, rfl, t, lo⟩, (fun _ _ _ _ => trivial), ?_, ?_⟩
  · rintro i x σ h6 hx ⟨kvs, x6, x7, rfl, t, lo⟩
    obtain ⟨j, j0, j1, rfl⟩ := rangeL_at hx
    obtain ⟨s, rfl⟩ : ∃ s : Nat, j = (s : Int) := ⟨j.toNat, by omega⟩
    simp
    exact one_ok K rk mk hm0 (by omega) t lo (.inl rfl) fun σ h' z => z
  · rintro σ h6 ⟨kvs, x6, x7, rfl, t, lo⟩
    simp [b3_law]
    refine ⟨fun i => LwI (.rol (ns.map .int)) (encK kd) KL rs ts p q ph m0 i, ⟨kvs, x6, x7, rfl, t, lo⟩, (fun _ _ _ _ => trivial), ?_, ?_⟩
    · rintro i x σ h7 hx ⟨kvs, x6, x7, rfl, t, lo⟩
      have mx := List.mem_of_getElem? hx
      simp at mx
      have e2 : ∃ s : Nat, s ≤ m0 ∧ x = .int (s : Int) := by
        rcases mx with rfl | rfl
        · exact ⟨0, by omega, rfl⟩
        · exact ⟨m0, Nat.le_refl _, rfl⟩
      obtain ⟨s, hs, rfl⟩ := e2
      simp
      exact one_ok K rk mk hm0 hs t lo (.inr rfl) fun σ h' z => z
    · rintro σ h7 ⟨kvs, x6, x7, rfl, t, lo⟩
      simp [b6_law]
end K14
end
section
namespace K14
open PySem L2 Snd
def top (i : Nat) : Stmt := PySem.Challenge.pw_pairwright_k14_shapes_listed.main.body.getD i (.Pass ⟨0, 0, 0, 0⟩)
def bn : List Str := [("dict" : Str), ("enumerate" : Str), ("int" : Str), ("isinstance" : Str), ("len" : Str), ("list" : Str), ("max" : Str), ("min" : Str), ("range" : Str), ("sorted" : Str), ("sum" : Str), ("tuple" : Str), ("zip" : Str)]
def F_top_of : Fn := ⟨s_top_of, [("rules" : Str), ("kind" : Str)], [("rules" : Str), ("kind" : Str)], defArgs (top 1), defBody (top 1), defScope (top 1), fd_top_of, none, 0⟩
def F_names_in : Fn := ⟨s_names_in, [("thing" : Str), ("found" : Str), ("todo" : Str), ("one" : Str)], [("thing" : Str)], defArgs (top 3), defBody (top 3), defScope (top 3), fd_names_in, none, 0⟩
def F_renamed : Fn := ⟨s_renamed, [("thing" : Str), ("names" : Str), ("part" : Str)], [("thing" : Str), ("names" : Str)], defArgs (top 4), defBody (top 4), defScope (top 4), fd_renamed, none, 0⟩
def F_added : Fn := ⟨s_added, [("one" : Str), ("other" : Str), ("found" : Str), ("names" : Str), ("count" : Str)], [("one" : Str), ("other" : Str)], defArgs (top 6), defBody (top 6), defScope (top 6), fd_added, none, 0⟩
def F_crossed : Fn := ⟨s_crossed, [("one" : Str), ("other" : Str), ("found" : Str), ("names" : Str), ("count" : Str), ("more" : Str), ("times" : Str)], [("one" : Str), ("other" : Str)], defArgs (top 7), defBody (top 7), defScope (top 7), fd_crossed, none, 0⟩
def F_Tally___init__ : Fn := ⟨s_x54616c6c792e5f5f696e6974, [("self" : Str), ("rules" : Str)], [("self" : Str), ("rules" : Str)], defArgs (inClass (top 8) 0), defBody (inClass (top 8) 0), defScope (inClass (top 8) 0), fd_Tally___init__, some (s_Tally, s___init__), 0⟩
def F_Tally_counts_at : Fn := ⟨s_x54616c6c792e636f756e7473, [("self" : Str), ("kind" : Str), ("size" : Str), ("smaller" : Str), ("rule" : Str)], [("self" : Str), ("kind" : Str), ("size" : Str)], defArgs (inClass (top 8) 1), defBody (inClass (top 8) 1), defScope (inClass (top 8) 1), fd_Tally_counts_at, some (s_Tally, s_counts_at), 0⟩
def F_Tally_counted : Fn := ⟨s_x54616c6c792e636f756e7465, [("self" : Str), ("kind" : Str), ("size" : Str)], [("self" : Str), ("kind" : Str), ("size" : Str)], defArgs (inClass (top 8) 2), defBody (inClass (top 8) 2), defScope (inClass (top 8) 2), fd_Tally_counted, some (s_Tally, s_counted), 0⟩
def F_Tally_fresh : Fn := ⟨s_x54616c6c792e6672657368, [("self" : Str), ("kind" : Str), ("size" : Str), ("found" : Str), ("part" : Str), ("one" : Str)], [("self" : Str), ("kind" : Str), ("size" : Str)], defArgs (inClass (top 8) 3), defBody (inClass (top 8) 3), defScope (inClass (top 8) 3), fd_Tally_fresh, some (s_Tally, s_fresh), 0⟩
def F_shifted : Fn := ⟨s_shifted, [("thing" : Str), ("more" : Str), ("names" : Str), ("name" : Str)], [("thing" : Str), ("more" : Str)], defArgs (top 9), defBody (top 9), defScope (top 9), fd_shifted, none, 0⟩
def F_paired : Fn := ⟨s_paired, [("some" : Str), ("others" : Str), ("found" : Str), ("one" : Str), ("more" : Str), ("other" : Str)], [("some" : Str), ("others" : Str)], defArgs (top 10), defBody (top 10), defScope (top 10), fd_paired, none, 0⟩
def F_listed : Fn := ⟨s_listed, [("tally" : Str), ("kind" : Str), ("size" : Str), ("found" : Str), ("part" : Str), ("one" : Str)], [("tally" : Str), ("kind" : Str), ("size" : Str)], defArgs (top 11), defBody (top 11), defScope (top 11), fd_listed, none, 0⟩
def F_shapes : Fn := ⟨s_shapes, [("rules" : Str), ("kind" : Str), ("size" : Str)], [("rules" : Str), ("kind" : Str), ("size" : Str)], defArgs (top 12), defBody (top 12), defScope (top 12), fd_shapes, none, 0⟩
def F_law_deck : Fn := ⟨s__law_deck, [("script" : Str), ("deck" : Str), ("k" : Str), ("cell" : Str), ("number" : Str)], [("script" : Str)], defArgs (top 14), defBody (top 14), defScope (top 14), fd_law_deck, none, 0⟩
def F_law_next : Fn := ⟨s__law_next, [("deck" : Str), ("many" : Str), ("number" : Str)], [("deck" : Str), ("many" : Str)], defArgs (top 15), defBody (top 15), defScope (top 15), fd_law_next, none, 0⟩
def F_law_word : Fn := ⟨s__law_word, [("deck" : Str), ("letters" : Str), ("k" : Str)], [("deck" : Str)], defArgs (top 16), defBody (top 16), defScope (top 16), fd_law_word, none, 0⟩
def F_law_texts : Fn := ⟨s__law_texts, [("deck" : Str), ("many" : Str), ("found" : Str), ("k" : Str), ("word" : Str), ("letter" : Str)], [("deck" : Str), ("many" : Str)], defArgs (top 17), defBody (top 17), defScope (top 17), fd_law_texts, none, 0⟩
def F_law_kind : Fn := ⟨s__law_kind, [("deck" : Str), ("deep" : Str), ("texts" : Str), ("ahead" : Str), ("some" : Str), ("way" : Str), ("one" : Str)], [("deck" : Str), ("deep" : Str), ("texts" : Str), ("ahead" : Str)], defArgs (top 18), defBody (top 18), defScope (top 18), fd_law_kind, none, 0⟩
def F_law_least : Fn := ⟨s__law_least, [("kind" : Str), ("sizes" : Str), ("some" : Str), ("part" : Str), ("one" : Str)], [("kind" : Str), ("sizes" : Str)], defArgs (top 19), defBody (top 19), defScope (top 19), fd_law_least, none, 0⟩
def F_law_sizes : Fn := ⟨s__law_sizes, [("rules" : Str), ("sizes" : Str), ("turn" : Str), ("found" : Str), ("rule" : Str), ("one" : Str)], [("rules" : Str)], defArgs (top 20), defBody (top 20), defScope (top 20), fd_law_sizes, none, 0⟩
def F_law_most : Fn := ⟨s__law_most, [("kind" : Str), ("sizes" : Str), ("part" : Str)], [("kind" : Str), ("sizes" : Str)], defArgs (top 21), defBody (top 21), defScope (top 21), fd_law_most, none, 0⟩
def F_law_parts_of : Fn := ⟨s__law_parts_of, [("kind" : Str)], [("kind" : Str)], defArgs (top 22), defBody (top 22), defScope (top 22), fd_law_parts_of, none, 0⟩
def F_law_wide : Fn := ⟨s__law_wide, [("kind" : Str), ("wides" : Str)], [("kind" : Str), ("wides" : Str)], defArgs (top 23), defBody (top 23), defScope (top 23), fd_law_wide, none, 0⟩
def F_law_widest : Fn := ⟨s__law_widest, [("kind" : Str), ("wides" : Str), ("part" : Str)], [("kind" : Str), ("wides" : Str)], defArgs (top 24), defBody (top 24), defScope (top 24), fd_law_widest, none, 0⟩
def F_law_wides : Fn := ⟨s__law_wides, [("rules" : Str), ("wides" : Str), ("text" : Str)], [("rules" : Str)], defArgs (top 25), defBody (top 25), defScope (top 25), fd_law_wides, none, 0⟩
def F_law_rules : Fn := ⟨s__law_rules, [("deck" : Str), ("texts" : Str), ("rules" : Str), ("wides" : Str), ("text" : Str), ("turn" : Str), ("k" : Str), ("sizes" : Str)], [("deck" : Str)], defArgs (top 26), defBody (top 26), defScope (top 26), fd_law_rules, none, 0⟩
def F_law_any_kind : Fn := ⟨s__law_any_kind, [("deck" : Str), ("rules" : Str), ("kind" : Str)], [("deck" : Str), ("rules" : Str)], defArgs (top 27), defBody (top 27), defScope (top 27), fd_law_any_kind, none, 0⟩
def F_law_top : Fn := ⟨s__law_top, [("rules" : Str), ("kind" : Str)], [("rules" : Str), ("kind" : Str)], defArgs (top 28), defBody (top 28), defScope (top 28), fd_law_top, none, 0⟩
def F_law_places : Fn := ⟨s__law_places, [("rules" : Str), ("kind" : Str), ("thing" : Str), ("forms" : Str), ("good" : Str)], [("rules" : Str), ("kind" : Str), ("thing" : Str)], defArgs (top 29), defBody (top 29), defScope (top 29), fd_law_places, none, 0⟩
def F_law_is : Fn := ⟨s__law_is, [("rules" : Str), ("kind" : Str), ("thing" : Str), ("todo" : Str), ("found" : Str), ("place" : Str), ("one" : Str)], [("rules" : Str), ("kind" : Str), ("thing" : Str)], defArgs (top 30), defBody (top 30), defScope (top 30), fd_law_is, none, 0⟩
def F_law_row : Fn := ⟨s__law_row, [("rules" : Str), ("held" : Str), ("kind" : Str), ("large" : Str)], [("rules" : Str), ("held" : Str), ("kind" : Str), ("large" : Str)], defArgs (top 31), defBody (top 31), defScope (top 31), fd_law_row, none, 0⟩
def F_law_fresh : Fn := ⟨s__law_fresh, [("rules" : Str), ("held" : Str), ("kind" : Str), ("large" : Str), ("found" : Str), ("one" : Str), ("part" : Str), ("other" : Str), ("k" : Str), ("here" : Str), ("there" : Str), ("j" : Str)], [("rules" : Str), ("held" : Str), ("kind" : Str), ("large" : Str)], defArgs (top 32), defBody (top 32), defScope (top 32), fd_law_fresh, none, 0⟩
def F_law_rows : Fn := ⟨s__law_rows, [("rules" : Str), ("most" : Str), ("held" : Str), ("large" : Str), ("rule" : Str)], [("rules" : Str), ("most" : Str)], defArgs (top 33), defBody (top 33), defScope (top 33), fd_law_rows, none, 0⟩
def F_law_walked : Fn := ⟨s__law_walked, [("thing" : Str), ("many" : Str), ("names" : Str), ("todo" : Str), ("one" : Str)], [("thing" : Str)], defArgs (top 34), defBody (top 34), defScope (top 34), fd_law_walked, none, 0⟩
def F_law_right : Fn := ⟨s__law_right, [("rules" : Str), ("kind" : Str), ("large" : Str), ("count" : Str), ("found" : Str), ("k" : Str), ("thing" : Str), ("many" : Str), ("names" : Str)], [("rules" : Str), ("kind" : Str), ("large" : Str), ("count" : Str)], defArgs (top 35), defBody (top 35), defScope (top 35), fd_law_right, none, 0⟩
def F_law : Fn := ⟨s_law, [("script" : Str), ("deck" : Str), ("most" : Str), ("rules" : Str), ("kind" : Str), ("held" : Str), ("large" : Str), ("count" : Str)], [("script" : Str)], defArgs (top 36), defBody (top 36), defScope (top 36), fd_law, none, 0⟩
def tab : List Fn := [F_top_of, F_names_in, F_renamed, F_added, F_crossed, F_Tally___init__, F_Tally_counts_at, F_Tally_counted, F_Tally_fresh, F_shifted, F_paired, F_listed, F_shapes, F_law_deck, F_law_next, F_law_word, F_law_texts, F_law_kind, F_law_least, F_law_sizes, F_law_most, F_law_parts_of, F_law_wide, F_law_widest, F_law_wides, F_law_rules, F_law_any_kind, F_law_top, F_law_places, F_law_is, F_law_row, F_law_fresh, F_law_rows, F_law_walked, F_law_right, F_law]
def gc : Gc := ⟨[], [], [s_Tally], [(s_Tally, s_counted), (s_Tally, s_fresh), (s_Tally, s_counts_at)], [(s_Tally, s_rules), (s_Tally, s_held), (s_Tally, s_sizes)], []⟩
def fs : List M.Sx := [s_top_of, s_names_in, s_renamed, s_added, s_crossed, s_x54616c6c792e5f5f696e6974, s_x54616c6c792e636f756e7473, s_x54616c6c792e636f756e7465, s_x54616c6c792e6672657368, s_shifted, s_paired, s_listed, s_shapes, s__law_deck, s__law_next, s__law_word, s__law_texts, s__law_kind, s__law_least, s__law_sizes, s__law_most, s__law_parts_of, s__law_wide, s__law_widest, s__law_wides, s__law_rules, s__law_any_kind, s__law_top, s__law_places, s__law_is, s__law_row, s__law_fresh, s__law_rows, s__law_walked, s__law_right, s_law]
def gl : List M.Sx := [s_top_of, s_names_in, s_renamed, s_added, s_crossed, s_shifted, s_paired, s_listed, s_shapes, s__law_deck, s__law_next, s__law_word, s__law_texts, s__law_kind, s__law_least, s__law_sizes, s__law_most, s__law_parts_of, s__law_wide, s__law_widest, s__law_wides, s__law_rules, s__law_any_kind, s__law_top, s__law_places, s__law_is, s__law_row, s__law_fresh, s__law_rows, s__law_walked, s__law_right, s_law]
theorem tab_fs : tab.map (·.f) = fs := rfl
theorem tab_gl : glob tab = gl := rfl
theorem tab_t : gc.okT tab = true := by decide +kernel
theorem tab_nd : (tab.map (·.f)).Nodup := by rw [tab_fs]; decide +kernel
theorem ok_top_of : F_top_of.ok bn gl gc = true := by decide +kernel
theorem ok_names_in : F_names_in.ok bn gl gc = true := by decide +kernel
theorem ok_renamed : F_renamed.ok bn gl gc = true := by decide +kernel
theorem ok_added : F_added.ok bn gl gc = true := by decide +kernel
theorem ok_crossed : F_crossed.ok bn gl gc = true := by decide +kernel
theorem ok_Tally___init__ : F_Tally___init__.ok bn gl gc = true := by decide +kernel
theorem ok_Tally_counts_at : F_Tally_counts_at.ok bn gl gc = true := by decide +kernel
theorem ok_Tally_counted : F_Tally_counted.ok bn gl gc = true := by decide +kernel
theorem ok_Tally_fresh : F_Tally_fresh.ok bn gl gc = true := by decide +kernel
theorem ok_shifted : F_shifted.ok bn gl gc = true := by decide +kernel
theorem ok_paired : F_paired.ok bn gl gc = true := by decide +kernel
theorem ok_listed : F_listed.ok bn gl gc = true := by decide +kernel
theorem ok_shapes : F_shapes.ok bn gl gc = true := by decide +kernel
theorem ok_law_deck : F_law_deck.ok bn gl gc = true := by decide +kernel
theorem ok_law_next : F_law_next.ok bn gl gc = true := by decide +kernel
theorem ok_law_word : F_law_word.ok bn gl gc = true := by decide +kernel
theorem ok_law_texts : F_law_texts.ok bn gl gc = true := by decide +kernel
theorem ok_law_kind : F_law_kind.ok bn gl gc = true := by decide +kernel
theorem ok_law_least : F_law_least.ok bn gl gc = true := by decide +kernel
theorem ok_law_sizes : F_law_sizes.ok bn gl gc = true := by decide +kernel
theorem ok_law_most : F_law_most.ok bn gl gc = true := by decide +kernel
theorem ok_law_parts_of : F_law_parts_of.ok bn gl gc = true := by decide +kernel
theorem ok_law_wide : F_law_wide.ok bn gl gc = true := by decide +kernel
theorem ok_law_widest : F_law_widest.ok bn gl gc = true := by decide +kernel
theorem ok_law_wides : F_law_wides.ok bn gl gc = true := by decide +kernel
theorem ok_law_rules : F_law_rules.ok bn gl gc = true := by decide +kernel
theorem ok_law_any_kind : F_law_any_kind.ok bn gl gc = true := by decide +kernel
theorem ok_law_top : F_law_top.ok bn gl gc = true := by decide +kernel
theorem ok_law_places : F_law_places.ok bn gl gc = true := by decide +kernel
theorem ok_law_is : F_law_is.ok bn gl gc = true := by decide +kernel
theorem ok_law_row : F_law_row.ok bn gl gc = true := by decide +kernel
theorem ok_law_fresh : F_law_fresh.ok bn gl gc = true := by decide +kernel
theorem ok_law_rows : F_law_rows.ok bn gl gc = true := by decide +kernel
theorem ok_law_walked : F_law_walked.ok bn gl gc = true := by decide +kernel
theorem ok_law_right : F_law_right.ok bn gl gc = true := by decide +kernel
theorem ok_law : F_law.ok bn gl gc = true := by decide +kernel
theorem tab_ok : AllP (fun F => F.ok bn (glob tab) gc = true) tab := by rw [tab_gl]; exact ⟨ok_top_of, ok_names_in, ok_renamed, ok_added, ok_crossed, ok_Tally___init__, ok_Tally_counts_at, ok_Tally_counted, ok_Tally_fresh, ok_shifted, ok_paired, ok_listed, ok_shapes, ok_law_deck, ok_law_next, ok_law_word, ok_law_texts, ok_law_kind, ok_law_least, ok_law_sizes, ok_law_most, ok_law_parts_of, ok_law_wide, ok_law_widest, ok_law_wides, ok_law_rules, ok_law_any_kind, ok_law_top, ok_law_places, ok_law_is, ok_law_row, ok_law_fresh, ok_law_rows, ok_law_walked, ok_law_right, ok_law, trivial⟩
theorem bd_top_of : F_top_of.BOk := .inl ⟨rfl, fun _ _ _ _ _ _ us hl => match us, hl with | [_, _], _ => rfl⟩
theorem bd_names_in : F_names_in.BOk := .inl ⟨rfl, fun _ _ _ _ _ _ us hl => match us, hl with | [_], _ => rfl⟩
theorem bd_renamed : F_renamed.BOk := .inl ⟨rfl, fun _ _ _ _ _ _ us hl => match us, hl with | [_, _], _ => rfl⟩
theorem bd_added : F_added.BOk := .inl ⟨rfl, fun _ _ _ _ _ _ us hl => match us, hl with | [_, _], _ => rfl⟩
theorem bd_crossed : F_crossed.BOk := .inl ⟨rfl, fun _ _ _ _ _ _ us hl => match us, hl with | [_, _], _ => rfl⟩
theorem bd_Tally___init__ : F_Tally___init__.BOk := .inl ⟨rfl, fun _ _ _ _ _ _ us hl => match us, hl with | [_, _], _ => rfl⟩
theorem bd_Tally_counts_at : F_Tally_counts_at.BOk := .inl ⟨rfl, fun _ _ _ _ _ _ us hl => match us, hl with | [_, _, _], _ => rfl⟩
theorem bd_Tally_counted : F_Tally_counted.BOk := .inl ⟨rfl, fun _ _ _ _ _ _ us hl => match us, hl with | [_, _, _], _ => rfl⟩
theorem bd_Tally_fresh : F_Tally_fresh.BOk := .inl ⟨rfl, fun _ _ _ _ _ _ us hl => match us, hl with | [_, _, _], _ => rfl⟩
theorem bd_shifted : F_shifted.BOk := .inl ⟨rfl, fun _ _ _ _ _ _ us hl => match us, hl with | [_, _], _ => rfl⟩
theorem bd_paired : F_paired.BOk := .inl ⟨rfl, fun _ _ _ _ _ _ us hl => match us, hl with | [_, _], _ => rfl⟩
theorem bd_listed : F_listed.BOk := .inl ⟨rfl, fun _ _ _ _ _ _ us hl => match us, hl with | [_, _, _], _ => rfl⟩
theorem bd_shapes : F_shapes.BOk := .inl ⟨rfl, fun _ _ _ _ _ _ us hl => match us, hl with | [_, _, _], _ => rfl⟩
theorem bd_law_deck : F_law_deck.BOk := .inl ⟨rfl, fun _ _ _ _ _ _ us hl => match us, hl with | [_], _ => rfl⟩
theorem bd_law_next : F_law_next.BOk := .inl ⟨rfl, fun _ _ _ _ _ _ us hl => match us, hl with | [_, _], _ => rfl⟩
theorem bd_law_word : F_law_word.BOk := .inl ⟨rfl, fun _ _ _ _ _ _ us hl => match us, hl with | [_], _ => rfl⟩
theorem bd_law_texts : F_law_texts.BOk := .inl ⟨rfl, fun _ _ _ _ _ _ us hl => match us, hl with | [_, _], _ => rfl⟩
theorem bd_law_kind : F_law_kind.BOk := .inl ⟨rfl, fun _ _ _ _ _ _ us hl => match us, hl with | [_, _, _, _], _ => rfl⟩
theorem bd_law_least : F_law_least.BOk := .inl ⟨rfl, fun _ _ _ _ _ _ us hl => match us, hl with | [_, _], _ => rfl⟩
theorem bd_law_sizes : F_law_sizes.BOk := .inl ⟨rfl, fun _ _ _ _ _ _ us hl => match us, hl with | [_], _ => rfl⟩
theorem bd_law_most : F_law_most.BOk := .inl ⟨rfl, fun _ _ _ _ _ _ us hl => match us, hl with | [_, _], _ => rfl⟩
theorem bd_law_parts_of : F_law_parts_of.BOk := .inl ⟨rfl, fun _ _ _ _ _ _ us hl => match us, hl with | [_], _ => rfl⟩
theorem bd_law_wide : F_law_wide.BOk := .inl ⟨rfl, fun _ _ _ _ _ _ us hl => match us, hl with | [_, _], _ => rfl⟩
theorem bd_law_widest : F_law_widest.BOk := .inl ⟨rfl, fun _ _ _ _ _ _ us hl => match us, hl with | [_, _], _ => rfl⟩
theorem bd_law_wides : F_law_wides.BOk := .inl ⟨rfl, fun _ _ _ _ _ _ us hl => match us, hl with | [_], _ => rfl⟩
theorem bd_law_rules : F_law_rules.BOk := .inl ⟨rfl, fun _ _ _ _ _ _ us hl => match us, hl with | [_], _ => rfl⟩
theorem bd_law_any_kind : F_law_any_kind.BOk := .inl ⟨rfl, fun _ _ _ _ _ _ us hl => match us, hl with | [_, _], _ => rfl⟩
theorem bd_law_top : F_law_top.BOk := .inl ⟨rfl, fun _ _ _ _ _ _ us hl => match us, hl with | [_, _], _ => rfl⟩
theorem bd_law_places : F_law_places.BOk := .inl ⟨rfl, fun _ _ _ _ _ _ us hl => match us, hl with | [_, _, _], _ => rfl⟩
theorem bd_law_is : F_law_is.BOk := .inl ⟨rfl, fun _ _ _ _ _ _ us hl => match us, hl with | [_, _, _], _ => rfl⟩
theorem bd_law_row : F_law_row.BOk := .inl ⟨rfl, fun _ _ _ _ _ _ us hl => match us, hl with | [_, _, _, _], _ => rfl⟩
theorem bd_law_fresh : F_law_fresh.BOk := .inl ⟨rfl, fun _ _ _ _ _ _ us hl => match us, hl with | [_, _, _, _], _ => rfl⟩
theorem bd_law_rows : F_law_rows.BOk := .inl ⟨rfl, fun _ _ _ _ _ _ us hl => match us, hl with | [_, _], _ => rfl⟩
theorem bd_law_walked : F_law_walked.BOk := .inl ⟨rfl, fun _ _ _ _ _ _ us hl => match us, hl with | [_], _ => rfl⟩
theorem bd_law_right : F_law_right.BOk := .inl ⟨rfl, fun _ _ _ _ _ _ us hl => match us, hl with | [_, _, _, _], _ => rfl⟩
theorem bd_law : F_law.BOk := .inl ⟨rfl, fun _ _ _ _ _ _ us hl => match us, hl with | [_], _ => rfl⟩
theorem tab_bd : AllP Fn.BOk tab := ⟨bd_top_of, bd_names_in, bd_renamed, bd_added, bd_crossed, bd_Tally___init__, bd_Tally_counts_at, bd_Tally_counted, bd_Tally_fresh, bd_shifted, bd_paired, bd_listed, bd_shapes, bd_law_deck, bd_law_next, bd_law_word, bd_law_texts, bd_law_kind, bd_law_least, bd_law_sizes, bd_law_most, bd_law_parts_of, bd_law_wide, bd_law_widest, bd_law_wides, bd_law_rules, bd_law_any_kind, bd_law_top, bd_law_places, bd_law_is, bd_law_row, bd_law_fresh, bd_law_rows, bd_law_walked, bd_law_right, bd_law, trivial⟩
theorem tab_P : tabP tab = M.pOf prog := rfl
abbrev R : PySem.W.OpenRow := PySem.W.OpenLaw.row PySem.Challenge.rw_pairwright_k14_shapes_listed
abbrev hfa : List He.Fa := headFa tab bn gc
abbrev hfn : List He.DefD := headFn tab
abbrev hk : PySem.W.Hook := He.hookD 4 hfa hfn
def ob (s : PySem.W.SharedT) : He.AlD := He.obsDG 4 hfa hfn (HandSHeadRun.getT s)
theorem ob_eq (s : PySem.W.SharedT) : ob s = hk.obs s.abs := He.obsDG_eq (HandSHeadRun.getT_eq s)
theorem gc_t : gc.ts = [] := rfl
def loose : List Str := [("top_of" : Str), ("names_in" : Str), ("renamed" : Str), ("added" : Str), ("crossed" : Str), ("Tally" : Str), ("shifted" : Str), ("paired" : Str), ("listed" : Str), ("shapes" : Str), ("_law_deck" : Str), ("_law_next" : Str), ("_law_word" : Str), ("_law_texts" : Str), ("_law_kind" : Str), ("_law_least" : Str), ("_law_sizes" : Str), ("_law_most" : Str), ("_law_parts_of" : Str), ("_law_wide" : Str), ("_law_widest" : Str), ("_law_wides" : Str), ("_law_rules" : Str), ("_law_any_kind" : Str), ("_law_top" : Str), ("_law_places" : Str), ("_law_is" : Str), ("_law_row" : Str), ("_law_fresh" : Str), ("_law_rows" : Str), ("_law_walked" : Str), ("_law_right" : Str)]
def lawAt : Nat := 36
end K14
end
section
namespace K14
theorem law_okF : Snd.LawOk (M.pOf prog) 231 s_law := fun ns hl => law_okN ns hl
end K14
end
section
open PySem PySem.W PySem.Calls PyProof.Rows
namespace K14
open PySem PySem.Spec PyProof.Rows L2 Snd
theorem run (w : World) : HandSHeadRun.RunEq R (PySem.W.view R.prog [lawAt]) hk ob 4000 loose w := by
  intro os
  kernel_rfl
end K14
set_option maxRecDepth 100000 in
set_option maxHeartbeats 0 in
theorem PySem.Challenge.cw_pairwright_k14_shapes_listed_holds : PySem.Challenge.rw_pairwright_k14_shapes_listed.Holds := by
  w_on; o_law
  refine HandSHeadRun.head_any (r := OpenLaw.row PySem.Challenge.rw_pairwright_k14_shapes_listed) (q := view (OpenLaw.row PySem.Challenge.rw_pairwright_k14_shapes_listed).prog [K14.lawAt]) (H := K14.hk) (ob := K14.ob) (M := 4000) (loose := K14.loose) (d := HandSHeadRun.topDef (OpenLaw.row PySem.Challenge.rw_pairwright_k14_shapes_listed).prog K14.lawAt) (kwd := []) K14.ob_eq
    (by kernel_rfl) (fun s => by kernel_rfl) K14.run (by kernel_rfl) (by kernel_rfl) (by kernel_rfl) (by rfl) (by first | assumption | decide +kernel) (by decide +kernel) ⟨rfl, rfl, rfl, rfl, rfl, by decide +kernel⟩ ?hw ?hc
  case hw => w_witness2
  case hc =>
    refine L2.walk_ofE (l := PySem.Challenge.rw_pairwright_k14_shapes_listed) (n := 63) (k := 231) (x := "script") (CX := L2.CX0) rfl (by decide) (by kernel_rfl) ⟨rfl, by decide, by decide⟩ ?F (fun _ _ _ _ z => z)
    intro w mg fa h Y G hmg0
    obtain ⟨K, KX, c⟩ := Y
    have hmg : mg (Snd.sV K14.F_law.f) = some (.ref fa) := by
      have e : (HandSHeadRun.topDef (OpenLaw.row PySem.Challenge.rw_pairwright_k14_shapes_listed).prog K14.lawAt).name = Snd.sV K14.F_law.f := by kernel_rfl
      rw [← e]
      exact hmg0
    obtain ⟨fd, hb, hF⟩ := Snd.law_facts (P := (PySem.Challenge.rw_pairwright_k14_shapes_listed).prog) (w := w) (gc := K14.gc) (L := K14.F_law) K14.gc_t rfl rfl (by unfold K14.tab; simp) rfl KX G hmg c K14.tab_nd K14.tab_ok K14.tab_bd K14.tab_t 231
    refine ⟨K, fd, Snd.spC ⟨K, (PySem.Challenge.rw_pairwright_k14_shapes_listed).prog, w, mg⟩ (M.pOf K14.prog) 231 K14.F_law.f, KX, hb, fun H a ns hl hO hS => Snd.law_sp K14.law_okF H a ns hl hO hS, ?_⟩
    rw [← K14.tab_P] at *
    exact hF
end
