import PyProof.Rows.All
import Wide.All
import OpenK.AllK
import Wide.FinOn
import HandS.ForMost
import HandS.Wide
import KE.KDictKeyed
import HandS.Deep
import HandS.TupAny
import HandS.SortRule
import HandS.SortInts
import KE.LtData
import HandS.DeepEq
import HandS.OwnEq
import HandS.Style
import HandS.Replace
import PyProof.Rows.StrLawsPart
import HandS.IsInst
import HandS.Codes
import HandS.More
import HandS.Finally
import PyProof.DictUpdate
import HandS.Zip0
import KE.KDictZip
import KE.KItemsList
import HandS.ListItems
import HandS.Rev
import HandS.RevTup
import PyProof.ListNew
import HandS.Iter
import PyProof.StrOps
import HandS.Conv
import HandS.Zip
import HandS.RevRange
import KE.DataMinMax
import HandS.SortKw
import HandS.Flow
import KE.KDictSum
import HandS.List
import HandS.Dict
import HandS.Defaults
import HandS.Ends
import HandS.Head0
import HandS.Head1
import HandS.Head2
import HandS.HeadEnd
import HandS.HeadHook1
import HandS.HeadHook2
import HandS.HeadHook3
import HandS.HeadHook4
import PySem.Challenge.RW_pairwright_k49_whole_great_things_run
set_option Elab.async false
set_option linter.all false
set_option maxRecDepth 100000
set_option maxHeartbeats 0
section
/-! Core: values, heaps, the IR, its weakest-precondition reading. Pure Lean, no kit. -/
namespace M
abbrev Sx := List Nat
noncomputable section
def LINE : Nat := 16777216

inductive D where
  | non | bl (b : Bool) | int (i : Int) | str (s : Sx) | tup (ds : List D) | ref (a : Nat) | rol (ds : List D)
noncomputable instance : DecidableEq D := fun _ _ => Classical.propDecidable _

inductive Ob where
  | lst (xs : List D)
  | dct (k : Nat) (kvs : List (D × D))
  | rdct (k : Nat) (kvs : List (D × D))
  | ins (c : Sx) (fs : List (Sx × D))
  /-- a dict whose keys are nested tuples -/
  | dcn (kvs : List (D × D))

def Ob.lk : Ob → Bool
  | .rdct _ _ => true
  | _ => false
abbrev AH := Nat → Option Ob
def up (h : AH) (a : Nat) (o : Ob) : AH := fun b => if b = a then some o else h b
abbrev St := List (Option D)
abbrev VQ := D → AH → Prop
abbrev XP := Sx → List D → AH → Prop

structure Ends where
  nx : St → AH → Prop
  rt : VQ
  bk : St → AH → Prop
  ct : St → AH → Prop
structure Cx where
  call : Sx → List D → AH → VQ → XP → Prop
  ex : XP

inductive Bop where | add | sub | mul | mod | fdiv | pow
inductive Cop where | eq | ne | lt | le | gt | ge | isin | notin | is_ | isnt | nes
inductive Blt where | len | min2 | max2 | int1 | abs | sum | all | any | list | tuple | sorted | str1 | repr | dict1 | min1 | max1 | klist | sortd
inductive Mth where | append | pop | popAt | extend | insert | reverse | clear | get1 | get2 | setdefault | update | join | sindex | index | remove | dclear | extendT
inductive Itk where | seq | rng | zip | enum | items | values | rev | keys | rrng
inductive Ty where | int | bool | tuple | str | list | dict
inductive Tgt where
  | nm (i : Nat)
  | tp (ts : List Nat)

mutual
inductive E where
  | var (i : Nat)
  | int (n : Int)
  | str (s : Sx)
  | bl (b : Bool)
  | non
  | gint (x : Sx) (n : Int)
  | gtp (x : Sx) (ss : List Sx)
  | tup (es : Es)
  | lst (es : Es)
  | dct (k : Nat) (es : Es)
  | dcn
  | bin (o : Bop) (a b : E)
  | neg (a : E)
  | cmp (o : Cop) (a b : E)
  | chn (o o' : Cop) (a b c : E)
  | bop (isAnd : Bool) (es : Es)
  | not (a : E)
  | ite (c a b : E)
  | ix (a i : E)
  | sl (a : E) (lo hi : Es)
  | call (f : Sx) (es : Es)
  /-- the last k parameters' defaults, all None, fill up -/
  | callD (f : Sx) (k : Nat) (es : Es)
  /-- sum(e.values()) -/
  | smv (e : E)
  | fld (e : E) (f : Sx)
  | newo (c : Sx) (es : Es)
  | mcall (c m : Sx) (o : E) (es : Es)
  | blt (b : Blt) (es : Es)
  | isi (a : E) (t : Ty)
  | mth (m : Mth) (o : E) (es : Es)
  | lc (elt : E) (t : Tgt) (own : List Nat) (k : Itk) (src : Es) (ifs : Es)
  | bad
  | lock (i : Nat) (e : E)
  | lzip (es : Es)
  | lrng (es : Es)
  | rev (a : E)
  | mnd (es : Es)
  | orv (a b : E)
  | tix (x : Sx) (tab : List (Sx × Sx)) (a : E)
  | slw (a : E) (lo hi : Es)
  | tlr (a : E)
inductive Es where
  | nil
  | cons (e : E) (es : Es)
end

mutual
inductive S where
  | asg (t : Tgt) (e : E)
  | asgl (ts : List Nat) (e : E)
  | six (o i e : E)
  | sfld (c : Sx) (o : E) (f : Sx) (e : E)
  | aug (i : Nat) (o : Bop) (e : E)
  | ex (e : E)
  | ret (e : E)
  | retN
  | ife (c : E) (a b : Ss)
  | whl (c : E) (b : Ss)
  | for_ (t : Tgt) (k : Itk) (src : Es) (b : Ss)
  | pass | brk | cont
  | bad
  | lock (i : Nat) (s : S)
  | lock2 (i : Nat) (s : S)
inductive Ss where
  | nil
  | cons (s : S) (ss : Ss)
end

/-! ### operations on values -/
def zipL : List D → List D → List D
  | x :: xs, y :: ys => .tup [x, y] :: zipL xs ys
  | _, _ => []
def mulOk (a b : Int) : Prop := (-(2 ^ 64) < a ∧ a < 2 ^ 64) ∨ (-(2 ^ 64) < b ∧ b < 2 ^ 64) ∨ ∃ k, 0 < k ∧ k ≤ 500000 ∧ a.natAbs < 2 ^ k ∧ b.natAbs < 2 ^ k
def divOk (b : Int) : Prop := 0 < b ∧ b < 2 ^ 64
def powOk (a b : Int) : Prop := 0 ≤ b ∧ b ≤ 1000000 ∧ a.natAbs < 2 ^ 64

def opAdd : D → D → AH → VQ → Prop
  | .int a, .int b, h, Q => Q (.int (a + b)) h
  | .str a, .str b, h, Q => a.length + b.length ≤ LINE ∧ Q (.str (a ++ b)) h
  | .tup a, .tup b, h, Q => a.length + b.length ≤ LINE ∧ Q (.tup (a ++ b)) h
  | .ref p, .ref q, h, Q => ∃ xs ys, h p = some (.lst xs) ∧ h q = some (.lst ys) ∧ xs.length + ys.length ≤ LINE ∧ ∀ r, h r = none → Q (.ref r) (up h r (.lst (xs ++ ys)))
  | _, _, _, _ => False
def opMul : D → D → AH → VQ → Prop
  | .int a, .int b, h, Q => mulOk a b ∧ Q (.int (a * b)) h
  | .ref p, .int k, h, Q => ∃ xs, h p = some (.lst xs) ∧ -(2 ^ 63) ≤ k ∧ k < 2 ^ 63 ∧ xs.length * k.toNat ≤ LINE ∧ ∀ r, h r = none → Q (.ref r) (up h r (.lst (List.replicate k.toNat xs).flatten))
  | _, _, _, _ => False
def opInt (f : Int → Int → (Int → Prop) → Prop) : D → D → AH → VQ → Prop
  | .int a, .int b, h, Q => f a b fun c => Q (.int c) h
  | _, _, _, _ => False
def opBin (o : Bop) (x y : D) (h : AH) (Q : VQ) : Prop := match o with
  | .add => opAdd x y h Q
  | .mul => opMul x y h Q
  | .sub => opInt (fun a b q => q (a - b)) x y h Q
  | .mod => opInt (fun a b q => 0 < b ∧ q (a % b)) x y h Q
  | .fdiv => opInt (fun a b q => divOk b ∧ q (a / b)) x y h Q
  | .pow => opInt (fun a b q => powOk a b ∧ q (a ^ b.toNat)) x y h Q

mutual
/-- data without objects and truths, nested at most n deep -/
def plain : Nat → D → Bool
  | _, .non => true
  | _, .int _ => true
  | _, .str _ => true
  | 0, .tup _ => false
  | n + 1, .tup ds => plains n ds
  | _, _ => false
def plains : Nat → List D → Bool
  | _, [] => true
  | n, d :: ds => plain n d && plains n ds
end
mutual
def pureD : D → Bool
  | .non => true
  | .int _ => true
  | .str _ => true
  | .tup ds => pureDs ds
  | _ => false
def pureDs : List D → Bool
  | [] => true
  | d :: ds => pureD d && pureDs ds
end
def flat : D → Bool
  | .non => true
  | .int _ => true
  | .str _ => true
  | _ => false

def eqOk (a b : D) (h : AH) (Q : Bool → Prop) : Prop := match a with
  | .bl a => (match b with
    | .bl b => Q (decide (a = b))
    | _ => False)
  | .ref p => (match b with
    | .ref q => ∃ xs ys, h p = some (.lst xs) ∧ h q = some (.lst ys) ∧ pureDs xs = true ∧ pureDs ys = true ∧ (plains 190 xs = true ∨ plains 190 ys = true) ∧ Q (decide (xs = ys))
    | _ => False)
  | a => pureD a = true ∧ pureD b = true ∧ (plain 190 a = true ∨ plain 190 b = true) ∧ Q (decide (a = b))

def kvGet (kvs : List (D × D)) (k : D) : Option D := (kvs.find? fun kv => decide (kv.1 = k)).map (·.2)
def kvPut (kvs : List (D × D)) (k v : D) : List (D × D) :=
  if (kvs.any fun kv => decide (kv.1 = k)) = true then kvs.map (fun kv => if kv.1 = k then (kv.1, v) else kv) else kvs ++ [(k, v)]
/-- keys by the kind of dict: 0 intsOf and texts, 1 tuples of such -/
def keyOk : Nat → D → Bool
  | 0, .int _ => true
  | 0, .str _ => true
  | _, _ => false

/-- keys that are tuples, nested eight deep at most -/
def nkOk : D → Bool
  | .tup ds => pureDs ds && plains 7 ds
  | _ => false

/-- == of what holds lists and dicts; true alone for lists and tuples -/
def All2 (R : D → D → Prop) : List D → List D → Prop
  | [], [] => True
  | x :: xs, y :: ys => R x y ∧ All2 R xs ys
  | _, _ => False
def HitsD (R : D → D → Bool → Prop) (kws : List (D × D)) : List (D × D) → Bool → Prop
  | [], r => r = true
  | kv :: t, r => (kvGet kws kv.1 = none ∧ r = false) ∨ ∃ u e r', kvGet kws kv.1 = some u ∧ R kv.2 u e ∧ HitsD R kws t r' ∧ r = (e && r')
def EqS (R : D → D → Bool → Prop) (h : AH) (a b : D) (r : Bool) : Prop :=
  (∃ xs ys, a = .tup xs ∧ b = .tup ys ∧ All2 (fun x y => R x y true) xs ys ∧ r = true) ∨
  (∃ p q xs ys, a = .ref p ∧ b = .ref q ∧ p ≠ q ∧ h p = some (.lst xs) ∧ h q = some (.lst ys) ∧ All2 (fun x y => R x y true) xs ys ∧ r = true) ∨
  ∃ p q kvs kws r', a = .ref p ∧ b = .ref q ∧ p ≠ q ∧ h p = some (.dct 0 kvs) ∧ h q = some (.dct 0 kws) ∧ (kvs.length = kws.length → HitsD R kws kvs r') ∧ r = (kvs.length == kws.length && r')
def EqD : Nat → AH → D → D → Bool → Prop
  | 0, _, _, _, _ => False
  | n + 1, h, a, b, r => (pureD a = true ∧ pureD b = true ∧ (plain (170 + n) a = true ∨ plain (170 + n) b = true) ∧ r = decide (a = b)) ∨ (∃ p, a = .ref p ∧ b = .ref p ∧ r = true) ∨ EqS (EqD n h) h a b r
/-- != of two dicts -/
def neD (a b : D) (h : AH) (Q : Bool → Prop) : Prop := ∃ p q kvs kws r, a = .ref p ∧ b = .ref q ∧ h p = some (.dct 0 kvs) ∧ h q = some (.dct 0 kws) ∧ (kvs.length = kws.length → HitsD (EqD 20 h) kws kvs r) ∧ Q (!(kvs.length == kws.length && r))
def eqOkX (a b : D) (h : AH) (Q : Bool → Prop) : Prop := eqOk a b h Q ∨ ∃ r, EqS (EqD 20 h) h a b r ∧ Q r
def memOk (x y : D) (h : AH) (Q : Bool → Prop) : Prop := match y with
  | .ref p => (match h p with
    | some (.dct k kvs) => keyOk k x = true ∧ Q (kvGet kvs x).isSome
    | some (.rdct k kvs) => keyOk k x = true ∧ Q (kvGet kvs x).isSome
    | some (.dcn kvs) => nkOk x = true ∧ Q (kvGet kvs x).isSome
    | some (.lst xs) => pureD x = true ∧ pureDs xs = true ∧ (plain 190 x = true ∨ plains 190 xs = true) ∧ Q (xs.any fun y => decide (y = x))
    | _ => False)
  | .tup xs => flat x = true ∧ xs.all flat = true ∧ Q (xs.any fun y => decide (y = x))
  | _ => False
/-! ### an order of data -/
mutual
/-- what < may be asked of -/
def cmpb : D → D → Bool
  | .int _, b => (match b with
    | .int _ => true
    | _ => false)
  | .str _, b => (match b with
    | .str _ => true
    | _ => false)
  | .tup xs, b => (match b with
    | .tup ys => cmpbs xs ys
    | _ => false)
  | _, _ => false
def cmpbs : List D → List D → Bool
  | [], _ => true
  | x :: xs, l => (match l with
    | [] => true
    | y :: ys => if x = y then cmpbs xs ys else cmpb x y)
end
def rkD : D → Nat
  | .non => 0
  | .bl _ => 1
  | .int _ => 2
  | .str _ => 3
  | .tup _ => 4
  | .rol _ => 5
  | .ref _ => 6
mutual
/-- the order that < and sorted follow -/
def ltD : D → D → Bool
  | .int a, d => (match d with
    | .int b => decide (a < b)
    | d => decide (2 < rkD d))
  | .str s, d => (match d with
    | .str t => decide (s < t)
    | d => decide (3 < rkD d))
  | .tup xs, d => (match d with
    | .tup ys => ltDs xs ys
    | d => decide (4 < rkD d))
  | .rol xs, d => (match d with
    | .rol ys => ltDs xs ys
    | d => decide (5 < rkD d))
  | .non, d => decide (0 < rkD d)
  | .bl a, d => (match d with
    | .bl b => !a && b
    | d => decide (1 < rkD d))
  | .ref a, d => (match d with
    | .ref b => decide (a < b)
    | d => decide (6 < rkD d))
def ltDs : List D → List D → Bool
  | [], l => (match l with
    | [] => false
    | _ :: _ => true)
  | x :: xs, l => (match l with
    | [] => false
    | y :: ys => if x = y then ltDs xs ys else ltD x y)
end
theorem ltDs_cons {x y : D} {xs ys : List D} : ltDs (x :: xs) (y :: ys) = if x = y then ltDs xs ys else ltD x y := by simp only [ltDs]
theorem ltD_rk {a b : D} (h : rkD a ≠ rkD b) : ltD a b = decide (rkD a < rkD b) := by
  cases a <;> cases b <;> first | exact absurd rfl h | simp [ltD, rkD]
theorem sx_irr : ∀ s : Sx, ¬ s < s := fun s => List.lt_irrefl s
mutual
theorem ltD_irr : ∀ a : D, ltD a a = false
  | .non => by simp [ltD, rkD]
  | .bl b => by cases b <;> rfl
  | .int _ => by simp [ltD]
  | .str s => by simp [ltD, sx_irr s]
  | .tup xs => by simp only [ltD]; exact ltDs_irr xs
  | .rol xs => by simp only [ltD]; exact ltDs_irr xs
  | .ref _ => by simp [ltD]
theorem ltDs_irr : ∀ xs : List D, ltDs xs xs = false
  | [] => by simp only [ltDs]
  | x :: xs => by rw [ltDs_cons, if_pos rfl]; exact ltDs_irr xs
end
theorem rk_no {a b : D} (r : rkD a ≠ rkD b) (h1 : ltD a b = false) (h2 : ltD b a = false) : False := by
  rw [ltD_rk r] at h1
  rw [ltD_rk (Ne.symm r)] at h2
  simp at h1 h2
  omega
mutual
theorem ltD_tot : ∀ a b : D, ltD a b = false → ltD b a = false → a = b
  | .tup xs, b, h1, h2 => by
    cases b with
    | tup ys =>
      simp only [ltD] at h1 h2
      rw [ltDs_tot xs ys h1 h2]
    | _ => exact (rk_no (by simp [rkD]) h1 h2).elim
  | .rol xs, b, h1, h2 => by
    cases b with
    | rol ys =>
      simp only [ltD] at h1 h2
      rw [ltDs_tot xs ys h1 h2]
    | _ => exact (rk_no (by simp [rkD]) h1 h2).elim
  | .int a, b, h1, h2 => by
    cases b with
    | int c =>
      simp [ltD] at h1 h2
      congr 1; omega
    | _ => exact (rk_no (by simp [rkD]) h1 h2).elim
  | .str a, b, h1, h2 => by
    cases b with
    | str c =>
      simp [ltD] at h1 h2
      congr 1
      exact List.le_antisymm h2 h1
    | _ => exact (rk_no (by simp [rkD]) h1 h2).elim
  | .non, b, h1, h2 => by
    cases b with
    | non => rfl
    | _ => exact (rk_no (by simp [rkD]) h1 h2).elim
  | .bl a, b, h1, h2 => by
    cases b with
    | bl c => cases a <;> cases c <;> first | rfl | (simp [ltD] at h1 h2)
    | _ => exact (rk_no (by simp [rkD]) h1 h2).elim
  | .ref a, b, h1, h2 => by
    cases b with
    | ref c =>
      simp [ltD] at h1 h2
      congr 1; omega
    | _ => exact (rk_no (by simp [rkD]) h1 h2).elim
theorem ltDs_tot : ∀ xs ys : List D, ltDs xs ys = false → ltDs ys xs = false → xs = ys
  | [], ys, h1, h2 => by cases ys <;> simp [ltDs] at h1 ⊢
  | x :: xs, ys, h1, h2 => by
    cases ys with
    | nil => simp [ltDs] at h2
    | cons y ys =>
      rw [ltDs_cons] at h1 h2
      by_cases e : x = y
      · subst e
        rw [if_pos rfl] at h1 h2
        rw [ltDs_tot xs ys h1 h2]
      · rw [if_neg e] at h1
        rw [if_neg (Ne.symm e)] at h2
        exact absurd (ltD_tot x y h1 h2) e
end
theorem rk_lt {a b c : D} (r : rkD a ≠ rkD b ∨ rkD b ≠ rkD c) (h1 : ltD a b = true) (h2 : ltD b c = true) (w : ∀ {x y : D}, ltD x y = true → rkD x ≤ rkD y) : ltD a c = true := by
  have h3 := w h1
  have h4 := w h2
  rw [ltD_rk (by omega)]
  exact decide_eq_true (by omega)
theorem lt_rk {x y : D} (h : ltD x y = true) : rkD x ≤ rkD y := by
  by_cases r : rkD x = rkD y
  · omega
  · rw [ltD_rk r] at h
    simp at h
    omega
mutual
theorem ltD_trans : ∀ a b c : D, ltD a b = true → ltD b c = true → ltD a c = true
  | .tup xs, b, c, h1, h2 => by
    cases b with
    | tup ys =>
      cases c with
      | tup zs =>
        simp only [ltD] at h1 h2 ⊢
        exact ltDs_trans xs ys zs h1 h2
      | _ => exact rk_lt (.inr (by simp [rkD])) h1 h2 lt_rk
    | _ => exact rk_lt (.inl (by simp [rkD])) h1 h2 lt_rk
  | .rol xs, b, c, h1, h2 => by
    cases b with
    | rol ys =>
      cases c with
      | rol zs =>
        simp only [ltD] at h1 h2 ⊢
        exact ltDs_trans xs ys zs h1 h2
      | _ => exact rk_lt (.inr (by simp [rkD])) h1 h2 lt_rk
    | _ => exact rk_lt (.inl (by simp [rkD])) h1 h2 lt_rk
  | .int a, b, c, h1, h2 => by
    cases b with
    | int b =>
      cases c with
      | int c =>
        simp [ltD] at h1 h2 ⊢
        omega
      | _ => exact rk_lt (.inr (by simp [rkD])) h1 h2 lt_rk
    | _ => exact rk_lt (.inl (by simp [rkD])) h1 h2 lt_rk
  | .str a, b, c, h1, h2 => by
    cases b with
    | str b =>
      cases c with
      | str c =>
        simp [ltD] at h1 h2 ⊢
        exact List.lt_trans h1 h2
      | _ => exact rk_lt (.inr (by simp [rkD])) h1 h2 lt_rk
    | _ => exact rk_lt (.inl (by simp [rkD])) h1 h2 lt_rk
  | .non, b, c, h1, h2 => by
    cases b with
    | non => simp [ltD, rkD] at h1
    | _ => exact rk_lt (.inl (by simp [rkD])) h1 h2 lt_rk
  | .bl a, b, c, h1, h2 => by
    cases b with
    | bl b =>
      cases c with
      | bl c => cases a <;> cases b <;> cases c <;> simp [ltD] at h1 h2 ⊢
      | _ => exact rk_lt (.inr (by simp [rkD])) h1 h2 lt_rk
    | _ => exact rk_lt (.inl (by simp [rkD])) h1 h2 lt_rk
  | .ref a, b, c, h1, h2 => by
    cases b with
    | ref b =>
      cases c with
      | ref c =>
        simp [ltD] at h1 h2 ⊢
        omega
      | _ => exact rk_lt (.inr (by simp [rkD])) h1 h2 lt_rk
    | _ => exact rk_lt (.inl (by simp [rkD])) h1 h2 lt_rk
theorem ltDs_trans : ∀ xs ys zs : List D, ltDs xs ys = true → ltDs ys zs = true → ltDs xs zs = true
  | [], ys, zs, h1, h2 => by
    cases ys with
    | nil => simp [ltDs] at h1
    | cons y ys =>
      cases zs with
      | nil => simp [ltDs] at h2
      | cons z zs => simp [ltDs]
  | x :: xs, ys, zs, h1, h2 => by
    cases ys with
    | nil => simp [ltDs] at h1
    | cons y ys =>
      cases zs with
      | nil => simp [ltDs] at h2
      | cons z zs =>
        rw [ltDs_cons] at h1 h2 ⊢
        by_cases e : x = y
        · subst e
          rw [if_pos rfl] at h1
          by_cases e2 : x = z
          · subst e2
            rw [if_pos rfl] at h2 ⊢
            exact ltDs_trans xs ys zs h1 h2
          · rw [if_neg e2] at h2 ⊢
            exact h2
        · rw [if_neg e] at h1
          by_cases e2 : y = z
          · subst e2
            rw [if_neg e]
            exact h1
          · rw [if_neg e2] at h2
            have h3 := ltD_trans x y z h1 h2
            by_cases e3 : x = z
            · subst e3
              rw [ltD_irr] at h3
              cases h3
            · rw [if_neg e3]
              exact h3
end
theorem ltD_asym {a b : D} (h : ltD a b = true) : ltD b a = false := by
  cases e : ltD b a with
  | false => rfl
  | true =>
    have := ltD_trans a b a h e
    rw [ltD_irr] at this
    cases this
theorem ltD_neg {x y z : D} (h1 : ltD y x = false) (h2 : ltD z y = false) : ltD z x = false := by
  cases e : ltD z x with
  | false => rfl
  | true =>
    cases e1 : ltD x y with
    | true =>
      have := ltD_trans z x y e e1
      rw [h2] at this
      cases this
    | false =>
      have := ltD_tot x y e1 h1
      subst this
      rw [h2] at e
      cases e
def cmpInt (f : Int → Int → Bool) : D → D → (Bool → Prop) → Prop
  | .int a, .int b, Q => Q (f a b)
  | _, _, _ => False
def cmpLt : D → D → (Bool → Prop) → Prop
  | .int a, .int b, Q => Q (decide (a < b))
  | .str a, .str b, Q => Q (decide (a < b))
  | .tup xs, .tup ys, Q => cmpbs xs ys = true ∧ pureDs xs = true ∧ pureDs ys = true ∧ (plains 190 xs = true ∨ plains 190 ys = true) ∧ Q (ltDs xs ys)
  | _, _, _ => False
def isNon (x y : D) (Q : Bool → Prop) : Prop := match y with
  | .non => Q (decide (x = .non))
  | .bl b => (match x with
    | .bl a => Q (decide (a = b))
    | _ => False)
  | _ => False

def opCmp (o : Cop) (x y : D) (h : AH) (Q : Bool → Prop) : Prop := match o with
  | .eq => eqOkX x y h Q
  | .ne => eqOk x y h fun c => Q (!c)
  | .lt => cmpLt x y Q
  | .le => cmpInt (fun a b => decide (a ≤ b)) x y Q
  | .gt => cmpInt (fun a b => decide (b < a)) x y Q
  | .ge => cmpInt (fun a b => decide (b ≤ a)) x y Q
  | .isin => memOk x y h Q
  | .notin => memOk x y h fun c => Q (!c)
  | .is_ => isNon x y Q
  | .isnt => isNon x y fun c => Q (!c)
  | .nes => neD x y h Q

def atI {α : Type} (xs : List α) (i : Int) : Option α := if 0 ≤ i then xs[i.toNat]? else if -(xs.length : Int) ≤ i then xs[(i + xs.length).toNat]? else none
def ixAt (ds : List D) (y : D) (h : AH) (Q : VQ) : Prop := match y with
  | .int i => (match atI ds i with
    | some d => Q d h
    | none => False)
  | _ => False
def ixStr (s : Sx) (y : D) (h : AH) (Q : VQ) : Prop := match y with
  | .int i => s.length ≤ LINE ∧ (match atI s i with
    | some c => Q (.str [c]) h
    | none => False)
  | _ => False
def opIx (x y : D) (h : AH) (Q : VQ) : Prop := match x with
  | .tup ds => ixAt ds y h Q
  | .rol ds => ixAt ds y h Q
  | .str s => ixStr s y h Q
  | .ref p => (match h p with
    | some (.lst xs) => ixAt xs y h Q
    | some (.dct kd kvs) => keyOk kd y = true ∧ (match kvGet kvs y with
      | some d => Q d h
      | none => False)
    | some (.rdct kd kvs) => keyOk kd y = true ∧ (match kvGet kvs y with
      | some d => Q d h
      | none => False)
    | some (.dcn kvs) => nkOk y = true ∧ (match kvGet kvs y with
      | some d => Q d h
      | none => False)
    | _ => False)
  | _ => False

/-- where a slice's bound lies -/
def clip (n d : Nat) : Option Int → Nat
  | none => d
  | some i => if i < 0 then (i + n).toNat else min i.toNat n
def cut {α : Type} (xs : List α) (lo hi : Option Int) : List α := (xs.drop (clip xs.length 0 lo)).take (clip xs.length xs.length hi - clip xs.length 0 lo)
def opSl (x : D) (lo hi : Option Int) (h : AH) (Q : VQ) : Prop := match x with
  | .tup ds => ¬ (clip ds.length 0 lo = 0 ∧ clip ds.length ds.length hi = ds.length) ∧ Q (.tup (cut ds lo hi)) h
  | .rol ds => ∀ r, h r = none → Q (.ref r) (up h r (.lst (cut ds lo hi)))
  | .str s => s.length ≤ LINE ∧ Q (.str (cut s lo hi)) h
  | .ref p => (match h p with
    | some (.lst xs) => ∀ r, h r = none → Q (.ref r) (up h r (.lst (cut xs lo hi)))
    | _ => False)
  | _ => False

/-- a tuple's slice, the whole of it too -/
def opSlW (x : D) (lo hi : Option Int) (h : AH) (Q : VQ) : Prop := match x with
  | .tup ds => Q (.tup (cut ds lo hi)) h
  | _ => False

def intsOf : List D → Option (List Int)
  | [] => some []
  | .int i :: ds => (intsOf ds).map (i :: ·)
  | _ => none
def bls : List D → Option (List Bool)
  | [] => some []
  | .bl i :: ds => (bls ds).map (i :: ·)
  | _ => none
/-- what may be read as a list or a tuple -/
def seqOf : D → AH → Option (List D)
  | .tup xs, _ => some xs
  | .rol xs, _ => some xs
  | .ref p, h => match h p with
    | some (.lst xs) => some xs
    | _ => none
  | _, _ => none

/-- one argument, two -/
def arg1 (ds : List D) (f : D → Prop) : Prop := match ds with
  | [d] => f d
  | _ => False
def arg2 (ds : List D) (f : D → D → Prop) : Prop := match ds with
  | [d, e] => f d e
  | _ => False
def anInt (d : D) (f : Int → Prop) : Prop := match d with
  | .int i => f i
  | _ => False
def aRef (d : D) (f : Nat → Prop) : Prop := match d with
  | .ref p => f p
  | _ => False
def aLst (d : D) (h : AH) (f : Nat → List D → Prop) : Prop := match d with
  | .ref p => (match h p with
    | some (.lst xs) => f p xs
    | _ => False)
  | _ => False
def aDct (d : D) (h : AH) (f : Nat → Nat → List (D × D) → Prop) : Prop := match d with
  | .ref p => (match h p with
    | some (.dct k kvs) => f p k kvs
    | _ => False)
  | _ => False
/-- a dict, locked or not -/
def aDctR (d : D) (h : AH) (f : Nat → Nat → List (D × D) → Prop) : Prop := match d with
  | .ref p => (match h p with
    | some (.dct k kvs) => f p k kvs
    | some (.rdct k kvs) => f p k kvs
    | _ => False)
  | _ => False
def aSome {α : Type} (o : Option α) (f : α → Prop) : Prop := match o with
  | some a => f a
  | none => False
def lenOk (d : D) (h : AH) (f : Nat → Prop) : Prop := match d with
  | .str s => s.length ≤ LINE ∧ f s.length
  | .ref p => (match h p with
    | some (.lst xs) => f xs.length
    | some (.dct _ kvs) => f kvs.length
    | some (.rdct _ kvs) => f kvs.length
    | _ => False)
  | d => aSome (seqOf d h) fun xs => f xs.length
def toInt (d : D) (f : Int → Prop) : Prop := match d with
  | .int i => f i
  | .bl b => f (if b then 1 else 0)
  | _ => False
def aTup (d : D) (f : List D → Prop) : Prop := match d with
  | .tup xs => f xs
  | _ => False
def strsOf : List D → Option (List Sx)
  | [] => some []
  | .str s :: ds => (strsOf ds).map (s :: ·)
  | _ => none
/-- what sorted takes of tuples: as < may be asked of any two, their first ones of one type -/
def tupsOk (xs : List D) : Prop := pureDs xs = true ∧ plains 190 xs = true ∧ (∃ t, (t = 2 ∨ t = 3 ∨ t = 4) ∧ ∀ x ∈ xs, ∃ y r, x = .tup (y :: r) ∧ rkD y = t) ∧ ∀ x ∈ xs, ∀ y ∈ xs, cmpb x y = true
def sortOk (xs : List D) : Prop := xs.length < 2 ∨ (∃ ss, strsOf xs = some ss ∧ ss.length < 64) ∨ (∃ ns, intsOf xs = some ns) ∨ tupsOk xs
def sortP (d : D) (h : AH) (f : List D → Prop) : Prop := match d with
  | .ref p => (match h p with
    | some (.lst xs) => sortOk xs ∧ f xs
    | some (.dct 0 kvs) => (∃ ss, strsOf (kvs.map (·.1)) = some ss ∧ ss.length < 64) ∧ f (kvs.map (·.1))
    | some (.rdct 0 kvs) => (∃ ss, strsOf (kvs.map (·.1)) = some ss ∧ ss.length < 64) ∧ f (kvs.map (·.1))
    | _ => False)
  | _ => False
def opBlt (b : Blt) (ds : List D) (h : AH) (Q : VQ) : Prop := match b with
  | .len => arg1 ds fun d => lenOk d h fun n => Q (.int n) h
  | .min2 => arg2 ds fun x y => anInt x fun a => anInt y fun b => Q (.int (if b < a then b else a)) h
  | .max2 => arg2 ds fun x y => anInt x fun a => anInt y fun b => Q (.int (if b > a then b else a)) h
  | .int1 => arg1 ds fun d => toInt d fun i => Q (.int i) h
  | .abs => arg1 ds fun d => anInt d fun a => Q (.int (if a < 0 then -a else a)) h
  | .sum => arg1 ds fun d => aLst d h fun _ xs => aSome (intsOf xs) fun ns => Q (.int ns.sum) h
  | .all => arg1 ds fun d => aLst d h fun _ xs => aSome (bls xs) fun bs => Q (.bl (bs.all id)) h
  | .any => arg1 ds fun d => aLst d h fun _ xs => aSome (bls xs) fun bs => Q (.bl (bs.any id)) h
  | .sortd => arg1 ds fun d => sortP d h fun xs => ∀ ys : List D, ys.Perm xs → ys.Pairwise (fun a b => ltD b a = false) → ∀ r, h r = none → Q (.ref r) (up h r (.lst ys))
  | .list => arg1 ds fun d => aSome (seqOf d h) fun xs => ∀ r, h r = none → Q (.ref r) (up h r (.lst xs))
  | .tuple => arg1 ds fun d => aSome (seqOf d h) fun xs => Q (.tup xs) h
  | .dict1 => arg1 ds fun d => aDctR d h fun _ k kvs => ∀ r, h r = none → Q (.ref r) (up h r (.dct k kvs))
  | .klist => arg1 ds fun d => aDctR d h fun _ _ kvs => ∀ r, h r = none → Q (.ref r) (up h r (.lst (kvs.map (·.1))))
  | .max1 => arg1 ds fun d => aLst d h fun _ xs => aSome (intsOf xs) fun ns => ns ≠ [] ∧ ∀ m, m ∈ ns → (∀ y, y ∈ ns → y ≤ m) → Q (.int m) h
  | .sorted => arg1 ds fun d => aDctR d h fun _ _ kvs => aSome (strsOf (kvs.map (·.1))) fun ss => ss.length < 64 ∧ ∀ ys : List Sx, ys.Perm ss → ∀ r, h r = none → Q (.ref r) (up h r (.lst (ys.map .str)))
  | _ => False

def opIsi : D → Ty → AH → Option Bool
  | .non, _, _ => some false
  | .bl _, .bool, _ => some true
  | .bl _, .int, _ => some true
  | .bl _, _, _ => some false
  | .int _, .int, _ => some true
  | .int _, _, _ => some false
  | .str _, .str, _ => some true
  | .str _, _, _ => some false
  | .tup _, .tuple, _ => some true
  | .tup _, _, _ => some false
  | .ref p, t, h => match h p with
    | some (.lst _) => some (match t with
      | .list => true
      | _ => false)
    | some (.dct 0 _) => some (match t with
      | .dict => true
      | _ => false)
    | _ => none
  | .rol _, _, _ => none

def mergeL : List (D × D) → List (D × D) → List (D × D)
  | acc, [] => acc
  | acc, kv :: r => mergeL (kvPut acc kv.1 kv.2) r
def aStr (d : D) (f : Sx → Prop) : Prop := match d with
  | .str s => f s
  | _ => False
def joinS (s : Sx) : List Sx → Sx
  | [] => []
  | [p] => p
  | p :: q :: r => p ++ (s ++ joinS s (q :: r))
def opMth (m : Mth) (x : D) (ds : List D) (h : AH) (Q : VQ) : Prop := match m with
  | .append => arg1 ds fun d => aLst x h fun p xs => xs.length < LINE ∧ Q .non (up h p (.lst (xs ++ [d])))
  | .pop => ds = [] ∧ aLst x h fun p xs => aSome xs[xs.length - 1]? fun y => Q y (up h p (.lst xs.dropLast))
  | .popAt => arg1 ds fun d => anInt d fun i => aLst x h fun p xs => (0 ≤ i ∧ i < 2 ^ 62) ∧ aSome xs[i.toNat]? fun y => Q y (up h p (.lst (xs.eraseIdx i.toNat)))
  | .extend => arg1 ds fun d => aLst x h fun p xs => aLst d h fun q ys => xs.length + ys.length ≤ LINE ∧ Q .non (up h p (.lst (xs ++ ys)))
  | .extendT => arg1 ds fun d => aLst x h fun p xs => aTup d fun ys => xs.length + ys.length ≤ LINE ∧ Q .non (up h p (.lst (xs ++ ys)))
  | .reverse => ds = [] ∧ aLst x h fun p xs => Q .non (up h p (.lst xs.reverse))
  | .clear => ds = [] ∧ aLst x h fun p xs => Q .non (up h p (.lst []))
  | .get1 => arg1 ds fun k => aDct x h fun p kd kvs => keyOk kd k = true ∧ Q ((kvGet kvs k).getD .non) h
  | .get2 => arg2 ds fun k d => aDct x h fun p kd kvs => keyOk kd k = true ∧ Q ((kvGet kvs k).getD d) h
  | .update => arg1 ds fun d => aDct x h fun p kd kvs => aDct d h fun r kd' more => p ≠ r ∧ kd = 0 ∧ kd' = 0 ∧ kvs.length + more.length ≤ LINE ∧ Q .non (up h p (.dct 0 (mergeL kvs more)))
  | .insert => arg2 ds fun y d => anInt y fun i => aLst x h fun p xs => (0 ≤ i ∧ i < 2 ^ 62) ∧ xs.length < LINE ∧ Q .non (up h p (.lst (xs.take i.toNat ++ [d] ++ xs.drop i.toNat)))
  | .dclear => ds = [] ∧ aDct x h fun p kd kvs => kd = 0 ∧ Q .non (up h p (.dct 0 []))
  | .index => arg1 ds fun d => anInt d fun i => aLst x h fun _ xs => aSome (intsOf xs) fun ns => i ∈ ns ∧ Q (.int (ns.idxOf i : Nat)) h
  | .sindex => arg1 ds fun d => aStr d fun t => aStr x fun s => ∃ c, t = [c] ∧ c ∈ s ∧ ∀ i : Nat, s[i]? = some c → Q (.int (i : Nat)) h
  | .join => arg1 ds fun d => aStr x fun s => aSome (seqOf d h) fun xs => aSome (strsOf xs) fun ss => (ss.map (·.length)).sum + ss.length * s.length ≤ LINE ∧ Q (.str (joinS s ss)) h
  | _ => False

/-- of what a method is asked -/
def recvOk (m : Mth) (d : D) (h : AH) : Prop := match m with
  | .get1 => aDct d h fun _ _ _ => True
  | .get2 => aDct d h fun _ _ _ => True
  | .update => aDct d h fun _ _ _ => True
  | .dclear => aDct d h fun _ _ _ => True
  | .join => aStr d fun _ => True
  | .sindex => aStr d fun _ => True
  | _ => aLst d h fun _ _ => True
/-- o[i] = v -/
def opSet (x y v : D) (h : AH) (Q : AH → Prop) : Prop := match x with
  | .ref p => (match h p with
    | some (.lst xs) => anInt y fun i => (0 ≤ i ∧ i < xs.length) ∧ Q (up h p (.lst (xs.set i.toNat v)))
    | some (.dct kd kvs) => keyOk kd y = true ∧ kvs.length < LINE ∧ Q (up h p (.dct kd (kvPut kvs y v)))
    | some (.dcn kvs) => nkOk y = true ∧ kvs.length < LINE ∧ Q (up h p (.dcn (kvPut kvs y v)))
    | _ => False)
  | _ => False

def keysOk (k : Nat) : List (D × D) → Bool
  | [] => true
  | kv :: r => keyOk k kv.1 && keysOk k r
def pairUp : List D → Option (List (D × D))
  | [] => some []
  | a :: b :: r => (pairUp r).map ((a, b) :: ·)
  | _ => none

/-- x op= y of numbers, of texts -/
def opAug (o : Bop) (x y : D) (Q : D → Prop) : Prop := match o with
  | .add => (match x with
    | .int a => (match y with
      | .int b => Q (.int (a + b))
      | _ => False)
    | .str a => (match y with
      | .str b => a.length + b.length ≤ LINE ∧ Q (.str (a ++ b))
      | _ => False)
    | _ => False)
  | .sub => (match x with
    | .int a => (match y with
      | .int b => Q (.int (a - b))
      | _ => False)
    | _ => False)
  | _ => False

/-! ### what is walked -/
def rangeL (lo hi : Int) : List D := (List.range (hi - lo).toNat).map fun (k : Nat) => D.int (lo + (k : Int))
def enumL (i : Nat) : List D → List D
  | [] => []
  | x :: xs => .tup [.int i, x] :: enumL (i + 1) xs
def aRng (ds : List D) (f : Int → Int → Prop) : Prop := match ds with
  | [.int n] => (-(2 ^ 62) ≤ n ∧ n ≤ LINE) ∧ f 0 n
  | [.int a, .int b] => ((-(2 ^ 62) ≤ a ∧ a ≤ LINE) ∧ -(2 ^ 62) ≤ b ∧ b ≤ LINE ∧ (b - a).toNat ≤ LINE) ∧ f a b
  | _ => False
/-- Q of the items, and of what must stay true of the heap while they are walked -/
def walk : Itk → List D → AH → (List D → (AH → Prop) → Prop) → Prop
  | .seq, [.tup xs], _, Q => Q xs fun _ => True
  | .seq, [.rol xs], _, Q => Q xs fun _ => True
  | .seq, [.str s], _, Q => Q (s.map fun c => .str [c]) fun _ => True
  | .seq, [.ref p], h, Q => match h p with
    | some (.lst xs) => Q xs fun h' => h' p = some (.lst xs)
    | _ => False
  | .rng, [.int n], _, Q => -(2 ^ 62) ≤ n ∧ n < 2 ^ 62 ∧ Q (rangeL 0 n) fun _ => True
  | .rng, [.int a, .int b], _, Q => (-(2 ^ 62) ≤ a ∧ a < 2 ^ 62 ∧ -(2 ^ 62) ≤ b ∧ b < 2 ^ 62) ∧ Q (rangeL a b) fun _ => True
  | .rng, [.int a, .int b, .int c], _, Q => (c = -1 ∧ -(2 ^ 62) ≤ a ∧ a < 2 ^ 62 ∧ -(2 ^ 62) ≤ b ∧ b < 2 ^ 62) ∧ Q (rangeL (b + 1) (a + 1)).reverse fun _ => True
  | .rrng, [.int n], _, Q => -(2 ^ 62) ≤ n ∧ n < 2 ^ 62 ∧ Q (rangeL 0 n).reverse fun _ => True
  | .enum, [.ref p], h, Q => match h p with
    | some (.lst xs) => Q (enumL 0 xs) fun h' => h' p = some (.lst xs)
    | _ => False
  | .rev, [.ref p], h, Q => match h p with
    | some (.lst xs) => Q xs.reverse fun h' => h' p = some (.lst xs)
    | _ => False
  | .rev, [.tup xs], _, Q => Q xs.reverse fun _ => True
  | .rev, [.str s], _, Q => s.length ≤ LINE ∧ Q (s.map fun c => .str [c]).reverse fun _ => True
  | .zip, [.tup xs, .tup ys], _, Q => Q (zipL xs ys) fun _ => True
  | .zip, [.ref p, .ref q], h, Q => (match h p, h q with
    | some (.lst xs), some (.lst ys) => Q (zipL xs ys) fun h' => h' p = some (.lst xs) ∧ h' q = some (.lst ys)
    | _, _ => False)
  | .keys, [.ref p], h, Q => match h p with
    | some (.rdct _ kvs) => Q (kvs.map (·.1)) fun _ => True
    | _ => False
  | .values, [.ref p], h, Q => match h p with
    | some (.rdct _ kvs) => Q (kvs.map (·.2)) fun _ => True
    | _ => False
  | .items, [.ref p], h, Q => match h p with
    | some (.rdct _ kvs) => Q (kvs.map fun kv => .tup [kv.1, kv.2]) fun _ => True
    | _ => False
  | _, _, _, _ => False

def setT : Tgt → D → St → Option St
  | .nm i, d, σ => some (σ.set i (some d))
  | .tp ts, .tup ds, σ => setTs ts ds σ
  | _, _, _ => none
where
  setTs : List Nat → List D → St → Option St
    | [], [], σ => some σ
    | i :: is, d :: ds, σ => setTs is ds (σ.set i (some d))
    | _, _, _ => none

def forget (σ : St) : List Nat → St
  | [] => σ
  | v :: vs => (forget σ vs).set v none

/-- a loop over xs by an invariant over (turn, names, heap) -/
def loopW (xs : List D) (ok : AH → Prop) (body : D → St → AH → (St → AH → Prop) → Prop) (done : St → AH → Prop) (σ : St) (h : AH) : Prop :=
  ∃ P : Nat → St → AH → Prop, P 0 σ h ∧ (∀ i σ h, P i σ h → ok h) ∧ (∀ i x σ h, xs[i]? = some x → P i σ h → body x σ h (P (i + 1))) ∧ ∀ σ h, P xs.length σ h → done σ h
/-- a comprehension by an invariant over (turn, list so far, heap) -/
def compW (xs : List D) (ok : AH → Prop) (body : D → AH → (D → AH → Prop) → (AH → Prop) → Prop) (done : List D → AH → Prop) (h : AH) : Prop :=
  ∃ P : Nat → List D → AH → Prop, P 0 [] h ∧ (∀ i acc h, P i acc h → ok h ∧ acc.length ≤ i) ∧ xs.length ≤ LINE ∧
    (∀ i x acc h, xs[i]? = some x → P i acc h → body x h (fun y h' => P (i + 1) (acc ++ [y]) h') (fun h' => P (i + 1) acc h')) ∧ ∀ acc h, P xs.length acc h → done acc h

/-- the entries of a dict that stands free -/
def aVals (d : D) (h : AH) (f : List (D × D) → Prop) : Prop := match d with
  | .ref p => (match h p with
    | some (.dct 0 kvs) => f kvs
    | _ => False)
  | _ => False
/-- an instance of a class of the program -/
def aIns (d : D) (h : AH) (f : Nat → Sx → List (Sx × D) → Prop) : Prop := match d with
  | .ref p => (match h p with
    | some (.ins c fs) => f p c fs
    | _ => False)
  | _ => False
def putA (f : Sx) (v : D) : List (Sx × D) → List (Sx × D)
  | [] => [(f, v)]
  | (g, x) :: r => if g = f then (g, v) :: r else (g, x) :: putA f v r
/-- what makes an instance of c; its def m -/
def mkN (c : Sx) : Sx := 1114112 :: c
def metN (c m : Sx) : Sx := c ++ 46 :: m
def sInit : Sx := [95, 95, 105, 110, 105, 116, 95, 95]
/-- the dict that a name holds -/
def lockAt (σ : St) (i : Nat) (h : AH) (f : Nat → Nat → List (D × D) → Prop) : Prop := match σ[i]? with
  | some (some (.ref p)) => (match h p with
    | some (.dct kd kvs) => f p kd kvs
    | _ => False)
  | _ => False
/-- min of a list of numbers, None of none -/
def minD (ds : List D) (h : AH) (Q : VQ) : Prop := arg1 ds fun d => aLst d h fun _ xs => aSome (intsOf xs) fun ns => (ns = [] → Q .non h) ∧ ∀ m, m ∈ ns → (∀ y, y ∈ ns → m ≤ y) → Q (.int m) h
/-! ### the readings -/
mutual
def wE (C : Cx) : E → St → AH → VQ → Prop
  | .var i, σ, h, Q => match σ[i]? with
    | some (some d) => Q d h
    | _ => False
  | .int n, _, h, Q => Q (.int n) h
  | .str s, _, h, Q => Q (.str s) h
  | .bl b, _, h, Q => Q (.bl b) h
  | .non, _, h, Q => Q .non h
  | .gint _ n, _, h, Q => Q (.int n) h
  | .gtp _ ss, _, h, Q => Q (.tup (ss.map .str)) h
  | .tup es, σ, h, Q => wEs C es σ h fun ds h1 => ds.length ≤ LINE ∧ Q (.tup ds) h1
  | .lst es, σ, h, Q => wEs C es σ h fun ds h1 => ds.length ≤ LINE ∧ ∀ r, h1 r = none → Q (.ref r) (up h1 r (.lst ds))
  | .dct k es, σ, h, Q => match es with
    | .nil => ∀ r, h r = none → Q (.ref r) (up h r (.dct k []))
    | .cons e es => ∀ r, h r = none → wE C e σ (up h r (.dct k [])) fun d h1 => wEs C es σ h1 fun ds h2 => h2 r = some (.dct k []) ∧ aSome (pairUp (d :: ds)) fun kvs => keysOk k kvs = true ∧ Q (.ref r) (up h2 r (.dct k (mergeL [] kvs)))
  | .dcn, _, h, Q => ∀ r, h r = none → Q (.ref r) (up h r (.dcn []))
  | .bin o a b, σ, h, Q => wE C a σ h fun x h1 => wE C b σ h1 fun y h2 => opBin o x y h2 Q
  | .neg a, σ, h, Q => wE C a σ h fun x h1 => match x with
    | .int i => Q (.int (-i)) h1
    | _ => False
  | .cmp o a b, σ, h, Q => wE C a σ h fun x h1 => wE C b σ h1 fun y h2 => opCmp o x y h2 fun c => Q (.bl c) h2
  | .chn o o' a b c, σ, h, Q => wE C a σ h fun x h1 => wE C b σ h1 fun y h2 => opCmp o x y h2 fun k => match k with
    | true => wE C c σ h2 fun z h3 => opCmp o' y z h3 fun k' => Q (.bl k') h3
    | false => Q (.bl false) h2
  | .bop isAnd es, σ, h, Q => wB C isAnd es σ h Q
  | .not a, σ, h, Q => wE C a σ h fun x h1 => match x with
    | .bl b => Q (.bl (!b)) h1
    | _ => False
  | .ite c a b, σ, h, Q => wE C c σ h fun x h1 => match x with
    | .bl true => wE C a σ h1 Q
    | .bl false => wE C b σ h1 Q
    | _ => False
  | .ix a i, σ, h, Q => wE C a σ h fun x h1 => wE C i σ h1 fun y h2 => opIx x y h2 Q
  | .sl a lo hi, σ, h, Q => wE C a σ h fun x h1 => wO C lo σ h1 fun l h2 => wO C hi σ h2 fun u h3 => opSl x l u h3 Q
  | .call f es, σ, h, Q => wEs C es σ h fun ds h1 => C.call f ds h1 Q C.ex
  | .callD f k es, σ, h, Q => wEs C es σ h fun ds h1 => C.call f (ds ++ List.replicate k .non) h1 Q C.ex
  | .smv e, σ, h, Q => wE C e σ h fun x h1 => aVals x h1 fun kvs => aSome (intsOf (kvs.map (·.2))) fun ns => Q (.int ns.sum) h1
  | .fld e f, σ, h, Q => wE C e σ h fun x h1 => aIns x h1 fun _ _ fs => aSome (fs.lookup f) fun v => Q v h1
  | .newo c es, σ, h, Q => wEs C es σ h fun ds h1 => C.call (mkN c) ds h1 Q C.ex
  | .mcall c m o es, σ, h, Q => wE C o σ h fun x h1 => aIns x h1 fun p c' fs => c' = c ∧ fs.lookup m = none ∧ wEs C es σ h1 fun ds h2 => C.call (metN c m) (.ref p :: ds) h2 Q C.ex
  | .blt b es, σ, h, Q => wEs C es σ h fun ds h1 => opBlt b ds h1 Q
  | .isi a t, σ, h, Q => wE C a σ h fun x h1 => match opIsi x t h1 with
    | some b => Q (.bl b) h1
    | none => False
  | .mth m o es, σ, h, Q => wE C o σ h fun x h1 => recvOk m x h1 ∧ wEs C es σ h1 fun ds h2 => opMth m x ds h2 Q
  | .lc elt t own k src ifs, σ, h, Q => wEs C src σ h fun ds h1 => walk k ds h1 fun xs ok =>
      compW xs ok (fun x h2 yes no => match setT t x (forget σ own) with
        | some σ' => wB C true ifs σ' h2 fun c h3 => match c with
          | .bl true => wE C elt σ' h3 yes
          | .bl false => no h3
          | _ => False
        | none => False) (fun acc h2 => ∀ r, h2 r = none → Q (.ref r) (up h2 r (.lst acc))) h1
  | .bad, _, _, _ => False
  | .lock i e, σ, h, Q => lockAt σ i h fun p kd kvs => wE C e σ (up h p (.rdct kd kvs)) fun d h' => Q d (up h' p (.dct kd kvs))
  | .lzip es, σ, h, Q => wEs C es σ h fun ds h2 => arg2 ds fun x y => aTup x fun xs => aTup y fun ys => ∀ r, h2 r = none → Q (.ref r) (up h2 r (.lst (zipL xs ys)))
  | .lrng es, σ, h, Q => wEs C es σ h fun ds h1 => aRng ds fun lo hi => ∀ r, h1 r = none → Q (.ref r) (up h1 r (.lst (rangeL lo hi)))
  | .rev a, σ, h, Q => wE C a σ h fun x h1 => aLst x h1 fun _ xs => ∀ r, h1 r = none → Q (.ref r) (up h1 r (.lst xs.reverse))
  | .mnd es, σ, h, Q => wEs C es σ h fun ds h1 => minD ds h1 Q
  | .orv a b, σ, h, Q => wE C a σ h fun x h1 => match x with
    | .non => wE C b σ h1 Q
    | .int i => (i ≠ 0 → Q (.int i) h1) ∧ (i = 0 → wE C b σ h1 Q)
    | _ => False
  | .slw a lo hi, σ, h, Q => wE C a σ h fun x h1 => wO C lo σ h1 fun l h2 => wO C hi σ h2 fun u h3 => opSlW x l u h3 Q
  | .tlr a, σ, h, Q => wE C a σ h fun x h1 => aTup x fun xs => Q (.tup xs.tail.reverse) h1
  | .tix _ tab a, σ, h, Q => wE C a σ h fun x h1 => match x with
    | .str s => (match tab.lookup s with
      | some t => Q (.str t) h1
      | none => False)
    | _ => False
def wEs (C : Cx) : Es → St → AH → (List D → AH → Prop) → Prop
  | .nil, _, h, Q => Q [] h
  | .cons e es, σ, h, Q => wE C e σ h fun d h1 => wEs C es σ h1 fun ds h2 => Q (d :: ds) h2
/-- and, or: the empty one is True, False -/
def wB (C : Cx) : Bool → Es → St → AH → VQ → Prop
  | isAnd, .nil, _, h, Q => Q (.bl isAnd) h
  | isAnd, .cons e es, σ, h, Q => wE C e σ h fun d h1 => match d with
    | .bl b => (match b == isAnd with
      | true => wB C isAnd es σ h1 Q
      | false => Q (.bl b) h1)
    | _ => False
def wO (C : Cx) : Es → St → AH → (Option Int → AH → Prop) → Prop
  | .nil, _, h, Q => Q none h
  | .cons e .nil, σ, h, Q => wE C e σ h fun d h1 => match d with
    | .int n => Q (some n) h1
    | _ => False
  | .cons _ (.cons _ _), _, _, _ => False
end
/-- a test -/
def wT (C : Cx) (e : E) (σ : St) (h : AH) (Q : Bool → AH → Prop) : Prop := wE C e σ h fun d h1 => match d with
  | .bl b => Q b h1
  | _ => False

mutual
def wS (C : Cx) : S → Ends → St → AH → Prop
  | .asg t e, R, σ, h => wE C e σ h fun d h1 => match setT t d σ with
    | some σ' => R.nx σ' h1
    | none => False
  | .asgl ts e, R, σ, h => wE C e σ h fun d h1 => aLst d h1 fun _ xs => match setT (.tp ts) (.tup xs) σ with
    | some σ' => R.nx σ' h1
    | none => False
  | .sfld c o f e, R, σ, h => wE C e σ h fun v h1 => wE C o σ h1 fun x h2 => aIns x h2 fun p c' fs => c' = c ∧ fs.length < 1000 ∧ R.nx σ (up h2 p (.ins c (putA f v fs)))
  | .six o i e, R, σ, h => wE C e σ h fun v h1 => wE C o σ h1 fun x h2 => wE C i σ h2 fun y h3 => opSet x y v h3 fun h4 => R.nx σ h4
  | .aug i o e, R, σ, h => match σ[i]? with
    | some (some x) => wE C e σ h fun y h1 => opAug o x y fun z => R.nx (σ.set i (some z)) h1
    | _ => False
  | .ex e, R, σ, h => wE C e σ h fun _ h1 => R.nx σ h1
  | .ret e, R, σ, h => wE C e σ h R.rt
  | .retN, R, σ, h => R.rt .non h
  | .ife c a b, R, σ, h => wT C c σ h fun k h1 => match k with
    | true => wSs C a R σ h1
    | false => wSs C b R σ h1
  | .whl c b, R, σ, h => ∃ W : Nat → St → AH → Prop, (∃ m, W m σ h) ∧ ∀ m σ h, W m σ h → wT C c σ h fun k h1 => match k with
    | true => wSs C b { nx := fun σ' h' => ∃ m', m' < m ∧ W m' σ' h', ct := fun σ' h' => ∃ m', m' < m ∧ W m' σ' h', bk := R.nx, rt := R.rt } σ h1
    | false => R.nx σ h1
  | .for_ t k src b, R, σ, h => wEs C src σ h fun ds h1 => walk k ds h1 fun xs ok =>
      loopW xs ok (fun x σ h P => match setT t x σ with
        | some σ' => wSs C b { nx := P, ct := P, bk := R.nx, rt := R.rt } σ' h
        | none => False) R.nx σ h1
  | .pass, R, σ, h => R.nx σ h
  | .brk, R, σ, h => R.bk σ h
  | .cont, R, σ, h => R.ct σ h
  | .bad, _, _, _ => False
  | .lock i s, R, σ, h => lockAt σ i h fun p kd kvs => wS C s { nx := fun σ' h' => R.nx σ' (up h' p (.dct kd kvs)), rt := fun d h' => R.rt d (up h' p (.dct kd kvs)), bk := fun σ' h' => R.bk σ' (up h' p (.dct kd kvs)), ct := fun σ' h' => R.ct σ' (up h' p (.dct kd kvs)) } σ (up h p (.rdct kd kvs))
  | .lock2 i s, R, σ, h => (lockAt σ i h fun p kd kvs => wS C s { nx := fun σ' h' => R.nx σ' (up h' p (.dct kd kvs)), rt := fun d h' => R.rt d (up h' p (.dct kd kvs)), bk := fun σ' h' => R.bk σ' (up h' p (.dct kd kvs)), ct := fun σ' h' => R.ct σ' (up h' p (.dct kd kvs)) } σ (up h p (.rdct kd kvs))) ∨ wS C s R σ h
def wSs (C : Cx) : Ss → Ends → St → AH → Prop
  | .nil, R, σ, h => R.nx σ h
  | .cons s ss, R, σ, h => wS C s { R with nx := fun σ' h' => wSs C ss R σ' h' } σ h
end

/-- a def: its parameters' number, all its names' number, its body -/
structure FD where
  ps : Nat
  n : Nat
  body : Ss
abbrev Prog := Sx → Option FD
def pOf (l : List (Sx × FD)) : Prog := fun f => (l.find? fun p => p.1 == f).map (·.2)
def start (fd : FD) (ds : List D) : St := ds.map some ++ List.replicate (fd.n - fd.ps) none
def run (P : Prog) : Nat → Sx → List D → AH → VQ → XP → Prop
  | 0, _, _, _, _, _ => False
  | n + 1, f, ds, h, Q, X => match P f with
    | some fd => ds.length = fd.ps ∧ wSs ⟨run P n, X⟩ fd.body { nx := fun _ h' => Q .non h', rt := Q, bk := fun _ _ => False, ct := fun _ _ => False } (start fd ds) h
    | none => match f with
      | 1114112 :: c => ∀ r, h r = none → run P n (metN c sInit) (.ref r :: ds) (up h r (.ins c [])) (fun d h2 => d = .non ∧ Q (.ref r) h2) X
      | _ => False
end
end M
end
section
/-! Sound1: how the model's values and heap bear the IR's. -/
namespace Snd
open PySem L2
abbrev SD := M.D
/-- what stands in the frame, the program, the world -/
structure Fr where
  K : PySem.W.Frag
  P : Program
  w : World
  mg : Str → Option Value
instance : Coe Fr PySem.W.Frag := ⟨Fr.K⟩
abbrev _root_.L2.Cx.F (X : L2.Cx) : Fr := ⟨X.K, X.prog, X.w, X.mg⟩

def sV (s : M.Sx) : Str := ⟨s.toArray⟩
def sOk (s : M.Sx) : Prop := ∀ c ∈ s, c < 0x110000
def KTup (K : Fr) (a : Addr) (vs : List V) : Prop := ∃ (o : Obj) (its : Array Value) (n : Nat), K.K.lookup a = some o ∧ o.cls = .type "tuple" ∧ o.data = .seq its n ∧ its.size ≤ sizeLine ∧ Vals vs its.toList
def KLst (K : Fr) (a : Addr) (vs : List V) : Prop := ∃ (o : Obj) (its : Array Value) (n : Nat), K.K.lookup a = some o ∧ o.cls = .type "list" ∧ o.dict = none ∧ o.data = .seq its n ∧ its.size ≤ sizeLine ∧ Vals vs its.toList

mutual
def Rep (K : Fr) (H : Hp) : SD → V → Prop
  | .non, v => v = .non
  | .bl b, v => v = .bl b
  | .int i, v => v = .int i
  | .str s, v => v = .str (sV s) ∧ sOk s
  | .tup ds, v => ∃ a vs, v = .ref a ∧ (H a = some (.tup vs) ∨ KTup K a vs) ∧ Reps K H ds vs
  | .rol ds, v => ∃ a vs, v = .ref a ∧ ((∃ o, H a = some (.frz o (.lst vs))) ∨ KLst K a vs) ∧ Reps K H ds vs
  | .ref a, v => v = .ref a
def Reps (K : Fr) (H : Hp) : List SD → List V → Prop
  | [], vs => vs = []
  | d :: ds, vs => ∃ v r, vs = v :: r ∧ Rep K H d v ∧ Reps K H ds r
end

/-- dict keys -/
def keyV : SD → Option Key
  | .int i => some (.inl i)
  | .str s => some (.inr (sV s))
  | _ => none
/-! nested keys -/
mutual
def nK : SD → NestedKey
  | .int i => .num i
  | .str s => .text (sV s)
  | .tup ds => .tup (nKs ds)
  | _ => .none
def nKs : List SD → List NestedKey
  | [] => []
  | d :: ds => nK d :: nKs ds
end
/-- the dict at a with nested keys: its entries (the tuples that are keys by where they lie) -/
def EntO (P : Program) (w : World) (a : Addr) (xs : List (NestedKey × Addr × V)) (h : Heap) : Prop := xs.length ≤ sizeLine ∧ (a == sysModules) = false ∧ ∃ ys : List (NestedKey × Addr × Value), Paired (fun p q => p.1 = q.1 ∧ p.2.1 = q.2.1 ∧ RelV p.2.2 q.2.2) xs ys ∧
  ∃ o es ep, h.get? a = some o ∧ o.ExactDict ∧ o.data = .dict es ep ∧ es.toList = ys.map (entryOfKey (nestedKind P w)) ∧ (ys.map (·.1)).Nodup
def ObRep (K : Fr) (H : Hp) (a : Addr) : M.Ob → Prop
  | .lst xs => ∃ vs, H a = some (.lst vs) ∧ Reps K H xs vs
  | .dct 0 kvs => ∃ ps : List (Key × V), H a = some (.dK ps) ∧ Paired (fun (x : SD × SD) (p : Key × V) => keyV x.1 = some p.1 ∧ (∀ s, x.1 = .str s → sOk s) ∧ Rep K H x.2 p.2) kvs ps
  | .rdct 0 kvs => ∃ (od : Obj) (ps : List (Key × V)), H a = some (.frz od (.dK ps)) ∧ Paired (fun (x : SD × SD) (p : Key × V) => keyV x.1 = some p.1 ∧ (∀ s, x.1 = .str s → sOk s) ∧ Rep K H x.2 p.2) kvs ps
  | .dcn kvs => ∃ xs : List (NestedKey × Addr × V), H a = some (.ext (EntO K.P K.w a xs)) ∧ Paired (fun (x : SD × SD) (p : NestedKey × Addr × V) => p.1 = nK x.1 ∧ M.nkOk x.1 = true ∧ Rep K H x.1 (.ref p.2.1) ∧ Rep K H x.2 p.2.2) kvs xs
  | .ins c fs => ∃ (C dx : Addr) (ps : List (Str × V)), H a = some (.ins C dx ps) ∧ K.mg (sV c) = some (.ref C) ∧ Cls K.K C ∧ Paired (fun (x : M.Sx × SD) (p : Str × V) => p.1 = sV x.1 ∧ NoAttr K.K C p.1 ∧ Rep K H x.2 p.2) fs ps
  | _ => False
def RH (K : Fr) (H : Hp) (h : M.AH) : Prop := ∀ a o, h a = some o → ObRep K H a o
/-- not in h, or locked -/
def Fre (h : M.AH) (a : Addr) : Prop := ∀ o, h a = some o → o.lk = true
/-- what is tracked and not in h, or locked there, stays as it is -/
def Frm (H : Hp) (h : M.AH) (H' : Hp) (h' : M.AH) : Prop := ∀ a o, H a = some o → Fre h a → H' a = some o ∧ h' a = h a
/-- names -/
def RS (K : Fr) (H : Hp) (σ : L2.St) (σa : M.St) : Prop := σ.length = σa.length ∧ ∀ (i : Nat) d, σa[i]? = some (some d) → ∃ v, σ[i]? = some (some v) ∧ Rep K H d v
/-- tuples and locked lists stay -/
def Kp (H H' : Hp) : Prop := (∀ a vs, H a = some (.tup vs) → H' a = some (.tup vs)) ∧ ∀ a o u, H a = some (.frz o (.lst u)) → H' a = some (.frz o (.lst u))
/-- what is locked stays -/
def Fz (H H' : Hp) : Prop := ∀ a o u, H a = some (.frz o u) → H' a = some (.frz o u)

section
variable {K : Fr} {H H1 H2 H' : Hp} {h h1 h2 h' : M.AH}
theorem Fre.none {a : Addr} (n : h a = none) : Fre h a := fun o e => by rw [n] at e; cases e
theorem Fre.eq {a : Addr} (e : h' a = h a) (n : Fre h a) : Fre h' a := fun o z => n o (by rw [← e]; exact z)
theorem Frm.refl : Frm H h H h := fun _ _ e n => ⟨e, rfl⟩
theorem Frm.trans (a : Frm H h H1 h1) (b : Frm H1 h1 H2 h2) : Frm H h H2 h2 := fun x o e n => by
  obtain ⟨e1, n1⟩ := a x o e n
  obtain ⟨e2, n2⟩ := b x o e1 (fun o z => n o (by rw [← n1]; exact z))
  exact ⟨e2, n2.trans n1⟩
theorem ObRep.some {a : Addr} {o : M.Ob} (r : ObRep K H a o) : ∃ u, H a = some u ∧ (∀ vs, u ≠ .tup vs) ∧ (∀ ob w, u ≠ .frz ob (.lst w)) ∧ ∀ ob w, u = .frz ob w → o.lk = true := by
  match o, r with
  | .lst xs, ⟨vs, e, _⟩ => exact ⟨_, e, (by intro _ z; cases z), (by intro _ _ z; cases z), by intro _ _ z; cases z⟩
  | .dct 0 kvs, ⟨vs, e, _⟩ => exact ⟨_, e, (by intro _ z; cases z), (by intro _ _ z; cases z), by intro _ _ z; cases z⟩
  | .rdct 0 kvs, ⟨od, vs, e, _⟩ => exact ⟨_, e, (by intro _ z; cases z), (by intro _ _ z; cases z), fun _ _ _ => rfl⟩
  | .ins c fs, ⟨C, dx, ps, e, _⟩ => exact ⟨_, e, (by intro _ z; cases z), (by intro _ _ z; cases z), by intro _ _ z; cases z⟩
  | .dcn kvs, ⟨xs, e, _⟩ => exact ⟨_, e, (by intro _ z; cases z), (by intro _ _ z; cases z), by intro _ _ z; cases z⟩
theorem RH.none_tup (r : RH K H h) {a : Addr} {vs : List V} (e : H a = some (.tup vs)) : h a = none := by
  cases q : h a with
  | none => rfl
  | some o =>
    obtain ⟨u, e', n, _⟩ := (r a o q).some
    rw [e] at e'
    exact absurd (Option.some.inj e').symm (n vs)
theorem RH.fre_frz (r : RH K H h) {a : Addr} {ob u} (e : H a = some (.frz ob u)) : Fre h a := fun o q => by
  obtain ⟨w, e', _, _, n⟩ := (r a o q).some
  rw [e] at e'
  exact n ob u (Option.some.inj e').symm
theorem RH.none (r : RH K H h) {a : Addr} (e : H a = none) : h a = none := by
  cases q : h a with
  | none => rfl
  | some o =>
    obtain ⟨w, e', _, n⟩ := (r a o q).some
    rw [e] at e'
    cases e'
theorem Frm.kp (f : Frm H h H' h') (r : RH K H h) : Kp H H' := ⟨fun _ _ e => (f _ _ e (.none (r.none_tup e))).1, fun _ _ _ e => (f _ _ e (r.fre_frz e)).1⟩
theorem Frm.fz (f : Frm H h H' h') (r : RH K H h) : Fz H H' := fun _ _ _ e => (f _ _ e (r.fre_frz e)).1
theorem Fz.refl : Fz H H := fun _ _ _ e => e
theorem Fz.trans (a : Fz H H1) (b : Fz H1 H2) : Fz H H2 := fun x o u e => b x o u (a x o u e)
theorem Kp.refl : Kp H H := ⟨fun _ _ e => e, fun _ _ _ e => e⟩
theorem Kp.trans (a : Kp H H1) (b : Kp H1 H2) : Kp H H2 := ⟨fun x v e => b.1 x v (a.1 x v e), fun x o u e => b.2 x o u (a.2 x o u e)⟩
mutual
theorem Rep.kp (k : Kp H H') : ∀ {d : SD} {v : V}, Rep K H d v → Rep K H' d v
  | .non, _, r => r
  | .bl _, _, r => r
  | .int _, _, r => r
  | .str _, _, r => r
  | .ref _, _, r => r
  | .tup _, _, ⟨a, vs, e, t, rs⟩ => ⟨a, vs, e, t.imp (k.1 _ _) id, Reps.kp k rs⟩
  | .rol _, _, ⟨a, vs, e, t, rs⟩ => ⟨a, vs, e, t.imp (fun ⟨o, z⟩ => ⟨o, k.2 _ _ _ z⟩) id, Reps.kp k rs⟩
theorem Reps.kp (k : Kp H H') : ∀ {ds : List SD} {vs : List V}, Reps K H ds vs → Reps K H' ds vs
  | [], _, r => r
  | _ :: _, _, ⟨v, r, e, a, b⟩ => ⟨v, r, e, Rep.kp k a, Reps.kp k b⟩
end
theorem RS.kp {σ : L2.St} {σa : M.St} (k : Kp H H') (r : RS K H σ σa) : RS K H' σ σa := ⟨r.1, fun i d e => let ⟨v, e1, q⟩ := r.2 i d e; ⟨v, e1, q.kp k⟩⟩
theorem ObRep.kp {a : Addr} {o : M.Ob} (k : Kp H H') (e : H' a = H a) (r : ObRep K H a o) : ObRep K H' a o := by
  match o, r with
  | .lst xs, ⟨vs, q, r⟩ => exact ⟨vs, e.trans q, r.kp k⟩
  | .dct 0 kvs, ⟨vs, q, r⟩ => exact ⟨vs, e.trans q, Paired.mapP r fun _ _ z => ⟨z.1, z.2.1, z.2.2.kp k⟩⟩
  | .rdct 0 kvs, ⟨od, vs, q, r⟩ => exact ⟨od, vs, e.trans q, Paired.mapP r fun _ _ z => ⟨z.1, z.2.1, z.2.2.kp k⟩⟩
  | .ins c fs, ⟨C, dx, ps, q, m, cl, r⟩ => exact ⟨C, dx, ps, e.trans q, m, cl, Paired.mapP r fun _ _ z => ⟨z.1, z.2.1, z.2.2.kp k⟩⟩
  | .dcn kvs, ⟨xs, q, r⟩ => exact ⟨xs, e.trans q, Paired.mapP r fun _ _ z => ⟨z.1, z.2.1, z.2.2.1.kp k, z.2.2.2.kp k⟩⟩
theorem Reps.length : ∀ {ds : List SD} {vs : List V}, Reps K H ds vs → vs.length = ds.length
  | [], _, r => by cases (show _ = [] from r); rfl
  | _ :: _, _, ⟨v, r, e, _, b⟩ => by subst e; simp [Reps.length b]
theorem Reps.get : ∀ {ds : List SD} {vs : List V} {i : Nat} {d : SD}, Reps K H ds vs → ds[i]? = some d → ∃ v, vs[i]? = some v ∧ Rep K H d v
  | [], _, _, _, _, e => by simp at e
  | _ :: _, _, 0, d, ⟨v, r, e, a, _⟩, q => by subst e; simp at q; subst q; exact ⟨v, rfl, a⟩
  | _ :: _, _, i + 1, d, ⟨v, r, e, _, b⟩, q => by subst e; obtain ⟨w, z, y⟩ := Reps.get (i := i) b (by simpa using q); exact ⟨w, by simpa using z, y⟩
theorem Reps.append : ∀ {ds es : List SD} {vs ws : List V}, Reps K H ds vs → Reps K H es ws → Reps K H (ds ++ es) (vs ++ ws)
  | [], _, _, _, r, s => by cases (show _ = [] from r); exact s
  | _ :: _, _, _, _, ⟨v, r, e, a, b⟩, s => by subst e; exact ⟨v, _, rfl, a, Reps.append b s⟩
theorem Reps.one {d : SD} {v : V} (r : Rep K H d v) : Reps K H [d] [v] := ⟨v, [], rfl, r, rfl⟩
theorem Reps.take : ∀ (n : Nat) {ds : List SD} {vs : List V}, Reps K H ds vs → Reps K H (ds.take n) (vs.take n)
  | 0, _, _, _ => by simp [Reps]
  | n + 1, [], _, r => by cases (show _ = [] from r); simp [Reps]
  | n + 1, _ :: _, _, ⟨v, r, e, a, b⟩ => by subst e; exact ⟨v, _, rfl, a, Reps.take n b⟩
theorem Reps.drop : ∀ (n : Nat) {ds : List SD} {vs : List V}, Reps K H ds vs → Reps K H (ds.drop n) (vs.drop n)
  | 0, _, _, r => r
  | n + 1, [], _, r => by cases (show _ = [] from r); simp [Reps]
  | n + 1, _ :: _, _, ⟨v, r, e, a, b⟩ => by subst e; exact Reps.drop n b
theorem Reps.set {d : SD} {v : V} (q : Rep K H d v) : ∀ (n : Nat) {ds : List SD} {vs : List V}, Reps K H ds vs → Reps K H (ds.set n d) (vs.set n v)
  | _, [], _, r => by cases (show _ = [] from r); simp [Reps]
  | 0, _ :: _, _, ⟨w, r, e, a, b⟩ => by subst e; exact ⟨v, r, rfl, q, b⟩
  | n + 1, _ :: _, _, ⟨w, r, e, a, b⟩ => by subst e; exact ⟨w, _, rfl, a, Reps.set q n b⟩
theorem Reps.rev : ∀ {ds : List SD} {vs : List V}, Reps K H ds vs → Reps K H ds.reverse vs.reverse
  | [], _, r => by cases (show _ = [] from r); simp [Reps]
  | _ :: _, _, ⟨w, r, e, a, b⟩ => by subst e; rw [List.reverse_cons, List.reverse_cons]; exact (Reps.rev b).append (.one a)
theorem Reps.nil {vs : List V} (r : Reps K H [] vs) : vs = [] := r
theorem Reps.cons {d : SD} {ds : List SD} {v : V} {vs : List V} (a : Rep K H d v) (b : Reps K H ds vs) : Reps K H (d :: ds) (v :: vs) := ⟨v, vs, rfl, a, b⟩
theorem Reps.rep {ds : List SD} {vs : List V} (r : Reps K H ds vs) : ∀ k : Nat, Reps K H (List.replicate k ds).flatten (List.replicate k vs).flatten
  | 0 => by simp [Reps]
  | k + 1 => by rw [List.replicate_succ, List.flatten_cons, List.replicate_succ, List.flatten_cons]; exact r.append (Reps.rep r k)
theorem Reps.dropLast {ds : List SD} {vs : List V} (r : Reps K H ds vs) : Reps K H ds.dropLast vs.dropLast := by
  rw [List.dropLast_eq_take, List.dropLast_eq_take, r.length]
  exact r.take _

/-! ### a new object, a written one -/
theorem up_same {a : Nat} {o : M.Ob} : M.up h a o a = some o := by unfold M.up; rw [if_pos rfl]
theorem up_ne {a b : Nat} {o : M.Ob} (e : b ≠ a) : M.up h a o b = h b := by unfold M.up; rw [if_neg e]
theorem kp_new {p : Addr} {o : HO} (n : H p = none) : Kp H (upd H p o) := ⟨fun a vs e => by rw [upd_ne (ne_of_none e n)]; exact e, fun a ob u e => by rw [upd_ne (ne_of_none e n)]; exact e⟩
/-- an object that only the model knows (a tuple) -/
theorem frm_hid {p : Addr} {o : HO} (n : H p = none) : Frm H h (upd H p o) h := fun a u e q => ⟨by rw [upd_ne (ne_of_none e n)]; exact e, rfl⟩
theorem rh_hid {p : Addr} {o : HO} (r : RH K H h) (n : H p = none) : RH K (upd H p o) h := fun a u e => (r a u e).kp (kp_new n) (by
  obtain ⟨w, z, _⟩ := (r a u e).some
  exact upd_ne (ne_of_none z n))
theorem frm_new {p : Addr} {o : HO} {ob : M.Ob} (n : H p = none) : Frm H h (upd H p o) (M.up h p ob) := fun a u e q => by
  have ne := ne_of_none e n
  exact ⟨by rw [upd_ne ne]; exact e, up_ne ne⟩
theorem rh_new {p : Addr} {o : HO} {ob : M.Ob} (r : RH K H h) (n : H p = none) (q : ObRep K (upd H p o) p ob) : RH K (upd H p o) (M.up h p ob) := fun a u e => by
  by_cases z : a = p
  · subst z; rw [up_same] at e; cases e; exact q
  · rw [up_ne z] at e; exact rh_hid r n a u e
/-- a written object -/
theorem kp_put {p : Addr} {o : HO} {ob : M.Ob} (r : RH K H h) (e : h p = some ob) : Kp H (upd H p o) := by
  obtain ⟨u, z, n1, n2, _⟩ := (r p ob e).some
  refine ⟨fun a vs q => ?_, fun a ob u q => ?_⟩
  · rw [upd_ne (fun y => by subst y; rw [z] at q; exact n1 _ (Option.some.inj q))]; exact q
  · rw [upd_ne (fun y => by subst y; rw [z] at q; exact n2 _ _ (Option.some.inj q))]; exact q
theorem frm_put {p : Addr} {o : HO} {ob ob' : M.Ob} (e : h p = some ob) (nl : ob.lk = false := by rfl) : Frm H h (upd H p o) (M.up h p ob') := fun a u z q => by
  have ne : a ≠ p := fun y => by subst y; rw [q _ e] at nl; cases nl
  exact ⟨by rw [upd_ne ne]; exact z, up_ne ne⟩
/-- locked, and unlocked behind it -/
theorem frm_lock {p : Addr} {o o' : HO} {ob ob1 ob2 : M.Ob} (e : h p = some ob) (nl : ob.lk = false) (f : Frm (upd H p o) (M.up h p ob1) H' h') : Frm H h (upd H' p o') (M.up h' p ob2) := fun a u z q => by
  have ne : a ≠ p := fun y => by subst y; rw [q _ e] at nl; cases nl
  obtain ⟨f1, f2⟩ := f a u (by rw [upd_ne ne]; exact z) (fun o z => q o (by rw [up_ne ne] at z; exact z))
  exact ⟨by rw [upd_ne ne]; exact f1, by rw [up_ne ne, f2, up_ne ne]⟩
theorem rh_put {p : Addr} {o : HO} {ob ob' : M.Ob} (r : RH K H h) (e : h p = some ob) (q : ObRep K (upd H p o) p ob') : RH K (upd H p o) (M.up h p ob') := fun a u z => by
  by_cases y : a = p
  · subst y; rw [up_same] at z; cases z; exact q
  · rw [up_ne y] at z
    exact (r a u z).kp (kp_put r e) (upd_ne y)
end
end Snd
end
section
/-! Sound2: the operations. -/
namespace Snd
open PySem L2 PySem.Spec PyProof.Rows

/-- what stands behind: Q of whatever bears d, in whatever heap bears h' -/
def Kont (K : Fr) (H : Hp) (h : M.AH) (Qa : M.VQ) (Q : VK) : Prop := ∀ d h' v H', Qa d h' → Frm H h H' h' → Rep K H' d v → RH K H' h' → Q v H'
/-- the same of a truth, of the heap -/
def KontB (K : Fr) (H : Hp) (h : M.AH) (Qa : Bool → Prop) (Q : VK) : Prop := ∀ b, Qa b → Q (.bl b) H
section
variable {K : Fr} {H H1 H' : Hp} {h h1 h' : M.AH} {Qa : M.VQ} {Q : VK}
theorem Kont.go (k : Kont K H h Qa Q) (f : Frm H h H1 h1) : Kont K H1 h1 Qa Q := fun d h' v H' q f' r rh => k d h' v H' q (f.trans f') r rh
theorem Kont.now (k : Kont K H h Qa Q) (rh : RH K H h) {d : SD} {v : V} (q : Qa d h) (r : Rep K H d v) : Q v H := k d h v H q .refl r rh
theorem line_eq : (sizeLine : Nat) = M.LINE := by rw [sizeLine_eq]; rfl
theorem sV_len (s : M.Sx) : (sV s).length = s.length := by simp [sV, Str.length]
theorem sV_app (a b : M.Sx) : sV a ++ sV b = sV (a ++ b) := by
  show Str.append _ _ = _
  simp [sV, Str.append]
theorem sV_inj {a b : M.Sx} (e : sV a = sV b) : a = b := by
  have e1 : a.toArray = b.toArray := congrArg Str.cps e
  simpa using congrArg Array.toList e1
theorem sV_cps (a : M.Sx) : (sV a).cps.toList = a := by simp [sV]
theorem sOk_app {a b : M.Sx} (x : sOk a) (y : sOk b) : sOk (a ++ b) := fun c hc => (List.mem_append.mp hc).elim (x c) (y c)

/-! ### two places -/
def rAddS : R2 := fun x y H Q => ∃ i j, x = .str i ∧ y = .str j ∧ i.length + j.length ≤ sizeLine ∧ Q (.str (i ++ j)) H
def rPow : R2 := rI CPow fun i j => .int (i ^ j.toNat)
def rAdd4 (K : Fr) : R2 := fun x y H Q => (rI0 fun i j => .int (i + j)) x y H Q ∨ rAddS x y H Q ∨ rCatA K x y H Q ∨ rCat x y H Q
def rMul3 : R2 := fun x y H Q => (rI CMul fun i j => .int (i * j)) x y H Q ∨ (rI CMulW fun i j => .int (i * j)) x y H Q ∨ rRep x y H Q
def rBin (K : Fr) : M.Bop → R2
  | .add => rAdd4 K
  | .sub => rI0 fun i j => .int (i - j)
  | .mul => rMul3
  | .mod => rI (fun _ j => 0 < j) fun i j => .int (i % j)
  | .fdiv => rI CDivW fun i j => .int (i / j)
  | .pow => rPow
def bop : M.Bop → Operator
  | .add => .Add | .sub => .Sub | .mul => .Mult | .mod => .Mod | .fdiv => .FloorDiv | .pow => .Pow
theorem op_bin {X : Cx} (o : M.Bop) : OpR X (binaryOp (bop o)) (rBin X.F o) := by
  cases o
  · exact op_add.or (op_add_str.or (op_catA.or op_cat))
  · exact op_sub
  · exact op_mul.or (op_mulW.or op_rep)
  · exact op_mod
  · exact op_fdivW
  · exact op_pow
theorem log_small {b : Int} (h0 : 0 < b) (h1 : b < 2 ^ 64) : b.natAbs.log2 < 9000 :=
  (wide_div (i := 0) (b := 64) h0 (by omega) (by decide) (by decide)).2
theorem opInt_inv {f : Int → Int → (Int → Prop) → Prop} {dx dy : SD} (q : M.opInt f dx dy h Qa) : ∃ a b, dx = .int a ∧ dy = .int b ∧ f a b fun c => Qa (.int c) h := by
  cases dx with
  | int a => cases dy with
    | int b => exact ⟨a, b, rfl, rfl, q⟩
    | _ => exact False.elim q
  | _ => exact False.elim q
theorem opAdd_inv {dx dy : SD} (q : M.opAdd dx dy h Qa) : (∃ a b, dx = .int a ∧ dy = .int b ∧ Qa (.int (a + b)) h) ∨ (∃ a b, dx = .str a ∧ dy = .str b ∧ a.length + b.length ≤ M.LINE ∧ Qa (.str (a ++ b)) h) ∨
    (∃ a b, dx = .tup a ∧ dy = .tup b ∧ a.length + b.length ≤ M.LINE ∧ Qa (.tup (a ++ b)) h) ∨
    ∃ p p2, dx = .ref p ∧ dy = .ref p2 ∧ ∃ xs ys, h p = some (.lst xs) ∧ h p2 = some (.lst ys) ∧ xs.length + ys.length ≤ M.LINE ∧ ∀ r, h r = none → Qa (.ref r) (M.up h r (.lst (xs ++ ys))) := by
  cases dx with
  | int a => cases dy with
    | int b => exact .inl ⟨a, b, rfl, rfl, q⟩
    | _ => exact False.elim q
  | str a => cases dy with
    | str b => exact .inr (.inl ⟨a, b, rfl, rfl, q.1, q.2⟩)
    | _ => exact False.elim q
  | tup a => cases dy with
    | tup b => exact .inr (.inr (.inl ⟨a, b, rfl, rfl, q.1, q.2⟩))
    | _ => exact False.elim q
  | ref a => cases dy with
    | ref b => exact .inr (.inr (.inr ⟨a, b, rfl, rfl, q⟩))
    | _ => exact False.elim q
  | _ => exact False.elim q
theorem opMul_inv {dx dy : SD} (q : M.opMul dx dy h Qa) : (∃ a b, dx = .int a ∧ dy = .int b ∧ M.mulOk a b ∧ Qa (.int (a * b)) h) ∨
    ∃ p n, dx = .ref p ∧ dy = .int n ∧ ∃ xs, h p = some (.lst xs) ∧ -(2 ^ 63) ≤ n ∧ n < 2 ^ 63 ∧ xs.length * n.toNat ≤ M.LINE ∧ ∀ r, h r = none → Qa (.ref r) (M.up h r (.lst (List.replicate n.toNat xs).flatten)) := by
  cases dx with
  | int a => cases dy with
    | int b => exact .inl ⟨a, b, rfl, rfl, q.1, q.2⟩
    | _ => exact False.elim q
  | ref a => cases dy with
    | int b => exact .inr ⟨a, b, rfl, rfl, q⟩
    | _ => exact False.elim q
  | _ => exact False.elim q
theorem add_ok {dx dy : SD} {x y : V} (rh : RH K H h) (rx : Rep K H dx x) (ry : Rep K H dy y) (q : M.opAdd dx dy h Qa) (k : Kont K H h Qa Q) : rAdd4 K x y H Q := by
  have hl := line_eq
  rcases opAdd_inv q with ⟨a, b, rfl, rfl, q⟩ | ⟨a, b, rfl, rfl, hz, q⟩ | ⟨a, b, rfl, rfl, hz, q⟩ | ⟨p, p2, rfl, rfl, xs, ys, e1, e2, hz, q⟩
  · cases (show x = _ from rx); cases (show y = _ from ry)
    exact .inl ⟨a, b, rfl, rfl, k.now rh q rfl⟩
  · obtain ⟨rx, ox⟩ := rx
    obtain ⟨ry, oy⟩ := ry
    subst rx; subst ry
    refine .inr (.inl ⟨sV a, sV b, rfl, rfl, by rw [sV_len, sV_len, hl]; exact hz, ?_⟩)
    rw [sV_app]
    exact k.now rh q ⟨rfl, sOk_app ox oy⟩
  · obtain ⟨p, vs, e1, t1, r1⟩ := rx
    obtain ⟨p2, ws, e2, t2, r2⟩ := ry
    subst e1; subst e2
    have l1 := r1.length
    have l2 := r2.length
    have s1 : SqT K H p vs := t1.imp .inl id
    have s2 : SqT K H p2 ws := t2.imp .inl id
    refine .inr (.inr (.inl ⟨p, p2, vs, ws, rfl, rfl, s1, s2, by omega, ?_⟩))
    · refine ⟨fun e => ?_, fun ne1 e => ?_, fun ne1 ne2 l hn => ?_⟩
      · have : a = [] := by
          subst e; cases a with
          | nil => rfl
          | cons _ _ => simp at l1
        subst this
        refine k.now rh q ⟨p2, ws, rfl, t2, by simpa using r2⟩
      · have : b = [] := by
          subst e; cases b with
          | nil => rfl
          | cons _ _ => simp at l2
        subst this
        refine k.now rh q ⟨p, vs, rfl, t1, by simpa using r1⟩
      · refine k _ _ _ _ q (frm_hid hn) ⟨l, vs ++ ws, rfl, .inl upd_same, (r1.kp (kp_new hn)).append (r2.kp (kp_new hn))⟩ (rh_hid rh hn)
  · cases (show x = _ from rx); cases (show y = _ from ry)
    obtain ⟨vs, a1, r1⟩ := rh p _ e1
    obtain ⟨ws, a2, r2⟩ := rh p2 _ e2
    have l1 := r1.length
    have l2 := r2.length
    refine .inr (.inr (.inr ⟨p, p2, vs, ws, rfl, rfl, a1, a2, by omega, fun l hn => ?_⟩))
    exact k _ _ _ _ (q l (rh.none hn)) (frm_new hn) rfl (rh_new rh hn ⟨_, upd_same, (r1.kp (kp_new hn)).append (r2.kp (kp_new hn))⟩)
theorem mul_ok {dx dy : SD} {x y : V} (rh : RH K H h) (rx : Rep K H dx x) (ry : Rep K H dy y) (q : M.opMul dx dy h Qa) (k : Kont K H h Qa Q) : rMul3 x y H Q := by
  have hl := line_eq
  rcases opMul_inv q with ⟨a, b, rfl, rfl, c, q⟩ | ⟨p, n, rfl, rfl, xs, e1, n1, n2, hz, q⟩
  · cases (show x = _ from rx); cases (show y = _ from ry)
    rcases c with c | c | ⟨m, m0, m1, m2, m3⟩
    · exact .inl ⟨a, b, rfl, rfl, .inl c, k.now rh q rfl⟩
    · exact .inl ⟨a, b, rfl, rfl, .inr c, k.now rh q rfl⟩
    · exact .inr (.inl ⟨a, b, rfl, rfl, wide_mul m2 m3 m0 m0 (by omega), k.now rh q rfl⟩)
  · cases (show x = _ from rx); cases (show y = _ from ry)
    obtain ⟨vs, a1, r1⟩ := rh p _ e1
    have l1 := r1.length
    refine .inr (.inr ⟨p, n, vs, rfl, rfl, a1, n1, n2, by rw [l1, hl]; exact hz, fun l hn => ?_⟩)
    exact k _ _ _ _ (q l (rh.none hn)) (frm_new hn) rfl (rh_new rh hn ⟨_, upd_same, (r1.kp (kp_new hn)).rep _⟩)
theorem bin_ok {o : M.Bop} {dx dy : SD} {x y : V} (rh : RH K H h) (rx : Rep K H dx x) (ry : Rep K H dy y) (q : M.opBin o dx dy h Qa) (k : Kont K H h Qa Q) : rBin K o x y H Q := by
  cases o with
  | add => exact add_ok rh rx ry q k
  | mul => exact mul_ok rh rx ry q k
  | sub =>
    simp only [M.opBin] at q
    obtain ⟨a, b, rfl, rfl, q⟩ := opInt_inv q
    cases (show x = _ from rx); cases (show y = _ from ry)
    exact ⟨a, b, rfl, rfl, k.now rh q rfl⟩
  | mod =>
    simp only [M.opBin] at q
    obtain ⟨a, b, rfl, rfl, c, q⟩ := opInt_inv q
    cases (show x = _ from rx); cases (show y = _ from ry)
    exact ⟨a, b, rfl, rfl, c, k.now rh q rfl⟩
  | fdiv =>
    simp only [M.opBin] at q
    obtain ⟨a, b, rfl, rfl, c, q⟩ := opInt_inv q
    cases (show x = _ from rx); cases (show y = _ from ry)
    exact ⟨a, b, rfl, rfl, ⟨c.1, log_small c.1 c.2⟩, k.now rh q rfl⟩
  | pow =>
    simp only [M.opBin] at q
    obtain ⟨a, b, rfl, rfl, c, q⟩ := opInt_inv q
    cases (show x = _ from rx); cases (show y = _ from ry)
    exact ⟨a, b, rfl, rfl, c, k.now rh q rfl⟩

/-! ### data as the model reads it -/
mutual
def toPy : SD → PyData
  | .non => .none
  | .bl b => .bool b
  | .int i => .int i
  | .str s => .str (sV s)
  | .tup ds => .tuple (toPys ds)
  | .rol ds => .list (toPys ds)
  | .ref _ => .none
def toPys : List SD → List PyData
  | [] => []
  | d :: ds => toPy d :: toPys ds
end
theorem ba {a b : Bool} (h : (a && b) = true) : a = true ∧ b = true := Bool.and_eq_true_iff.mp h
mutual
theorem rep_dp : ∀ {d : SD} {v : V}, M.pureD d = true → Rep K H d v → Dp K H v (toPy d)
  | .non, _, _, r => by cases (show _ = _ from r); exact .non
  | .int i, _, _, r => by cases (show _ = _ from r); exact .int i
  | .str s, _, _, r => by cases (show _ = _ from r.1); exact .str _
  | .tup ds, _, p, ⟨a, vs, e, t, rs⟩ => by subst e; exact .tup (t.imp .inl id) (reps_dp (by simpa only [M.pureD] using p) rs)
  | .bl _, _, p, _ => by simp [M.pureD] at p
  | .ref _, _, p, _ => by simp [M.pureD] at p
  | .rol _, _, p, _ => by simp [M.pureD] at p
theorem reps_dp : ∀ {ds : List SD} {vs : List V}, M.pureDs ds = true → Reps K H ds vs → DpAll K H vs (toPys ds)
  | [], _, _, r => by cases (show _ = _ from r); exact .nil
  | d :: ds, _, p, ⟨v, r, e, a, b⟩ => by
    subst e
    obtain ⟨p1, p2⟩ := ba (show (M.pureD d && M.pureDs ds) = true by simpa only [M.pureDs] using p)
    exact .cons (rep_dp p1 a) (reps_dp p2 b)
end
mutual
theorem rep_can : ∀ {d : SD} {v : V}, M.pureD d = true → Rep K H d v → (toPy d).canLay0 = true
  | .non, _, _, r => rfl
  | .int i, _, _, r => rfl
  | .str s, _, _, r => by
    have ok := r.2
    show PyData.strOk (sV s) = true
    simp only [PyData.strOk, sV, Array.all_eq_true_iff_forall_mem, List.mem_toArray, decide_eq_true_eq]
    exact ok
  | .tup ds, _, p, ⟨a, vs, e, t, rs⟩ => by
    show PyData.canLayAll0 (toPys ds) = true
    exact reps_can (by simpa only [M.pureD] using p) rs
  | .bl _, _, p, _ => by simp [M.pureD] at p
  | .ref _, _, p, _ => by simp [M.pureD] at p
  | .rol _, _, p, _ => by simp [M.pureD] at p
theorem reps_can : ∀ {ds : List SD} {vs : List V}, M.pureDs ds = true → Reps K H ds vs → PyData.canLayAll0 (toPys ds) = true
  | [], _, _, r => rfl
  | d :: ds, _, p, ⟨v, r, e, a, b⟩ => by
    obtain ⟨p1, p2⟩ := ba (show (M.pureD d && M.pureDs ds) = true by simpa only [M.pureDs] using p)
    show (PyData.canLay0 (toPy d) && PyData.canLayAll0 (toPys ds)) = true
    rw [rep_can p1 a, reps_can p2 b]
    rfl
end
mutual
theorem py_depth : ∀ (n : Nat) (d : SD), M.plain n d = true → (toPy d).depth ≤ n
  | _, .non, _ => by simp [toPy, PyData.depth]
  | _, .int i, _ => by simp [toPy, PyData.depth]
  | _, .str s, _ => by simp [toPy, PyData.depth]
  | 0, .tup ds, p => by simp [M.plain] at p
  | n + 1, .tup ds, p => by
    have := pys_depth n ds (by simpa only [M.plain] using p)
    simp only [toPy, PyData.depth]
    omega
  | 0, .bl _, p => by simp [M.plain] at p
  | n + 1, .bl _, p => by simp [M.plain] at p
  | 0, .ref _, p => by simp [M.plain] at p
  | n + 1, .ref _, p => by simp [M.plain] at p
  | 0, .rol _, p => by simp [M.plain] at p
  | n + 1, .rol _, p => by simp [M.plain] at p
theorem pys_depth : ∀ (n : Nat) (ds : List SD), M.plains n ds = true → PyData.depthAll (toPys ds) ≤ n
  | _, [], _ => by simp [toPys, PyData.depthAll]
  | n, d :: ds, p => by
    obtain ⟨p1, p2⟩ := ba (show (M.plain n d && M.plains n ds) = true by cases n <;> simpa only [M.plains] using p)
    have := py_depth n d p1
    have := pys_depth n ds p2
    simp only [toPys, PyData.depthAll]
    omega
end
mutual
theorem eqv_py : ∀ (a b : SD), M.pureD a = true → M.pureD b = true → PyData.eqv (toPy a) (toPy b) = decide (a = b)
  | .non, b, _, q => by cases b <;> simp [M.pureD, toPy, PyData.eqv] at q ⊢
  | .int i, b, _, q => by cases b <;> simp [M.pureD, toPy, PyData.eqv, Bool.beq_eq_decide_eq] at q ⊢
  | .str s, b, _, q => by
    cases b <;> simp [M.pureD, toPy, PyData.eqv, Bool.beq_eq_decide_eq] at q ⊢
    rename_i t
    exact ⟨sV_inj, fun e => by rw [e]⟩
  | .tup ds, b, p, q => by
    cases b <;> simp [M.pureD, toPy, PyData.eqv] at p q ⊢
    exact eqv_pys ds _ p q
  | .bl _, b, p, _ => by simp [M.pureD] at p
  | .ref _, b, p, _ => by simp [M.pureD] at p
  | .rol _, b, p, _ => by simp [M.pureD] at p
theorem eqv_pys : ∀ (as bs : List SD), M.pureDs as = true → M.pureDs bs = true → PyData.eqvAll (toPys as) (toPys bs) = decide (as = bs)
  | [], [], _, _ => by simp [toPys, PyData.eqvAll]
  | [], _ :: _, _, _ => by simp [toPys, PyData.eqvAll]
  | _ :: _, [], _, _ => by simp [toPys, PyData.eqvAll]
  | a :: as, b :: bs, p, q => by
    obtain ⟨p1, p2⟩ := ba (show (M.pureD a && M.pureDs as) = true by simpa only [M.pureDs] using p)
    obtain ⟨q1, q2⟩ := ba (show (M.pureD b && M.pureDs bs) = true by simpa only [M.pureDs] using q)
    simp only [toPys, PyData.eqvAll, eqv_py a b p1 q1, eqv_pys as bs p2 q2, List.cons.injEq, Bool.decide_and]
end
end
end Snd
end
section
/-! SortL: < of nested data, sorted of lists of such. -/
namespace PySem.SeqAt
open AutoSeq1 (wpAny_loadPart')
open MeetsSeq MeetsSeq2 MeetsSeq3 SeqRoads2
section
/-- the items from the i-th on -/
def ltRest (e r : Nat → Bool) (z : Bool) (n i : Nat) : Bool := firstLt e r z ((List.range n).drop i)
theorem ltRest_in {e r : Nat → Bool} {z : Bool} {n i : Nat} (h : i < n) : ltRest e r z n i = if e i = true then ltRest e r z n (i + 1) else r i := by
  have hd : (List.range n).drop i = i :: (List.range n).drop (i + 1) := by simp [List.drop_eq_getElem_cons, h]
  unfold ltRest
  rw [hd]
  rfl
theorem ltRest_out {e r : Nat → Bool} {z : Bool} {n i : Nat} (h : n ≤ i) : ltRest e r z n i = z := by
  unfold ltRest
  rw [List.drop_of_length_le (by simpa using h)]
  rfl
end
theorem tupLt_run (p q : Addr) (xs ys : Array Value) (m k : Nat) (o1 o2 : Option Addr) (t1 t2 : Array (Option Value)) (e r : Nat → Bool) :
    Meets (Builtin.«tuple.__lt__» ⟨[.ref p, .ref q], []⟩) (fun A R s =>
      s.heap.get? p = some { cls := .type "tuple", dict := o1, data := .seq xs m, slots := t1 } ∧
      s.heap.get? q = some { cls := .type "tuple", dict := o2, data := .seq ys k, slots := t2 } ∧
      (∀ j (a : j < xs.size) (b : j < ys.size), EqAt A.in1 s xs[j] ys[j] (e j)) ∧
      (∀ j (a : j < xs.size) (b : j < ys.size), (∀ i, i < j → e i = true) → e j = false → RcLt A.in1 s xs[j] ys[j] (r j)) ∧
      R (.ok (.ret (.bool (ltRest e r (decide (xs.size < ys.size)) (min xs.size ys.size) 0)))) s) :=
  .of_wp fun prog w A R s h => by
    obtain ⟨hp, g, d, tk, os⟩ := s
    obtain ⟨hx, hy, he, hr, h⟩ := h
    have f2 := AutoSeq1.sub_tuple_tuple
    have lz : (xs.toList.zip ys.toList).length = min xs.size ys.size := by simp
    wp_walk using wpAny_loadPart' hx, wpAny_loadPart' hy, wpAny_forIn_list _ (fun rest b s' => b.1 = none ∧ s' = ⟨hp, g, d, tk, os⟩ ∧
      ∃ i, rest = (xs.toList.zip ys.toList).drop i ∧ (∀ a, a < i → e a = true) ∧ R (.ok (.ret (.bool (ltRest e r (decide (xs.size < ys.size)) (min xs.size ys.size) i)))) ⟨hp, g, d, tk, os⟩) _
    case turn =>
      rintro ⟨u, v⟩ rest b s' ⟨hb, rfl, i, hz, hall, hR⟩
      have lt1 : i < (xs.toList.zip ys.toList).length := Nat.lt_of_not_le fun z => by
        rw [List.drop_of_length_le z] at hz
        cases hz
      have lt2 : i < min xs.size ys.size := by rw [← lz]; exact lt1
      have i1 : i < xs.size := by omega
      have i2 : i < ys.size := by omega
      rw [List.drop_eq_getElem_cons lt1] at hz
      injection hz with huv hrest
      have hu : u = xs[i] := by simpa using congrArg Prod.fst huv
      have hv : v = ys[i] := by simpa using congrArg Prod.snd huv
      subst hu hv
      rw [ltRest_in lt2] at hR
      refine wpAny_bind (he i i1 i2 prog w _ _ ?_)
      cases ei : e i with
      | true =>
        rw [if_pos ei] at hR
        wp_walk
        exact ⟨rfl, rfl, i + 1, hrest, fun a ha => (Nat.lt_succ_iff_lt_or_eq.mp ha).elim (hall a) (fun z => z ▸ ei), hR⟩
      | false =>
        rw [if_neg (by rw [ei]; simp)] at hR
        have step := hr i i1 i2 hall ei prog w
        wp_walk using step _ _
        exact ⟨_, rfl, hR⟩
    case fin =>
      rintro ⟨b1, b2⟩ s' ⟨hb, rfl, i, hz, hall, hR⟩
      simp only at hb
      subst hb
      have ge : min xs.size ys.size ≤ i := Nat.le_of_not_lt fun z => by
        rw [List.drop_eq_getElem_cons (by rw [lz]; exact z)] at hz
        cases hz
      rw [ltRest_out ge] at hR
      wp_walk
      exact ⟨_, rfl, by simpa [Builtin.Tuple.tupleCompareSizes] using hR⟩
    case h =>
      exact ⟨rfl, rfl, 0, rfl, (fun a ha => absurd ha (Nat.not_lt_zero a)), h⟩
theorem RcLt.tuplesF {A : Around} {s : Shared} {p q : Addr} {xs ys : Array Value} {e r : Nat → Bool} (hx : s.heap.IsTuple p xs) (hy : s.heap.IsTuple q ys) (hu : A.units < cLine)
    (he : ∀ j (a : j < xs.size) (b : j < ys.size), EqAt A.in1 s xs[j] ys[j] (e j))
    (hr : ∀ j (a : j < xs.size) (b : j < ys.size), (∀ i, i < j → e i = true) → e j = false → RcLt A.in1 s xs[j] ys[j] (r j)) :
    RcLt A s (.ref p) (.ref q) (ltRest e r (decide (xs.size < ys.size)) (min xs.size ys.size) 0) := fun prog w E Q h => by
  obtain ⟨⟨c1, d1, dat1, s1⟩, g1, e1, m1, f1⟩ := id hx
  obtain ⟨⟨c2, d2, dat2, s2⟩, g2, e2, m2, f2⟩ := id hy
  simp only at e1 f1 e2 f2
  subst e1 f1 e2 f2
  refine richCompare_meets_room (op := .Lt) ⟨_, g1, rfl⟩ ⟨_, g2, rfl⟩ F.slot_tuple_lt F.entry_tuple_lt (F.args_tuple_lt_2 _ _) (tupLt_run p q xs ys m1 m2 d1 d2 s1 s2 e r) ⟨g1, g2, he, hr, ?_⟩ hu
  exact ⟨(fun z => nomatch z), h⟩
end PySem.SeqAt
namespace Snd
open PySem L2 PySem.Spec PyProof.Rows
theorem toPys_get : ∀ {ds : List SD} {j : Nat} {d : SD}, ds[j]? = some d → (toPys ds)[j]? = some (toPy d)
  | [], _, _, h => by simp at h
  | _ :: _, 0, _, h => by simp at h; subst h; simp [toPys]
  | _ :: ds, j + 1, d, h => by
    have := toPys_get (ds := ds) (j := j) (by simpa using h)
    simpa [toPys] using this
theorem reads_get {h : Heap} : ∀ {vs : List Value} {ds : List PyData} {as : List Addr} {j : Nat} {d : PyData}, ReadsAll h vs ds as → ds[j]? = some d → ∃ v bs, vs[j]? = some v ∧ Reads h v d bs
  | _, [], _, _, _, _, e => by simp at e
  | _, _ :: _, _, 0, d, r, e => by
    cases r with
    | cons h1 h2 => simp at e; subst e; exact ⟨_, _, rfl, h1⟩
  | _, _ :: _, _, j + 1, d, r, e => by
    cases r with
    | cons h1 h2 =>
      obtain ⟨v, bs, e1, e2⟩ := reads_get (j := j) h2 (by simpa using e)
      exact ⟨v, bs, by simpa using e1, e2⟩
theorem reads_len {h : Heap} : ∀ {vs : List Value} {ds : List PyData} {as : List Addr}, ReadsAll h vs ds as → vs.length = ds.length
  | _, [], _, r => by cases r; rfl
  | _, _ :: _, _, r => by
    cases r with
    | cons h1 h2 => simp [reads_len h2]
theorem pureDs_at : ∀ {ds : List SD} {j : Nat} {d : SD}, M.pureDs ds = true → ds[j]? = some d → M.pureD d = true
  | [], _, _, _, e => by simp at e
  | _ :: _, 0, _, p, e => by
    simp at e; subst e
    exact (ba (show (_ && _) = true by simpa only [M.pureDs] using p)).1
  | _ :: ds, j + 1, _, p, e => pureDs_at (ds := ds) (j := j) (ba (show (_ && _) = true by simpa only [M.pureDs] using p)).2 (by simpa using e)
theorem plains_two {n : Nat} {d : SD} {ds : List SD} (p : M.plains n (d :: ds) = true) : M.plain n d = true ∧ M.plains n ds = true := by
  cases n <;> simp only [M.plains] at p <;> exact ba p
theorem plains_at {n : Nat} : ∀ {ds : List SD} {j : Nat} {d : SD}, M.plains n ds = true → ds[j]? = some d → M.plain n d = true
  | [], _, _, _, e => by simp at e
  | _ :: _, 0, _, p, e => by
    simp at e; subst e
    exact (plains_two p).1
  | _ :: ds, j + 1, _, p, e => plains_at (ds := ds) (j := j) (plains_two p).2 (by simpa using e)
theorem canAll_at : ∀ {ds : List SD} {j : Nat} {d : SD}, PyData.canLayAll0 (toPys ds) = true → ds[j]? = some d → (toPy d).canLay0 = true
  | [], _, _, _, e => by simp at e
  | _ :: _, 0, _, p, e => by
    simp at e; subst e
    exact (ba (show (_ && _) = true from p)).1
  | _ :: ds, j + 1, _, p, e => canAll_at (ds := ds) (j := j) (ba (show (_ && _) = true from p)).2 (by simpa using e)
/-- ltDs by places -/
noncomputable def eD (xs ys : List SD) (j : Nat) : Bool := decide (xs[j]? = ys[j]?)
noncomputable def rD (xs ys : List SD) (j : Nat) : Bool := match xs[j]?, ys[j]? with
  | some x, some y => M.ltD x y
  | _, _ => false
theorem lt_rest : ∀ (k : Nat) (xs ys : List SD) (i : Nat), min xs.length ys.length - i = k → i ≤ min xs.length ys.length → SeqAt.ltRest (eD xs ys) (rD xs ys) (decide (xs.length < ys.length)) (min xs.length ys.length) i = M.ltDs (xs.drop i) (ys.drop i)
  | 0, xs, ys, i, hk, hi => by
    rw [SeqAt.ltRest_out (by omega)]
    rcases Nat.lt_or_ge i xs.length with h1 | h1
    · have h2 : ys.length ≤ i := by omega
      rw [List.drop_of_length_le h2, List.drop_eq_getElem_cons h1]
      simp [M.ltDs]; omega
    · rw [List.drop_of_length_le h1]
      rcases Nat.lt_or_ge i ys.length with h2 | h2
      · rw [List.drop_eq_getElem_cons h2]
        simp [M.ltDs]; omega
      · rw [List.drop_of_length_le h2]
        simp [M.ltDs]; omega
  | k + 1, xs, ys, i, hk, hi => by
    have h1 : i < xs.length := by omega
    have h2 : i < ys.length := by omega
    rw [SeqAt.ltRest_in (by omega), List.drop_eq_getElem_cons h1, List.drop_eq_getElem_cons h2, M.ltDs_cons]
    have e1 : eD xs ys i = decide (xs[i] = ys[i]) := by simp [eD, h1, h2]
    have e2 : rD xs ys i = M.ltD xs[i] ys[i] := by simp [rD, h1, h2]
    rw [e1, e2]
    by_cases z : xs[i] = ys[i]
    · rw [if_pos z, if_pos (decide_eq_true z)]
      exact lt_rest k xs ys (i + 1) (by omega) (by omega)
    · rw [if_neg z, if_neg (by simp [z])]
theorem lt_whole (xs ys : List SD) : SeqAt.firstLt (eD xs ys) (rD xs ys) (decide (xs.length < ys.length)) (List.range (min xs.length ys.length)) = M.ltDs xs ys := by
  have := lt_rest _ xs ys 0 rfl (Nat.zero_le _)
  simpa [SeqAt.ltRest] using this
/-- what < is asked of at the first place that differs -/
theorem cmp_first : ∀ {xs ys : List SD} {j : Nat} {x y : SD}, M.cmpbs xs ys = true → xs[j]? = some x → ys[j]? = some y → (∀ i, i < j → xs[i]? = ys[i]?) → x ≠ y → M.cmpb x y = true
  | [], _, _, _, _, _, e, _, _, _ => by simp at e
  | _ :: _, [], _, _, _, _, _, e, _, _ => by simp at e
  | a :: xs, b :: ys, 0, x, y, c, e1, e2, _, ne => by
    simp at e1 e2
    subst e1 e2
    simp only [M.cmpbs, if_neg ne] at c
    exact c
  | a :: xs, b :: ys, j + 1, x, y, c, e1, e2, al, ne => by
    have e0 := al 0 (by omega)
    simp at e0
    subst e0
    simp only [M.cmpbs, if_pos] at c
    exact cmp_first (xs := xs) (ys := ys) (j := j) c (by simpa using e1) (by simpa using e2) (fun i hi => by simpa using al (i + 1) (by omega)) ne
end Snd
namespace Snd
open PySem L2 PySem.Spec PyProof.Rows
theorem depth_at : ∀ {ds : List SD} {j : Nat} {d : SD}, ds[j]? = some d → (toPy d).depth ≤ PyData.depthAll (toPys ds)
  | [], _, _, e => by simp at e
  | d :: ds, 0, _, e => by
    simp at e; subst e
    simp only [toPys, PyData.depthAll]
    omega
  | d :: ds, j + 1, _, e => by
    have := depth_at (ds := ds) (j := j) (by simpa using e)
    simp only [toPys, PyData.depthAll]
    omega
/-- a < b of the data -/
def LtG (a : SD) : Prop := ∀ (b : SD) (A : Around) (s : Shared) (u v : Value) (as bs : List Addr), M.cmpb a b = true → M.pureD a = true → M.pureD b = true → (toPy a).canLay0 = true → (toPy b).canLay0 = true →
  Reads s.heap u (toPy a) as → Reads s.heap v (toPy b) bs → A.units + min (toPy a).depth (toPy b).depth < cLine → SeqAt.RcLt A s u v (M.ltD a b)
theorem ltG_seq {xs : List SD} (ih : ∀ x ∈ xs, LtG x) : LtG (.tup xs) := by
  intro b A s u v as bs c pa pb ca cb ra rb hu
  cases b with
  | tup ys =>
    have c : M.cmpbs xs ys = true := by simpa only [M.cmpb] using c
    have pa : M.pureDs xs = true := by simpa only [M.pureD] using pa
    have pb : M.pureDs ys = true := by simpa only [M.pureD] using pb
    have ca : PyData.canLayAll0 (toPys xs) = true := ca
    have cb : PyData.canLayAll0 (toPys ys) = true := cb
    have lx : (toPys xs).length = xs.length := by
      have : ∀ l : List SD, (toPys l).length = l.length := fun l => by induction l with
        | nil => rfl
        | cons x l h => simp [toPys, h]
      exact this xs
    have ly : (toPys ys).length = ys.length := by
      have : ∀ l : List SD, (toPys l).length = l.length := fun l => by induction l with
        | nil => rfl
        | cons x l h => simp [toPys, h]
      exact this ys
    cases ra with
    | @tuple p o vs n _ as₁ g1 g2 g3 g4 =>
      cases rb with
      | @tuple q o' ws n' _ bs₁ k1 k2 k3 k4 =>
        have n1 : vs.size = xs.length := by simpa [lx] using reads_len g4
        have n2 : ws.size = ys.length := by simpa [ly] using reads_len k4
        have hd : A.units + 1 + min (PyData.depthAll (toPys xs)) (PyData.depthAll (toPys ys)) < cLine := by
          have e1 : (PyData.tuple (toPys xs)).depth = PyData.depthAll (toPys xs) + 1 := rfl
          have e2 : (PyData.tuple (toPys ys)).depth = PyData.depthAll (toPys ys) + 1 := rfl
          have hu : A.units + min (PyData.tuple (toPys xs)).depth (PyData.tuple (toPys ys)).depth < cLine := hu
          omega
        have key := lt_whole xs ys
        show SeqAt.RcLt A s _ _ (M.ltD (.tup xs) (.tup ys))
        have e0 : M.ltD (.tup xs) (.tup ys) = M.ltDs xs ys := by simp only [M.ltD]
        rw [e0, ← key]
        have both : ∀ j (a : j < vs.size) (b : j < ws.size), ∃ x y a1 b1, xs[j]? = some x ∧ ys[j]? = some y ∧ Reads s.heap vs[j] (toPy x) a1 ∧ Reads s.heap ws[j] (toPy y) b1 := fun j a b => by
          have ex : xs[j]? = some (xs[j]'(by omega)) := List.getElem?_eq_getElem (by omega)
          have ey : ys[j]? = some (ys[j]'(by omega)) := List.getElem?_eq_getElem (by omega)
          obtain ⟨v1, a1, f1, r1⟩ := reads_get g4 (toPys_get ex)
          obtain ⟨v2, b1, f2, r2⟩ := reads_get k4 (toPys_get ey)
          have f1' : vs[j] = v1 := by simpa [Array.getElem?_toList, a] using f1
          have f2' : ws[j] = v2 := by simpa [Array.getElem?_toList, b] using f2
          exact ⟨_, _, a1, b1, ex, ey, by rw [f1']; exact r1, by rw [f2']; exact r2⟩
        have main := SeqAt.RcLt.tuplesF (A := A) (s := s) (p := p) (q := q) (xs := vs) (ys := ws) (e := eD xs ys) (r := rD xs ys) ⟨_, g1, g2, _, g3⟩ ⟨_, k1, k2, _, k3⟩ (by omega) (fun j a b => ?_) (fun j a b hall hj => ?_)
        · rw [n1, n2] at main
          exact main
        · obtain ⟨x, y, a1, b1, ex, ey, r1, r2⟩ := both j a b
          have := SeqAt.eqAt_reads (toPy x) (toPy y) A.in1 s _ _ _ _ r1 r2 (canAll_at ca ex) (canAll_at cb ey) (by
            have := depth_at ex
            have := depth_at ey
            have e : A.in1.units = A.units + 1 := rfl
            omega)
          rw [eqv_py x y (pureDs_at pa ex) (pureDs_at pb ey)] at this
          have e1 : eD xs ys j = decide (x = y) := by simp [eD, ex, ey]
          rw [e1]
          exact this
        · obtain ⟨x, y, a1, b1, ex, ey, r1, r2⟩ := both j a b
          have e1 : eD xs ys j = decide (x = y) := by simp [eD, ex, ey]
          have e2 : rD xs ys j = M.ltD x y := by simp [rD, ex, ey]
          rw [e1] at hj
          rw [e2]
          refine ih x (List.mem_of_getElem? ex) y A.in1 s _ _ _ _ (cmp_first c ex ey (fun i hi => by simpa [eD] using hall i hi) (by simpa using hj)) (pureDs_at pa ex) (pureDs_at pb ey) (canAll_at ca ex) (canAll_at cb ey) r1 r2 ?_
          have := depth_at ex
          have := depth_at ey
          have e : A.in1.units = A.units + 1 := rfl
          omega
  | _ => simp [M.cmpb] at c
mutual
theorem ltG : ∀ a : SD, LtG a
  | .tup xs => ltG_seq (ltGs xs)
  | .int x => fun b A s u v as bs c _ _ _ _ ra rb _ => by
    cases b with
    | int y =>
      cases ra
      cases rb
      intro prog w E Q hq
      refine PyProof.Rows.lt_int ?_
      simpa [M.ltD] using hq
    | _ => simp [M.cmpb] at c
  | .str x => fun b A s u v as bs c _ _ _ _ ra rb _ => by
    cases b with
    | str y =>
      cases ra
      cases rb
      intro prog w E Q hq
      refine PyProof.Rows.lt_str ?_
      simpa [M.ltD, sV_cps] using hq
    | _ => simp [M.cmpb] at c
  | .non => fun b A s u v as bs c => by simp [M.cmpb] at c
  | .bl _ => fun b A s u v as bs c => by simp [M.cmpb] at c
  | .ref _ => fun b A s u v as bs c => by simp [M.cmpb] at c
  | .rol _ => fun b A s u v as bs c => by simp [M.cmpb] at c
theorem ltGs : ∀ xs : List SD, ∀ x ∈ xs, LtG x
  | [], x, h => nomatch h
  | y :: ys, x, h => by
    rcases List.mem_cons.mp h with e | h
    · rw [e]; exact ltG y
    · exact ltGs ys x h
end
/-- x < y of nested data -/
def rLtD (K : Fr) : R2 := fun x y H Q => ∃ a b : SD, M.cmpb a b = true ∧ M.pureD a = true ∧ M.pureD b = true ∧ (toPy a).canLay0 = true ∧ (toPy b).canLay0 = true ∧ ((toPy a).depth ≤ 191 ∨ (toPy b).depth ≤ 191) ∧ Dp K H x (toPy a) ∧ Dp K H y (toPy b) ∧ Q (.bl (M.ltD a b)) H
theorem op_ltD {X : Cx} (hu : X.A.units + 200 < cLine) : OpR X (compareOp .Lt) (rLtD X.F) := by
  intro pins s σ H x y v u Q I rx ry h
  obtain ⟨a, b, c, pa, pb, ca, cb, dp, hd, he, q⟩ := h
  obtain ⟨as, r1⟩ := Dp.reads I _ x v hd rx
  obtain ⟨bs, r2⟩ := Dp.reads I _ y u he ry
  exact ltG a b X.A s v u as bs c pa pb ca cb r1 r2 (by omega) _ _ _ _ ⟨.bl _, H, I, rfl, q⟩

/-! ### sorted of tuples -/
theorem swo_lt (k : Value → SD) : SrtO.Swo fun v u => M.ltD (k v) (k u) := ⟨fun _ _ h => M.ltD_asym h, fun _ _ _ h1 h2 => M.ltD_neg h1 h2⟩
theorem toPy_inj {a b : SD} (pa : M.pureD a = true) (pb : M.pureD b = true) (e : toPy a = toPy b) : a = b := by
  have h1 := eqv_py a b pa pb
  have h2 := eqv_py a a pa pa
  rw [e] at h1 h2
  rw [h1] at h2
  simpa using h2
section
variable {prog : Program} {w : World}
open PySem.W
theorem kat_data {A : Around} {b fin : Bool} {Q : Bool → Shared → Prop} : ∀ {xs ys : List SD} {vs ws : List Value} {s : Shared} {as bs : List Addr} {i : Nat}, ReadsAll s.heap vs (toPys xs) as → ReadsAll s.heap ws (toPys ys) bs →
    M.cmpbs xs ys = true → M.pureDs xs = true → M.pureDs ys = true → PyData.canLayAll0 (toPys xs) = true → PyData.canLayAll0 (toPys ys) = true →
    A.units + 1 + min (PyData.depthAll (toPys xs)) (PyData.depthAll (toPys ys)) < cLine → fin = decide (xs.length < ys.length) → ((b && i == 0) = true → ∀ x r, xs = x :: r → M.rkD x ≠ 4) → Q (M.ltDs xs ys) s → KatLex prog w A b fin Q (vs.zip ws) i s
  | [], ys, vs, ws, s, as, bs, i, ra, rb, c, pa, pb, ca, cb, hu, hf, hb, q => by
    cases ra
    rw [List.zip_nil_left]
    refine kat_nil ?_
    rw [hf]
    cases ys <;> simpa [M.ltDs] using q
  | x :: xs, [], vs, ws, s, as, bs, i, ra, rb, c, pa, pb, ca, cb, hu, hf, hb, q => by
    cases rb
    rw [List.zip_nil_right]
    refine kat_nil ?_
    rw [hf]
    simpa [M.ltDs] using q
  | x :: xs, y :: ys, vs, ws, s, as, bs, i, ra, rb, c, pa, pb, ca, cb, hu, hf, hb, q => by
    cases ra with
    | @cons v vs _ _ a1 a2 r1 r2 =>
      cases rb with
      | @cons w' ws _ _ b1 b2 t1 t2 =>
        obtain ⟨pa1, pa2⟩ := ba (show (M.pureD x && M.pureDs xs) = true by simpa only [M.pureDs] using pa)
        obtain ⟨pb1, pb2⟩ := ba (show (M.pureD y && M.pureDs ys) = true by simpa only [M.pureDs] using pb)
        obtain ⟨ca1, ca2⟩ := ba (show ((toPy x).canLay0 && PyData.canLayAll0 (toPys xs)) = true from ca)
        obtain ⟨cb1, cb2⟩ := ba (show ((toPy y).canLay0 && PyData.canLayAll0 (toPys ys)) = true from cb)
        have e1 : PyData.depthAll (toPys (x :: xs)) = max (toPy x).depth (PyData.depthAll (toPys xs)) := by simp [toPys, PyData.depthAll]
        have e2 : PyData.depthAll (toPys (y :: ys)) = max (toPy y).depth (PyData.depthAll (toPys ys)) := by simp [toPys, PyData.depthAll]
        rw [e1, e2] at hu
        show KatLex prog w A b fin Q ((v, w') :: vs.zip ws) i s
        refine kat_cons (SeqAt.eqAt_reads (toPy x) (toPy y) A s v w' _ _ r1 t1 ca1 cb1 (by omega) prog w _ _ ?_)
        rw [eqv_py x y pa1 pb1]
        rw [M.ltDs_cons] at q
        have c0 : (if x = y then M.cmpbs xs ys else M.cmpb x y) = true := by simpa only [M.cmpbs] using c
        by_cases z : x = y
        · rw [if_pos z] at q c0
          rw [decide_eq_true z]
          refine kat_yes (kat_data r2 t2 c0 pa2 pb2 ca2 cb2 (by omega) ?_ (fun h => ?_) q)
          · rw [hf]; simp
          · simp at h
        · rw [if_neg z] at q c0
          rw [decide_eq_false z]
          refine kat_no ?_
          cases hbi : (b && i == 0) with
          | true =>
            have n4 := hb hbi x xs rfl
            cases x with
            | int m =>
              cases y with
              | int n =>
                cases r1
                cases t1
                refine PyProof.Rows.oneLt_int ?_
                simpa [M.ltD] using q
              | _ => simp [M.cmpb] at c0
            | str m =>
              cases y with
              | str n =>
                cases r1
                cases t1
                refine oneLt_any_str ?_
                simpa [M.ltD, sV_cps] using q
              | _ => simp [M.cmpb] at c0
            | tup _ => exact absurd rfl n4
            | _ => simp [M.cmpb] at c0
          | false =>
            refine kat_one v w' (ltG x y A s v w' _ _ c0 pa1 pb1 ca1 cb1 r1 t1 (by omega) prog w _ _ ?_)
            exact q
theorem first_type {s : Shared} {y : SD} {v : Value} {as : List Addr} {t : Nat} (r : Reads s.heap v (toPy y) as) (e : M.rkD y = t) (ht : t = 2 ∨ t = 3 ∨ t = 4) : Looks (model prog w) s.heap (typeOf v) (if t = 2 then .type "int" else if t = 3 then .type "str" else .type "tuple") := by
  cases y with
  | int i =>
    cases r
    have : t = 2 := e.symm
    subst this
    exact Looks.of_pure rfl
  | str i =>
    cases r
    have : t = 3 := e.symm
    subst this
    exact Looks.of_pure rfl
  | tup xs =>
    have : t = 4 := e.symm
    subst this
    cases r with
    | tuple h1 h2 h3 h4 =>
      rename_i a o vs n
      have key : Looks (model prog w) s.heap (typeOf (.ref a)) o.cls := (Looks.ld h1).andThen .now
      rw [h2] at key
      simpa using key
  | _ =>
    simp [M.rkD] at e
    omega

theorem tups_firsts {s : Shared} {t : Nat} (ht : t = 2 ∨ t = 3 ∨ t = 4) : ∀ {vs : List Value} {ds : List SD} {as : List Addr}, ReadsAll s.heap vs (toPys ds) as → (∀ x ∈ ds, ∃ y r, x = .tup (y :: r) ∧ M.rkD y = t) →
    ∃ fs, KatTups s.heap vs fs ∧ fs.length = ds.length ∧ ∀ v ∈ fs, Looks (model prog w) s.heap (typeOf v) (if t = 2 then .type "int" else if t = 3 then .type "str" else .type "tuple")
  | vs, [], as, r, _ => by
    cases r
    exact ⟨[], KatTups.nil, rfl, fun v h => nomatch h⟩
  | vs, d :: ds, as, r, h => by
    obtain ⟨y, l, e, k⟩ := h d List.mem_cons_self
    subst e
    cases r with
    | cons r1 r2 =>
      obtain ⟨fs, h1, h2, h3⟩ := tups_firsts ht r2 fun x hx => h x (List.mem_cons_of_mem _ hx)
      cases r1 with
      | tuple g1 g2 g3 g4 =>
        rename_i a o us n
        obtain ⟨f, b, e1, e2⟩ := reads_get (j := 0) (d := toPy y) g4 (by simp [toPys])
        refine ⟨f :: fs, KatTups.cons g1 g2 g3 (by simpa using e1) h1, by simp [h2], fun v hv => ?_⟩
        rcases List.mem_cons.mp hv with z | hv
        · rw [z]; exact first_type e2 k ht
        · exact h3 v hv
end
/-- sorted(l), l a list of tuples that read as ds -/
theorem sorted_tups {prog : Program} {w : World} {A : Around} {E : Value → Shared → Prop} {s : Shared} {l : Addr} {its : List Value} {ds : List SD} {as : List Addr} {k : Value → SD} {Q : Value → Shared → Prop} (hl : s.heap.IsList l its.toArray) (hz : its.length ≤ sizeLine)
    (ra : ReadsAll s.heap its (toPys ds) as) (ok : M.tupsOk ds) (can : PyData.canLayAll0 (toPys ds) = true) (hu : A.units + 200 < cLine) (hk : its.map k = ds)
    (h : ∀ (h' : Heap) (d : Addr) (out : List Value), SrtO.Srtd (fun v u => M.ltD (k v) (k u)) out → out.Perm its → (∀ b o, s.heap.get? b = some o → h'.get? b = some o) → s.heap.objs.size ≤ d → (∃ n, h'.get? d = some (seqObj "list" out.toArray n)) → Q (.ref d) { s with heap := h' }) :
    wpAny (model prog w) A (call (.builtin "sorted") [.ref l]) Q E s := by
  obtain ⟨pu, pl, ⟨t, ht, hds⟩, cmp⟩ := ok
  refine SrtO.sorted_ord (swo_lt k) hl hz (fun h2 h₁ a ha kk => ?_) fun out hs hb => ?_
  · intro h' keep
    have all : ∀ b o, s.heap.get? b = some o → h'.get? b = some o := fun b o e => keep b o (kk b o e).1 (kk b o e).2
    have ra' : ReadsAll h' its (toPys ds) as := ReadsAll.keeps all ra
    obtain ⟨fs, f1, f2, f3⟩ := tups_firsts (prog := prog) (w := w) (s := { s with heap := h' }) ht ra' hds
    have ln : its.length = ds.length := by rw [← hk, List.length_map]
    refine ⟨_, fun Q' E' hq => PySem.W.kat_kind (s := { s with heap := h' }) f1 (by omega) f3 (by rcases ht with rfl | rfl | rfl <;> rfl) hq, ?_⟩
    intro p q hp hq
    obtain ⟨i, hi⟩ := List.getElem?_of_mem hp
    obtain ⟨j, hj⟩ := List.getElem?_of_mem hq
    have di : ds[i]? = some (k p.1) := by rw [← hk, List.getElem?_map, hi]; rfl
    have dj : ds[j]? = some (k q.1) := by rw [← hk, List.getElem?_map, hj]; rfl
    obtain ⟨v1, a1, e1, r1⟩ := reads_get ra' (toPys_get di)
    obtain ⟨v2, a2, e2, r2⟩ := reads_get ra' (toPys_get dj)
    rw [hi] at e1
    rw [hj] at e2
    have e1 := Option.some.inj e1
    have e2 := Option.some.inj e2
    have c1 := canAll_at can di
    have c2 := canAll_at can dj
    have u1 := pureDs_at pu di
    have u2 := pureDs_at pu dj
    have m1 := List.mem_of_getElem? di
    have m2 := List.mem_of_getElem? dj
    have cc := cmp _ m1 _ m2
    obtain ⟨x1, l1, ex1, k1⟩ := hds _ m1
    obtain ⟨x2, l2, ex2, k2⟩ := hds _ m2
    have pl1 := plains_at pl di
    show wpAny (model prog w) A.in1.in1 (keyLt' _ p.1 q.1) (fun r s' => s' = { s with heap := h' } ∧ r = M.ltD (k p.1) (k q.1)) (fun _ _ => False) { s with heap := h' }
    rw [e1, e2]
    rw [e1] at ex1 pl1 u1 c1
    rw [e2] at ex2 u2 c2
    rw [e1, e2] at cc
    rw [e1] at r1
    rw [e2] at r2
    rw [ex1] at r1 c1 u1 cc pl1
    rw [ex2] at r2 c2 u2 cc
    have elt : M.ltD (k v1) (k v2) = M.ltDs (x1 :: l1) (x2 :: l2) := by rw [ex1, ex2]; simp only [M.ltD]
    rw [elt]
    cases r1 with
    | tuple g1 g2 g3 g4 =>
      cases r2 with
      | tuple t1 t2 t3 t4 =>
        refine PySem.W.kat_lt g1 g3 t1 t3 ?_
        have dp : PyData.depthAll (toPys (x1 :: l1)) ≤ 190 := by
          have := py_depth 190 _ pl1
          have e : (toPy (M.D.tup (x1 :: l1))).depth = PyData.depthAll (toPys (x1 :: l1)) + 1 := rfl
          omega
        have n1 := reads_len g4
        have n2 := reads_len t4
        have tl : ∀ l : List SD, (toPys l).length = l.length := fun l => by induction l with
          | nil => rfl
          | cons x l h => simp [toPys, h]
        rw [tl] at n1 n2
        refine kat_data g4 t4 (by simpa only [M.cmpb] using cc) (by simpa only [M.pureD] using u1) (by simpa only [M.pureD] using u2) c1 c2 ?_ ?_ (fun hb' x r e => ?_) ⟨rfl, rfl⟩
        · have : A.in1.in1.units = A.units + 2 := rfl
          omega
        · rw [← n1, ← n2]
          simp
        · obtain ⟨rfl, rfl⟩ := List.cons.inj e
          rw [k1]
          rcases ht with rfl | rfl | rfl
          · decide
          · decide
          · simp at hb'
  · exact h _ _ out hs hb.perm (fun b o e => sortedAll_old e) (Nat.le_succ _) (sortedAll_at s.heap its out.toArray)
def rSortT (K : Fr) : List V → Hp → VK → Prop := fun xs H Q => ∃ (a : Addr) (vs : List V) (ds : List SD), xs = [V.ref a] ∧ SqL K H a vs ∧ DpAll K H vs (toPys ds) ∧ M.tupsOk ds ∧ PyData.canLayAll0 (toPys ds) = true ∧
  ∀ ps : List (V × SD), ps.Perm (vs.zip ds) → (ps.map (·.2)).Pairwise (fun a b => M.ltD b a = false) → ∀ p, H p = none → Q (.ref p) (upd H p (.lst (ps.map (·.1))))
theorem dp_ref {K : PySem.W.Frag} {H : Hp} {v : V} {ds : List PyData} (d : Dp K H v (.tuple ds)) : ∃ a, v = V.ref a := by
  cases d
  exact ⟨_, rfl⟩
theorem dps_get {K : PySem.W.Frag} {H : Hp} : ∀ {vs : List V} {ds : List PyData} {v : V}, DpAll K H vs ds → v ∈ vs → ∃ d ∈ ds, Dp K H v d
  | _, _, _, .nil, h => nomatch h
  | _, _, _, .cons d r, h => by
    rcases List.mem_cons.mp h with e | h
    · subst e; exact ⟨_, List.mem_cons_self, d⟩
    · obtain ⟨d', m, x⟩ := dps_get r h
      exact ⟨d', List.mem_cons_of_mem _ m, x⟩
theorem toPys_mem {ds : List SD} {p : PyData} (h : p ∈ toPys ds) : ∃ d ∈ ds, p = toPy d := by
  induction ds with
  | nil => cases h
  | cons x ds ih =>
    rcases List.mem_cons.mp (show p ∈ toPy x :: toPys ds from h) with e | h
    · exact ⟨x, List.mem_cons_self, e⟩
    · obtain ⟨d, m, e⟩ := ih h
      exact ⟨d, List.mem_cons_of_mem _ m, e⟩
open Classical in
/-- the data that a value reads as -/
noncomputable def keyOf (h : Heap) (ds : List SD) (u : Value) : SD := if z : ∃ d, d ∈ ds ∧ ∃ as, Reads h u (toPy d) as then z.choose else .non
theorem keyOf_eq {h : Heap} {ds : List SD} {u : Value} {d : SD} {as : List Addr} (p : M.pureDs ds = true) (c : PyData.canLayAll0 (toPys ds) = true) (m : d ∈ ds) (r : Reads h u (toPy d) as) : keyOf h ds u = d := by
  have z : ∃ d, d ∈ ds ∧ ∃ as, Reads h u (toPy d) as := ⟨d, m, as, r⟩
  have e : keyOf h ds u = z.choose := by unfold keyOf; rw [dif_pos z]
  obtain ⟨m2, as2, r2⟩ := z.choose_spec
  rw [e]
  obtain ⟨i, hi⟩ := List.getElem?_of_mem m
  obtain ⟨j, hj⟩ := List.getElem?_of_mem m2
  exact toPy_inj (pureDs_at p hj) (pureDs_at p hi) (SeqAt.Reads.unique _ _ _ _ _ (canAll_at c hj) r2 r)
theorem keys_eq {h : Heap} {D : List SD} (p : M.pureDs D = true) (c : PyData.canLayAll0 (toPys D) = true) : ∀ {us : List Value} {ds : List SD} {as : List Addr}, (∀ d ∈ ds, d ∈ D) → ReadsAll h us (toPys ds) as → us.map (keyOf h D) = ds
  | _, [], _, _, r => by cases r; rfl
  | _, d :: ds, _, s, r => by
    cases r with
    | cons r1 r2 =>
      rw [List.map_cons, keyOf_eq p c (s d List.mem_cons_self) r1, keys_eq p c (fun x hx => s x (List.mem_cons_of_mem _ hx)) r2]
theorem cr_sortT {X : Cx} (hu : X.A.units + 200 < cLine) : CallR X (.builtin "sorted") (rSortT X.F) := by
  intro pins s σ H xs us Q I r h
  obtain ⟨a, vs, ds, rfl, hs, hd, ok, can, q⟩ := h
  obtain ⟨its, rv, hl, hz⟩ := I.list hs
  obtain ⟨u, rfl, ru⟩ := vals1 r
  obtain rfl : u = Value.ref a := ru
  obtain ⟨as, ra⟩ := Dp.readsAll I _ _ _ hd rv
  have pu := ok.1
  obtain ⟨t, ht, hds⟩ := ok.2.2.1
  obtain ⟨e1, e2⟩ := refs_back rv fun x m => by
    obtain ⟨d, md, dd⟩ := dps_get hd m
    obtain ⟨d', m', e⟩ := toPys_mem md
    obtain ⟨y, l, e3, _⟩ := hds d' m'
    rw [e, e3] at dd
    exact dp_ref dd
  have ek := keys_eq pu can (fun d m => m) ra
  refine sorted_tups (k := keyOf s.heap ds) hl.isList (by rw [← rv.length]; exact hz) ra ok can hu ek fun h' d out so hp kp hd2 hn => ?_
  have h3 : ∀ u ∈ out, ∃ a, u = Value.ref a := fun u hu => e2 u (hp.mem_iff.mp hu)
  obtain ⟨n, hn⟩ := hn
  have ez : vs.zip ds = its.map fun u => (backV u, keyOf s.heap ds u) := by
    conv => lhs; rw [e1, ← ek]
    rw [List.zip_map']
  have ef : (out.map fun u => (backV u, keyOf s.heap ds u)).map (·.1) = out.map backV := by rw [List.map_map]; rfl
  refine ⟨.ref d, upd H d (.lst (out.map backV)), I.laid (t' := s.toks) kp hd2 ⟨?_, out, n, vals_back h3, hn⟩, rfl, ?_⟩
  · rw [List.length_map, hp.length_eq, ← rv.length]; exact hz
  · rw [← ef]
    refine q _ ?_ ?_ d (I.hok.fresh hd2)
    · rw [ez]; exact hp.map _
    · rw [List.map_map]
      exact List.pairwise_map.mpr so
end Snd
end
section
/-! Sound3: comparisons, items, slices, stores. -/
namespace Snd
open PySem L2 PySem.Spec PyProof.Rows
section
variable {K : Fr} {H H1 H' : Hp} {h h1 h' : M.AH} {Qa : M.VQ} {Q : VK} {qb : Bool → Prop}

/-! ### == -/
def rEqP (K : Fr) : R2 := fun x y H Q => ∃ d e, Dp K H x d ∧ Dp K H y e ∧ d.canLay0 = true ∧ e.canLay0 = true ∧ (d.depth ≤ 191 ∨ e.depth ≤ 191) ∧ Q (.bl (PyData.eqv d e)) H
def rNeP (K : Fr) : R2 := fun x y H Q => ∃ d e, Dp K H x d ∧ Dp K H y e ∧ d.canLay0 = true ∧ e.canLay0 = true ∧ (d.depth ≤ 191 ∨ e.depth ≤ 191) ∧ Q (.bl (!PyData.eqv d e)) H
theorem op_eqP {X : Cx} (hu : X.A.units + 200 < cLine) : OpR X (compareOp .Eq) (rEqP X.F) := by
  intro pins s σ H x y v u Q I rx ry h
  obtain ⟨d, e, hd, he, sd, se, dp, q⟩ := h
  obtain ⟨as, r1⟩ := Dp.reads I d x v hd rx
  obtain ⟨bs, r2⟩ := Dp.reads I e y u he ry
  exact SeqAt.compareEq_reads r1 r2 sd se (by omega) ⟨.bl _, H, I, rfl, q⟩
theorem op_neP {X : Cx} (hu : X.A.units + 200 < cLine) : OpR X (compareOp .NotEq) (rNeP X.F) := by
  intro pins s σ H x y v u Q I rx ry h
  obtain ⟨d, e, hd, he, sd, se, dp, q⟩ := h
  obtain ⟨as, r1⟩ := Dp.reads I d x v hd rx
  obtain ⟨bs, r2⟩ := Dp.reads I e y u he ry
  exact SeqAt.compareNe_reads r1 r2 sd se (by omega) ⟨.bl _, H, I, rfl, q⟩
/-- what two equal things are asked -/
def EqK (K : Fr) (x y : V) (H : Hp) (P : Bool → Prop) : Prop := (∃ a b, x = .bl a ∧ y = .bl b ∧ P (decide (a = b))) ∨ ∃ d e, Dp K H x d ∧ Dp K H y e ∧ d.canLay0 = true ∧ e.canLay0 = true ∧ (d.depth ≤ 191 ∨ e.depth ≤ 191) ∧ P (PyData.eqv d e)
theorem eqk {dx dy : SD} {x y : V} {P : Bool → Prop} (rh : RH K H h) (rx : Rep K H dx x) (ry : Rep K H dy y) (q : M.eqOk dx dy h P) : EqK K x y H P := by
  have plainCase : M.pureD dx = true ∧ M.pureD dy = true ∧ (M.plain 190 dx = true ∨ M.plain 190 dy = true) ∧ P (decide (dx = dy)) → EqK K x y H P := fun ⟨p1, p2, dp, q⟩ => by
    refine .inr ⟨toPy dx, toPy dy, rep_dp p1 rx, rep_dp p2 ry, rep_can p1 rx, rep_can p2 ry, ?_, by rw [eqv_py dx dy p1 p2]; exact q⟩
    rcases dp with dp | dp
    · exact .inl (Nat.le_succ_of_le (py_depth _ _ dp))
    · exact .inr (Nat.le_succ_of_le (py_depth _ _ dp))
  cases dx with
  | bl a => cases dy with
    | bl b =>
      cases (show x = _ from rx); cases (show y = _ from ry)
      exact .inl ⟨a, b, rfl, rfl, q⟩
    | _ => exact False.elim q
  | ref p => cases dy with
    | ref p2 =>
      cases (show x = _ from rx); cases (show y = _ from ry)
      obtain ⟨xs, ys, e1, e2, p1, p2, dp, q⟩ := q
      obtain ⟨vs, a1, r1⟩ := rh _ _ e1
      obtain ⟨ws, a2, r2⟩ := rh _ _ e2
      refine .inr ⟨.list (toPys xs), .list (toPys ys), .lst (SqL.of a1) (reps_dp p1 r1), .lst (SqL.of a2) (reps_dp p2 r2), reps_can p1 r1, reps_can p2 r2, ?_, ?_⟩
      · simp only [PyData.depth]
        rcases dp with dp | dp
        · exact .inl (Nat.succ_le_succ (pys_depth _ _ dp))
        · exact .inr (Nat.succ_le_succ (pys_depth _ _ dp))
      · simp only [PyData.eqv, eqv_pys xs ys p1 p2]
        exact q
    | _ => exact False.elim q
  | non => exact plainCase q
  | int _ => exact plainCase q
  | str _ => exact plainCase q
  | tup _ => exact plainCase q
  | rol _ => exact plainCase q

/-! ### in -/
def rDin (neg : Bool) : R2 := fun x y H Q => ∃ a o, y = .ref a ∧ DGet H a x o ∧ Q (.bl (if neg then !o.isSome else o.isSome)) H
theorem op_din {X : Cx} (hu : X.A.units + 1 < cLine) : OpR X (compareOp .In) (rDin false) := by
  intro pins s σ H x y v u Q I rx ry h
  obtain ⟨a, o, rfl, g, q⟩ := h
  obtain rfl : u = Value.ref a := ry
  exact d_in hu I g rx fun s3 I3 => ⟨.bl o.isSome, H, I3, rfl, q⟩
theorem op_dnotin {X : Cx} (hu : X.A.units + 1 < cLine) : OpR X (compareOp .NotIn) (rDin true) := by
  intro pins s σ H x y v u Q I rx ry h
  obtain ⟨a, o, rfl, g, q⟩ := h
  obtain rfl : u = Value.ref a := ry
  exact d_notIn hu I g rx fun s3 I3 => ⟨.bl (!o.isSome), H, I3, rfl, q⟩
def rLin (K : Fr) (neg : Bool) : R2 := fun x y H Q => ∃ d ds, Dp K H x d ∧ Dp K H y (.list ds) ∧ d.canLay0 = true ∧ PyData.canLayAll0 ds = true ∧ (d.depth ≤ 191 ∨ PyData.depthAll ds ≤ 191) ∧ Q (.bl (if neg then !ds.any fun z => PyData.eqv z d else ds.any fun z => PyData.eqv z d)) H
theorem op_lin {X : Cx} (hu : X.A.units + 200 < cLine) : OpR X (compareOp .In) (rLin X.F false) := by
  intro pins s σ H x y v u Q I rx ry h
  obtain ⟨d, ds, hd, he, sd, se, dp, q⟩ := h
  obtain ⟨as, r1⟩ := Dp.reads I d x v hd rx
  obtain ⟨bs, r2⟩ := Dp.reads I (.list ds) y u he ry
  exact SeqAt.in_list_reads r2 r1 se sd (by omega) ⟨.bl _, H, I, rfl, q⟩
theorem op_lnotin {X : Cx} (hu : X.A.units + 200 < cLine) : OpR X (compareOp .NotIn) (rLin X.F true) := by
  intro pins s σ H x y v u Q I rx ry h
  obtain ⟨d, ds, hd, he, sd, se, dp, q⟩ := h
  obtain ⟨as, r1⟩ := Dp.reads I d x v hd rx
  obtain ⟨bs, r2⟩ := Dp.reads I (.list ds) y u he ry
  exact SeqAt.notIn_list_reads r2 r1 se sd (by omega) ⟨.bl _, H, I, rfl, q⟩
theorem any_py : ∀ (xs : List SD) (x : SD), M.pureDs xs = true → M.pureD x = true → ((toPys xs).any fun z => PyData.eqv z (toPy x)) = xs.any fun y => decide (y = x)
  | [], _, _, _ => rfl
  | y :: ys, x, p, q => by
    obtain ⟨p1, p2⟩ := ba (show (M.pureD y && M.pureDs ys) = true by simpa only [M.pureDs] using p)
    show (PyData.eqv (toPy y) (toPy x) || (toPys ys).any fun z => PyData.eqv z (toPy x)) = _
    rw [eqv_py y x p1 q, any_py ys x p2 q, List.any_cons]
/-- keys -/
theorem keyV_inj {a b : SD} {k : Key} (h1 : keyV a = some k) (h2 : keyV b = some k) : a = b := by
  cases a <;> simp [keyV] at h1
  · cases b <;> simp [keyV] at h2
    · subst h1; rw [Sum.inl.inj h2]
    · subst h1; cases h2
  · cases b <;> simp [keyV] at h2
    · subst h1; cases h2
    · subst h1; rw [sV_inj (Sum.inr.inj h2)]
theorem keyV_rep {d : SD} {k : Key} {v : V} (e : keyV d = some k) (r : Rep K H d v) : v = kV k := by
  cases d <;> simp [keyV] at e
  · subst e; exact r
  · subst e; exact r.1
theorem keyOk0 {d : SD} (k : M.keyOk 0 d = true) : ∃ x, keyV d = some x := by
  cases d <;> first | exact ⟨_, rfl⟩ | simp [M.keyOk] at k
theorem rep_str {d : SD} {v : V} (r : Rep K H d v) : ∀ s, d = .str s → sOk s := fun s e => by subst e; exact r.2
theorem reps_str {ds : List SD} {vs : List V} (r : Reps K H ds vs) : ∀ d ∈ ds, ∀ s, d = .str s → sOk s := by
  induction ds generalizing vs with
  | nil => intro d hd; cases hd
  | cons a as ih =>
    obtain ⟨v, w, _, r1, r2⟩ := r
    intro d hd
    rcases List.mem_cons.mp hd with e | hd
    · subst e; exact rep_str r1
    · exact ih r2 d hd

/-- a table of any kind of keys: how the two look-ups agree -/
structure KeyRel (κ : Type) [DecidableEq κ] (K : Fr) (H : Hp) (R : SD → κ → Prop) : Prop where
  inj : ∀ a b k, R a k → R b k → a = b
  fn : ∀ a k k', R a k → R a k' → k = k'
abbrev PR {κ : Type} (K : Fr) (H : Hp) (R : SD → κ → Prop) := fun (x : SD × SD) (p : κ × V) => R x.1 p.1 ∧ Rep K H x.2 p.2
section
variable {κ : Type} [DecidableEq κ] {R : SD → κ → Prop} (kr : KeyRel κ K H R)
include kr
theorem kv_get {kvs : List (SD × SD)} {ps : List (κ × V)} (r : Paired (PR K H R) kvs ps) {d : SD} {k : κ} (hk : R d k) :
    (M.kvGet kvs d = none ∧ valV ps k = none) ∨ ∃ e v, M.kvGet kvs d = some e ∧ valV ps k = some v ∧ Rep K H e v := by
  induction r with
  | nil => exact .inl ⟨rfl, rfl⟩
  | @cons x p xs ps hx t ih =>
    by_cases e : x.1 = d
    · have e2 : p.1 = k := kr.fn _ _ _ (e ▸ hx.1) hk
      exact .inr ⟨x.2, p.2, by simp [M.kvGet, List.find?_cons, e], valV_pos e2, hx.2⟩
    · have e2 : ¬ p.1 = k := fun z => e (kr.inj _ _ _ (z ▸ hx.1) hk)
      have e3 : M.kvGet (x :: xs) d = M.kvGet xs d := by simp [M.kvGet, List.find?_cons, e]
      rw [e3, valV_neg e2]
      exact ih
theorem kv_any {kvs : List (SD × SD)} {ps : List (κ × V)} (r : Paired (PR K H R) kvs ps) {d : SD} {k : κ} (hk : R d k) :
    (kvs.any fun kv => decide (kv.1 = d)) = ps.any fun kv => decide (kv.1 = k) := by
  induction r with
  | nil => rfl
  | @cons x p xs ps hx t ih =>
    rw [List.any_cons, List.any_cons, ih]
    congr 1
    by_cases e : x.1 = d
    · have e2 : p.1 = k := kr.fn _ _ _ (e ▸ hx.1) hk
      rw [decide_eq_true e, decide_eq_true e2]
    · have e2 : ¬ p.1 = k := fun z => e (kr.inj _ _ _ (z ▸ hx.1) hk)
      rw [decide_eq_false e, decide_eq_false e2]
theorem kv_repl {kvs : List (SD × SD)} {ps : List (κ × V)} (r : Paired (PR K H R) kvs ps) {d e : SD} {k : κ} {v : V} (hk : R d k) (re : Rep K H e v) :
    Paired (PR K H R) (kvs.map fun kv => if kv.1 = d then (kv.1, e) else kv) (ps.map fun kv => if kv.1 = k then (kv.1, v) else kv) := by
  induction r with
  | nil => exact .nil
  | @cons x p xs ps hx t ih =>
    rw [List.map_cons, List.map_cons]
    refine .cons ?_ ih
    by_cases e : x.1 = d
    · have e2 : p.1 = k := kr.fn _ _ _ (e ▸ hx.1) hk
      rw [if_pos e, if_pos e2]
      exact ⟨hx.1, re⟩
    · have e2 : ¬ p.1 = k := fun z => e (kr.inj _ _ _ (z ▸ hx.1) hk)
      rw [if_neg e, if_neg e2]
      exact hx
theorem kv_put {kvs : List (SD × SD)} {ps : List (κ × V)} (r : Paired (PR K H R) kvs ps) {d e : SD} {k : κ} {v : V} (hk : R d k) (re : Rep K H e v) : Paired (PR K H R) (M.kvPut kvs d e) (putK ps k v) := by
  unfold M.kvPut putK
  rw [kv_any kr r hk]
  by_cases z : (ps.any fun kv => decide (kv.1 = k)) = true
  · rw [if_pos z, if_pos z]; exact kv_repl kr r hk re
  · rw [if_neg z, if_neg z]; exact Paired.snoc r ⟨hk, re⟩
end
def R0 : SD → Key → Prop := fun d k => keyV d = some k ∧ ∀ s, d = .str s → sOk s
theorem kr0 : KeyRel Key K H R0 := ⟨fun a b k h1 h2 => keyV_inj h1.1 h2.1, fun a k k' h1 h2 => Option.some.inj (h1.1.symm.trans h2.1)⟩
theorem dct0 {p : Addr} {kvs : List (SD × SD)} : ObRep K H p (.dct 0 kvs) ↔ ∃ ps : List (Key × V), H p = some (.dK ps) ∧ Paired (PR K H R0) kvs ps :=
  ⟨fun ⟨ps, e, r⟩ => ⟨ps, e, Paired.mapP r fun _ _ z => ⟨⟨z.1, z.2.1⟩, z.2.2⟩⟩, fun ⟨ps, e, r⟩ => ⟨ps, e, Paired.mapP r fun _ _ z => ⟨z.1.1, z.1.2, z.2⟩⟩⟩
/-- what a dict says of a key -/
theorem dget_ok {p : Addr} {kd : Nat} {kvs : List (SD × SD)} {d : SD} {v : V} (o : ObRep K H p (.dct kd kvs)) (kk : M.keyOk kd d = true) (r : Rep K H d v) :
    ∃ ov, DGet H p v ov ∧ ((M.kvGet kvs d = none ∧ ov = none) ∨ ∃ e w, M.kvGet kvs d = some e ∧ ov = some w ∧ Rep K H e w) := by
  match kd, o, kk with
  | 0, o, kk =>
    obtain ⟨ps, e, pr⟩ := dct0.mp o
    obtain ⟨k, ek⟩ := keyOk0 kk
    have ev := keyV_rep ek r
    subst ev
    refine ⟨valV ps k, DGet.k e, ?_⟩
    exact (kv_get kr0 pr ⟨ek, rep_str r⟩).imp (fun z => z) (fun ⟨e, v, a, b, c⟩ => ⟨e, v, a, b, c⟩)
theorem rdct0 {p : Addr} {kvs : List (SD × SD)} : ObRep K H p (.rdct 0 kvs) ↔ ∃ (od : Obj) (ps : List (Key × V)), H p = some (.frz od (.dK ps)) ∧ Paired (PR K H R0) kvs ps :=
  ⟨fun ⟨od, ps, e, r⟩ => ⟨od, ps, e, Paired.mapP r fun _ _ z => ⟨⟨z.1, z.2.1⟩, z.2.2⟩⟩, fun ⟨od, ps, e, r⟩ => ⟨od, ps, e, Paired.mapP r fun _ _ z => ⟨z.1.1, z.1.2, z.2⟩⟩⟩
theorem rd_dct {p : Addr} {kd : Nat} {kvs : List (SD × SD)} (o : ObRep K H p (.dct kd kvs) ∨ ObRep K H p (.rdct kd kvs)) : kd = 0 ∧ ∃ ps : List (Key × V), Rd H p (.dK ps) ∧ Paired (PR K H R0) kvs ps := by
  rcases o with o | o
  · match kd, o with
    | 0, o => obtain ⟨ps, e, pr⟩ := dct0.mp o; exact ⟨rfl, ps, .inl e, pr⟩
  · match kd, o with
    | 0, o => obtain ⟨od, ps, e, pr⟩ := rdct0.mp o; exact ⟨rfl, ps, .inr ⟨od, e⟩, pr⟩
theorem dget_rok {p : Addr} {kd : Nat} {kvs : List (SD × SD)} {d : SD} {v : V} (o : ObRep K H p (.rdct kd kvs)) (kk : M.keyOk kd d = true) (r : Rep K H d v) :
    ∃ ov, DGet H p v ov ∧ ((M.kvGet kvs d = none ∧ ov = none) ∨ ∃ e w, M.kvGet kvs d = some e ∧ ov = some w ∧ Rep K H e w) := by
  obtain ⟨rfl, ps, e, pr⟩ := rd_dct (.inr o)
  obtain ⟨k, ek⟩ := keyOk0 kk
  have ev := keyV_rep ek r
  subst ev
  refine ⟨valV ps k, .inl ⟨ps, k, e, rfl, rfl⟩, ?_⟩
  exact (kv_get kr0 pr ⟨ek, rep_str r⟩).imp (fun z => z) (fun ⟨e, v, a, b, c⟩ => ⟨e, v, a, b, c⟩)
theorem dput_ok {p : Addr} {kd : Nat} {kvs : List (SD × SD)} {d e : SD} {v w : V} (o : ObRep K H p (.dct kd kvs)) (kk : M.keyOk kd d = true) (r : Rep K H d v) (re : Rep K H e w) (hz : kvs.length < M.LINE) (hp : h p = some (.dct kd kvs)) (rh : RH K H h) :
    ∃ H', DPut H p v w H' ∧ Frm H h H' (M.up h p (.dct kd (M.kvPut kvs d e))) ∧ RH K H' (M.up h p (.dct kd (M.kvPut kvs d e))) := by
  match kd, o, kk, hp with
  | 0, o, kk, hp =>
    obtain ⟨ps, e1, pr⟩ := dct0.mp o
    obtain ⟨k, ek⟩ := keyOk0 kk
    have ev := keyV_rep ek r
    subst ev
    have hl := line_eq
    have hn := Paired.length pr
    refine ⟨_, DPut.k e1 (by omega), frm_put hp, rh_put rh hp ?_⟩
    refine dct0.mpr ⟨_, upd_same, ?_⟩
    have kp : Kp H (upd H p (.dK (putK ps k w))) := kp_put rh hp
    exact Paired.mapP (kv_put kr0 pr ⟨ek, rep_str r⟩ re) fun _ _ z => ⟨z.1, z.2.kp kp⟩

/-! == of what holds lists and dicts -/
def rEqS (K : Fr) : R2 := fun x y H Q => ∃ (h : M.AH) (a b : SD) (r : Bool), RH K H h ∧ Rep K H a x ∧ Rep K H b y ∧ M.EqS (M.EqD 20 h) h a b r ∧ Q (.bl r) H
section
variable {X : L2.Cx} {pins : List (Addr × Obj)} {σ : L2.St} {s : Shared}
theorem all2_run {A : Around} {R : SD → SD → Prop} (ih : ∀ a b x y v u, R a b → Rep X.F H a x → Rep X.F H b y → RelV x v → RelV y u → SeqAt.EqP X.prog X.w A s v u true) : ∀ {as bs : List SD} {xs ys : List V} {us ws : List Value}, M.All2 R as bs → Reps X.F H as xs → Reps X.F H bs ys → Vals xs us → Vals ys ws →
    us.length = ws.length ∧ ∀ j (h1 : j < us.length) (h2 : j < ws.length), SeqAt.EqP X.prog X.w A s us[j] ws[j] true
  | [], [], _, _, _, _, _, r1, r2, v1, v2 => by
    cases (show _ = _ from r1); cases (show _ = _ from r2)
    cases v1; cases v2
    exact ⟨rfl, fun j h1 => absurd h1 (Nat.not_lt_zero j)⟩
  | [], _ :: _, _, _, _, _, h, _, _, _, _ => h.elim
  | _ :: _, [], _, _, _, _, h, _, _, _, _ => h.elim
  | a :: as, b :: bs, _, _, _, _, ⟨h1, h2⟩, ⟨v, r, e, a1, a2⟩, ⟨v', r', e', b1, b2⟩, v1, v2 => by
    subst e; subst e'
    cases v1 with
    | cons p1 p2 => cases v2 with
      | cons q1 q2 =>
        obtain ⟨l, k⟩ := all2_run ih h2 a2 b2 p2 q2
        refine ⟨by simp [l], fun j j1 j2 => ?_⟩
        cases j with
        | zero => exact ih _ _ _ _ _ _ h1 a1 b1 p1 q1
        | succ j => exact k j (Nat.lt_of_succ_lt_succ j1) (Nat.lt_of_succ_lt_succ j2)
theorem hitsD_run (I : Inv X pins σ H s) {A : Around} {R : SD → SD → Bool → Prop} (ih : ∀ a b x y v u r, R a b r → Rep X.F H a x → Rep X.F H b y → RelV x v → RelV y u → SeqAt.EqP X.prog X.w A s v u r) {kws : List (SD × SD)} {ls : List (Key × V)} {vb : List (Key × Value)} (pb : Paired (PR X.F H R0) kws ls) (rb : KV ls vb) :
    ∀ {kvs : List (SD × SD)} {ks : List (Key × V)} {va : List (Key × Value)} {r : Bool}, M.HitsD R kws kvs r → Paired (PR X.F H R0) kvs ks → KV ks va → PySem.W.KeqHitsP X.prog X.w A s vb va r
  | [], _, _, r, h, pa, ra => by
    cases pa
    unfold KV at ra
    cases ra
    rw [show r = true from h]
    exact .nil
  | kv :: kvs, _, _, r, h, pa, ra => by
    cases pa with
    | @cons _ p _ ps hp tp =>
      unfold KV at ra
      cases ra with
      | @cons _ q _ qs hq tq =>
        obtain ⟨h1, h2⟩ := hq
        obtain ⟨key, v⟩ := q
        have h1' : p.1 = key := h1
        subst h1'
        have look := rb.val p.1
        have kg := kv_get kr0 pb (d := kv.1) (k := p.1) hp.1
        rcases h with ⟨e, rfl⟩ | ⟨u, e, r', e1, e2, e3, rfl⟩
        · rcases kg with ⟨_, g2⟩ | ⟨_, _, g1, _⟩
          · rw [g2] at look
            refine .miss ?_
            have := look.isSome_eq
            cases z : valueAt vb p.1 with
            | none => rfl
            | some _ => rw [z] at this; cases this
          · rw [e] at g1; cases g1
        · rcases kg with ⟨g1, _⟩ | ⟨d, w, g1, g2, g3⟩
          · rw [e1] at g1; cases g1
          · rw [e1] at g1; cases g1
            rw [g2] at look
            obtain ⟨y, hy, ry⟩ := look.some_of
            exact .hit hy (ih _ _ _ _ _ _ _ e2 hp.2 g3 h2 ry) (hitsD_run I ih pb rb e3 tp tq)
theorem eqS_run (I : Inv X pins σ H s) (rh : RH X.F H h) {A : Around} {R : SD → SD → Bool → Prop} (hu : A.units < cLine) (ih : ∀ a b x y v u r, R a b r → Rep X.F H a x → Rep X.F H b y → RelV x v → RelV y u → SeqAt.EqP X.prog X.w A.in1 s v u r) {a b : SD} {x y : V} {v u : Value} {r : Bool}
    (q : M.EqS R h a b r) (ra : Rep X.F H a x) (rb : Rep X.F H b y) (rx : RelV x v) (ry : RelV y u) (E Q : Value → Shared → Prop) (k : Q (.bool r) s) : wpAny (model X.prog X.w) A (richCompare .Eq v u) Q E s := by
  have ih2 : ∀ a b x y v u, R a b true → Rep X.F H a x → Rep X.F H b y → RelV x v → RelV y u → SeqAt.EqP X.prog X.w A.in1 s v u true := fun a b x y v u z => ih a b x y v u true z
  rcases q with ⟨xs, ys, rfl, rfl, al, rfl⟩ | ⟨p, q, xs, ys, rfl, rfl, ne, e1, e2, al, rfl⟩ | ⟨p, q, kvs, kws, r', rfl, rfl, ne, e1, e2, hits, rfl⟩
  · obtain ⟨a1, vs, e1, t1, s1⟩ := ra
    obtain ⟨a2, ws, e2, t2, s2⟩ := rb
    subst e1; subst e2
    cases (show v = Value.ref a1 from rx); cases (show u = Value.ref a2 from ry)
    obtain ⟨us1, w1, p1, _⟩ := I.tuple (show SqT X.F H a1 vs from t1.imp .inl id)
    obtain ⟨us2, w2, p2, _⟩ := I.tuple (show SqT X.F H a2 ws from t2.imp .inl id)
    obtain ⟨l, k2⟩ := all2_run ih2 al s1 s2 w1 w2
    refine GQ.rc_tupG (items := us1.toArray) (items2 := us2.toArray) (by simpa using l) hu (fun _ s' => s' = s) p1 p2 (fun i h1 h2 s' e => ?_) (fun s' e => by rw [e]; exact k) rfl
    subst e
    have := k2 i (by simpa using h1) (by simpa using h2) E (fun r s'' => r = true ∧ s'' = s') ⟨rfl, rfl⟩
    simpa using this
  · cases (show x = _ from ra); cases (show y = _ from rb)
    cases (show v = Value.ref p from rx); cases (show u = Value.ref q from ry)
    obtain ⟨vs, a1, r1⟩ := rh p _ e1
    obtain ⟨ws, a2, r2⟩ := rh q _ e2
    obtain ⟨us1, w1, p1, _⟩ := I.list (SqL.of (K := X.F) a1)
    obtain ⟨us2, w2, p2, _⟩ := I.list (SqL.of (K := X.F) a2)
    obtain ⟨l, k2⟩ := all2_run ih2 al r1 r2 w1 w2
    refine SeqAt.rcP_lists (e := fun _ => true) p1.isList p2.isList (by simpa using l) hu (fun j h1 h2 => ?_) E Q ?_
    · have := k2 j (by simpa using h1) (by simpa using h2)
      simpa using this
    · rw [show ((List.range us1.toArray.size).all fun _ => true) = true from List.all_eq_true.mpr fun _ _ => rfl]
      exact k
  · cases (show x = _ from ra); cases (show y = _ from rb)
    cases (show v = Value.ref p from rx); cases (show u = Value.ref q from ry)
    obtain ⟨ks, a1, pa⟩ := dct0.mp (rh p _ e1)
    obtain ⟨ls, a2, pb⟩ := dct0.mp (rh q _ e2)
    obtain ⟨_, ya, va, ka, da⟩ := dk_of I.hok a1
    obtain ⟨_, yb, vb, kb, db⟩ := dk_of I.hok a2
    have n1 : kvs.length = va.length := (Paired.length pa).trans ka.length
    have n2 : kws.length = vb.length := (Paired.length pb).trans kb.length
    refine PySem.W.rcP_dicts (knd := mixKind X.prog X.w) (r := r') ya yb da db hu (fun hl => hitsD_run I ih pb kb (hits (by omega)) pa ka) E Q ?_
    rw [← n1, ← n2]
    exact k
theorem eqD_run (I : Inv X pins σ H s) (rh : RH X.F H h) : ∀ (n : Nat) (A : Around), A.units + n + 179 < cLine → ∀ (a b : SD) (x y : V) (v u : Value) (r : Bool), M.EqD n h a b r → Rep X.F H a x → Rep X.F H b y → RelV x v → RelV y u → SeqAt.EqP X.prog X.w A s v u r
  | 0, _, _, _, _, _, _, _, _, _, h, _, _, _, _ => (show False from h).elim
  | n + 1, A, hu, a, b, x, y, v, u, r, q, ra, rb, rx, ry => by
    rcases q with ⟨p1, p2, dp, rfl⟩ | ⟨p, rfl, rfl, rfl⟩ | q
    · obtain ⟨as, r1⟩ := Dp.reads I _ x v (rep_dp p1 ra) rx
      obtain ⟨bs, r2⟩ := Dp.reads I _ y u (rep_dp p2 rb) ry
      rw [← eqv_py a b p1 p2]
      refine (SeqAt.eqAt_reads _ _ A s v u as bs r1 r2 (rep_can p1 ra) (rep_can p2 rb) ?_).eqP
      have : min (toPy a).depth (toPy b).depth ≤ 170 + n := by
        rcases dp with dp | dp
        · exact Nat.le_trans (Nat.min_le_left _ _) (py_depth _ _ dp)
        · exact Nat.le_trans (Nat.min_le_right _ _) (py_depth _ _ dp)
      omega
    · cases (show x = _ from ra); cases (show y = _ from rb)
      cases (show v = Value.ref p from rx); cases (show u = Value.ref p from ry)
      exact (SeqAt.EqAt.same _).eqP
    · have step := fun E Q k => eqS_run I rh (A := A) (by omega) (fun a b x y v u r z => eqD_run I rh n A.in1 (by show A.units + 1 + n + 179 < cLine; omega) a b x y v u r z) q ra rb rx ry E Q k
      rcases q with ⟨xs, ys, rfl, rfl, al, rfl⟩ | ⟨p, q, xs, ys, rfl, rfl, ne, e1, e2, al, rfl⟩ | ⟨p, q, kvs, kws, r', rfl, rfl, ne, e1, e2, hits, rfl⟩
      · obtain ⟨a1, vs, e1, t1, s1⟩ := ra
        obtain ⟨a2, ws, e2, t2, s2⟩ := rb
        subst e1; subst e2
        cases (show v = Value.ref a1 from rx); cases (show u = Value.ref a2 from ry)
        by_cases e : a1 = a2
        · subst e; exact (SeqAt.EqAt.same _).eqP
        · exact SeqAt.eqP_refs e step
      · cases (show x = _ from ra); cases (show y = _ from rb)
        cases (show v = Value.ref p from rx); cases (show u = Value.ref q from ry)
        exact SeqAt.eqP_refs ne step
      · cases (show x = _ from ra); cases (show y = _ from rb)
        cases (show v = Value.ref p from rx); cases (show u = Value.ref q from ry)
        exact SeqAt.eqP_refs ne step
end
theorem op_eqS {X : L2.Cx} (hu : X.A.units + 200 < cLine) : OpR X (compareOp .Eq) (rEqS X.F) := by
  intro pins s σ H x y v u Q I rx ry h
  obtain ⟨hh, a, b, r, rh, ra, rb, e, q⟩ := h
  exact eqS_run I rh (A := X.A) (by omega) (fun a b x y v u r z => eqD_run I rh 20 X.A.in1 (by show X.A.units + 1 + 20 + 179 < cLine; omega) a b x y v u r z) e ra rb rx ry _ _ ⟨.bl r, H, I, rfl, q⟩
/-! != of two dicts -/
def rNeS (K : Fr) : R2 := fun x y H Q => ∃ (h : M.AH) (a b : SD), RH K H h ∧ Rep K H a x ∧ Rep K H b y ∧ M.neD a b h fun r => Q (.bl r) H
theorem ne_dicts {κ : Type} [DecidableEq κ] {prog : Program} {w : World} {knd : PySem.KeyKind prog w κ} {A : Around} {s : Shared} {a b : Addr} {ka kb : List (κ × Value)} {r : Bool} (ha : (a == sysModules) = false) (hb : (b == sysModules) = false)
    (da : s.heap.DictOf knd a ka) (db : s.heap.DictOf knd b kb) (hu : A.units < cLine) (hits : ka.length = kb.length → PySem.W.KeqHitsP prog w A.in1 s kb ka r) {E Q : Value → Shared → Prop} (h : Q (.bool (!(ka.length == kb.length && r))) s) : wpAny (model prog w) A (compareOp .NotEq (.ref a) (.ref b)) Q E s := by
  have e1 := F.slot_dict_ne
  refine wpAny_richCompare_same_room (op := .NotEq) da.typeIs db.typeIs e1 (wpAny_call_entry e1 da.typeIs F.entry_dict_ne ?_ (F.args_dict_ne_2 _ _)) hu
  show wpAny _ _ (Builtin.Dict.dictSlotArgs "__ne__" ⟨[.ref a, .ref b], []⟩ >>= _) _ _ s
  refine wpAny_bind ?_
  unfold Builtin.Dict.dictSlotArgs
  refine wpAny_bind (wpAny_notOrdered_dict da.typeIs ?_)
  show wpAny _ _ (pure (Value.ref a, Value.ref b)) _ _ s
  refine wpAny_pure (wpAny_bind (wpAny_isInstance (T := "dict") db.typeIs F.sub_dict_dict ?_))
  simp only [Bool.not_true, Bool.false_eq_true, if_false]
  refine wpAny_bind (wpAny_pure (wpAny_bind (wpAny_pure (wpAny_bind (PySem.W.samePairsP ha hb da db hits ?_)))))
  refine wpAny_pure ⟨_, rfl, (fun x => nomatch x), ?_⟩
  simpa using h
theorem op_neS {X : L2.Cx} (hu : X.A.units + 200 < cLine) : OpR X (compareOp .NotEq) (rNeS X.F) := by
  intro pins s σ H x y v u Q I rx ry h
  obtain ⟨hh, a, b, rh, ra, rb, p, q, kvs, kws, r', rfl, rfl, e1, e2, hits, q0⟩ := h
  cases (show x = _ from ra); cases (show y = _ from rb)
  cases (show v = Value.ref p from rx); cases (show u = Value.ref q from ry)
  obtain ⟨ks, a1, pa⟩ := dct0.mp (rh p _ e1)
  obtain ⟨ls, a2, pb⟩ := dct0.mp (rh q _ e2)
  obtain ⟨_, ya, va, ka, da⟩ := dk_of I.hok a1
  obtain ⟨_, yb, vb, kb, db⟩ := dk_of I.hok a2
  have n1 : kvs.length = va.length := (Paired.length pa).trans ka.length
  have n2 : kws.length = vb.length := (Paired.length pb).trans kb.length
  refine ne_dicts (knd := mixKind X.prog X.w) (r := r') ya yb da db (by omega) (fun hl => hitsD_run I (fun a b x y v u r z => eqD_run I rh 20 X.A.in1 (by show X.A.units + 1 + 20 + 179 < cLine; omega) a b x y v u r z) pb kb (hits (by omega)) pa ka) ?_
  rw [← n1, ← n2]
  exact ⟨.bl _, H, I, rfl, q0⟩
/-! ### dicts with nested keys -/
mutual
theorem nK_inj : ∀ (a b : SD), M.pureD a = true → M.pureD b = true → nK a = nK b → a = b
  | .non, b, _, q, e => by cases b <;> simp [M.pureD, nK] at q e ⊢
  | .int i, b, _, q, e => by cases b <;> simp [M.pureD, nK] at q e ⊢; exact e
  | .str s, b, _, q, e => by cases b <;> simp [M.pureD, nK] at q e ⊢; exact sV_inj e
  | .tup xs, b, p, q, e => by
    cases b <;> simp [M.pureD, nK] at p q e ⊢
    exact nKs_inj xs _ p q e
  | .bl _, _, p, _, _ => by simp [M.pureD] at p
  | .ref _, _, p, _, _ => by simp [M.pureD] at p
  | .rol _, _, p, _, _ => by simp [M.pureD] at p
theorem nKs_inj : ∀ (as bs : List SD), M.pureDs as = true → M.pureDs bs = true → nKs as = nKs bs → as = bs
  | [], bs, _, _, e => by cases bs <;> simp [nKs] at e ⊢
  | a :: as, bs, p, q, e => by
    cases bs with
    | nil => simp [nKs] at e
    | cons b bs =>
      simp only [M.pureDs, Bool.and_eq_true] at p q
      simp only [nKs, List.cons.injEq] at e ⊢
      exact ⟨nK_inj a b p.1 q.1 e.1, nKs_inj as bs p.2 q.2 e.2⟩
end
mutual
theorem nk_depth : ∀ (n : Nat) (d : SD), M.plain n d = true → (nK d).depth ≤ n
  | _, .non, _ => by simp [nK, NestedKey.depth]
  | _, .int _, _ => by simp [nK, NestedKey.depth]
  | _, .str _, _ => by simp [nK, NestedKey.depth]
  | _, .bl _, _ => by simp [nK, NestedKey.depth]
  | _, .ref _, _ => by simp [nK, NestedKey.depth]
  | _, .rol _, _ => by simp [nK, NestedKey.depth]
  | 0, .tup ds, h => by simp [M.plain] at h
  | n + 1, .tup ds, h => by
    simp only [M.plain] at h
    simp only [nK, NestedKey.depth]
    exact Nat.succ_le_succ (nks_depth n ds h)
theorem nks_depth : ∀ (n : Nat) (ds : List SD), M.plains n ds = true → NestedKey.depthAll (nKs ds) ≤ n
  | _, [], _ => by simp [nKs, NestedKey.depthAll]
  | n, d :: ds, h => by
    simp only [M.plains, Bool.and_eq_true] at h
    simp only [nKs, NestedKey.depthAll]
    exact Nat.max_le.mpr ⟨nk_depth n d h.1, nks_depth n ds h.2⟩
end
section
variable {X : L2.Cx} {pins : List (Addr × Obj)} {σ : L2.St} {s : Shared}
mutual
theorem rep_ni (I : Inv X pins σ H s) : ∀ (d : SD) (v : V) (u : Value), M.pureD d = true → Rep X.F H d v → RelV v u → NestedIs s.heap (nK d) u
  | .non, v, u, _, r, ru => by cases (show v = _ from r); cases (show u = _ from ru); exact .none
  | .int i, v, u, _, r, ru => by
    cases (show v = _ from r)
    obtain ⟨t, rfl⟩ := (show ∃ t, u = Value.int i t from ru)
    exact .int i t
  | .str x, v, u, _, r, ru => by
    cases (show v = _ from r.1)
    obtain ⟨t, rfl⟩ := (show ∃ t, u = Value.str (sV x) t from ru)
    exact .text _ t
  | .tup ds, v, u, p, ⟨a, vs, e, t, rs⟩, ru => by
    subst e
    cases (show u = Value.ref a from ru)
    obtain ⟨us, w, ⟨o, h1, h2, n, h3⟩, _⟩ := I.tuple (show SqT X.K H a vs from t.imp .inl id)
    exact .tup h1 h2 h3 (reps_ni I ds vs us (by simpa only [M.pureD] using p) rs w)
  | .bl _, _, _, p, _, _ => by simp [M.pureD] at p
  | .ref _, _, _, p, _, _ => by simp [M.pureD] at p
  | .rol _, _, _, p, _, _ => by simp [M.pureD] at p
theorem reps_ni (I : Inv X pins σ H s) : ∀ (ds : List SD) (vs : List V) (us : List Value), M.pureDs ds = true → Reps X.F H ds vs → Vals vs us → NestedAll s.heap (nKs ds) us
  | [], vs, us, _, r, w => by cases (show vs = [] from r); cases w; exact .nil
  | d :: ds, _, us, p, ⟨v, r, e, a, b⟩, w => by
    subst e
    simp only [M.pureDs, Bool.and_eq_true] at p
    cases w with
    | cons w1 w2 => exact .cons (rep_ni I d v _ p.1 a w1) (reps_ni I ds r _ p.2 b w2)
end
theorem nk_pure {d : SD} (h : M.nkOk d = true) : M.pureD d = true ∧ M.plain 8 d = true := by
  cases d with
  | tup ds =>
    simp only [M.nkOk, Bool.and_eq_true] at h
    exact ⟨by simp only [M.pureD]; exact h.1, by simp only [M.plain]; exact h.2⟩
  | _ => simp [M.nkOk] at h
theorem nk_is (I : Inv X pins σ H s) {d : SD} {a : Addr} (h : M.nkOk d = true) (r : Rep X.F H d (.ref a)) : (nestedKind X.prog X.w).is s.heap (nK d) a :=
  ⟨rep_ni I d _ _ (nk_pure h).1 r rfl, nk_depth 8 d (nk_pure h).2⟩
end
abbrev PN (K : Fr) (H : Hp) := fun (x : SD × SD) (p : NestedKey × Addr × V) => p.1 = nK x.1 ∧ M.nkOk x.1 = true ∧ Rep K H x.1 (.ref p.2.1) ∧ Rep K H x.2 p.2.2
abbrev PY := fun (p : NestedKey × Addr × V) (q : NestedKey × Addr × Value) => p.1 = q.1 ∧ p.2.1 = q.2.1 ∧ RelV p.2.2 q.2.2
def putX (k : NestedKey) (v : V) (x : NestedKey × Addr × V) : NestedKey × Addr × V := if x.1 = k then (x.1, x.2.1, v) else x
def storedX (xs : List (NestedKey × Addr × V)) (k : NestedKey) (a : Addr) (v : V) : List (NestedKey × Addr × V) := if (xs.any fun x => decide (x.1 = k)) = true then xs.map (putX k v) else xs ++ [(k, a, v)]
theorem storedX_len {xs : List (NestedKey × Addr × V)} {k : NestedKey} {a : Addr} {v : V} : (storedX xs k a v).length ≤ xs.length + 1 := by
  unfold storedX
  split <;> simp
theorem ent_any {xs : List (NestedKey × Addr × V)} {ys : List (NestedKey × Addr × Value)} (r : Paired PY xs ys) (k : NestedKey) : (xs.any fun x => decide (x.1 = k)) = (atKey ys k).isSome := by
  induction r with
  | nil => rfl
  | @cons p q ps qs h t ih =>
    rw [List.any_cons, ih]
    unfold atKey
    rw [List.find?_cons]
    by_cases e : q.1 = k
    · simp [h.1, e]
    · simp [h.1, e]
theorem ent_stored {xs : List (NestedKey × Addr × V)} {ys : List (NestedKey × Addr × Value)} (r : Paired PY xs ys) (k : NestedKey) (a : Addr) {v : V} {u : Value} (ru : RelV v u) : Paired PY (storedX xs k a v) (storedH ys k a u) := by
  unfold storedX storedH
  rw [ent_any r k]
  split
  · have rep : ∀ {ps qs}, Paired PY ps qs → Paired PY (ps.map (putX k v)) (qs.map (putAt k u)) := by
      intro ps qs r
      induction r with
      | nil => exact .nil
      | @cons p q ps qs h t ih =>
        rw [List.map_cons, List.map_cons]
        refine .cons ?_ ih
        unfold putX putAt
        by_cases e : p.1 = k
        · rw [if_pos e, if_pos (h.1.symm.trans e)]; exact ⟨h.1, h.2.1, ru⟩
        · rw [if_neg e, if_neg (fun z => e (h.1.trans z))]; exact h
    exact rep r
  · exact Paired.snoc r ⟨rfl, rfl, ru⟩
theorem nkey_iff {d d' : SD} (h : M.nkOk d = true) (h' : M.nkOk d' = true) : nK d = nK d' ↔ d = d' := ⟨nK_inj _ _ (nk_pure h).1 (nk_pure h').1, fun e => by rw [e]⟩
theorem nk_get {kvs : List (SD × SD)} {xs : List (NestedKey × Addr × V)} {ys : List (NestedKey × Addr × Value)} (r : Paired (PN K H) kvs xs) (ry : Paired PY xs ys) {d : SD} (hd : M.nkOk d = true) :
    (M.kvGet kvs d = none ∧ atKey ys (nK d) = none) ∨ ∃ e v p, M.kvGet kvs d = some e ∧ atKey ys (nK d) = some p ∧ Rep K H e v ∧ RelV v p.2 := by
  induction r generalizing ys with
  | nil => cases ry; exact .inl ⟨rfl, rfl⟩
  | @cons x p ks ps h t ih =>
    cases ry with
    | @cons _ q _ qs hq tq =>
      by_cases e : x.1 = d
      · refine .inr ⟨x.2, p.2.2, q.2, by simp [M.kvGet, List.find?_cons, e], ?_, h.2.2.2, hq.2.2⟩
        have : q.1 = nK d := by rw [← hq.1, h.1, e]
        simp [atKey, List.find?_cons, this]
      · have ne : ¬ q.1 = nK d := fun z => e ((nkey_iff h.2.1 hd).mp (by rw [← h.1, hq.1, z]))
        have e3 : M.kvGet (x :: ks) d = M.kvGet ks d := by simp [M.kvGet, List.find?_cons, e]
        have e4 : atKey (q :: qs) (nK d) = atKey qs (nK d) := by simp [atKey, List.find?_cons, ne]
        rw [e3, e4]
        exact ih tq
theorem nk_put {kvs : List (SD × SD)} {xs : List (NestedKey × Addr × V)} (r : Paired (PN K H) kvs xs) {d e : SD} {a : Addr} {v : V} (hd : M.nkOk d = true) (rd : Rep K H d (.ref a)) (re : Rep K H e v) : Paired (PN K H) (M.kvPut kvs d e) (storedX xs (nK d) a v) := by
  have an : (kvs.any fun kv => decide (kv.1 = d)) = xs.any fun x => decide (x.1 = nK d) := by
    induction r with
    | nil => rfl
    | @cons x p ks ps h t ih =>
      rw [List.any_cons, List.any_cons, ih, h.1]
      congr 1
      rw [decide_eq_decide]
      exact (nkey_iff h.2.1 hd).symm
  unfold M.kvPut storedX
  rw [an]
  split
  · have rep : ∀ {ks ps}, Paired (PN K H) ks ps → Paired (PN K H) (ks.map fun kv => if kv.1 = d then (kv.1, e) else kv) (ps.map (putX (nK d) v)) := by
      intro ks ps r
      induction r with
      | nil => exact .nil
      | @cons x p ks ps h t ih =>
        rw [List.map_cons, List.map_cons]
        refine .cons ?_ ih
        unfold putX
        by_cases z : x.1 = d
        · rw [if_pos z, if_pos (by rw [h.1, z])]; exact ⟨h.1, h.2.1, h.2.2.1, re⟩
        · rw [if_neg z, if_neg (by rw [h.1]; exact fun y => z ((nkey_iff h.2.1 hd).mp y))]; exact h
    exact rep r
  · exact Paired.snoc r ⟨rfl, hd, rd, re⟩
section
variable {X : L2.Cx} {pins : List (Addr × Obj)} {σ : L2.St} {s : Shared}
theorem ent_ok {h1 h2 : Heap} {P : Program} {w : World} {a : Addr} {xs : List (NestedKey × Addr × V)} (e : EntO P w a xs h1) (st : ∀ o, h1.get? a = some o → h2.get? a = some o) : EntO P w a xs h2 := by
  obtain ⟨z, y, ys, r, o, es, ep, g, q⟩ := e
  exact ⟨z, y, ys, r, o, es, ep, st _ g, q⟩
theorem ent_dict (I : Inv X pins σ H s) {p : Addr} {kvs : List (SD × SD)} {xs : List (NestedKey × Addr × V)} (e : H p = some (.ext (EntO X.prog X.w p xs))) (pr : Paired (PN X.F H) kvs xs) :
    xs.length ≤ sizeLine ∧ (p == sysModules) = false ∧ ∃ ys, Paired PY xs ys ∧ s.heap.DictOfH (nestedKind X.prog X.w) p ys := by
  obtain ⟨⟨z, y, ys, r, o, es, ep, g, c, dd, ee, nd⟩, _⟩ := I.hok p _ e
  refine ⟨z, y, ys, r, o, es, ep, g, c, dd, ee, ?_, nd⟩
  have all : ∀ {ks ps qs}, Paired (PN X.F H) ks ps → Paired PY ps qs → ∀ q ∈ qs, (nestedKind X.prog X.w).is s.heap q.1 q.2.1 := by
    intro ks ps qs r
    induction r generalizing qs with
    | nil => intro r2; cases r2; exact fun q hq => nomatch hq
    | @cons x p ks ps h t ih =>
      intro r2
      cases r2 with
      | @cons _ q _ qs hq tq =>
        intro q' hq'
        rcases List.mem_cons.mp hq' with e | hq'
        · subst e
          rw [← hq.1, ← hq.2.1, h.1]
          exact nk_is I h.2.1 h.2.2.1
        · exact ih tq q' hq'
  exact all pr r
def rNin (K : Fr) (neg : Bool) : R2 := fun x y H Q => ∃ a kvs d b, y = .ref a ∧ x = .ref b ∧ ObRep K H a (.dcn kvs) ∧ M.nkOk d = true ∧ Rep K H d x ∧ Q (.bl (if neg then !(M.kvGet kvs d).isSome else (M.kvGet kvs d).isSome)) H
theorem op_nin {X : Cx} (hu : X.A.units + 200 < cLine) : OpR X (compareOp .In) (rNin X.F false) := by
  intro pins s σ H x y v u Q I rx ry h
  obtain ⟨a, kvs, d, b, rfl, rfl, ⟨xs, e, pr⟩, hd, rd, q⟩ := h
  obtain rfl : u = Value.ref a := ry
  obtain rfl : v = Value.ref b := rx
  obtain ⟨z, hy, ys, py, dd⟩ := ent_dict I e pr
  refine wpAny_in_heap (knd := nestedKind X.prog X.w) (by show X.A.units + 1 + 8 < cLine; omega) (nk_is I hd rd) hy dd ?_
  refine ⟨.bl _, H, I.tok _, rfl, ?_⟩
  rcases nk_get pr py hd with ⟨e1, e2⟩ | ⟨_, _, _, e1, e2, _⟩
  · rw [e1] at q; rw [e2]; exact q
  · rw [e1] at q; rw [e2]; exact q
theorem op_nnotin {X : Cx} (hu : X.A.units + 200 < cLine) : OpR X (compareOp .NotIn) (rNin X.F true) := by
  intro pins s σ H x y v u Q I rx ry h
  obtain ⟨a, kvs, d, b, rfl, rfl, ⟨xs, e, pr⟩, hd, rd, q⟩ := h
  obtain rfl : u = Value.ref a := ry
  obtain rfl : v = Value.ref b := rx
  obtain ⟨z, hy, ys, py, dd⟩ := ent_dict I e pr
  refine wpAny_notIn_heap (knd := nestedKind X.prog X.w) (by show X.A.units + 1 + 8 < cLine; omega) (nk_is I hd rd) hy dd ?_
  refine ⟨.bl _, H, I.tok _, rfl, ?_⟩
  rcases nk_get pr py hd with ⟨e1, e2⟩ | ⟨_, _, _, e1, e2, _⟩
  · rw [e1] at q; rw [e2]; exact q
  · rw [e1] at q; rw [e2]; exact q
end
/-! ### comparisons -/
def cop : M.Cop → CmpOp
  | .eq => .Eq | .ne => .NotEq | .lt => .Lt | .le => .LtE | .gt => .Gt | .ge => .GtE | .isin => .In | .notin => .NotIn | .is_ => .Is | .isnt => .IsNot | .nes => .NotEq
def rLtS : R2 := fun x y H Q => ∃ i j, x = .str i ∧ y = .str j ∧ Q (.bl (decide (i.cps.toList < j.cps.toList))) H
def rCmp (K : Fr) : M.Cop → R2
  | .eq => fun x y H Q => (scal x y = true ∧ Q (.bl (decide (x = y))) H) ∨ rEqP K x y H Q ∨ rEqS K x y H Q
  | .ne => fun x y H Q => (scal x y = true ∧ Q (.bl (!decide (x = y))) H) ∨ rNeP K x y H Q
  | .lt => fun x y H Q => (rI0 fun i j => .bl (decide (i < j))) x y H Q ∨ rLtS x y H Q ∨ rLtD K x y H Q
  | .le => rI0 fun i j => .bl (decide (i ≤ j))
  | .gt => rI0 fun i j => .bl (decide (j < i))
  | .ge => rI0 fun i j => .bl (decide (j ≤ i))
  | .isin => fun x y H Q => rDin false x y H Q ∨ rLin K false x y H Q ∨ rIn K false x y H Q ∨ rNin K false x y H Q
  | .notin => fun x y H Q => rDin true x y H Q ∨ rLin K true x y H Q ∨ rIn K true x y H Q ∨ rNin K true x y H Q
  | .is_ => fun x y H Q => (y = .non ∧ Q (.bl (decide (x = .non))) H) ∨ rIsB x y H Q
  | .isnt => fun x y H Q => (y = .non ∧ Q (.bl (!decide (x = .non))) H) ∨ rNotB x y H Q
  | .nes => rNeS K
theorem op_cmp {X : Cx} (hu : X.A.units + 200 < cLine) (o : M.Cop) : OpR X (compareOp (cop o)) (rCmp X.F o) := by
  cases o
  · exact op_eq.or ((op_eqP hu).or (op_eqS hu))
  · exact op_ne.or (op_neP hu)
  · exact op_lt.or (op_lt_str.or (op_ltD hu))
  · exact op_le
  · exact op_gt
  · exact op_ge
  · exact (op_din (by omega)).or ((op_lin hu).or (op_in_seq.or (op_nin hu)))
  · exact (op_dnotin (by omega)).or ((op_lnotin hu).or (op_notIn_seq.or (op_nnotin hu)))
  · exact op_isN.or op_isBl
  · exact op_notN.or op_notBl
  · exact op_neS hu
theorem rep_non {d : SD} {v : V} (r : Rep K H d v) : decide (v = .non) = decide (d = .non) := by
  cases d with
  | non => cases (show v = _ from r); simp
  | bl _ => cases (show v = _ from r); simp
  | int _ => cases (show v = _ from r); simp
  | str _ => cases (show v = _ from r.1); simp
  | ref _ => cases (show v = _ from r); simp
  | tup _ => obtain ⟨a, vs, e, _⟩ := r; subst e; simp
  | rol _ => obtain ⟨a, vs, e, _⟩ := r; subst e; simp
theorem flat_eq {a b : SD} {x y : V} (fa : M.flat a = true) (fb : M.flat b = true) (ra : Rep K H a x) (rb : Rep K H b y) : flatV x = true ∧ eqV x y = decide (a = b) := by
  cases a <;> simp [M.flat] at fa
  · cases (show x = _ from ra)
    cases b <;> simp [M.flat] at fb
    · cases (show y = _ from rb); simp [flatV, eqV]
    · cases (show y = _ from rb); simp [flatV, eqV]
    · cases (show y = _ from rb.1); simp [flatV, eqV]
  · cases (show x = _ from ra)
    cases b <;> simp [M.flat] at fb
    · cases (show y = _ from rb); simp [flatV, eqV]
    · cases (show y = _ from rb); simp [flatV, eqV, Bool.beq_eq_decide_eq]
    · cases (show y = _ from rb.1); simp [flatV, eqV]
  · cases (show x = _ from ra.1)
    cases b <;> simp [M.flat] at fb
    · cases (show y = _ from rb); simp [flatV, eqV]
    · cases (show y = _ from rb); simp [flatV, eqV]
    · cases (show y = _ from rb.1)
      simp only [flatV, eqV, Bool.beq_eq_decide_eq, decide_eq_decide, true_and, M.D.str.injEq]
      exact ⟨sV_inj, fun e => by rw [e]⟩
theorem flat_any {x : SD} {v : V} (fx : M.flat x = true) (rx : Rep K H x v) : ∀ {xs : List SD} {vs : List V}, xs.all M.flat = true → Reps K H xs vs → vs.all flatV = true ∧ inV v vs = xs.any fun y => decide (y = x)
  | [], vs, _, r => by cases (show vs = _ from r); exact ⟨rfl, rfl⟩
  | y :: ys, vs, fa, ⟨w, r, e, a, b⟩ => by
    subst e
    rw [List.all_cons] at fa
    obtain ⟨f1, f2⟩ := ba fa
    obtain ⟨h1, h2⟩ := flat_any fx rx f2 b
    obtain ⟨h3, h4⟩ := flat_eq f1 fx a rx
    refine ⟨by rw [List.all_cons, h3, h1]; rfl, ?_⟩
    show (w :: r).any _ = _
    rw [List.any_cons, List.any_cons, h4]
    exact congrArg _ h2
theorem mem_ok {neg : Bool} {dx dy : SD} {x y : V} {P : Bool → Prop} (rh : RH K H h) (rx : Rep K H dx x) (ry : Rep K H dy y) (q : M.memOk dx dy h P) (k : ∀ b, P b → Q (.bl (if neg then !b else b)) H) :
    rDin neg x y H Q ∨ rLin K neg x y H Q ∨ rIn K neg x y H Q ∨ rNin K neg x y H Q := by
  cases dy with
  | ref p =>
    cases (show y = _ from ry)
    simp only [M.memOk] at q
    cases e : h p with
    | none => rw [e] at q; exact q.elim
    | some o =>
      rw [e] at q
      cases o with
      | dct kd kvs =>
        obtain ⟨kk, q⟩ := q
        obtain ⟨ov, g, r⟩ := dget_ok (rh p _ e) kk rx
        refine .inl ⟨p, ov, rfl, g, k _ ?_⟩
        rcases r with ⟨e1, e2⟩ | ⟨_, _, e1, e2, _⟩
        · rw [e1] at q; rw [e2]; exact q
        · rw [e1] at q; rw [e2]; exact q
      | rdct kd kvs =>
        obtain ⟨kk, q⟩ := q
        obtain ⟨ov, g, r⟩ := dget_rok (rh p _ e) kk rx
        refine .inl ⟨p, ov, rfl, g, k _ ?_⟩
        rcases r with ⟨e1, e2⟩ | ⟨_, _, e1, e2, _⟩
        · rw [e1] at q; rw [e2]; exact q
        · rw [e1] at q; rw [e2]; exact q
      | lst xs =>
        obtain ⟨p1, p2, dp, q⟩ := q
        obtain ⟨vs, a1, r1⟩ := rh p _ e
        refine .inr (.inl ⟨toPy dx, toPys xs, rep_dp p1 rx, .lst (SqL.of a1) (reps_dp p2 r1), rep_can p1 rx, reps_can p2 r1, ?_, ?_⟩)
        · rcases dp with dp | dp
          · exact .inl (Nat.le_succ_of_le (py_depth _ _ dp))
          · exact .inr (Nat.le_succ_of_le (pys_depth _ _ dp))
        · rw [any_py xs dx p2 p1]
          exact k _ q
      | dcn kvs =>
        obtain ⟨kk, q⟩ := q
        have rx' := rx
        cases dx with
        | tup ds =>
          obtain ⟨b, vs, rfl, _⟩ := rx
          refine .inr (.inr (.inr ⟨p, kvs, _, b, rfl, rfl, rh p _ e, kk, rx', k _ q⟩))
        | _ => simp [M.nkOk] at kk
      | _ => exact q.elim
  | tup xs =>
    obtain ⟨a, vs, e, t, rs⟩ := ry
    subst e
    obtain ⟨f1, f2, q⟩ := q
    obtain ⟨h1, h2⟩ := flat_any f1 rx f2 rs
    refine .inr (.inr (.inl ⟨a, vs, rfl, .inr (t.imp .inl id), ?_, h1, ?_⟩))
    · exact (flat_eq f1 f1 rx rx).1
    · rw [h2]
      exact k _ q
  | _ => exact False.elim q
theorem cmpInt_inv {f : Int → Int → Bool} {dx dy : SD} {P : Bool → Prop} (q : M.cmpInt f dx dy P) : ∃ a b, dx = .int a ∧ dy = .int b ∧ P (f a b) := by
  cases dx with
  | int a => cases dy with
    | int b => exact ⟨a, b, rfl, rfl, q⟩
    | _ => exact False.elim q
  | _ => exact False.elim q
theorem cmpLt_inv {dx dy : SD} {P : Bool → Prop} (q : M.cmpLt dx dy P) : (∃ a b, dx = .int a ∧ dy = .int b ∧ P (decide (a < b))) ∨ (∃ a b, dx = .str a ∧ dy = .str b ∧ P (decide (a < b))) ∨ ∃ xs ys, dx = .tup xs ∧ dy = .tup ys ∧ M.cmpbs xs ys = true ∧ M.pureDs xs = true ∧ M.pureDs ys = true ∧ (M.plains 190 xs = true ∨ M.plains 190 ys = true) ∧ P (M.ltDs xs ys) := by
  cases dx with
  | int a => cases dy with
    | int b => exact .inl ⟨a, b, rfl, rfl, q⟩
    | _ => exact False.elim q
  | str a => cases dy with
    | str b => exact .inr (.inl ⟨a, b, rfl, rfl, q⟩)
    | _ => exact False.elim q
  | tup a => cases dy with
    | tup b => exact .inr (.inr ⟨a, b, rfl, rfl, q⟩)
    | _ => exact False.elim q
  | _ => exact False.elim q
theorem isNon_inv {dx dy : SD} {P : Bool → Prop} (q : M.isNon dx dy P) : (dy = .non ∧ P (decide (dx = .non))) ∨ ∃ a b, dx = .bl a ∧ dy = .bl b ∧ P (decide (a = b)) := by
  cases dy with
  | non => exact .inl ⟨rfl, q⟩
  | bl b => cases dx with
    | bl a => exact .inr ⟨a, b, rfl, rfl, q⟩
    | _ => exact False.elim q
  | _ => exact False.elim q
theorem cmp_ok {o : M.Cop} {dx dy : SD} {x y : V} {P : Bool → Prop} (rh : RH K H h) (rx : Rep K H dx x) (ry : Rep K H dy y) (q : M.opCmp o dx dy h P) (k : ∀ b, P b → Q (.bl b) H) : rCmp K o x y H Q := by
  cases o with
  | eq =>
    simp only [M.opCmp] at q
    rcases q with q | ⟨r, q, qq⟩
    · rcases eqk rh rx ry q with ⟨a, b, rfl, rfl, q⟩ | ⟨d, e, h1, h2, h3, h4, h5, q⟩
      · exact .inl ⟨rfl, k _ (by simpa using q)⟩
      · exact .inr (.inl ⟨d, e, h1, h2, h3, h4, h5, k _ q⟩)
    · exact .inr (.inr ⟨h, dx, dy, r, rh, rx, ry, q, k _ qq⟩)
  | ne =>
    simp only [M.opCmp] at q
    rcases eqk rh rx ry q with ⟨a, b, rfl, rfl, q⟩ | ⟨d, e, h1, h2, h3, h4, h5, q⟩
    · exact .inl ⟨rfl, k _ (by simpa using q)⟩
    · exact .inr ⟨d, e, h1, h2, h3, h4, h5, k _ q⟩
  | lt =>
    simp only [M.opCmp] at q
    rcases cmpLt_inv q with ⟨a, b, rfl, rfl, q⟩ | ⟨a, b, rfl, rfl, q⟩ | ⟨a, b, rfl, rfl, c, p1, p2, dp, q⟩
    · cases (show x = _ from rx); cases (show y = _ from ry)
      exact .inl ⟨a, b, rfl, rfl, k _ q⟩
    · cases (show x = _ from rx.1); cases (show y = _ from ry.1)
      exact .inr (.inl ⟨_, _, rfl, rfl, k _ (by rw [sV_cps, sV_cps]; exact q)⟩)
    · have p1' : M.pureD (.tup a) = true := by simpa only [M.pureD] using p1
      have p2' : M.pureD (.tup b) = true := by simpa only [M.pureD] using p2
      refine .inr (.inr ⟨.tup a, .tup b, by simpa only [M.cmpb] using c, p1', p2', rep_can p1' rx, rep_can p2' ry, ?_, rep_dp p1' rx, rep_dp p2' ry, ?_⟩)
      · rcases dp with dp | dp
        · exact .inl (Nat.le_trans (py_depth 191 _ (by simpa only [M.plain] using dp)) (by omega))
        · exact .inr (Nat.le_trans (py_depth 191 _ (by simpa only [M.plain] using dp)) (by omega))
      · have e : M.ltD (.tup a) (.tup b) = M.ltDs a b := by simp only [M.ltD]
        rw [e]
        exact k _ q
  | le =>
    simp only [M.opCmp] at q
    obtain ⟨a, b, rfl, rfl, q⟩ := cmpInt_inv q
    cases (show x = _ from rx); cases (show y = _ from ry)
    exact ⟨a, b, rfl, rfl, k _ q⟩
  | gt =>
    simp only [M.opCmp] at q
    obtain ⟨a, b, rfl, rfl, q⟩ := cmpInt_inv q
    cases (show x = _ from rx); cases (show y = _ from ry)
    exact ⟨a, b, rfl, rfl, k _ q⟩
  | ge =>
    simp only [M.opCmp] at q
    obtain ⟨a, b, rfl, rfl, q⟩ := cmpInt_inv q
    cases (show x = _ from rx); cases (show y = _ from ry)
    exact ⟨a, b, rfl, rfl, k _ q⟩
  | isin =>
    simp only [M.opCmp] at q
    exact mem_ok (neg := false) rh rx ry q fun b hb => k b hb
  | notin =>
    simp only [M.opCmp] at q
    exact mem_ok (neg := true) rh rx ry q fun b hb => k _ hb
  | is_ =>
    simp only [M.opCmp] at q
    rcases isNon_inv q with ⟨rfl, q⟩ | ⟨a, b, rfl, rfl, q⟩
    · cases (show y = _ from ry)
      exact .inl ⟨rfl, k _ (by rw [rep_non rx]; exact q)⟩
    · cases (show x = _ from rx); cases (show y = _ from ry)
      exact .inr ⟨a, b, rfl, rfl, k _ q⟩
  | isnt =>
    simp only [M.opCmp] at q
    rcases isNon_inv q with ⟨rfl, q⟩ | ⟨a, b, rfl, rfl, q⟩
    · cases (show y = _ from ry)
      exact .inl ⟨rfl, k _ (by rw [rep_non rx]; exact q)⟩
    · cases (show x = _ from rx); cases (show y = _ from ry)
      exact .inr ⟨a, b, rfl, rfl, k _ q⟩
  | nes =>
    simp only [M.opCmp] at q
    obtain ⟨p, p2, kvs, kws, r, e1, e2, e3, e4, e5, q⟩ := q
    exact ⟨h, dx, dy, rh, rx, ry, p, p2, kvs, kws, r, e1, e2, e3, e4, e5, k _ q⟩
end
end Snd
end
section
/-! Sound4: items, slices, built-in functions, methods, stores. -/
namespace Snd
open PySem L2 PySem.Spec PyProof.Rows
section
variable {K : Fr} {H H1 H' : Hp} {h h1 h' : M.AH} {Qa : M.VQ} {Q : VK} {qb : Bool → Prop}
theorem atI_eq {α : Type} (xs : List α) (i : Int) : M.atI xs i = L2.atI xs i := by
  unfold M.atI L2.atI ixN
  by_cases h0 : 0 ≤ i
  · rw [if_pos h0, if_pos h0]
    by_cases h1 : i < xs.length
    · rw [if_pos h1]; rfl
    · rw [if_neg h1]
      exact List.getElem?_eq_none (by omega)
  · rw [if_neg h0, if_neg h0]
    by_cases h1 : -(xs.length : Int) ≤ i
    · rw [if_pos h1, if_pos h1]; rfl
    · rw [if_neg h1, if_neg h1]; rfl
theorem atI_rep {ds : List SD} {vs : List V} {i : Int} {d : SD} (r : Reps K H ds vs) (e : M.atI ds i = some d) : ∃ v, L2.atI vs i = some v ∧ Rep K H d v := by
  rw [atI_eq] at e
  have hl := r.length
  unfold L2.atI at e ⊢
  rw [hl]
  cases z : ixN ds.length i with
  | none => rw [z] at e; cases e
  | some j =>
    rw [z] at e
    obtain ⟨v, h1, h2⟩ := r.get (i := j) (d := d) e
    exact ⟨v, h1, h2⟩
def rIxD : R2 := fun x y H Q => ∃ a v, x = .ref a ∧ DGet H a y (some v) ∧ Q v H
theorem ix_dict {X : Cx} (hu : X.A.units + 1 < cLine) : IxR X rIxD := by
  intro value slice pins s σ H x y v u Q I rx ry h hs
  obtain ⟨a, w, rfl, g, q⟩ := h
  cases rx
  exact tail_any (dict_typeIs I g) PySem.F.slot_dict_getitem.lookup (d_getItem hu I g ry fun w' s3 I3 rw' => ⟨w, H, I3, rw', q⟩) hs
/-- a dict with nested keys -/
def rIxN (K : Fr) : R2 := fun x y H Q => ∃ a b kvs d e, x = .ref a ∧ y = .ref b ∧ ObRep K H a (.dcn kvs) ∧ M.nkOk d = true ∧ Rep K H d y ∧ M.kvGet kvs d = some e ∧ ∀ v, Rep K H e v → Q v H
theorem ix_nest {X : Cx} (hu : X.A.units + 200 < cLine) : IxR X (rIxN X.F) := by
  intro value slice pins s σ H x y v u Q I rx ry h hs
  obtain ⟨a, b, kvs, d, e, rfl, rfl, ⟨xs, eo, pr⟩, hd, rd, ge, q⟩ := h
  cases rx
  cases (show u = Value.ref b from ry)
  obtain ⟨z, hy, ys, py, dd⟩ := ent_dict I eo pr
  rcases nk_get pr py hd with ⟨e1, _⟩ | ⟨e', v', p, e1, e2, re, rv⟩
  · rw [ge] at e1; cases e1
  · rw [ge] at e1
    cases e1
    exact tail_any dd.typeIs PySem.F.slot_dict_getitem.lookup (wpAny_getItem_heap (knd := nestedKind X.prog X.w) (by show X.A.units + 1 + 8 < cLine; omega) (nk_is I hd rd) dd e2 ⟨v', H, I.tok _, rv, q v' re⟩) hs
def rIx4 (K : Fr) : R2 := fun x y H Q => rIx K x y H Q ∨ rIxD x y H Q ∨ rIxN K x y H Q
theorem ix_all {X : Cx} (hu : X.A.units + 200 < cLine) : IxR X (rIx4 X.F) := ix_seq.or ((ix_dict (by omega)).or (ix_nest hu))
theorem ixAt_inv {ds : List SD} {dy : SD} (q : M.ixAt ds dy h Qa) : ∃ i d, dy = .int i ∧ M.atI ds i = some d ∧ Qa d h := by
  cases dy with
  | int i =>
    simp only [M.ixAt] at q
    cases e : M.atI ds i with
    | none => rw [e] at q; exact q.elim
    | some d => rw [e] at q; exact ⟨i, d, rfl, e, q⟩
  | _ => exact False.elim q
theorem rol_sql {a : Addr} {vs : List V} (t : (∃ o, H a = some (.frz o (.lst vs))) ∨ KLst K a vs) : SqL K H a vs := t.imp (fun ⟨o, e⟩ => .inr ⟨o, e⟩) id
theorem ix_ok {dx dy : SD} {x y : V} (rh : RH K H h) (rx : Rep K H dx x) (ry : Rep K H dy y) (q : M.opIx dx dy h Qa) (k : Kont K H h Qa Q) : rIx4 K x y H Q := by
  have hl := line_eq
  cases dx with
  | tup ds =>
    obtain ⟨a, vs, e, t, rs⟩ := rx
    subst e
    obtain ⟨i, d, rfl, e, q⟩ := ixAt_inv (show M.ixAt ds dy h Qa from q)
    cases (show y = _ from ry)
    obtain ⟨v, e2, r⟩ := atI_rep rs e
    exact .inl (.inr (.inl ⟨a, vs, i, v, rfl, rfl, t.imp .inl id, e2, k.now rh q r⟩))
  | rol ds =>
    obtain ⟨a, vs, e, t, rs⟩ := rx
    subst e
    obtain ⟨i, d, rfl, e, q⟩ := ixAt_inv (show M.ixAt ds dy h Qa from q)
    cases (show y = _ from ry)
    obtain ⟨v, e2, r⟩ := atI_rep rs e
    exact .inl (.inl ⟨a, vs, i, v, rfl, rfl, rol_sql t, e2, k.now rh q r⟩)
  | str s =>
    cases dy with
    | int i =>
      obtain ⟨rx, ok⟩ := rx
      subst rx
      cases (show y = _ from ry)
      obtain ⟨hz, q⟩ := (show s.length ≤ M.LINE ∧ _ from q)
      cases e : M.atI s i with
      | none => rw [e] at q; exact q.elim
      | some c =>
        rw [e] at q
        refine .inl (.inr (.inr ⟨sV s, i, c, rfl, rfl, by rw [sV_len, hl]; exact hz, ?_, k.now rh q ⟨rfl, ?_⟩⟩))
        · rw [sV_cps, ← atI_eq]; exact e
        · intro z hz2
          have : z = c := by simpa using hz2
          subst this
          rw [atI_eq] at e
          obtain ⟨j, _, hj, _⟩ := atI_get e
          exact ok _ (List.mem_of_getElem? hj)
    | _ => exact False.elim q
  | ref p =>
    cases (show x = _ from rx)
    simp only [M.opIx] at q
    cases e : h p with
    | none => rw [e] at q; exact q.elim
    | some o =>
      rw [e] at q
      cases o with
      | lst xs =>
        obtain ⟨vs, a1, r1⟩ := rh p _ e
        obtain ⟨i, d, rfl, e3, q⟩ := ixAt_inv (show M.ixAt xs dy h Qa from q)
        cases (show y = _ from ry)
        obtain ⟨v, e2, r⟩ := atI_rep r1 e3
        exact .inl (.inl ⟨p, vs, i, v, rfl, rfl, SqL.of a1, e2, k.now rh q r⟩)
      | dct kd kvs =>
        obtain ⟨kk, q⟩ := q
        obtain ⟨ov, g, r⟩ := dget_ok (rh p _ e) kk ry
        rcases r with ⟨e1, e2⟩ | ⟨d, w, e1, e2, r⟩
        · rw [e1] at q; exact q.elim
        · rw [e1] at q; subst e2
          exact .inr (.inl ⟨p, w, rfl, g, k.now rh q r⟩)
      | rdct kd kvs =>
        obtain ⟨kk, q⟩ := q
        obtain ⟨ov, g, r⟩ := dget_rok (rh p _ e) kk ry
        rcases r with ⟨e1, e2⟩ | ⟨d, w, e1, e2, r⟩
        · rw [e1] at q; exact q.elim
        · rw [e1] at q; subst e2
          exact .inr (.inl ⟨p, w, rfl, g, k.now rh q r⟩)
      | dcn kvs =>
        obtain ⟨kk, q⟩ := q
        have ry' := ry
        cases dy with
        | tup ds =>
          obtain ⟨b, vs, rfl, _⟩ := ry
          cases g : M.kvGet kvs (.tup ds) with
          | none => rw [g] at q; exact q.elim
          | some d =>
            rw [g] at q
            exact .inr (.inr ⟨p, b, kvs, _, d, rfl, rfl, rh p _ e, kk, ry', g, fun v rv => k.now rh q rv⟩)
        | _ => simp [M.nkOk] at kk
      | _ => exact q.elim
  | _ => exact False.elim q

/-! ### slices -/
theorem clip_lo (n d : Nat) (o : Option Int) : M.clip n d o = if o = none then d else HT.sIx n d o := by
  cases o with
  | none => rfl
  | some i =>
    rw [if_neg (by simp)]
    have e := HT.clip_eq i n d
    show (if i < 0 then (i + n).toNat else min i.toNat n) = _
    split
    · rename_i hi
      rw [if_pos hi] at e
      omega
    · rename_i hi
      rw [if_neg hi] at e
      omega
theorem cut_eq {α : Type} (xs : List α) (lo hi : Option Int) : M.cut xs lo hi = (xs.drop (HT.sIx xs.length 0 lo)).take (HT.sIx xs.length xs.length hi - HT.sIx xs.length 0 lo) := by
  have h1 : M.clip xs.length 0 lo = HT.sIx xs.length 0 lo := by
    rw [clip_lo]; split
    · rename_i e; rw [e, HT.sIx_none]
    · rfl
  have h2 : M.clip xs.length xs.length hi = HT.sIx xs.length xs.length hi := by
    rw [clip_lo]; split
    · rename_i e; rw [e, HT.sIx_none]
    · rfl
  unfold M.cut
  rw [h1, h2]
theorem cut_rep {ds : List SD} {vs : List V} {lo hi : Option Int} (r : Reps K H ds vs) : Reps K H (M.cut ds lo hi) (cutV vs lo hi) := by
  rw [cut_eq, ← r.length]
  exact (r.drop _).take _
def rSlTW (K : Fr) : V → Option Int → Option Int → Hp → VK → Prop := fun x lo hi H Q => ∃ a xs, x = .ref a ∧ SqT K H a xs ∧ (HT.sIx xs.length 0 lo = 0 ∧ HT.sIx xs.length xs.length hi = xs.length) ∧ Q (.ref a) H
def rSl (K : Fr) : V → Option Int → Option Int → Hp → VK → Prop := fun x lo hi H Q => rSlT K x lo hi H Q ∨ rSlL K x lo hi H Q ∨ rSlS x lo hi H Q
theorem sl_all {X : Cx} : SlR X (rSl X.F) := sl_tup.or (sl_list.or sl_str)
def slPart (ds : List SD) (lo hi : Option Int) : Prop := ¬ (M.clip ds.length 0 lo = 0 ∧ M.clip ds.length ds.length hi = ds.length)
theorem sl_ok {dx : SD} {x : V} {lo hi : Option Int} (rh : RH K H h) (rx : Rep K H dx x) (q : M.opSl dx lo hi h Qa) (k : Kont K H h Qa Q) : rSl K x lo hi H Q := by
  have hl := line_eq
  cases dx with
  | tup ds =>
    obtain ⟨a, vs, e, t, rs⟩ := rx
    subst e
    obtain ⟨np, q⟩ := q
    have ln := rs.length
    have h1 : M.clip ds.length 0 lo = HT.sIx ds.length 0 lo := by
      rw [clip_lo]; split
      · rename_i e; rw [e, HT.sIx_none]
      · rfl
    have h2 : M.clip ds.length ds.length hi = HT.sIx ds.length ds.length hi := by
      rw [clip_lo]; split
      · rename_i e; rw [e, HT.sIx_none]
      · rfl
    refine .inl ⟨a, vs, rfl, t.imp .inl id, by rw [ln, ← h1, ← h2]; exact np, fun p hn => ?_⟩
    exact k _ _ _ _ q (frm_hid hn) ⟨p, _, rfl, .inl upd_same, (cut_rep rs).kp (kp_new hn)⟩ (rh_hid rh hn)
  | rol ds =>
    obtain ⟨a, vs, e, t, rs⟩ := rx
    subst e
    refine .inr (.inl ⟨a, vs, rfl, rol_sql t, fun p hn => ?_⟩)
    exact k _ _ _ _ (q p (rh.none hn)) (frm_new hn) rfl (rh_new rh hn ⟨_, upd_same, (cut_rep rs).kp (kp_new hn)⟩)
  | str s =>
    obtain ⟨rx, ok⟩ := rx
    subst rx
    obtain ⟨hz, q⟩ := q
    refine .inr (.inr ⟨sV s, rfl, by rw [sV_len, hl]; exact hz, ?_⟩)
    have e : cutS (sV s) lo hi = sV (M.cut s lo hi) := by
      unfold cutS
      rw [sV_len, sV_cps, cut_eq]
      rfl
    rw [e]
    refine k.now rh q ⟨rfl, fun c hc => ok c ?_⟩
    unfold M.cut at hc
    exact List.mem_of_mem_drop (List.mem_of_mem_take hc)
  | ref p =>
    cases (show x = _ from rx)
    simp only [M.opSl] at q
    cases e : h p with
    | none => rw [e] at q; exact q.elim
    | some o =>
      rw [e] at q
      cases o with
      | lst xs =>
        obtain ⟨vs, a1, r1⟩ := rh p _ e
        refine .inr (.inl ⟨p, vs, rfl, SqL.of a1, fun l hn => ?_⟩)
        exact k _ _ _ _ (q l (rh.none hn)) (frm_new hn) rfl (rh_new rh hn ⟨_, upd_same, (cut_rep r1).kp (kp_new hn)⟩)
      | _ => exact q.elim
  | _ => exact False.elim q

/-! ### built-in functions -/
theorem arg1_inv {ds : List SD} {f : SD → Prop} (q : M.arg1 ds f) : ∃ d, ds = [d] ∧ f d := by
  match ds, q with
  | [d], q => exact ⟨d, rfl, q⟩
theorem arg2_inv {ds : List SD} {f : SD → SD → Prop} (q : M.arg2 ds f) : ∃ d e, ds = [d, e] ∧ f d e := by
  match ds, q with
  | [d, e], q => exact ⟨d, e, rfl, q⟩
theorem anInt_inv {d : SD} {f : Int → Prop} (q : M.anInt d f) : ∃ i, d = .int i ∧ f i := by
  cases d with
  | int i => exact ⟨i, rfl, q⟩
  | _ => exact False.elim q
theorem aSome_inv {α : Type} {o : Option α} {f : α → Prop} (q : M.aSome o f) : ∃ a, o = some a ∧ f a := by
  cases o with
  | some a => exact ⟨a, rfl, q⟩
  | none => exact False.elim q
theorem aLst_inv {d : SD} {f : Nat → List SD → Prop} (q : M.aLst d h f) : ∃ p xs, d = .ref p ∧ h p = some (.lst xs) ∧ f p xs := by
  cases d with
  | ref p =>
    simp only [M.aLst] at q
    cases e : h p with
    | none => rw [e] at q; exact q.elim
    | some o => rw [e] at q; cases o with
      | lst xs => exact ⟨p, xs, rfl, e, q⟩
      | _ => exact q.elim
  | _ => exact False.elim q
theorem aDct_inv {d : SD} {f : Nat → Nat → List (SD × SD) → Prop} (q : M.aDct d h f) : ∃ p k kvs, d = .ref p ∧ h p = some (.dct k kvs) ∧ f p k kvs := by
  cases d with
  | ref p =>
    simp only [M.aDct] at q
    cases e : h p with
    | none => rw [e] at q; exact q.elim
    | some o => rw [e] at q; cases o with
      | dct k xs => exact ⟨p, k, xs, rfl, e, q⟩
      | _ => exact q.elim
  | _ => exact False.elim q
theorem aDctR_inv {d : SD} {f : Nat → Nat → List (SD × SD) → Prop} (q : M.aDctR d h f) : ∃ p k kvs, d = .ref p ∧ (h p = some (.dct k kvs) ∨ h p = some (.rdct k kvs)) ∧ f p k kvs := by
  cases d with
  | ref p =>
    simp only [M.aDctR] at q
    cases e : h p with
    | none => rw [e] at q; exact q.elim
    | some o => rw [e] at q; cases o with
      | dct k xs => exact ⟨p, k, xs, rfl, .inl e, q⟩
      | rdct k xs => exact ⟨p, k, xs, rfl, .inr e, q⟩
      | _ => exact q.elim
  | _ => exact False.elim q
theorem toInt_inv {d : SD} {f : Int → Prop} (q : M.toInt d f) : (∃ i, d = .int i ∧ f i) ∨ ∃ b, d = .bl b ∧ f (if b then 1 else 0) := by
  cases d with
  | int i => exact .inl ⟨i, rfl, q⟩
  | bl b => exact .inr ⟨b, rfl, q⟩
  | _ => exact False.elim q
theorem seq_rep {d : SD} {v : V} {xs : List SD} (rh : RH K H h) (r : Rep K H d v) (e : M.seqOf d h = some xs) : ∃ p vs, v = .ref p ∧ ((SqL K H p vs ∧ ∀ zs, d ≠ .tup zs) ∨ (SqT K H p vs ∧ d = .tup xs)) ∧ Reps K H xs vs := by
  cases d with
  | tup ds =>
    simp only [M.seqOf, Option.some.injEq] at e
    subst e
    obtain ⟨a, vs, e, t, rs⟩ := r
    exact ⟨a, vs, e, .inr ⟨t.imp .inl id, rfl⟩, rs⟩
  | rol ds =>
    simp only [M.seqOf, Option.some.injEq] at e
    subst e
    obtain ⟨a, vs, e, t, rs⟩ := r
    exact ⟨a, vs, e, .inl ⟨rol_sql t, fun _ z => by cases z⟩, rs⟩
  | ref p =>
    simp only [M.seqOf] at e
    cases e1 : h p with
    | none => rw [e1] at e; cases e
    | some o => rw [e1] at e; cases o with
      | lst ys =>
        simp only [Option.some.injEq] at e
        subst e
        obtain ⟨vs, a1, r1⟩ := rh p _ e1
        exact ⟨p, vs, r, .inl ⟨SqL.of a1, fun _ z => by cases z⟩, r1⟩
      | _ => cases e
  | _ => simp [M.seqOf] at e
theorem ints_rep : ∀ {xs : List SD} {vs : List V} {ns : List Int}, M.intsOf xs = some ns → Reps K H xs vs → vs = ns.map V.int
  | [], vs, ns, e, r => by simp only [M.intsOf, Option.some.injEq] at e; subst e; exact r
  | d :: ds, vs, ns, e, ⟨v, w, ev, a, b⟩ => by
    subst ev
    cases d with
    | int i =>
      simp only [M.intsOf] at e
      cases z : M.intsOf ds with
      | none => rw [z] at e; cases e
      | some ms =>
        rw [z] at e
        simp only [Option.map_some, Option.some.injEq] at e
        subst e
        rw [ints_rep z b, show v = V.int i from a]
        rfl
    | _ => simp [M.intsOf] at e
theorem bls_rep : ∀ {xs : List SD} {vs : List V} {ns : List Bool}, M.bls xs = some ns → Reps K H xs vs → vs = ns.map V.bl
  | [], vs, ns, e, r => by simp only [M.bls, Option.some.injEq] at e; subst e; exact r
  | d :: ds, vs, ns, e, ⟨v, w, ev, a, b⟩ => by
    subst ev
    cases d with
    | bl i =>
      simp only [M.bls] at e
      cases z : M.bls ds with
      | none => rw [z] at e; cases e
      | some ms =>
        rw [z] at e
        simp only [Option.map_some, Option.some.injEq] at e
        subst e
        rw [bls_rep z b, show v = V.bl i from a]
        rfl
    | _ => simp [M.bls] at e
theorem reps1 {d : SD} {vs : List V} (r : Reps K H [d] vs) : ∃ v, vs = [v] ∧ Rep K H d v := by
  obtain ⟨v, w, e, a, b⟩ := r
  cases (show w = _ from b)
  exact ⟨v, e, a⟩
theorem reps2 {d e : SD} {vs : List V} (r : Reps K H [d, e] vs) : ∃ v w, vs = [v, w] ∧ Rep K H d v ∧ Rep K H e w := by
  obtain ⟨v, w, ev, a, b⟩ := r
  obtain ⟨u, e2, c⟩ := reps1 b
  subst e2
  exact ⟨v, u, ev, a, c⟩

theorem lenOk_inv {d : SD} {f : Nat → Prop} (q : M.lenOk d h f) : (∃ s, d = .str s ∧ s.length ≤ M.LINE ∧ f s.length) ∨ (∃ xs, M.seqOf d h = some xs ∧ f xs.length) ∨ ∃ p k kvs, d = .ref p ∧ (h p = some (.dct k kvs) ∨ h p = some (.rdct k kvs)) ∧ f kvs.length := by
  cases d with
  | str s => exact .inl ⟨s, rfl, q.1, q.2⟩
  | non => exact .inr (.inl (aSome_inv (o := M.seqOf .non h) (f := fun xs => f xs.length) q))
  | bl b => exact .inr (.inl (aSome_inv (o := M.seqOf (.bl b) h) (f := fun xs => f xs.length) q))
  | int b => exact .inr (.inl (aSome_inv (o := M.seqOf (.int b) h) (f := fun xs => f xs.length) q))
  | tup b => exact .inr (.inl (aSome_inv (o := M.seqOf (.tup b) h) (f := fun xs => f xs.length) q))
  | rol b => exact .inr (.inl (aSome_inv (o := M.seqOf (.rol b) h) (f := fun xs => f xs.length) q))
  | ref b =>
    simp only [M.lenOk] at q
    cases e : h b with
    | none => rw [e] at q; exact q.elim
    | some o => rw [e] at q; cases o with
      | lst xs => exact .inr (.inl ⟨xs, by simp only [M.seqOf, e], q⟩)
      | dct k xs => exact .inr (.inr ⟨b, k, xs, rfl, .inl e, q⟩)
      | rdct k xs => exact .inr (.inr ⟨b, k, xs, rfl, .inr e, q⟩)
      | _ => exact q.elim
theorem call_lenD {X : L2.Cx} : CallR X (.builtin "len") (fun xs H Q => (∃ x n, xs = [x] ∧ LenV X.F x H n ∧ Q (.int n) H) ∨ ∃ (a : Addr) (kvs : List (Key × V)), xs = [.ref a] ∧ Rd H a (.dK kvs) ∧ Q (.int kvs.length) H) := by
  intro pins s σ H xs us Q I rv h
  rcases h with h | ⟨a, kvs, rfl, rd, q⟩
  · exact call_len pins s σ H xs us Q I rv h
  · obtain ⟨u, rfl, ru⟩ := rv.one
    obtain rfl : u = Value.ref a := ru
    exact d_len I rd fun t s3 I3 => ⟨.int _, H, I3, ⟨t, rfl⟩, q⟩
theorem keys_rep {H' : Hp} : ∀ {kvs : List (SD × SD)} {ps : List (Key × V)}, Paired (PR K H R0) kvs ps → Reps K H' (kvs.map (·.1)) (ps.map fun kv => kV kv.1)
  | _, _, .nil => rfl
  | _, _, @Paired.cons _ _ _ x p xs ps h t => by
    refine ⟨kV p.1, _, rfl, ?_, keys_rep t⟩
    obtain ⟨⟨h1, h2⟩, _⟩ := h
    obtain ⟨a, b⟩ := x
    cases a <;> simp [keyV] at h1
    · rw [← h1]; rfl
    · rw [← h1]; exact ⟨rfl, h2 _ rfl⟩
theorem keys_strs : ∀ {kvs : List (SD × SD)} {ps : List (Key × V)} {ss : List M.Sx}, Paired (PR K H R0) kvs ps → M.strsOf (kvs.map (·.1)) = some ss → ps.map (·.1) = (ss.map sV).map Sum.inr ∧ ∀ s ∈ ss, sOk s
  | _, _, ss, .nil, e => by
    have e : M.strsOf [] = some ss := e
    simp only [M.strsOf, Option.some.injEq] at e
    subst e
    exact ⟨rfl, fun _ h => nomatch h⟩
  | _, _, ss, @Paired.cons _ _ _ x p xs ps h t, e => by
    obtain ⟨⟨h1, h2⟩, h3⟩ := h
    clear h3
    obtain ⟨a, b⟩ := x
    rw [List.map_cons] at e
    cases a <;> try (simp [M.strsOf] at e; done)
    rename_i s
    simp only [M.strsOf] at e
    cases z : M.strsOf (xs.map (·.1)) with
    | none => rw [z] at e; cases e
    | some r =>
      rw [z] at e
      simp only [Option.map_some, Option.some.injEq] at e
      subst e
      obtain ⟨i1, i2⟩ := keys_strs t z
      simp only [keyV, Option.some.injEq] at h1
      refine ⟨by rw [List.map_cons, List.map_cons, List.map_cons, i1, ← h1], fun y hy => ?_⟩
      rcases List.mem_cons.mp hy with e | hy
      · rw [e]; exact h2 s rfl
      · exact i2 y hy
theorem perm_sV {ys : List Str} {ss : List M.Sx} (h : ys.Perm (ss.map sV)) : ∃ ys' : List M.Sx, ys = ys'.map sV ∧ ys'.Perm ss := by
  refine ⟨ys.map fun s => s.cps.toList, ?_, ?_⟩
  · rw [List.map_map]
    have : (sV ∘ fun s : Str => s.cps.toList) = id := by funext s; cases s; simp [sV]
    rw [this, List.map_id]
  · have := h.map fun s : Str => s.cps.toList
    rw [List.map_map] at this
    have e : ((fun s : Str => s.cps.toList) ∘ sV) = id := by funext s; simp [sV]
    rw [e, List.map_id] at this
    exact this
theorem reps_strs {H' : Hp} : ∀ {ss : List M.Sx}, (∀ s ∈ ss, sOk s) → Reps K H' (ss.map M.D.str) (ss.map (V.str ∘ sV))
  | [], _ => rfl
  | s :: ss, h => ⟨_, _, rfl, ⟨rfl, h s List.mem_cons_self⟩, reps_strs fun t ht => h t (List.mem_cons_of_mem _ ht)⟩
inductive BK where | b (id : String) | t (T : String)
def bltK : M.Blt → Option BK
  | .len => some (.b "len") | .min2 => some (.b "min") | .max2 => some (.b "max") | .int1 => some (.t "int") | .abs => some (.b "abs") | .sum => some (.b "sum") | .all => some (.b "all") | .any => some (.b "any")
  | .list => some (.t "list") | .tuple => some (.t "tuple") | .dict1 => some (.t "dict") | .klist => some (.t "list") | .max1 => some (.b "max") | .sorted => some (.b "sorted") | .sortd => some (.b "sorted") | _ => none
def BK.val : BK → Value
  | .b id => .builtin id
  | .t T => .type T
def BK.name : BK → Str
  | .b id => Str.ofString id
  | .t T => Str.ofString T
/-- a list of less than two items -/
def rSortO (K : Fr) : List V → Hp → VK → Prop := fun xs H Q => ∃ (a : Addr) (vs : List V), xs = [V.ref a] ∧ SqL K H a vs ∧ vs.length < 2 ∧ ∀ p, H p = none → Q (.ref p) (upd H p (.lst vs))
theorem perm_short {α : Type} {l m : List α} (p : l.Perm m) (h : m.length < 2) : l = m := by
  match m, h with
  | [], _ => exact List.perm_nil.mp p
  | [x], _ => exact List.perm_singleton.mp p
  | _ :: _ :: l, h => exact absurd h (by simp)
theorem cr_sortO {X : L2.Cx} : CallR X (.builtin "sorted") (rSortO X.F) := by
  intro pins s σ H xs us Q I r h
  obtain ⟨a, vs, rfl, hs, h2, q⟩ := h
  obtain ⟨its, rv, hl, hz⟩ := I.list hs
  obtain ⟨u, rfl, ru⟩ := vals1 r
  obtain rfl : u = Value.ref a := ru
  refine SrtO.sorted_ord (ltv := fun _ _ => false) ⟨(fun _ _ h => by cases h), (fun _ _ _ _ _ => rfl)⟩ hl.isList (by rw [← rv.length]; exact hz) (fun h3 => absurd h3 (by rw [← rv.length]; omega)) fun out hs hb => ?_
  have e := perm_short hb.perm (by rw [← rv.length]; exact h2)
  subst e
  obtain ⟨n, hn⟩ := sortedAll_at s.heap out out.toArray
  exact ⟨.ref _, upd H (s.heap.objs.size + 1) (.lst vs), I.laid (t' := s.toks) (fun _ _ => sortedAll_old) (Nat.le_succ _) ⟨hz, out, n, rv, hn⟩, rfl, q _ (I.hok.fresh (Nat.le_succ _))⟩
def rSortDS : List V → Hp → VK → Prop := fun xs H Q => ∃ (a : Addr) (kvs : List (Key × V)) (ks : List Str), xs = [.ref a] ∧ Rd H a (.dK kvs) ∧ kvs.map (·.1) = ks.map Sum.inr ∧ ks.length < 64 ∧ ∀ ys p, ys.Perm ks → sortedS ys = true → H p = none → Q (.ref p) (upd H p (.lst (ys.map V.str)))
def rSortD (K : Fr) : List V → Hp → VK → Prop := fun xs H Q => rSortO K xs H Q ∨ rSortedS K xs H Q ∨ rSortedI K xs H Q ∨ rSortT K xs H Q ∨ rSortDS xs H Q
def rBlt (K : Fr) : M.Blt → List V → Hp → VK → Prop
  | .len => fun xs H Q => (∃ x n, xs = [x] ∧ LenV K x H n ∧ Q (.int n) H) ∨ ∃ (a : Addr) (kvs : List (Key × V)), xs = [.ref a] ∧ Rd H a (.dK kvs) ∧ Q (.int kvs.length) H
  | .min2 => fun xs H Q => ∃ i j, xs = [.int i, .int j] ∧ Q (.int (if j < i then j else i)) H
  | .max2 => fun xs H Q => ∃ i j, xs = [.int i, .int j] ∧ Q (.int (if j > i then j else i)) H
  | .int1 => fun xs H Q => (∃ i, xs = [.int i] ∧ Q (.int i) H) ∨ ∃ k, xs = [.bl k] ∧ Q (.int (if k then 1 else 0)) H
  | .abs => fun xs H Q => ∃ i, xs = [.int i] ∧ Q (.int (if i < 0 then -i else i)) H
  | .sum => rSum K
  | .all => rAll K
  | .any => rAny K
  | .list => fun xs H Q => ∃ p ys, xs = [.ref p] ∧ (SqL K H p ys ∨ SqT K H p ys) ∧ ∀ l, H l = none → Q (.ref l) (upd H l (.lst ys))
  | .tuple => fun xs H Q => ∃ p ys, xs = [.ref p] ∧ ((SqL K H p ys ∧ ∀ l, H l = none → Q (.ref l) (upd H l (.tup ys))) ∨ (SqT K H p ys ∧ Q (.ref p) H))
  | .dict1 => fun xs H Q => ∃ (a : Addr) (kvs : List (Key × V)), xs = [.ref a] ∧ Rd H a (.dK kvs) ∧ ∀ p, H p = none → Q (.ref p) (upd H p (.dK kvs))
  | .klist => fun xs H Q => ∃ (a : Addr) (kvs : List (Key × V)), xs = [.ref a] ∧ Rd H a (.dK kvs) ∧ ∀ p, H p = none → Q (.ref p) (upd H p (.lst (kvs.map fun kv => kV kv.1)))
  | .max1 => rMax K
  | .sorted => fun xs H Q => ∃ (a : Addr) (kvs : List (Key × V)) (ks : List Str), xs = [.ref a] ∧ Rd H a (.dK kvs) ∧ kvs.map (·.1) = ks.map Sum.inr ∧ ks.length < 64 ∧ ∀ ys p, ys.Perm ks → sortedS ys = true → H p = none → Q (.ref p) (upd H p (.lst (ys.map V.str)))
  | .sortd => rSortD K
  | _ => fun _ _ _ => False
theorem call_blt {X : Cx} (hc : X.calm = true) (hu : X.A.units + 200 < cLine) (b : M.Blt) {bk : BK} (e : bltK b = some bk) : CallR X bk.val (rBlt X.F b) := by
  cases b <;> simp only [bltK, Option.some.injEq, reduceCtorEq] at e <;> subst e
  · exact call_lenD
  · exact call_min2 hc
  · exact call_max2 hc
  · exact call_int1
  · exact call_abs
  · exact cr_sum hc
  · exact cr_all hc
  · exact cr_any hc
  · exact call_list_of
  · exact call_tuple_of
  · exact call_sortedD hc
  · exact call_dictD
  · exact cr_max hc
  · exact call_listD hc
  · exact cr_sortO.or (cr_sortedS.or (cr_sortedI.or ((cr_sortT hu).or (call_sortedD hc))))
theorem strs_rep : ∀ {xs : List SD} {vs : List V} {ns : List M.Sx}, M.strsOf xs = some ns → Reps K H xs vs → (vs = ns.map fun s => V.str (sV s)) ∧ ∀ s ∈ ns, sOk s
  | [], vs, ns, e, r => by simp only [M.strsOf, Option.some.injEq] at e; subst e; exact ⟨r, fun s hs => nomatch hs⟩
  | d :: ds, vs, ns, e, ⟨v, w, ev, a, b⟩ => by
    subst ev
    cases d with
    | str i =>
      simp only [M.strsOf] at e
      cases z : M.strsOf ds with
      | none => rw [z] at e; cases e
      | some ms =>
        rw [z] at e
        simp only [Option.map_some, Option.some.injEq] at e
        subst e
        obtain ⟨h1, h2⟩ := strs_rep z b
        refine ⟨by rw [h1, show v = V.str (sV i) from a.1]; rfl, fun s hs => ?_⟩
        rcases List.mem_cons.mp hs with q | q
        · subst q; exact a.2
        · exact h2 s q
    | _ => simp [M.strsOf] at e
theorem sorted_pw : ∀ {ss : List M.Sx}, sortedS (ss.map sV) = true → (ss.map M.D.str).Pairwise (fun a b => M.ltD b a = false)
  | [], _ => List.Pairwise.nil
  | [x], _ => List.pairwise_singleton _ _
  | x :: y :: r, h => by
    have h' : (!ltCps (sV y).cps.toList (sV x).cps.toList && risingS (sV y) (r.map sV)) = true := h
    obtain ⟨h1, h2⟩ := ba h'
    have ih := sorted_pw (ss := y :: r) h2
    have e1 : ¬ y < x := by simpa [ltCps_eq, sV_cps] using h1
    refine List.pairwise_cons.mpr ⟨fun z hz => ?_, ih⟩
    rcases List.mem_cons.mp (show z ∈ M.D.str y :: r.map M.D.str from hz) with e | hz
    · subst e; simpa [M.ltD] using e1
    · have h3 := List.rel_of_pairwise_cons ih hz
      obtain ⟨t, _, rfl⟩ := List.mem_map.mp hz
      have e2 : ¬ t < y := by simpa [M.ltD] using h3
      have : ¬ t < x := fun z => by
        have a1 : x ≤ y := e1
        have a2 : y ≤ t := e2
        exact (List.le_trans a1 a2) z
      simpa [M.ltD] using this
theorem perm_strs {ys : List Str} {ss : List M.Sx} (h : ys.Perm (ss.map sV)) : ∃ ys' : List M.Sx, ys = ys'.map sV ∧ ys'.Perm ss := perm_sV h
theorem ints_pw {ns : List Int} (h : ns.Pairwise (· ≤ ·)) : (ns.map M.D.int).Pairwise (fun a b => M.ltD b a = false) :=
  List.pairwise_map.mpr (h.imp fun z => by simpa [M.ltD] using z)
theorem reps_zip : ∀ {ds : List SD} {vs : List V}, Reps K H ds vs → vs.length = ds.length ∧ ∀ p ∈ vs.zip ds, Rep K H p.2 p.1
  | [], vs, r => by cases (show vs = [] from r); exact ⟨rfl, fun p h => nomatch h⟩
  | d :: ds, vs, ⟨v, us, e, a, b⟩ => by
    subst e
    obtain ⟨h1, h2⟩ := reps_zip b
    refine ⟨by simp [h1], fun p hp => ?_⟩
    rcases List.mem_cons.mp (show p ∈ (v, d) :: us.zip ds from hp) with z | z
    · subst z; exact a
    · exact h2 p z
theorem reps_of : ∀ {ps : List (V × SD)}, (∀ p ∈ ps, Rep K H p.2 p.1) → Reps K H (ps.map (·.2)) (ps.map (·.1))
  | [], _ => rfl
  | p :: ps, h => ⟨_, _, rfl, h p List.mem_cons_self, reps_of fun q hq => h q (List.mem_cons_of_mem _ hq)⟩
theorem strs_map : ∀ {xs : List SD} {ss : List M.Sx}, M.strsOf xs = some ss → xs = ss.map M.D.str
  | [], ss, e => by simp only [M.strsOf, Option.some.injEq] at e; subst e; rfl
  | x :: xs, ss, e => by
    cases x <;> try (simp [M.strsOf] at e; done)
    simp only [M.strsOf] at e
    cases z : M.strsOf xs with
    | none => rw [z] at e; cases e
    | some r =>
      rw [z] at e
      simp only [Option.map_some, Option.some.injEq] at e
      subst e
      rw [strs_map z]
      rfl
theorem ints_map : ∀ {xs : List SD} {ns : List Int}, M.intsOf xs = some ns → xs = ns.map M.D.int
  | [], ss, e => by simp only [M.intsOf, Option.some.injEq] at e; subst e; rfl
  | x :: xs, ss, e => by
    cases x <;> try (simp [M.intsOf] at e; done)
    simp only [M.intsOf] at e
    cases z : M.intsOf xs with
    | none => rw [z] at e; cases e
    | some r =>
      rw [z] at e
      simp only [Option.map_some, Option.some.injEq] at e
      subst e
      rw [ints_map z]
      rfl
theorem reps_intsL : ∀ ns : List Int, Reps K H (ns.map M.D.int) (ns.map V.int)
  | [] => rfl
  | n :: ns => ⟨_, _, rfl, rfl, reps_intsL ns⟩
theorem pw_short {xs : List SD} (h : xs.length < 2) : xs.Pairwise (fun a b => M.ltD b a = false) := by
  match xs, h with
  | [], _ => exact List.Pairwise.nil
  | [x], _ => exact List.pairwise_singleton _ _
  | _ :: _ :: l, h => exact absurd h (by simp)
theorem sortP_inv {d : SD} {f : List SD → Prop} (q : M.sortP d h f) : ∃ p, d = .ref p ∧ ((∃ xs, h p = some (.lst xs) ∧ M.sortOk xs ∧ f xs) ∨ ∃ kvs, (h p = some (.dct 0 kvs) ∨ h p = some (.rdct 0 kvs)) ∧ (∃ ss, M.strsOf (kvs.map (·.1)) = some ss ∧ ss.length < 64) ∧ f (kvs.map (·.1))) := by
  cases d with
  | ref p =>
    refine ⟨p, rfl, ?_⟩
    cases e : h p with
    | none => simp only [M.sortP, e] at q
    | some o =>
      cases o with
      | lst xs => simp only [M.sortP, e] at q; exact .inl ⟨xs, rfl, q⟩
      | dct kd kvs =>
        cases kd with
        | zero => simp only [M.sortP, e] at q; exact .inr ⟨kvs, .inl rfl, q⟩
        | succ n => simp only [M.sortP, e] at q
      | rdct kd kvs =>
        cases kd with
        | zero => simp only [M.sortP, e] at q; exact .inr ⟨kvs, .inr rfl, q⟩
        | succ n => simp only [M.sortP, e] at q
      | _ => simp only [M.sortP, e] at q
  | _ => exact False.elim q
theorem sortd_ok {ds : List SD} {vs : List V} (rh : RH K H h) (r : Reps K H ds vs) (q : M.opBlt .sortd ds h Qa) (k : Kont K H h Qa Q) : rSortD K vs H Q := by
  simp only [M.opBlt] at q
  obtain ⟨d, rfl, q⟩ := arg1_inv q
  obtain ⟨v, rfl, rv⟩ := reps1 r
  obtain ⟨p, rfl, z0⟩ := sortP_inv q
  cases (show v = _ from rv)
  clear q
  rcases z0 with ⟨xs, e, so, q⟩ | ⟨kvs, e, ⟨ss, e2, l64⟩, q⟩
  · obtain ⟨vs, a1, r1⟩ := rh p _ e
    have fin : ∀ (ys : List SD) (ws : List V), ys.Perm xs → ys.Pairwise (fun a b => M.ltD b a = false) → Reps K H ys ws → ∀ l, H l = none → Q (.ref l) (upd H l (.lst ws)) := fun ys ws pm pw rw l hn =>
      k _ _ _ _ (q ys pm pw l (rh.none hn)) (frm_new hn) rfl (rh_new rh hn ⟨_, upd_same, rw.kp (kp_new hn)⟩)
    rcases so with so | ⟨ss, e2, l64⟩ | ⟨ns, e2⟩ | so
    · exact .inl ⟨p, vs, rfl, SqL.of a1, by rw [r1.length]; exact so, fin xs vs (.refl _) (pw_short so) r1⟩
    · obtain ⟨ev, ok⟩ := strs_rep e2 r1
      have ex := strs_map e2
      refine .inr (.inl ⟨p, ss.map sV, rfl, ?_, by simpa using l64, fun ys l pm so hn => ?_⟩)
      · rw [List.map_map]
        have : vs = ss.map (V.str ∘ sV) := ev
        rw [← this]; exact SqL.of a1
      · obtain ⟨ys', rfl, pm'⟩ := perm_sV pm
        have := fin (ys'.map M.D.str) (ys'.map (V.str ∘ sV)) (by rw [ex]; exact pm'.map _) (sorted_pw so) (reps_strs fun s hs => ok s (pm'.mem_iff.mp hs)) l hn
        rw [List.map_map]
        exact this
    · have ev := ints_rep e2 r1
      subst ev
      have ex := ints_map e2
      exact .inr (.inr (.inl ⟨p, ns, rfl, SqL.of a1, fun ys l pm so hn => fin (ys.map M.D.int) (ys.map V.int) (by rw [ex]; exact pm.map _) (ints_pw so) (reps_intsL ys) l hn⟩))
    · obtain ⟨z1, z2⟩ := reps_zip r1
      refine .inr (.inr (.inr (.inl ⟨p, vs, xs, rfl, SqL.of a1, reps_dp so.1 r1, so, reps_can so.1 r1, fun ps pm sp l hn => ?_⟩)))
      refine fin (ps.map (·.2)) (ps.map (·.1)) ?_ sp (reps_of fun x hx => z2 x (pm.mem_iff.mp hx)) l hn
      have := pm.map (·.2)
      rw [List.map_snd_zip (by omega)] at this
      exact this
  · obtain ⟨_, ps, a1, pr⟩ := rd_dct (e.imp (rh p _) (rh p _))
    obtain ⟨k1, k2⟩ := keys_strs pr e2
    have ex := strs_map e2
    refine .inr (.inr (.inr (.inr ⟨p, ps, ss.map sV, rfl, a1, k1, by simpa using l64, fun ys l hp so hn => ?_⟩)))
    obtain ⟨ys', rfl, hp'⟩ := perm_sV hp
    refine k _ _ _ _ (q (ys'.map M.D.str) (by rw [ex]; exact hp'.map _) (sorted_pw so) l (rh.none hn)) (frm_new hn) rfl (rh_new rh hn ⟨_, upd_same, ?_⟩)
    rw [List.map_map]
    exact reps_strs fun s hs => k2 s (hp'.mem_iff.mp hs)
theorem blt_ok {b : M.Blt} {ds : List SD} {vs : List V} (rh : RH K H h) (r : Reps K H ds vs) (q : M.opBlt b ds h Qa) (k : Kont K H h Qa Q) : rBlt K b vs H Q := by
  have hl := line_eq
  by_cases bs : b = .sortd
  · subst bs
    exact sortd_ok rh r q k
  cases b <;> simp only [M.opBlt] at q
  case len =>
    obtain ⟨d, rfl, q1⟩ := arg1_inv q
    obtain ⟨v, rfl, rv⟩ := reps1 r
    rcases lenOk_inv q1 with ⟨s, rfl, hz, q⟩ | ⟨xs, e, q⟩ | ⟨p, kd, kvs, rfl, e, q⟩
    · refine .inl ⟨v, s.length, rfl, ?_, k.now rh q rfl⟩
      cases (show v = _ from rv.1)
      exact ⟨by rw [sV_len, hl]; exact hz, (sV_len s).symm⟩
    · obtain ⟨p, ws, ev, t, rs⟩ := seq_rep rh rv e
      subst ev
      refine .inl ⟨_, xs.length, rfl, ?_, k.now rh q rfl⟩
      rcases t with ⟨t, _⟩ | ⟨t, _⟩
      · exact .inl ⟨ws, t, rs.length.symm⟩
      · exact .inr ⟨ws, t, rs.length.symm⟩
    · cases (show v = _ from rv)
      obtain ⟨rfl, ps, rd, pr⟩ := rd_dct (e.imp (rh p _) (rh p _))
      have ln := Paired.length pr
      exact .inr ⟨p, ps, rfl, rd, k.now rh q (by show V.int _ = V.int _; rw [ln])⟩
  case min2 =>
    obtain ⟨d, e, rfl, q⟩ := arg2_inv q
    obtain ⟨v, w, rfl, rv, rw'⟩ := reps2 r
    obtain ⟨i, rfl, q⟩ := anInt_inv q
    obtain ⟨j, rfl, q⟩ := anInt_inv q
    cases (show v = _ from rv); cases (show w = _ from rw')
    exact ⟨i, j, rfl, k.now rh q rfl⟩
  case max2 =>
    obtain ⟨d, e, rfl, q⟩ := arg2_inv q
    obtain ⟨v, w, rfl, rv, rw'⟩ := reps2 r
    obtain ⟨i, rfl, q⟩ := anInt_inv q
    obtain ⟨j, rfl, q⟩ := anInt_inv q
    cases (show v = _ from rv); cases (show w = _ from rw')
    exact ⟨i, j, rfl, k.now rh q rfl⟩
  case int1 =>
    obtain ⟨d, rfl, q⟩ := arg1_inv q
    obtain ⟨v, rfl, rv⟩ := reps1 r
    rcases toInt_inv q with ⟨i, rfl, q⟩ | ⟨i, rfl, q⟩
    · cases (show v = _ from rv)
      exact .inl ⟨i, rfl, k.now rh q rfl⟩
    · cases (show v = _ from rv)
      exact .inr ⟨i, rfl, k.now rh q rfl⟩
  case abs =>
    obtain ⟨d, rfl, q⟩ := arg1_inv q
    obtain ⟨v, rfl, rv⟩ := reps1 r
    obtain ⟨i, rfl, q⟩ := anInt_inv q
    cases (show v = _ from rv)
    exact ⟨i, rfl, k.now rh q rfl⟩
  case sum =>
    obtain ⟨d, rfl, q⟩ := arg1_inv q
    obtain ⟨v, rfl, rv⟩ := reps1 r
    obtain ⟨p, xs, rfl, e, q⟩ := aLst_inv q
    obtain ⟨ns, e2, q⟩ := aSome_inv q
    cases (show v = _ from rv)
    obtain ⟨vs, a1, r1⟩ := rh p _ e
    have := ints_rep e2 r1
    subst this
    exact ⟨p, ns, rfl, SqL.of a1, k.now rh q rfl⟩
  case all =>
    obtain ⟨d, rfl, q⟩ := arg1_inv q
    obtain ⟨v, rfl, rv⟩ := reps1 r
    obtain ⟨p, xs, rfl, e, q⟩ := aLst_inv q
    obtain ⟨ns, e2, q⟩ := aSome_inv q
    cases (show v = _ from rv)
    obtain ⟨vs, a1, r1⟩ := rh p _ e
    have := bls_rep e2 r1
    subst this
    exact ⟨p, ns, rfl, SqL.of a1, k.now rh q rfl⟩
  case any =>
    obtain ⟨d, rfl, q⟩ := arg1_inv q
    obtain ⟨v, rfl, rv⟩ := reps1 r
    obtain ⟨p, xs, rfl, e, q⟩ := aLst_inv q
    obtain ⟨ns, e2, q⟩ := aSome_inv q
    cases (show v = _ from rv)
    obtain ⟨vs, a1, r1⟩ := rh p _ e
    have := bls_rep e2 r1
    subst this
    exact ⟨p, ns, rfl, SqL.of a1, k.now rh q rfl⟩
  case list =>
    obtain ⟨d, rfl, q⟩ := arg1_inv q
    obtain ⟨v, rfl, rv⟩ := reps1 r
    obtain ⟨xs, e, q⟩ := aSome_inv q
    obtain ⟨p, ws, ev, t, rs⟩ := seq_rep rh rv e
    subst ev
    refine ⟨p, ws, rfl, t.imp (·.1) (·.1), fun l hn => ?_⟩
    exact k _ _ _ _ (q l (rh.none hn)) (frm_new hn) rfl (rh_new rh hn ⟨_, upd_same, rs.kp (kp_new hn)⟩)
  case tuple =>
    obtain ⟨d, rfl, q⟩ := arg1_inv q
    obtain ⟨v, rfl, rv⟩ := reps1 r
    obtain ⟨xs, e, q⟩ := aSome_inv q
    obtain ⟨p, ws, ev, t, rs⟩ := seq_rep rh rv e
    subst ev
    refine ⟨p, ws, rfl, ?_⟩
    rcases t with ⟨t, _⟩ | ⟨t, e3⟩
    · refine .inl ⟨t, fun l hn => ?_⟩
      exact k _ _ _ _ q (frm_hid hn) ⟨l, ws, rfl, .inl upd_same, rs.kp (kp_new hn)⟩ (rh_hid rh hn)
    · subst e3
      exact .inr ⟨t, k.now rh q rv⟩
  case dict1 =>
    obtain ⟨d, rfl, q⟩ := arg1_inv q
    obtain ⟨v, rfl, rv⟩ := reps1 r
    obtain ⟨p, kd, kvs, rfl, e1, q⟩ := aDctR_inv q
    cases (show v = _ from rv)
    obtain ⟨rfl, ps, a1, pr⟩ := rd_dct (e1.imp (rh p _) (rh p _))
    refine ⟨p, ps, rfl, a1, fun l hn => ?_⟩
    exact k _ _ _ _ (q l (rh.none hn)) (frm_new hn) rfl (rh_new rh hn (dct0.mpr ⟨ps, upd_same, Paired.mapP pr fun _ _ z => ⟨z.1, z.2.kp (kp_new hn)⟩⟩))
  case klist =>
    obtain ⟨d, rfl, q⟩ := arg1_inv q
    obtain ⟨v, rfl, rv⟩ := reps1 r
    obtain ⟨p, kd, kvs, rfl, e1, q⟩ := aDctR_inv q
    cases (show v = _ from rv)
    obtain ⟨rfl, ps, a1, pr⟩ := rd_dct (e1.imp (rh p _) (rh p _))
    refine ⟨p, ps, rfl, a1, fun l hn => ?_⟩
    exact k _ _ _ _ (q l (rh.none hn)) (frm_new hn) rfl (rh_new rh hn ⟨_, upd_same, keys_rep pr⟩)
  case max1 =>
    obtain ⟨d, rfl, q⟩ := arg1_inv q
    obtain ⟨v, rfl, rv⟩ := reps1 r
    obtain ⟨p, xs, rfl, e, q⟩ := aLst_inv q
    obtain ⟨ns, e2, q0, q⟩ := aSome_inv q
    cases (show v = _ from rv)
    obtain ⟨vs, a1, r1⟩ := rh p _ e
    have := ints_rep e2 r1
    subst this
    exact ⟨p, ns, rfl, SqL.of a1, List.length_pos_iff.mpr q0, fun m h1 h2 => k.now rh (q m h1 h2) rfl⟩
  case sortd => exact absurd rfl bs
  case sorted =>
    obtain ⟨d, rfl, q⟩ := arg1_inv q
    obtain ⟨v, rfl, rv⟩ := reps1 r
    obtain ⟨p, kd, kvs, rfl, e1, q⟩ := aDctR_inv q
    obtain ⟨ss, e2, q0, q⟩ := aSome_inv q
    cases (show v = _ from rv)
    obtain ⟨rfl, ps, a1, pr⟩ := rd_dct (e1.imp (rh p _) (rh p _))
    obtain ⟨k1, k2⟩ := keys_strs pr e2
    refine ⟨p, ps, ss.map sV, rfl, a1, k1, by simpa using q0, fun ys l hp _ hn => ?_⟩
    obtain ⟨ys', rfl, hp'⟩ := perm_sV hp
    refine k _ _ _ _ (q ys' hp' l (rh.none hn)) (frm_new hn) rfl (rh_new rh hn ⟨_, upd_same, ?_⟩)
    rw [List.map_map]
    exact reps_strs fun s hs => k2 s (hp'.mem_iff.mp hs)

/-! ### isinstance -/
def tyS : M.Ty → String
  | .int => "int" | .bool => "bool" | .tuple => "tuple" | .str => "str" | .list => "list" | .dict => "dict"
theorem isi_ok {d : SD} {t : M.Ty} {v : V} {b : Bool} (rh : RH K H h) (r : Rep K H d v) (e : M.opIsi d t h = some b) (q : Q (.bl b) H) : rIsi K [v, .ty (tyS t)] H Q := by
  have go : ∀ (T : String), TyX K H v (.type T) → kitB T (tyS t) = some b → rIsi K [v, .ty (tyS t)] H Q := fun T ty k => ⟨v, _, _, _, b, rfl, .ty _, ty, kit_ty k, q⟩
  cases d with
  | non =>
    cases (show v = _ from r)
    refine ⟨_, _, _, _, b, rfl, .ty _, .base .non, ?_, q⟩
    cases t <;> simp only [M.opIsi, Option.some.injEq] at e <;> subst e <;> rfl
  | bl y =>
    cases (show v = _ from r)
    refine go "bool" (.base (.bl y)) ?_
    cases t <;> simp only [M.opIsi, Option.some.injEq] at e <;> subst e <;> decide +kernel
  | int y =>
    cases (show v = _ from r)
    refine go "int" (.base (.int y)) ?_
    cases t <;> simp only [M.opIsi, Option.some.injEq] at e <;> subst e <;> decide +kernel
  | str y =>
    cases (show v = _ from r.1)
    refine go "str" (.base (.str _)) ?_
    cases t <;> simp only [M.opIsi, Option.some.injEq] at e <;> subst e <;> decide +kernel
  | tup y =>
    obtain ⟨a, vs, e1, tt, rs⟩ := r
    subst e1
    refine go "tuple" ?_ ?_
    · rcases tt with tt | ⟨o, its, n, e1, e2, _⟩
      · exact .base (.tup tt)
      · exact .kTuple e1 e2
    · cases t <;> simp only [M.opIsi, Option.some.injEq] at e <;> subst e <;> decide +kernel
  | ref p =>
    cases (show v = _ from r)
    simp only [M.opIsi] at e
    cases z : h p with
    | none => rw [z] at e; cases e
    | some o =>
      rw [z] at e
      cases o with
      | lst xs =>
        obtain ⟨vs, a1, r1⟩ := rh p _ z
        refine go "list" (.base (.lst a1)) ?_
        cases t <;> simp only [Option.some.injEq] at e <;> subst e <;> decide +kernel
      | dct kd kvs =>
        cases kd with
        | succ _ => cases e
        | zero =>
          obtain ⟨ps, a1, _⟩ := dct0.mp (rh p _ z)
          refine go "dict" (.base (.dK a1)) ?_
          cases t <;> simp only [Option.some.injEq] at e <;> subst e <;> decide +kernel
      | _ => cases e
  | rol _ => simp [M.opIsi] at e

/-! ### methods -/
/-- list.extend by a tuple, whatever else the tuple's object holds -/
theorem ext_tup (l b : Addr) (xs ys : Array Value) (n m : Nat) (dd : Option Addr) (sl : Array (Option Value)) (h1 : ¬(!xs.isEmpty && Builtin.List.listTooLong (xs.size + ys.size)) = true) (h2 : xs.size ≤ sizeLine) (h3 : xs.size + ys.size ≤ sizeLine + 1) :
    Meets (Builtin.«list.extend» ⟨[.ref l, .ref b], []⟩) (fun _ R s => s.heap.get? l = some { cls := .type "list", dict := none, data := .seq xs n, slots := #[] } ∧
      s.heap.get? b = some { cls := .type "tuple", dict := dd, data := .seq ys m, slots := sl } ∧
      R (.ok (.ret Value.none)) { s with heap := s.heap.update l (Obj.mapSeq fun x => x ++ ys), toks := s.toks }) := .of_wp fun prog w A R s h => by
    obtain ⟨hp, g, d, tk, os⟩ := s
    obtain ⟨hl, hb, h⟩ := h
    have f1 := AutoSeq1.idx_int
    have f2 := AutoSeq1.sub_tuple_tuple
    have f3 := AutoSeq1.sub_list_list
    have f4 := AutoSeq1.sub_tuple_list
    have f5 := AutoSeq1.sub_list_tuple
    have h4 : (xs ++ ys).size ≤ sizeLine + 1 := by rw [Array.size_append]; exact h3
    wp_walk using (wpAny_updateSeq hl rfl (hz := h2) (_hz' := h4)), AutoSeq1.wpAny_loadPart' hl, AutoSeq1.wpAny_loadPart' hb
    exact ⟨_, rfl, h⟩
def rExtT (K : Fr) : V → List V → Hp → VK → Prop := fun x vs H Q => ∃ l b xs zs, x = .ref l ∧ vs = [.ref b] ∧ H l = some (.lst xs) ∧ SqT K H b zs ∧ xs.length + zs.length ≤ sizeLine ∧ Q .non (upd H l (.lst (xs ++ zs)))
theorem mt_extT {X : Cx} : MtR X "list.extend" (rExtT X.F) := by
  intro pins s σ H x vs v us Q I rx rv h
  obtain ⟨l, b, xs, zs, rfl, rfl, hH, hB, hz, q⟩ := h
  cases rx
  obtain ⟨u, rfl, ru⟩ := rv.one
  cases ru
  obtain ⟨z, its, n, r, hl, e⟩ := I.lstM hH
  obtain ⟨its2, r2, ⟨o, e2, c2, m, d2⟩, _⟩ := I.tuple hB
  obtain ⟨oc, od, dt, osl⟩ := o
  dsimp only at c2 d2
  subst c2 d2
  have hsz : its.toArray.size + its2.toArray.size ≤ sizeLine := by
    have a1 := r.length
    have a2 := r2.length
    rw [List.size_toArray, List.size_toArray]; omega
  have hlong : ¬ (!its.toArray.isEmpty && Builtin.List.listTooLong (its.toArray.size + its2.toArray.size)) = true := by
    rw [notLongL hsz, Bool.and_false]
    exact Bool.false_ne_true
  refine call_meets F.slot_list_extend ⟨_, e, rfl⟩ F.entry_list_extend (F.args_list_extend_2 _ _) (ext_tup l b its.toArray its2.toArray n m od osl hlong (by omega) (by omega)) ⟨e, e2, ?_⟩
  refine ⟨.non, _, I.lset (its' := its ++ its2) hH e (by simp) (r.append r2) ?_, rfl, q⟩
  rw [List.length_append]
  omega
def mthT : M.Mth → Option (String × String × Str)
  | .append => some ("list", "list.append", "append") | .pop => some ("list", "list.pop", "pop") | .popAt => some ("list", "list.pop", "pop") | .extend => some ("list", "list.extend", "extend")
  | .reverse => some ("list", "list.reverse", "reverse") | .clear => some ("list", "list.clear", "clear") | .get1 => some ("dict", "dict.get", "get") | .get2 => some ("dict", "dict.get", "get")
  | .update => some ("dict", "dict.update", "update") | .insert => some ("list", "list.insert", "insert") | .dclear => some ("dict", "dict.clear", "clear") | .join => some ("str", "str.join", "join") | .sindex => some ("str", "str.index", "index") | .index => some ("list", "list.index", "index") | .extendT => some ("list", "list.extend", "extend") | _ => none
def rUpd : V → List V → Hp → VK → Prop := fun x vs H Q => ∃ (a b : Addr) (ks ls : List (Key × V)), x = .ref a ∧ vs = [.ref b] ∧ a ≠ b ∧ H a = some (.dK ks) ∧ H b = some (.dK ls) ∧ ks.length + ls.length ≤ sizeLine ∧ Q .non (upd H a (.dK (mergeK ks ls)))
theorem mt_update {X : Cx} : MtR X "dict.update" rUpd := by
  intro pins s σ H x vs v us Q I rx rv h
  obtain ⟨a, b, ks, ls, rfl, rfl, hne, ha, hb, hz, q⟩ := h
  cases rx
  obtain ⟨u, rfl, ru⟩ := rv.one
  obtain rfl : u = Value.ref b := ru
  obtain ⟨_, ya, va, ra, da⟩ := dk_of I.hok ha
  obtain ⟨_, yb, vb, rb, db⟩ := dk_of I.hok hb
  refine call_meetsIn PySem.F.slot_dict_update da.typeIs PySem.F.entry_dict_update (PySem.F.args_dict_update_2 _ _) (meets_dict_update (mixKind X.prog X.w) a b hne yb) ⟨va, vb, da, db, by rw [← ra.length, ← rb.length]; exact hz, fun h' d1 d2 hs => ?_⟩
  have rm := KV.merge rb ra
  have hl : (mergeK ks ls).length ≤ sizeLine := by have := length_mergeK ls ks; omega
  obtain ⟨o1, ho1, _⟩ := Heap.dictOf_iff.mp d1
  exact ⟨.non, _, d_write I (by rw [ha]; trivial) hs ⟨_, ho1⟩ (dk_new hl ya rm d1), rfl, q⟩
def rGet1 : V → List V → Hp → VK → Prop := fun x vs H Q => ∃ a y o, x = .ref a ∧ vs = [y] ∧ DGet H a y o ∧ Q (o.getD .non) H
def rGet2 : V → List V → Hp → VK → Prop := fun x vs H Q => ∃ a y z o, x = .ref a ∧ vs = [y, z] ∧ DGet H a y o ∧ Q (o.getD z) H
theorem mt_get1 {X : Cx} (hu : X.A.units + 1 < cLine) : MtR X "dict.get" rGet1 := by
  intro pins s σ H x vs v us Q I rx rv h
  obtain ⟨a, y, o, rfl, rfl, g, q⟩ := h
  cases rx
  obtain ⟨u, rfl, ru⟩ := rv.one
  exact d_get1 hu I g ru fun w' s3 I3 rw' => ⟨_, H, I3, rw', q⟩
theorem mt_get2 {X : Cx} (hu : X.A.units + 1 < cLine) : MtR X "dict.get" rGet2 := by
  intro pins s σ H x vs v us Q I rx rv h
  obtain ⟨a, y, z, o, rfl, rfl, g, q⟩ := h
  cases rx
  obtain ⟨u, u2, rfl, ru, ru2⟩ := rv.two
  exact d_get2 hu I g ru ru2 fun w' s3 I3 rw' => ⟨_, H, I3, rw', q⟩
def rMth (K : Fr) : M.Mth → V → List V → Hp → VK → Prop
  | .append => rAppend | .pop => rPop | .popAt => rPopAt | .extend => rExtend | .reverse => rReverse | .clear => rClear | .get1 => rGet1 | .get2 => rGet2 | .update => rUpd
  | .insert => fun x vs H Q => ∃ (l : Addr) (xs : List V) (i : Int) (y : V), x = .ref l ∧ vs = [.int i, y] ∧ H l = some (.lst xs) ∧ xs.length < sizeLine ∧ 0 ≤ i ∧ i < 2 ^ 63 ∧ Q .non (upd H l (.lst (xs.take i.toNat ++ [y] ++ xs.drop i.toNat)))
  | .dclear => rDClear
  | .extendT => rExtT K
  | .index => rIndex K
  | .sindex => fun x xs H Q => ∃ a b i rest, x = .str a ∧ xs = [.str b] ∧ Builtin.Str.occurrences a b 0 a.length 1 = i :: rest ∧ Q (.int (i : Nat)) H
  | .join => fun x xs H Q => ∃ a p, ∃ ys : List Str, x = .str a ∧ xs = [.ref p] ∧ (SqL K H p (ys.map V.str) ∨ SqT K H p (ys.map V.str)) ∧ (ys.map (·.length)).sum + ys.length * a.length ≤ 16777216 ∧ Q (.str (Txt.join a ys)) H
  | _ => fun _ _ _ _ => False
structure MFact (m : M.Mth) (T id : String) (nm : Str) : Prop where
  pa : PlainAttrs T
  slot : Slot T nm id
  ty : typeOf (.builtin id) = pure (.type "method_descriptor")
theorem mth_fact {m : M.Mth} {T id : String} {nm : Str} (e : mthT m = some (T, id, nm)) : MFact m T id nm := by
  cases m <;> simp only [mthT, Option.some.injEq, Prod.mk.injEq, reduceCtorEq] at e <;> obtain ⟨rfl, rfl, rfl⟩ := e
  · exact ⟨PySem.F.plainAttrs_list, PySem.F.slot_list_append, PySem.F.type_list_append⟩
  · exact ⟨PySem.F.plainAttrs_list, PySem.F.slot_list_pop, PySem.F.type_list_pop⟩
  · exact ⟨PySem.F.plainAttrs_list, PySem.F.slot_list_pop, PySem.F.type_list_pop⟩
  · exact ⟨PySem.F.plainAttrs_list, PySem.F.slot_list_extend, PySem.F.type_list_extend⟩
  · exact ⟨PySem.F.plainAttrs_list, PySem.F.slot_list_insert, PySem.F.type_list_insert⟩
  · exact ⟨PySem.F.plainAttrs_list, PySem.F.slot_list_reverse, PySem.F.type_list_reverse⟩
  · exact ⟨PySem.F.plainAttrs_list, PySem.F.slot_list_clear, PySem.F.type_list_clear⟩
  · exact ⟨PySem.F.plainAttrs_dict, PySem.F.slot_dict_get, PySem.F.type_dict_get⟩
  · exact ⟨PySem.F.plainAttrs_dict, PySem.F.slot_dict_get, PySem.F.type_dict_get⟩
  · exact ⟨PySem.F.plainAttrs_dict, PySem.F.slot_dict_update, PySem.F.type_dict_update⟩
  · exact ⟨PySem.F.plainAttrs_str, PySem.F.slot_str_join, PySem.F.type_str_join⟩
  · exact ⟨PySem.F.plainAttrs_str, PySem.F.slot_str_index, PySem.F.type_str_index⟩
  · exact ⟨PySem.F.plainAttrs_list, PySem.F.slot_list_index, PySem.F.type_list_index⟩
  · exact ⟨PySem.F.plainAttrs_dict, PySem.F.slot_dict_clear, PySem.F.type_dict_clear⟩
  · exact ⟨PySem.F.plainAttrs_list, PySem.F.slot_list_extend, PySem.F.type_list_extend⟩
theorem mth_rule {X : Cx} (hu : X.A.units + 1 < cLine) {m : M.Mth} {T id : String} {nm : Str} (e : mthT m = some (T, id, nm)) : MtR X id (rMth X.F m) := by
  cases m <;> simp only [mthT, Option.some.injEq, Prod.mk.injEq, reduceCtorEq] at e <;> obtain ⟨rfl, rfl, rfl⟩ := e
  · exact mt_append
  · exact mt_pop
  · exact mt_popAt
  · exact mt_extend
  · exact mt_insert
  · exact mt_reverse
  · exact mt_clear
  · exact mt_get1 hu
  · exact mt_get2 hu
  · exact mt_update
  · exact mt_join
  · exact mt_sindex
  · exact mt_index
  · exact mtd_clear
  · exact mt_extT
theorem recv_ok {m : M.Mth} {T id : String} {nm : Str} (e : mthT m = some (T, id, nm)) {d : SD} {v : V} (rh : RH K H h) (r : Rep K H d v) (q : M.recvOk m d h) : tyV K T v H := by
  have lst : M.aLst d h (fun _ _ => True) → tyV K "list" v H := fun q => by
    obtain ⟨p, xs, rfl, e1, _⟩ := aLst_inv q
    cases (show v = _ from r)
    obtain ⟨vs, a1, r1⟩ := rh p _ e1
    exact .inl ⟨rfl, vs, SqL.of a1⟩
  have dct : M.aDct d h (fun _ _ _ => True) → tyV K "dict" v H := fun q => by
    obtain ⟨p, kd, xs, rfl, e1, _⟩ := aDct_inv q
    cases (show v = _ from r)
    have o := rh p _ e1
    match kd, o with
    | 0, ⟨ps, a1, _⟩ => exact .inr (.inr (.inl ⟨rfl, .inl ⟨ps, a1⟩⟩))
  cases m <;> simp only [mthT, Option.some.injEq, Prod.mk.injEq, reduceCtorEq] at e <;> obtain ⟨rfl, rfl, rfl⟩ := e
  · exact lst q
  · exact lst q
  · exact lst q
  · exact lst q
  · exact lst q
  · exact lst q
  · exact lst q
  · exact dct q
  · exact dct q
  · exact dct q
  · cases d with
    | str s => cases (show v = _ from r.1); exact rfl
    | _ => exact False.elim q
  · cases d with
    | str s => cases (show v = _ from r.1); exact rfl
    | _ => exact False.elim q
  · exact lst q
  · exact dct q
  · exact lst q
theorem lst_put {p : Addr} {xs ys : List SD} {ws : List V} {d : SD} {v : V} (rh : RH K H h) (e : h p = some (.lst xs)) (q : Qa d (M.up h p (.lst ys))) (k : Kont K H h Qa Q) (rd : Rep K H d v) (rs : Reps K H ys ws) :
    Q v (upd H p (.lst ws)) := by
  have kp : Kp H (upd H p (.lst ws)) := kp_put rh e
  exact k _ _ _ _ q (frm_put e) (rd.kp kp) (rh_put rh e ⟨_, upd_same, rs.kp kp⟩)
theorem Reps.erase : ∀ (n : Nat) {ds : List SD} {vs : List V}, Reps K H ds vs → Reps K H (ds.eraseIdx n) (vs.eraseIdx n)
  | _, [], _, r => by cases (show _ = _ from r); exact rfl
  | 0, d :: ds, _, ⟨v, r, e, a, b⟩ => by subst e; exact b
  | n + 1, d :: ds, _, ⟨v, r, e, a, b⟩ => by subst e; exact ⟨v, _, rfl, a, Reps.erase n b⟩
theorem kv_merge : ∀ {more kvs : List (SD × SD)} {ls ks : List (Key × V)}, Paired (PR K H R0) more ls → Paired (PR K H R0) kvs ks → Paired (PR K H R0) (M.mergeL kvs more) (mergeK ks ls) := by
  intro more kvs ls ks r
  induction r generalizing kvs ks with
  | nil => intro q; exact q
  | @cons x p xs ps h t ih =>
    intro q
    exact ih (kv_put kr0 q h.1 h.2)
theorem joinS_eq (s : M.Sx) : ∀ ss : List M.Sx, TL.joinL s ss = M.joinS s ss
  | [] => rfl
  | [_] => rfl
  | p :: q :: r => by
    show p ++ (s ++ TL.joinL s (q :: r)) = p ++ (s ++ M.joinS s (q :: r))
    rw [joinS_eq s (q :: r)]
theorem joinS_ok {s : M.Sx} (os : sOk s) : ∀ {ss : List M.Sx}, (∀ t ∈ ss, sOk t) → sOk (M.joinS s ss)
  | [], _ => fun c hc => nomatch hc
  | [p], h => h p List.mem_cons_self
  | p :: q :: r, h => fun c hc => by
    rcases List.mem_append.mp hc with z | z
    · exact h p List.mem_cons_self c z
    · rcases List.mem_append.mp z with z | z
      · exact os c z
      · exact joinS_ok os (fun t ht => h t (List.mem_cons_of_mem _ ht)) c z
theorem mth_ok {m : M.Mth} {d : SD} {v : V} {ds : List SD} {vs : List V} (rh : RH K H h) (rd : Rep K H d v) (r : Reps K H ds vs) (q : M.opMth m d ds h Qa) (k : Kont K H h Qa Q) : rMth K m v vs H Q := by
  have hl := line_eq
  cases m <;> simp only [M.opMth] at q
  case append =>
    obtain ⟨e, rfl, q⟩ := arg1_inv q
    obtain ⟨w, rfl, rw'⟩ := reps1 r
    obtain ⟨p, xs, rfl, e1, hz, q⟩ := aLst_inv q
    cases (show v = _ from rd)
    obtain ⟨ws, a1, r1⟩ := rh p _ e1
    have ln := r1.length
    exact ⟨p, ws, w, rfl, rfl, a1, by omega, lst_put rh e1 q k rfl (r1.append (.one rw'))⟩
  case pop =>
    obtain ⟨rfl, q⟩ := q
    cases (show vs = _ from r)
    obtain ⟨p, xs, rfl, e1, q⟩ := aLst_inv q
    obtain ⟨y, e2, q⟩ := aSome_inv q
    cases (show v = _ from rd)
    obtain ⟨ws, a1, r1⟩ := rh p _ e1
    have ln := r1.length
    obtain ⟨w, e3, ry⟩ := r1.get e2
    exact ⟨p, ws, w, rfl, rfl, a1, by rw [ln]; exact e3, lst_put rh e1 q k ry r1.dropLast⟩
  case popAt =>
    obtain ⟨e, rfl, q⟩ := arg1_inv q
    obtain ⟨i, rfl, q⟩ := anInt_inv q
    obtain ⟨w, rfl, rw'⟩ := reps1 r
    cases (show w = _ from rw')
    obtain ⟨p, xs, rfl, e1, ⟨i0, i1⟩, q⟩ := aLst_inv q
    obtain ⟨y, e2, q⟩ := aSome_inv q
    cases (show v = _ from rd)
    obtain ⟨ws, a1, r1⟩ := rh p _ e1
    have ln := r1.length
    obtain ⟨w, e3, ry⟩ := r1.get e2
    have hlt : i.toNat < ws.length := (List.getElem?_eq_some_iff.mp e3).1
    refine ⟨p, ws, i, i.toNat, w, rfl, rfl, a1, by omega, by omega, ?_, e3, lst_put rh e1 q k ry (r1.erase _)⟩
    exact seqIndex_of (by omega) (by omega)
  case update =>
    obtain ⟨e, rfl, q⟩ := arg1_inv q
    obtain ⟨w, rfl, rw'⟩ := reps1 r
    obtain ⟨p, kd, kvs, rfl, e1, q⟩ := aDct_inv q
    obtain ⟨p2, kd2, more, rfl, e2, hne, rfl, rfl, hz, q⟩ := aDct_inv q
    cases (show v = _ from rd); cases (show w = _ from rw')
    obtain ⟨ks, a1, r1⟩ := dct0.mp (rh p _ e1)
    obtain ⟨ls, a2, r2⟩ := dct0.mp (rh p2 _ e2)
    have n1 := Paired.length r1
    have n2 := Paired.length r2
    have kp : Kp H (upd H p (.dK (mergeK ks ls))) := kp_put rh e1
    refine ⟨p, p2, ks, ls, rfl, rfl, hne, a1, a2, by omega, k _ _ _ _ q (frm_put e1) rfl (rh_put rh e1 (dct0.mpr ⟨_, upd_same, ?_⟩))⟩
    exact Paired.mapP (kv_merge r2 r1) fun _ _ z => ⟨z.1, z.2.kp kp⟩
  case insert =>
    obtain ⟨y, e, rfl, q⟩ := arg2_inv q
    obtain ⟨i, rfl, q⟩ := anInt_inv q
    obtain ⟨w, u, rfl, rw', ru⟩ := reps2 r
    cases (show w = _ from rw')
    obtain ⟨p, xs, rfl, e1, ⟨i0, i1⟩, hz, q⟩ := aLst_inv q
    cases (show v = _ from rd)
    obtain ⟨ws, a1, r1⟩ := rh p _ e1
    have ln := r1.length
    exact ⟨p, ws, i, u, rfl, rfl, a1, by omega, i0, by omega, lst_put rh e1 q k rfl (((r1.take _).append (.one ru)).append (r1.drop _))⟩
  case index =>
    obtain ⟨e, rfl, q⟩ := arg1_inv q
    obtain ⟨i, rfl, q⟩ := anInt_inv q
    obtain ⟨w, rfl, rw'⟩ := reps1 r
    cases (show w = _ from rw')
    obtain ⟨p, xs, rfl, e1, q⟩ := aLst_inv q
    obtain ⟨ns, e2, hi, q⟩ := aSome_inv q
    cases (show v = _ from rd)
    obtain ⟨ws, a1, r1⟩ := rh p _ e1
    obtain rfl := ints_rep e2 r1
    have hlt := List.idxOf_lt_length_of_mem hi
    have hz : ns[ns.idxOf i]? = some i := by
      rw [List.getElem?_eq_getElem hlt]
      simp
    refine ⟨p, _, _, ns.idxOf i, V.int i, rfl, rfl, SqL.of a1, rfl, ?_, by rw [List.getElem?_map, hz]; rfl, ?_, ?_, k.now rh q rfl⟩
    · simp [flatV]
    · simp [eqV]
    · intro m z' hm hz'
      rw [List.getElem?_map] at hz'
      cases e3 : ns[m]? with
      | none => rw [e3] at hz'; cases hz'
      | some j =>
        rw [e3] at hz'
        cases hz'
        have : j ≠ i := fun c => by
          subst c
          obtain ⟨l, e4⟩ := List.getElem?_eq_some_iff.mp e3
          have := List.not_of_lt_findIdx (p := (· == j)) (xs := ns) (i := m) hm
          simp [e4] at this
        simp [eqV, this]
  case dclear =>
    obtain ⟨rfl, q⟩ := q
    cases (show vs = _ from r)
    obtain ⟨p, kd, kvs, rfl, e1, rfl, q⟩ := aDct_inv q
    cases (show v = _ from rd)
    obtain ⟨ks, a1, r1⟩ := dct0.mp (rh p _ e1)
    exact ⟨p, ks, rfl, rfl, a1, k _ _ _ _ q (frm_put e1) rfl (rh_put rh e1 (dct0.mpr ⟨[], upd_same, .nil⟩))⟩
  case join =>
    obtain ⟨e, rfl, q⟩ := arg1_inv q
    obtain ⟨w, rfl, rw'⟩ := reps1 r
    cases d with
    | str s =>
      obtain ⟨xs, e1, q⟩ := aSome_inv q
      obtain ⟨ss, e2, hz, q⟩ := aSome_inv q
      obtain ⟨rd, os⟩ := rd
      cases (show v = _ from rd)
      obtain ⟨p, ws, ev, t, rs⟩ := seq_rep rh rw' e1
      subst ev
      obtain ⟨e3, oks⟩ := strs_rep e2 rs
      subst e3
      refine ⟨sV s, p, ss.map sV, rfl, rfl, ?_, ?_, ?_⟩
      · have : (ss.map sV).map V.str = ss.map fun s => V.str (sV s) := by rw [List.map_map]; rfl
        rw [this]
        exact t.imp (·.1) (·.1)
      · rw [List.map_map, List.length_map, sV_len]
        have : (ss.map ((fun x : Str => x.length) ∘ sV)) = ss.map (·.length) := List.map_congr_left fun x _ => sV_len x
        rw [this]
        exact hz
      · have : Txt.join (sV s) (ss.map sV) = sV (M.joinS s ss) := (SX.join_S s ss).trans (by rw [joinS_eq]; rfl)
        rw [this]
        refine k.now rh q ⟨rfl, ?_⟩
        exact joinS_ok os oks
    | _ => exact False.elim q
  case sindex =>
    obtain ⟨dt, rfl, q8⟩ := arg1_inv q
    obtain ⟨u, rfl, r2⟩ := reps1 r
    cases dt with
    | str t =>
      cases d with
      | str s =>
        obtain ⟨c, e1, hc, q9⟩ := (show ∃ c, t = [c] ∧ c ∈ s ∧ ∀ i : Nat, s[i]? = some c → Qa (.int (i : Nat)) h from q8)
        subst e1
        cases (show v = _ from rd.1)
        cases (show u = _ from r2.1)
        have ne := empty_one (sV s) c
        have hm : decide (c ∈ (sV s).cps.toList) = true := by simpa [sV_cps] using hc
        rw [hm] at ne
        cases eo : Builtin.Str.occurrences (sV s) (sV [c]) 0 (sV s).length 1 with
        | nil =>
          have : Builtin.Str.occurrences (sV s) ⟨#[c]⟩ 0 (sV s).length 1 = [] := eo
          rw [this] at ne
          cases ne
        | cons i rest =>
          obtain ⟨l1, l2⟩ := StrLaws.occ_spec (sV s) (sV [c]) 0 (sV s).length 1 i (by rw [eo]; exact List.mem_cons_self)
          refine ⟨sV s, sV [c], i, rest, rfl, rfl, eo, k.now rh (q9 i ?_) rfl⟩
          have l3 : (s.toArray.extract i (i + 1)) = #[c] := eq_of_beq l2
          have l4 := congrArg Array.toList l3
          simp only [Array.toList_extract] at l4
          have l5 : (s.drop i).take 1 = [c] := by simpa [List.extract_eq_take_drop] using l4
          have l6 := congrArg (fun l : List Nat => l[0]?) l5
          simpa [List.getElem?_take, List.getElem?_drop] using l6
      | _ => exact False.elim q
    | _ => exact False.elim q
  case extend =>
    obtain ⟨e, rfl, q⟩ := arg1_inv q
    obtain ⟨w, rfl, rw'⟩ := reps1 r
    obtain ⟨p, xs, rfl, e1, q⟩ := aLst_inv q
    obtain ⟨p2, ys, rfl, e2, hz, q⟩ := aLst_inv q
    cases (show v = _ from rd); cases (show w = _ from rw')
    obtain ⟨ws, a1, r1⟩ := rh p _ e1
    obtain ⟨zs, a2, r2⟩ := rh p2 _ e2
    have ln := r1.length
    have ln2 := r2.length
    exact ⟨p, p2, ws, zs, rfl, rfl, a1, a2, by omega, lst_put rh e1 q k rfl (r1.append r2)⟩
  case extendT =>
    obtain ⟨e, rfl, q⟩ := arg1_inv q
    obtain ⟨w, rfl, rw'⟩ := reps1 r
    obtain ⟨p, xs, rfl, e1, q⟩ := aLst_inv q
    cases (show v = _ from rd)
    cases e with
    | tup ys =>
      obtain ⟨hz, q⟩ := (show xs.length + ys.length ≤ M.LINE ∧ _ from q)
      obtain ⟨a, zs, e2, t, r2⟩ := rw'
      subst e2
      obtain ⟨ws, a1, r1⟩ := rh p _ e1
      have ln := r1.length
      have ln2 := r2.length
      exact ⟨p, a, ws, zs, rfl, rfl, a1, t.imp .inl id, by omega, lst_put rh e1 q k rfl (r1.append r2)⟩
    | _ => exact False.elim q
  case reverse =>
    obtain ⟨rfl, q⟩ := q
    cases (show vs = _ from r)
    obtain ⟨p, xs, rfl, e1, q⟩ := aLst_inv q
    cases (show v = _ from rd)
    obtain ⟨ws, a1, r1⟩ := rh p _ e1
    exact ⟨p, ws, rfl, rfl, a1, lst_put rh e1 q k rfl r1.rev⟩
  case clear =>
    obtain ⟨rfl, q⟩ := q
    cases (show vs = _ from r)
    obtain ⟨p, xs, rfl, e1, q⟩ := aLst_inv q
    cases (show v = _ from rd)
    obtain ⟨ws, a1, r1⟩ := rh p _ e1
    exact ⟨p, ws, rfl, rfl, a1, lst_put rh e1 q k rfl rfl⟩
  case get1 =>
    obtain ⟨e, rfl, q⟩ := arg1_inv q
    obtain ⟨w, rfl, rw'⟩ := reps1 r
    obtain ⟨p, kd, kvs, rfl, e1, kk, q⟩ := aDct_inv q
    cases (show v = _ from rd)
    obtain ⟨ov, g, z⟩ := dget_ok (rh p _ e1) kk rw'
    refine ⟨p, w, ov, rfl, rfl, g, ?_⟩
    rcases z with ⟨z1, z2⟩ | ⟨x, y, z1, z2, z3⟩
    · rw [z1] at q; rw [z2]; exact k.now rh q rfl
    · rw [z1] at q; rw [z2]; exact k.now rh q z3
  case get2 =>
    obtain ⟨e, f, rfl, q⟩ := arg2_inv q
    obtain ⟨w, u, rfl, rw', ru⟩ := reps2 r
    obtain ⟨p, kd, kvs, rfl, e1, kk, q⟩ := aDct_inv q
    cases (show v = _ from rd)
    obtain ⟨ov, g, z⟩ := dget_ok (rh p _ e1) kk rw'
    refine ⟨p, w, u, ov, rfl, rfl, g, ?_⟩
    rcases z with ⟨z1, z2⟩ | ⟨x, y, z1, z2, z3⟩
    · rw [z1] at q; rw [z2]; exact k.now rh q ru
    · rw [z1] at q; rw [z2]; exact k.now rh q z3

/-! ### o[i] = v -/
def rSetD : TSet := fun o i v H Q => ∃ p H', o = .ref p ∧ DPut H p i v H' ∧ Q H'
theorem PSet.or {X : Cx} {t t' : TSet} (a : PSet X t) (b : PSet X t') : PSet X (fun o i v H Q => t o i v H Q ∨ t' o i v H Q) := by
  intro pins s σ H o i v ov iv u Q I r1 r2 r3 q
  rcases q with q | q
  · exact a pins s σ H o i v ov iv u Q I r1 r2 r3 q
  · exact b pins s σ H o i v ov iv u Q I r1 r2 r3 q
theorem set_dict {X : Cx} (hu : X.A.units + 1 < cLine) : PSet X rSetD := by
  intro pins s σ H o i v ov iv u Q I r1 r2 r3 q
  obtain ⟨p, H', rfl, g, q⟩ := q
  cases r1
  exact d_setItem hu I g r2 r3 fun s4 I4 => ⟨H', I4, q⟩
/-- a dict with nested keys -/
def rSetN (K : Fr) : TSet := fun o i v H Q => ∃ a b kvs d e, o = .ref a ∧ i = .ref b ∧ ObRep K H a (.dcn kvs) ∧ M.nkOk d = true ∧ Rep K H d i ∧ Rep K H e v ∧ kvs.length < M.LINE ∧ ∀ H' : Hp, (∃ u, H' = upd H a u ∧ (∀ vs, u ≠ .tup vs)) → ObRep K H' a (.dcn (M.kvPut kvs d e)) → Q H'
theorem set_nest {X : Cx} (hu : X.A.units + 200 < cLine) : PSet X (rSetN X.F) := by
  intro pins s σ H o i v ov iv u Q I r1 r2 r3 q
  obtain ⟨a, b, kvs, d, e, rfl, rfl, ⟨xs, eo, pr⟩, hd, rd, re, hz, q⟩ := q
  cases r1
  cases (show iv = Value.ref b from r2)
  obtain ⟨z, hy, ys, py, dd⟩ := ent_dict I eo pr
  have hl := line_eq
  have n1 := Paired.length pr
  have n2 := Paired.length py
  refine wpAny_setItem_heap (knd := nestedKind X.prog X.w) (hsz := by omega) (by show X.A.units + 1 + 8 < cLine; omega) (nk_is I hd rd) dd fun h' dd' hs => ?_
  obtain ⟨q1, es, ep, hq, h2, h3, h4, _, h5⟩ := dd'
  have ln := storedX_len (xs := xs) (k := nK d) (a := b) (v := v)
  have en : EntO X.prog X.w a (storedX xs (nK d) b v) h' := ⟨by omega, hy, _, ent_stored py (nK d) b r3, q1, es, ep, hq, h2, h3, h4, h5⟩
  have I2 := d_write (t' := s.toks + (nestedKind X.prog X.w).draws (nK d)) (ob := .ext (EntO X.prog X.w a (storedX xs (nK d) b v))) I (by rw [eo]; exact True.intro) hs ⟨q1, hq⟩ ⟨en, ⟨q1, hq⟩, fun h1 h2 e st => ent_ok e st⟩
  have kp : Kp H (upd H a (.ext (EntO X.prog X.w a (storedX xs (nK d) b v)))) := ⟨fun c vs ec => by rw [upd_ne (ne_of ec eo (fun z => nomatch z))]; exact ec, fun c o u ec => by rw [upd_ne (ne_of ec eo (fun z => nomatch z))]; exact ec⟩
  exact ⟨_, I2, q _ ⟨_, rfl, fun vs z => by cases z⟩ ⟨_, upd_same, Paired.mapP (nk_put pr hd rd re) fun _ _ z => ⟨z.1, z.2.1, z.2.2.1.kp kp, z.2.2.2.kp kp⟩⟩⟩
def rSet (K : Fr) : TSet := fun o i v H Q => rSetL o i v H Q ∨ rSetD o i v H Q ∨ rSetN K o i v H Q
theorem set_all {X : Cx} (hu : X.A.units + 200 < cLine) : PSet X (rSet X.F) := PSet.or set_list (PSet.or (set_dict (by omega)) (set_nest hu))
def KontH (K : Fr) (H : Hp) (h : M.AH) (Qa : M.AH → Prop) (Q : Hp → Prop) : Prop := ∀ h' H', Qa h' → Frm H h H' h' → RH K H' h' → Q H'
theorem set_ok {Qa : M.AH → Prop} {Q : Hp → Prop} {dx dy dv : SD} {x y v : V} (rh : RH K H h) (rx : Rep K H dx x) (ry : Rep K H dy y) (rv : Rep K H dv v) (q : M.opSet dx dy dv h Qa) (k : KontH K H h Qa Q) : rSet K x y v H Q := by
  cases dx with
  | ref p =>
    cases (show x = _ from rx)
    simp only [M.opSet] at q
    cases e : h p with
    | none => rw [e] at q; exact q.elim
    | some o => rw [e] at q; cases o with
      | lst xs =>
        obtain ⟨i, rfl, ⟨h0, h1⟩, q⟩ := anInt_inv q
        cases (show y = _ from ry)
        obtain ⟨ws, a1, r1⟩ := rh p _ e
        have ln := r1.length
        have kp : Kp H (upd H p (.lst (ws.set i.toNat v))) := kp_put rh e
        refine .inl ⟨p, ws, i, i.toNat, rfl, rfl, a1, ?_, k _ _ q (frm_put e) (rh_put rh e ⟨_, upd_same, (Reps.set rv _ r1).kp kp⟩)⟩
        unfold ixN
        rw [if_pos h0, if_pos (by omega)]
      | dct kd kvs =>
        obtain ⟨kk, hz, q⟩ := q
        obtain ⟨H', g, f, rh'⟩ := dput_ok (rh p _ e) kk ry rv hz e rh
        exact .inr (.inl ⟨p, H', rfl, g, k _ _ q f rh'⟩)
      | dcn kvs =>
        obtain ⟨kk, hz, q⟩ := q
        have ry' := ry
        cases dy with
        | tup ds =>
          obtain ⟨b, vs, rfl, _⟩ := ry
          refine .inr (.inr ⟨p, b, kvs, _, dv, rfl, rfl, rh p _ e, kk, ry', rv, hz, fun H' ⟨u, eu, nt⟩ ob => ?_⟩)
          subst eu
          exact k _ _ q (frm_put e) (rh_put rh e ob)
        | _ => simp [M.nkOk] at kk
      | _ => exact q.elim
  | _ => exact False.elim q
end
end Snd
end
section
/-! ZipL: list(zip(a, b)) of two tuples. -/
namespace ZL
open PySem PySem.Calls PyProof.Rows PySem.Spec PySem.W
section
variable {prog : Program} {w : World} {A : Around} {E : Value → Shared → Prop} {s : Shared}
/-- next of a zip of tuples whose last tuple is still held -/
theorem held_item {z TI TO T i1 i2 l1 l2 : Addr} {f : Bool} {oT : Obj} {k1 k2 : Nat} {xs ys : Array Value} {x y : Value} {Q : Value → Shared → Prop} (D : ZipApart z TI TO i1 i2 l1 l2)
    (hz : IsZipHeld s.heap z TI TO T f) (hT : s.heap.get? T = some oT) (tI : IsPair s.heap TI (.ref i1) (.ref i2))
    (g1 : s.heap.IsTupleIter i1 l1 k1) (g2 : s.heap.IsTupleIter i2 l2 k2) (t1 : s.heap.IsTuple l1 xs) (t2 : s.heap.IsTuple l2 ys) (hx : xs[k1]? = some x) (hy : ys[k2]? = some y)
    (hQ : ∀ h', IsZipHeld h' z TI TO T true → h'.IsTupleIter i1 l1 (k1 + 1) → h'.IsTupleIter i2 l2 (k2 + 1) → IsPair h' s.heap.objs.size x y → h'.objs.size = s.heap.objs.size + 1 →
      (∀ c o, c ≠ z → c ≠ i1 → c ≠ i2 → s.heap.get? c = some o → h'.get? c = some o) → Q (.ref s.heap.objs.size) { s with heap := h' }) :
    wpAny (model prog w) A (Builtin.«zip.__next__» ⟨[.ref z], []⟩) (fun fin r => ∃ v, fin = .done (.ret v) ∧ Q v r) E s := by
  show wpAny _ _ (field (.ref z) 2 >>= _) _ _ _; refine wpAny_bind (wpAny_field hz rfl (x := .bool false) rfl ?_)
  show wpAny _ _ (field (.ref z) 3 >>= _) _ _ _; refine wpAny_bind (wpAny_field hz rfl (x := .ref TI) rfl ?_); refine wpAny_bind (wpAny_seqItems tI rfl ?_)
  show wpAny _ _ (Builtin.SmallTypes.ownedTupleIsFree (.ref z) >>= _) _ _ _; refine wpAny_bind (wpAny_tupleHeld_zip hz hT fun m1 z1 s1 => ?_)
  simp only [Bool.false_eq_true, if_false]; refine wpAny_bind ?_; rw [← Array.forIn_toList]; simp only [List.forIn_cons, List.forIn_nil]
  refine wpAny_bind (wpAny_bind (wpAny_holding ?_)); show wpAny _ _ (Builtin.SmallTypes.nextOf (.ref i1) >>= _) _ _ _
  refine wpAny_bind (RZ.nextOf_tuple_item (s := { s with heap := m1 }) (g1.extBut s1.extBut D.i1z) (t1.extBut s1.extBut D.l1z) hx fun m2 g1' s2 => wpAny_pure (wpAny_pure ?_))
  refine wpAny_bind (wpAny_bind (wpAny_holding ?_)); show wpAny _ _ (Builtin.SmallTypes.nextOf (.ref i2) >>= _) _ _ _
  refine wpAny_bind (RZ.nextOf_tuple_item (s := { s with heap := m2 }) ((g2.extBut s1.extBut D.i2z).extBut s2.extBut D.i12.symm) ((t2.extBut s1.extBut D.l2z).extBut s2.extBut D.l2i1) hy fun m3 g2' s3 => wpAny_pure (wpAny_pure (wpAny_pure ?_)))
  show wpAny _ _ (newTuple [x, y] >>= _) _ _ _; refine wpAny_bind (wpAny_newTuple ?_)
  have hsz : m3.objs.size = s.heap.objs.size := by rw [s3.1, s2.1, s1.1]
  have z3 : IsZipHeld m3 z TI TO T true := s3.extBut _ _ D.i2z.symm (s2.extBut _ _ D.i1z.symm z1)
  have kp : ∀ c o, c ≠ z → c ≠ i1 → c ≠ i2 → s.heap.get? c = some o → m3.get? c = some o := fun c o a b d e => s3.extBut _ _ d (s2.extBut _ _ b (s1.extBut _ _ a e))
  have g13 : m3.IsTupleIter i1 l1 (k1 + 1) := g1'.extBut s3.extBut D.i12
  refine wpAny_pure ⟨_, rfl, ?_⟩; show Q (.ref m3.objs.size) _
  have hp : IsPair (m3.push { cls := .type "tuple", data := .seq #[x, y] }) m3.objs.size x y := Heap.get?_push_size _ rfl
  have hn : (m3.push { cls := .type "tuple", data := .seq #[x, y] }).objs.size = m3.objs.size + 1 := Heap.size_push ..
  rw [hsz] at hp hn ⊢
  exact hQ _ (Heap.get?_push_of_some _ z3) (g13.at fun o e => Heap.get?_push_of_some _ e) (g2'.at fun o e => Heap.get?_push_of_some _ e) hp hn fun c o a b d e => Heap.get?_push_of_some _ (kp c o a b d e)
theorem held_end {z TI TO T i1 i2 l1 l2 : Addr} {f : Bool} {oT : Obj} {k1 k2 : Nat} {xs ys : Array Value} {Q : Fin → Shared → Prop} (hh : A.handled = none) (D : ZipApart z TI TO i1 i2 l1 l2)
    (hz : IsZipHeld s.heap z TI TO T f) (hT : s.heap.get? T = some oT) (tI : IsPair s.heap TI (.ref i1) (.ref i2))
    (g1 : s.heap.IsTupleIter i1 l1 k1) (g2 : s.heap.IsTupleIter i2 l2 k2) (t1 : s.heap.IsTuple l1 xs) (t2 : s.heap.IsTuple l2 ys) (hend : xs[k1]? = none ∨ ys[k2]? = none)
    (hE : ∀ h' e, (∀ c o, c ≠ z → c ≠ i1 → c ≠ i2 → s.heap.get? c = some o → h'.get? c = some o) → (∃ o, h'.get? e = some o ∧ o.cls = .type "StopIteration") → E (.ref e) { s with heap := h' }) :
    wpAny (model prog w) A (Builtin.«zip.__next__» ⟨[.ref z], []⟩) Q E s := by
  show wpAny _ _ (field (.ref z) 2 >>= _) _ _ _; refine wpAny_bind (wpAny_field hz rfl (x := .bool false) rfl ?_)
  show wpAny _ _ (field (.ref z) 3 >>= _) _ _ _; refine wpAny_bind (wpAny_field hz rfl (x := .ref TI) rfl ?_); refine wpAny_bind (wpAny_seqItems tI rfl ?_)
  show wpAny _ _ (Builtin.SmallTypes.ownedTupleIsFree (.ref z) >>= _) _ _ _; refine wpAny_bind (wpAny_tupleHeld_zip hz hT fun m1 z1 s1 => ?_)
  simp only [Bool.false_eq_true, if_false]; refine wpAny_bind ?_; rw [← Array.forIn_toList]; simp only [List.forIn_cons, List.forIn_nil]
  refine wpAny_bind (wpAny_bind (wpAny_holding ?_)); show wpAny _ _ (Builtin.SmallTypes.nextOf (.ref i1) >>= _) _ _ _
  cases hx : xs[k1]? with
  | none => exact wpAny_bind (RZ.nextOf_tuple_end (s := { s with heap := m1 }) hh (g1.extBut s1.extBut D.i1z) (t1.extBut s1.extBut D.l1z) hx fun m2 e s2 he => hE m2 e (fun c o a b _ q => s2 _ _ b (s1.extBut _ _ a q)) he)
  | some x =>
    have hy : ys[k2]? = none := hend.resolve_left fun q => by rw [hx] at q; cases q
    refine wpAny_bind (RZ.nextOf_tuple_item (s := { s with heap := m1 }) (g1.extBut s1.extBut D.i1z) (t1.extBut s1.extBut D.l1z) hx fun m2 g1' s2 => wpAny_pure (wpAny_pure ?_))
    refine wpAny_bind (wpAny_bind (wpAny_holding ?_)); show wpAny _ _ (Builtin.SmallTypes.nextOf (.ref i2) >>= _) _ _ _
    exact wpAny_bind (RZ.nextOf_tuple_end (s := { s with heap := m2 }) hh ((g2.extBut s1.extBut D.i2z).extBut s2.extBut D.i12.symm) ((t2.extBut s1.extBut D.l2z).extBut s2.extBut D.l2i1) hy fun m3 e s3 he => hE m3 e (fun c o a b d q => s3 _ _ d (s2.extBut _ _ b (s1.extBut _ _ a q))) he)
/-- how far a zip of two tuples is -/
def Zst (z TI TO i1 i2 l1 l2 S : Addr) (xs ys : Array Value) (i : Nat) (h : Heap) : Prop :=
  IsPair h TI (.ref i1) (.ref i2) ∧ h.IsTupleIter i1 l1 i ∧ h.IsTupleIter i2 l2 i ∧ h.IsTuple l1 xs ∧ h.IsTuple l2 ys ∧
  ((i = 0 ∧ IsZip h z TI TO .none ∧ ∃ a b, IsPair h TO a b) ∨ ∃ T f oT, IsZipHeld h z TI TO T f ∧ h.get? T = some oT ∧ S < T)
def Out (wr : List Addr) (h h' : Heap) : Prop := ∀ b o, b ∉ wr → h.get? b = some o → h'.get? b = some o
theorem z_item {z TI TO i1 i2 l1 l2 S : Addr} {xs ys : Array Value} {i : Nat} {x y : Value} {Q : Option Value → Shared → Prop} (D : ZipApart z TI TO i1 i2 l1 l2) (hzS : z < S) (hi1S : i1 < S) (hi2S : i2 < S) (st : Zst z TI TO i1 i2 l1 l2 S xs ys i s.heap)
    (hS : S < s.heap.objs.size) (hx : xs[i]? = some x) (hy : ys[i]? = some y)
    (hQ : ∀ h', Zst z TI TO i1 i2 l1 l2 S xs ys (i + 1) h' → h'.get? s.heap.objs.size = some { cls := .type "tuple", data := .seq #[x, y] } → s.heap.objs.size < h'.objs.size → Out [z, TO, i1, i2] s.heap h' → Q (some (.ref s.heap.objs.size)) { s with heap := h' }) :
    wpAny (model prog w) A (pyNext (.ref z)) Q E s := by
  obtain ⟨tI, g1, g2, t1, t2, st⟩ := st
  rcases st with ⟨rfl, hz, a, b, tO⟩ | ⟨T, f, oT, hz, hT, hST⟩
  · refine RZ.pyNext_zipT_item D hz tI tO g1 g2 t1 t2 hx hy fun h' a1 a2 a3 a4 a5 a6 hk => hQ h' ⟨hk _ _ D.TIz D.TITO D.TIi1 D.TIi2 tI, a3, a4, t1.at fun o e => hk _ o D.l1z D.l1TO D.l1i1 D.l1i2 e, t2.at fun o e => hk _ o D.l2z D.l2TO D.l2i1 D.l2i2 e, .inr ⟨_, false, _, a1, a5, hS⟩⟩ a5 (by omega) fun c o hc e => ?_
    simp only [List.mem_cons, List.not_mem_nil, or_false, not_or] at hc
    exact hk c o hc.1 hc.2.1 hc.2.2.1 hc.2.2.2 e
  · have hTy : s.TypeIs (.ref z) "zip" := ⟨_, hz, rfl⟩
    unfold pyNext
    refine wpAny_bind (wpAny_attempt (wpAny_callSpecial?_slot (name := Str.ofString "__next__") hTy F.slot_zip_next (wpAny_call_entry F.slot_zip_next hTy F.entry_zip_next (held_item D hz hT tI g1 g2 t1 t2 hx hy fun h' a1 a3 a4 a5 a6 hk => wpAny_pure ?_) (F.args_zip_next_1 _))))
    have nz : T ≠ z ∧ T ≠ i1 ∧ T ≠ i2 := ⟨Nat.ne_of_gt (Nat.lt_trans hzS hST), Nat.ne_of_gt (Nat.lt_trans hi1S hST), Nat.ne_of_gt (Nat.lt_trans hi2S hST)⟩
    refine hQ h' ⟨hk _ _ D.TIz D.TIi1 D.TIi2 tI, a3, a4, t1.at fun o e => hk _ o D.l1z D.l1i1 D.l1i2 e, t2.at fun o e => hk _ o D.l2z D.l2i1 D.l2i2 e, .inr ⟨T, true, oT, a1, hk _ _ nz.1 nz.2.1 nz.2.2 hT, hST⟩⟩ a5 (by omega) fun c o hc e => ?_
    simp only [List.mem_cons, List.not_mem_nil, or_false, not_or] at hc
    exact hk c o hc.1 hc.2.2.1 hc.2.2.2 e
theorem z_done {z TI TO i1 i2 l1 l2 S : Addr} {xs ys : Array Value} {i : Nat} {Q : Option Value → Shared → Prop} (hh : A.handled = none) (D : ZipApart z TI TO i1 i2 l1 l2) (st : Zst z TI TO i1 i2 l1 l2 S xs ys i s.heap) (he : xs[i]? = none ∨ ys[i]? = none)
    (hQ : ∀ h', Out [z, TO, i1, i2] s.heap h' → Q none { s with heap := h' }) : wpAny (model prog w) A (pyNext (.ref z)) Q E s := by
  obtain ⟨tI, g1, g2, t1, t2, st⟩ := st
  rcases st with ⟨rfl, hz, a, b, tO⟩ | ⟨T, f, oT, hz, hT, hST⟩
  · refine RZ.pyNext_zipT_end hh D hz tI tO g1 g2 t1 t2 he fun h' hk => hQ h' fun c o hc e => ?_
    simp only [List.mem_cons, List.not_mem_nil, or_false, not_or] at hc
    exact hk c o hc.1 hc.2.1 hc.2.2.1 hc.2.2.2 e
  · have hTy : s.TypeIs (.ref z) "zip" := ⟨_, hz, rfl⟩
    unfold pyNext
    refine wpAny_bind (wpAny_attempt (wpAny_callSpecial?_slot (name := Str.ofString "__next__") hTy F.slot_zip_next (wpAny_call_entry F.slot_zip_next hTy F.entry_zip_next (held_end hh D hz hT tI g1 g2 t1 t2 he fun h' e hk ho => ?_) (F.args_zip_next_1 _))))
    obtain ⟨o, ho, hc⟩ := ho
    refine wpAny_bind (wpAny_isInstance (T := "StopIteration") (b := true) ⟨o, ho, hc⟩ isSubtype_stop (wpAny_pure (hQ _ fun c o hc e => ?_)))
    simp only [List.mem_cons, List.not_mem_nil, or_false, not_or] at hc
    exact hk c o hc.1 hc.2.2.1 hc.2.2.2 e
theorem Zst.keep {z TI TO i1 i2 l1 l2 S : Addr} {xs ys : Array Value} {i : Nat} {h h' : Heap} (st : Zst z TI TO i1 i2 l1 l2 S xs ys i h) (k : ∀ b o, b ≠ S → h.get? b = some o → h'.get? b = some o) (n : ∀ b, b ∈ [z, TI, TO, i1, i2, l1, l2] → b ≠ S) : Zst z TI TO i1 i2 l1 l2 S xs ys i h' := by
  obtain ⟨tI, g1, g2, t1, t2, st⟩ := st
  refine ⟨k _ _ (n _ (by simp)) tI, g1.at fun o e => k _ o (n _ (by simp)) e, g2.at fun o e => k _ o (n _ (by simp)) e, t1.at fun o e => k _ o (n _ (by simp)) e, t2.at fun o e => k _ o (n _ (by simp)) e, ?_⟩
  rcases st with ⟨e, hz, a, b, tO⟩ | ⟨T, f, oT, hz, hT, hST⟩
  · exact .inl ⟨e, k _ _ (n _ (by simp)) hz, a, b, k _ _ (n _ (by simp)) tO⟩
  · exact .inr ⟨T, f, oT, k _ _ (n _ (by simp)) hz, k _ _ (Nat.ne_of_gt hST) hT, hST⟩
end
/-- the tuples made so far: rising, above S, of the pairs -/
structure Made (xs ys : Array Value) (S : Addr) (h : Heap) (as : List Addr) : Prop where
  up : as.Pairwise (· < ·)
  hi : ∀ a ∈ as, S < a ∧ a < h.objs.size
  at_ : ∀ (j : Nat) (a : Addr), as[j]? = some a → ∃ x y, xs[j]? = some x ∧ ys[j]? = some y ∧ h.get? a = some { cls := .type "tuple", data := .seq #[x, y] }
section
variable {prog : Program} {w : World} {A : Around} {E : Value → Shared → Prop} {s : Shared} {R : Result → Shared → Prop}
theorem z_loop {z TI TO i1 i2 l1 l2 S : Addr} {xs ys : Array Value} (hh : A.handled = none) (D : ZipApart z TI TO i1 i2 l1 l2) (lt : ∀ b, b ∈ [z, TI, TO, i1, i2, l1, l2] → b < S) (hn : min xs.size ys.size ≤ sizeLine) (res : Value) {h₁ : Heap} (hS1 : S < h₁.objs.size)
    (hR : ∀ h' tk acc c as, (∀ b o, b ≠ S → b ∉ [z, TO, i1, i2] → h₁.get? b = some o → h'.get? b = some o) → h'.get? S = some { cls := .type "list", dict := none, data := .seq acc c, slots := #[] } → as.length = min xs.size ys.size → Made xs ys S h' as →
      acc.toList = as.map Value.ref → R (.ok (.ret res)) { s with heap := h', toks := tk }) :
    ∀ (k i : Nat) (h : Heap) (tk c : Nat) (acc : Array Value) (as : List Addr), min xs.size ys.size - i = k → i ≤ min xs.size ys.size → Zst z TI TO i1 i2 l1 l2 S xs ys i h → (∀ b o, b ≠ S → b ∉ [z, TO, i1, i2] → h₁.get? b = some o → h.get? b = some o) →
      h.get? S = some { cls := .type "list", dict := none, data := .seq acc c, slots := #[] } → acc.toList = as.map Value.ref → as.length = i → Made xs ys S h as →
      codeAny (model prog w) A (.builtin "list.extend.loop" ⟨[.ref S, .ref z, res], []⟩) R { s with heap := h, toks := tk } := by
  have nS : ∀ b, b ∈ [z, TI, TO, i1, i2, l1, l2] → b ≠ S := fun b hb => Nat.ne_of_lt (lt b hb)
  have wS : ∀ b, S ≤ b → b ∉ [z, TO, i1, i2] := fun b hb hm => by
    have : b ∈ [z, TI, TO, i1, i2, l1, l2] := by simp at hm ⊢; rcases hm with q | q | q | q <;> simp [q]
    exact absurd (lt b this) (Nat.not_lt.mpr hb)
  intro k
  induction k with
  | zero =>
    intro i h tk c acc as hk hi st hkeep hS hacc hal hG
    have hin : i = min xs.size ys.size := by omega
    refine codeAny_builtin PySem.F.entry_extend_loop ?_; rw [Around.under_plainId PySem.F.plain_extend_loop _]; show wpAny _ A.in1 (pyNext (.ref z) >>= _) _ _ _
    have he : xs[i]? = none ∨ ys[i]? = none := by
      rcases Nat.le_total xs.size ys.size with q | q
      · exact .inl (Array.getElem?_eq_none (by omega))
      · exact .inr (Array.getElem?_eq_none (by omega))
    refine wpAny_bind (z_done (s := { s with heap := h, toks := tk }) (A := A.in1) hh D st he fun h' ho => ?_)
    refine wpAny_pure (hR h' tk acc c as (fun b o b1 b2 e => ho b o b2 (hkeep b o b1 b2 e)) (ho S _ (wS S (Nat.le_refl _)) hS) (by omega) ⟨hG.up, fun a ha => ⟨(hG.hi a ha).1, ?_⟩, fun j a hj => ?_⟩ hacc)
    · obtain ⟨j, hj⟩ := List.mem_iff_getElem?.mp ha
      obtain ⟨x, y, _, _, e3⟩ := hG.at_ j a hj
      exact Heap.lt_size (ho a _ (wS a (Nat.le_of_lt (hG.hi a ha).1)) e3)
    · obtain ⟨x, y, e1, e2, e3⟩ := hG.at_ j a hj
      exact ⟨x, y, e1, e2, ho a _ (wS a (Nat.le_of_lt (hG.hi a (List.mem_of_getElem? hj)).1)) e3⟩
  | succ k ih =>
    intro i h tk c acc as hk hi st hkeep hS hacc hal hG
    have hix : i < xs.size := by omega
    have hiy : i < ys.size := by omega
    have ex := Array.getElem?_eq_getElem hix
    have ey := Array.getElem?_eq_getElem hiy
    have hsz : acc.size = i := by rw [← Array.length_toList, hacc, List.length_map, hal]
    have hSl : S < h.objs.size := Heap.lt_size hS
    refine codeAny_builtin PySem.F.entry_extend_loop ?_; rw [Around.under_plainId PySem.F.plain_extend_loop _]; show wpAny _ A.in1 (pyNext (.ref z) >>= _) _ _ _
    refine wpAny_bind (z_item (s := { s with heap := h, toks := tk }) D (lt z (by simp)) (lt i1 (by simp)) (lt i2 (by simp)) st hSl ex ey fun h' st' ht hz ho => ?_)
    dsimp only at ht hz ho ⊢
    have hS' := ho S _ (wS S (Nat.le_refl _)) hS
    have up : ∀ b o, b ≠ S → h'.get? b = some o → (h'.update S (Obj.mapSeq (·.push (Value.ref h.objs.size)))).get? b = some o := fun b o hb e => (Heap.get?_update_other _ _ (Ne.symm hb)).trans e
    show wpAny _ A.in1 (updateSeq S (·.push (Value.ref h.objs.size)) >>= _) _ _ _
    refine wpAny_bind ?_
    refine wpAny_updateSeq hS' rfl (wpAny_pure ⟨plainId_quiet PySem.F.plain_extend_loop _, ih (i + 1) _ tk _ (acc.push (Value.ref h.objs.size)) (as ++ [h.objs.size]) (by omega) (by omega) (st'.keep up nS)
      (fun b o b1 b2 e => up b o b1 (ho b o b2 (hkeep b o b1 b2 e))) (Heap.get?_update_self _ hS' rfl) (by rw [Array.toList_push, hacc, List.map_append]; rfl) (by rw [List.length_append, hal]; rfl) ⟨?_, ?_, ?_⟩⟩) (by rw [hsz]; omega) (by show (acc.push (Value.ref h.objs.size)).size ≤ sizeLine + 1; rw [Array.size_push, hsz]; omega)
    · refine List.pairwise_append.mpr ⟨hG.up, List.pairwise_singleton _ _, fun a ha b hb => ?_⟩
      rw [List.mem_singleton.mp hb]; exact (hG.hi a ha).2
    · intro a ha
      have sz : (h'.update S (Obj.mapSeq (·.push (Value.ref h.objs.size)))).objs.size = h'.objs.size := (Heap.SameBut.update ..).1
      rw [sz]
      rcases List.mem_append.mp ha with ha | ha
      · exact ⟨(hG.hi a ha).1, Nat.lt_trans (hG.hi a ha).2 hz⟩
      · rw [List.mem_singleton.mp ha]; exact ⟨hSl, hz⟩
    · intro j b hj
      rcases Nat.lt_trichotomy j as.length with q | q | q
      · rw [List.getElem?_append_left q] at hj
        obtain ⟨x, y, e1, e2, e3⟩ := hG.at_ j b hj
        have hb := (hG.hi b (List.mem_of_getElem? hj)).1
        exact ⟨x, y, e1, e2, up b _ (Nat.ne_of_gt hb) (ho b _ (wS b (Nat.le_of_lt hb)) e3)⟩
      · subst q
        have hb : h.objs.size = b := by simpa using hj
        subst hb
        exact ⟨_, _, by rw [hal]; exact ex, by rw [hal]; exact ey, up _ _ (Nat.ne_of_gt hSl) ht⟩
      · rw [List.getElem?_eq_none (by rw [List.length_append, List.length_singleton]; omega)] at hj; cases hj
theorem z_nolen : typeLookup (.type "zip") "__len__" = pure none := by rw [typeLookup_type, builtinLookup_eq_fast]; kernel_rfl
theorem z_nohint : typeLookup (.type "zip") "__length_hint__" = pure none := by rw [typeLookup_type, builtinLookup_eq_fast]; kernel_rfl
theorem z_hint {z : Addr} (hT : s.TypeIs (.ref z) "zip") {Q : Bool → Shared → Prop} (h : Q true s) : wpAny (model prog w) A (Builtin.List.listLengthHint (.ref z)) Q E s := by
  unfold Builtin.List.listLengthHint
  refine wpAny_bind (wpAny_specialOf hT z_nolen ?_)
  show wpAny _ A (specialOf (Value.ref z) (Str.ofString "__length_hint__") >>= _) _ _ _
  refine wpAny_bind (wpAny_specialOf hT z_nohint ?_)
  exact wpAny_pure h
theorem z_extend {z TI TO i1 i2 l1 l2 S : Addr} {xs ys : Array Value} (hh : A.handled = none) (D : ZipApart z TI TO i1 i2 l1 l2) (lt : ∀ b, b ∈ [z, TI, TO, i1, i2, l1, l2] → b < S) (hn : min xs.size ys.size ≤ sizeLine) (res : Value) (c₀ : Nat) (hS : s.heap.get? S = some { cls := .type "list", data := .seq #[] c₀ })
    (st : Zst z TI TO i1 i2 l1 l2 S xs ys 0 s.heap) (hz : ∃ f0, IsZip s.heap z TI TO f0)
    (hR : ∀ h' tk acc c as, (∀ b o, b ≠ S → b ∉ [z, TO, i1, i2] → s.heap.get? b = some o → h'.get? b = some o) → h'.get? S = some { cls := .type "list", dict := none, data := .seq acc c, slots := #[] } → as.length = min xs.size ys.size → Made xs ys S h' as →
      acc.toList = as.map Value.ref → R (.ok (.ret res)) { s with heap := h', toks := tk }) :
    wpAny (model prog w) A.in1 (Builtin.List.listExtendWith (.ref S) (.ref z) res)
      (fun fin s' => match fin with | .done f => R (.ok f) s' | .again c' => c'.quiet = true ∧ codeAny (model prog w) A c' R s') (fun e s' => R (.error e) s') s := by
  obtain ⟨f0, hz⟩ := hz
  have hT : s.TypeIs (.ref z) "zip" := ⟨_, hz, rfl⟩
  have nS : ∀ b, b ∈ [z, TI, TO, i1, i2, l1, l2] → b ≠ S := fun b hb => Nat.ne_of_lt (lt b hb)
  unfold Builtin.List.listExtendWith
  refine wpAny_bind (wpAny_typeOf hT ?_)
  have h1 : Builtin.List.listSameRef (.ref S) (.ref z) = false := by simp [Builtin.List.listSameRef, (nS z (by simp)).symm]
  have h2 : (Value.type "zip" == Value.type "list") = false := by decide
  have h3 : (Value.type "zip" == Value.type "tuple") = false := by decide
  simp only [h1, h2, h3, Bool.or_false, Bool.false_eq_true, if_false]
  refine wpAny_bind (wpAny_pyIter_zip hz ?_)
  refine wpAny_bind (wpAny_holding (z_hint hT ?_))
  simp only [Bool.true_or, if_true]
  refine wpAny_bind (wpAny_rule ?_)
  refine wpAny_bind ?_
  show wpAny _ _ (updateSeq S (·.push .none) >>= fun _ => updateSeq S (·.pop)) _ _ _
  refine wpAny_bind (wpAny_updateSeq hS rfl ?_)
  have hS₂ := Heap.get?_update_self (Obj.mapSeq (·.push Value.none)) hS rfl
  refine wpAny_updateSeq (hz := by seq_fits) hS₂ rfl ?_
  have hS₃ := Heap.get?_update_self (Obj.mapSeq (·.pop)) hS₂ rfl
  have oth : ∀ b o, b ≠ S → s.heap.get? b = some o → ((s.heap.update S (Obj.mapSeq (·.push Value.none))).update S (Obj.mapSeq (·.pop))).get? b = some o := fun b o hb e => (Heap.get?_update_other _ _ (Ne.symm hb)).trans ((Heap.get?_update_other _ _ (Ne.symm hb)).trans e)
  refine wpAny_pure ⟨plainId_quiet PySem.F.plain_extend_loop _, ?_⟩
  exact z_loop (s := s) (h₁ := s.heap) hh D lt hn res (Heap.lt_size hS) hR _ 0 _ _ _ _ [] rfl (Nat.zero_le _) (st.keep oth nS) (fun b o hb _ e => oth b o hb e) hS₃ rfl rfl ⟨List.Pairwise.nil, (fun a ha => nomatch ha), fun j a hj => by simp at hj⟩
theorem z_init {z TI TO i1 i2 l1 l2 S : Addr} {xs ys : Array Value} (hh : A.handled = none) (D : ZipApart z TI TO i1 i2 l1 l2) (lt : ∀ b, b ∈ [z, TI, TO, i1, i2, l1, l2] → b < S) (hn : min xs.size ys.size ≤ sizeLine) (hS : s.heap.get? S = some { cls := .type "list", data := .seq #[] })
    (st : Zst z TI TO i1 i2 l1 l2 S xs ys 0 s.heap) (hz : ∃ f0, IsZip s.heap z TI TO f0)
    (hR : ∀ h' tk acc c as, (∀ b o, b ≠ S → b ∉ [z, TO, i1, i2] → s.heap.get? b = some o → h'.get? b = some o) → h'.get? S = some { cls := .type "list", dict := none, data := .seq acc c, slots := #[] } → as.length = min xs.size ys.size → Made xs ys S h' as →
      acc.toList = as.map Value.ref → R (.ok (.ret .none)) { s with heap := h', toks := tk }) :
    wpAny (model prog w) A.in1 (Builtin.«list.__init__» ⟨[.ref S, .ref z], []⟩)
      (fun fin s' => match fin with | .done f => R (.ok f) s' | .again c' => c'.quiet = true ∧ codeAny (model prog w) A c' R s') (fun e s' => R (.error e) s') s := by
  have nS : ∀ b, b ∈ [z, TI, TO, i1, i2, l1, l2] → b ≠ S := fun b hb => Nat.ne_of_lt (lt b hb)
  show wpAny _ _ (do let old ← Builtin.List.listItems (.ref S); Builtin.List.listUpdate (.ref S) (fun _ => #[]); letGo old.toList.reverse; Builtin.List.listExtendWith (.ref S) (.ref z) .none) _ _ s
  refine wpAny_bind ?_; unfold Builtin.List.listItems; refine wpAny_bind (wpAny_seqItems hS rfl (wpAny_pure ?_))
  show wpAny _ _ (updateSeq S (fun _ => #[]) >>= fun _ => letGo (#[] : Array Value).toList.reverse >>= fun _ => Builtin.List.listExtendWith (.ref S) (.ref z) .none) _ _ s
  refine wpAny_bind (wpAny_updateSeq hS rfl ?_)
  have hS₂ := Heap.get?_update_self (Obj.mapSeq (fun _ => (#[] : Array Value))) hS rfl
  have oth : ∀ b o, b ≠ S → s.heap.get? b = some o → (s.heap.update S (Obj.mapSeq (fun _ => (#[] : Array Value)))).get? b = some o := fun b o hb e => (Heap.get?_update_other _ _ (Ne.symm hb)).trans e
  refine wpAny_bind (wpAny_letGo ?_)
  refine z_extend hh D lt hn .none _ hS₂ (st.keep oth nS) (hz.imp fun f0 e => oth z _ (nS z (by simp)) e) fun h' tk acc c as hk hS' hl hG hacc => ?_
  exact hR h' tk acc c as (fun b o b1 b2 e => hk b o b1 b2 (oth b o b1 e)) hS' hl hG hacc
theorem z_call {z TI TO i1 i2 l1 l2 : Addr} {xs ys : Array Value} {Q : Value → Shared → Prop} (hh : A.handled = none) (D : ZipApart z TI TO i1 i2 l1 l2) (lt : ∀ b, b ∈ [z, TI, TO, i1, i2, l1, l2] → b < s.heap.objs.size) (hn : min xs.size ys.size ≤ sizeLine)
    (hz : IsZip s.heap z TI TO .none) (tI : IsPair s.heap TI (.ref i1) (.ref i2)) (tO : IsPair s.heap TO .none .none) (g1 : s.heap.IsTupleIter i1 l1 0) (g2 : s.heap.IsTupleIter i2 l2 0) (t1 : s.heap.IsTuple l1 xs) (t2 : s.heap.IsTuple l2 ys)
    (hQ : ∀ h' tk acc c as, (∀ b o, b ∉ [z, TO, i1, i2] → s.heap.get? b = some o → h'.get? b = some o) → h'.get? s.heap.objs.size = some { cls := .type "list", dict := none, data := .seq acc c, slots := #[] } → as.length = min xs.size ys.size → Made xs ys s.heap.objs.size h' as →
      acc.toList = as.map Value.ref → Q (.ref s.heap.objs.size) { s with heap := h', toks := tk }) :
    wpAny (model prog w) A (call (.type "list") [.ref z]) Q E s := by
  refine callType_codes (Q₁ := fun obj r => obj = .ref s.heap.objs.size ∧ r = { s with heap := s.heap.push { cls := .type "list", data := .seq #[] } }) PySem.F.called_list (PySem.F.typeCall_list_1 _) PySem.F.entry_list_init (code_list_new _ ⟨rfl, rfl⟩) fun obj r hr => ?_
  obtain ⟨rfl, rfl⟩ := hr
  have hS : (s.heap.push { cls := .type "list", data := .seq #[] }).get? s.heap.objs.size = some { cls := .type "list", data := .seq #[] } := Heap.get?_push_size _ rfl
  have up : ∀ b o, s.heap.get? b = some o → (s.heap.push { cls := .type "list", data := .seq #[] }).get? b = some o := fun b o e => Heap.get?_push_of_some _ e
  refine ⟨⟨_, hS, rfl⟩, PySem.F.args_list_init_2 _ _, z_init (A := A.in1) hh D lt hn hS ⟨up _ _ tI, g1.at fun o e => up _ o e, g2.at fun o e => up _ o e, t1.at fun o e => up _ o e, t2.at fun o e => up _ o e, .inl ⟨rfl, up _ _ hz, _, _, up _ _ tO⟩⟩ ⟨_, up _ _ hz⟩ fun h' tk acc c as hk hS' hl hG hacc => ?_⟩
  exact ⟨rfl, hQ h' tk acc c as (fun b o hb e => hk b o (Nat.ne_of_lt (Heap.lt_size e)) hb (up b o e)) hS' hl hG hacc⟩
end
open L2
/-- the pairs, laid at their addresses -/
def putP : Hp → List Addr → List (V × V) → Hp
  | H, a :: as, p :: ps => putP (upd H a (.tup [p.1, p.2])) as ps
  | H, _, _ => H
theorem putP_off {b : Addr} : ∀ (as : List Addr) (ps : List (V × V)) (H : Hp), b ∉ as → putP H as ps b = H b
  | [], _, _, _ => rfl
  | _ :: _, [], _, _ => rfl
  | a :: as, p :: ps, H, h => by
    unfold putP
    rw [putP_off as ps _ (fun z => h (.tail _ z)), upd_ne (fun z => h (by rw [z]; exact .head _))]
theorem putP_at : ∀ (as : List Addr) (ps : List (V × V)) (H : Hp), as.length = ps.length → as.Nodup → Paired (fun (t : Addr) (p : V × V) => putP H as ps t = some (.tup [p.1, p.2])) as ps
  | [], [], _, _, _ => .nil
  | [], _ :: _, _, h, _ => nomatch h
  | _ :: _, [], _, h, _ => nomatch h
  | a :: as, p :: ps, H, h, hn => by
    obtain ⟨n1, n2⟩ := List.nodup_cons.mp hn
    have ih := putP_at as ps (upd H a (.tup [p.1, p.2])) (Nat.succ.inj h) n2
    exact .cons (by unfold putP; rw [putP_off as ps _ n1, upd_same]) ih
def rZipL (K : PySem.W.Frag) : V → V → Hp → VK → Prop := fun x y H Q => ∃ (a b : Addr) (xs ys : List V), x = .ref a ∧ y = .ref b ∧ SqT K H a xs ∧ SqT K H b ys ∧
  ∀ (H' : Hp) (p : Addr) (ts : List Addr), (∀ c o, H c = some o → H' c = some o) → H p = none → (∀ t ∈ ts, H t = none) → p ∉ ts → H' p = some (.lst (ts.map V.ref)) → Paired (fun (t : Addr) (q : V × V) => H' t = some (.tup [q.1, q.2])) ts (xs.zip ys) →
    (∀ c, H' c ≠ none → c = p ∨ c ∈ ts ∨ H c ≠ none) → Q (.ref p) H'
section
variable {X : Cx}
theorem vals_at {xs : List V} {us : List Value} (r : Vals xs us) : ∀ {j : Nat} {u : Value}, us[j]? = some u → ∃ x, xs[j]? = some x ∧ RelV x u := by
  unfold Vals at r
  induction r with
  | nil => intro j u e; simp at e
  | @cons a b as bs h t ih =>
    intro j u e
    cases j with
    | zero => simp at e; subst e; exact ⟨_, rfl, h⟩
    | succ j => exact ih (by simpa using e)
theorem pairs_laid {pins : List (Addr × Obj)} {σ : L2.St} {H : Hp} {s : Shared} {h' : Heap} {tk : Nat} {xs ys : List V} {us ws : List Value} {acc : Array Value} {c : Nat} {S : Addr} {as : List Addr} (I : Inv X pins σ H s) (hz : min xs.length ys.length ≤ sizeLine) (rx : Vals xs us) (ry : Vals ys ws)
    (hS0 : s.heap.objs.size ≤ S) (hk : ∀ b o, s.heap.get? b = some o → h'.get? b = some o) (hS : h'.get? S = some { cls := .type "list", dict := none, data := .seq acc c, slots := #[] }) (hl : as.length = min us.toArray.size ws.toArray.size) (hG : Made us.toArray ws.toArray S h' as) (hacc : acc.toList = as.map Value.ref) :
    ∃ H' : Hp, (∀ b o, H b = some o → H' b = some o) ∧ H S = none ∧ (∀ t ∈ as, H t = none) ∧ S ∉ as ∧ H' S = some (.lst (as.map V.ref)) ∧ Paired (fun (t : Addr) (q : V × V) => H' t = some (.tup [q.1, q.2])) as (xs.zip ys) ∧
      (∀ b, H' b ≠ none → b = S ∨ b ∈ as ∨ H b ≠ none) ∧ Inv X pins σ H' { s with heap := h', toks := tk } := by
  have lx := rx.length
  have ly := ry.length
  have lz : (xs.zip ys).length = as.length := by rw [List.length_zip, hl, List.size_toArray, List.size_toArray, lx, ly]
  have hSn : S ∉ as := fun z => Nat.lt_irrefl _ (hG.hi _ z).1
  have nd : as.Nodup := List.Pairwise.imp (fun {a b} (h : a < b) => Nat.ne_of_lt h) hG.up
  have new : ∀ t ∈ as, H t = none := fun t ht => I.hok.fresh (Nat.le_trans hS0 (Nat.le_of_lt (hG.hi t ht).1))
  have newS : H S = none := I.hok.fresh hS0
  have atP := putP_at as (xs.zip ys) (upd H S (.lst (as.map V.ref))) lz.symm nd
  have off : ∀ b, b ∉ as → b ≠ S → putP (upd H S (.lst (as.map V.ref))) as (xs.zip ys) b = H b := fun b h1 h2 => by rw [putP_off as _ _ h1, upd_ne h2]
  have low : ∀ b o, s.heap.get? b = some o → b ∉ as ∧ b ≠ S := fun b o e => ⟨fun z => absurd (Heap.lt_size e) (Nat.not_lt.mpr (Nat.le_trans hS0 (Nat.le_of_lt (hG.hi b z).1))), Nat.ne_of_lt (Nat.lt_of_lt_of_le (Heap.lt_size e) hS0)⟩
  have kp : ∀ b u, H b = some u → (putP (upd H S (.lst (as.map V.ref))) as (xs.zip ys)) b = some u := fun b u e => by
    rw [off b (fun z => by rw [new b z] at e; cases e) (fun z => by rw [z, newS] at e; cases e)]; exact e
  have eS : putP (upd H S (.lst (as.map V.ref))) as (xs.zip ys) S = some (.lst (as.map V.ref)) := by rw [putP_off as _ _ hSn, upd_same]
  refine ⟨putP (upd H S (.lst (as.map V.ref))) as (xs.zip ys), kp, newS, new, hSn, eS, atP, fun b hb => ?_, ?_⟩
  · by_cases h1 : b ∈ as
    · exact .inr (.inl h1)
    · by_cases h2 : b = S
      · exact .inl h2
      · rw [off b h1 h2] at hb; exact .inr (.inr hb)
  refine I.call' (ch := []) rfl ⟨fun b o q _ _ _ => hk b o q, fun b o q _ _ _ => ⟨o.slots, hk b o q⟩, fun b o q n _ => ?_, fun b o q _ => ⟨o, hk b o q⟩, fun b xs q => kp b _ q, fun b o u q => kp b _ q, fun b ps q => ⟨#[], by rw [kp b _ q]; simp⟩⟩ (fun b u q => ?_) I.bare fun b z => by simp at z
  · obtain ⟨z1, z2⟩ := low b o q
    rw [off b z1 z2]; exact n
  · by_cases hb : b ∈ as
    · obtain ⟨j, pk, e1, e2, e3⟩ := LiI.paired_ix atP hb
      rw [e3] at q; cases q
      obtain ⟨x, y, f1, f2, f3⟩ := hG.at_ j b e1
      obtain ⟨x', g1, g2⟩ := vals_at rx (by simpa using f1)
      obtain ⟨y', g3, g4⟩ := vals_at ry (by simpa using f2)
      have : pk = (x', y') := by
        rw [show (xs.zip ys)[j]? = some (x', y') from List.getElem?_zip_eq_some.mpr ⟨g1, g3⟩] at e2
        exact (Option.some.inj e2).symm
      subst this
      exact ⟨by show 2 ≤ sizeLine; decide, [x, y], .cons g2 (.cons g4 .nil), ⟨_, f3, rfl, _, rfl⟩⟩
    · by_cases hb2 : b = S
      · subst hb2
        rw [eS] at q; cases q
        refine ⟨by rw [List.length_map, hl, List.size_toArray, List.size_toArray, ← lx, ← ly]; exact hz, acc.toList, c, by rw [hacc]; exact LiI.vals_refs as, ?_⟩
        rw [Array.toArray_toList]; exact hS
      · rw [off b hb hb2] at q
        exact (I.hok b u q).stay (fun d v _ y => hk d v y) (fun d y => kp d _ y) fun d xs y => kp d _ y
theorem lt7 {n m a b c : Nat} (hm : m = n + 5) (la : a < n) (lb : b < n) (h : c = n + 4 ∨ c = n + 2 ∨ c = n + 3 ∨ c = n ∨ c = n + 1 ∨ c = a ∨ c = b) : c < m := by omega
theorem lt4 {n c : Nat} (h : c < n) (z : c = n + 4 ∨ c = n + 3 ∨ c = n ∨ c = n + 1) : False := by omega
def tZipL (K : PySem.W.Frag) (ta : TA) : TE := fun σ H Q => ta σ H fun vs H1 => ∃ x y, vs = [x, y] ∧ rZipL K x y H1 Q
theorem pe_lzip {e e2 : Expr} {ta : TA} {p p2 cpos pos : Pos} (hc : X.calm = true) (hg : Gl X "list") (hm : X.mg "list" = none) (hgz : Gl X "zip") (hmz : X.mg "zip" = none) (ha : PA X [e, e2] ta)
    (hs : starEach [e, e2] X.env = (false, eval e X.env) :: starEach [e2] X.env) (hpl : (backTo cpos (starEach [e2] X.env)).any (·.1) = false)
    (hso : starEach [.Call (.Name "zip" p2) [e, e2] [] cpos] X.env = (false, eval (.Call (.Name "zip" p2) [e, e2] [] cpos) X.env) :: starEach [] X.env := by rfl) :
    PE X (.Call (.Name "list" p) [.Call (.Name "zip" p2) [e, e2] [] cpos] [] pos) (tZipL X.K ta) := by
  refine ⟨fun pins s σ H Q I hq => ?_⟩
  refine wpAny_Call_Name_kw (ld_blt I hg hm (by decide +kernel : bootBuiltins "list" = some (.type "list")) ?_)
  refine PyProof.Rows.callWith_type1 ?_ hso rfl
  rw [hso]
  show wpAny _ _ (spliced ((false, eval (.Call (.Name "zip" p2) [e, e2] [] cpos) X.env) :: backTo pos (starEach [] X.env))) _ _ s
  refine Calls.spliced_cons ?_
  refine Call_ (ld_blt I hgz hmz PyProof.Rows.boot_zip (PyProof.Rows.callWith_type1 (thn (ha.run cpos pins s σ H _ I hq) fun us s1 ⟨vs, H1, I1, r1, q1⟩ => ?_) hs hpl))
  obtain ⟨x, y, rfl, a, b, xs, ys, rfl, rfl, hqx, hqy, q⟩ := q1
  cases r1 with
  | cons r rr =>
    cases rr with
    | cons r' rr =>
      cases rr
      cases r
      cases r'
      obtain ⟨us, ru, pu, hzu⟩ := I1.tuple hqx
      obtain ⟨ws, rw', pw, hzw⟩ := I1.tuple hqy
      obtain ⟨o1, ho1, _⟩ := id pu
      obtain ⟨o2, ho2, _⟩ := id pw
      have la := Heap.lt_size ho1
      have lb := Heap.lt_size ho2
      refine RZ.call_zipT (show s1.heap.IsTuple a us.toArray from pu) (show s1.heap.IsTuple b ws.toArray from pw) fun h5 hz tI tO g1 g2 hsz hk => ?_
      refine Calls.spliced_nil ?_
      have D := PySem.W.ktu_apart s1.heap.objs.size a b la lb
      have lt : ∀ c, c ∈ [s1.heap.objs.size + 4, s1.heap.objs.size + 2, s1.heap.objs.size + 3, s1.heap.objs.size, s1.heap.objs.size + 1, a, b] → c < h5.objs.size := by
        intro c hc
        simp only [List.mem_cons, List.not_mem_nil, or_false] at hc
        exact lt7 hsz la lb hc
      have hn : min us.toArray.size ws.toArray.size ≤ sizeLine := Nat.le_trans (Nat.min_le_left _ _) (by rw [List.size_toArray, ← ru.length]; exact hzu)
      refine z_call (s := { s1 with heap := h5 }) (I1.ok.hd hc) D lt hn hz tI tO g1 g2 (Heap.IsTuple.at pu fun o e => hk a o e) (Heap.IsTuple.at pw fun o e => hk b o e) fun h' tk acc c as hk' hS hl hG hacc => ?_
      have out : ∀ c o, s1.heap.get? c = some o → h'.get? c = some o := fun c o e => hk' c o (fun z => by
        have := Heap.lt_size e
        simp only [List.mem_cons, List.not_mem_nil, or_false] at z
        exact lt4 this z) (hk c o e)
      obtain ⟨H', k1, k2, k3, k4, k5, k6, k7, J⟩ := pairs_laid (tk := tk) I1 (by rw [ru.length, rw'.length]; simpa using hn) ru rw' (by show s1.heap.objs.size ≤ h5.objs.size; rw [hsz]; exact Nat.le_add_right _ _) out hS hl hG hacc
      exact ⟨.ref _, H', J, rfl, q H' _ as k1 k2 k3 k4 k5 k6 k7⟩
end
end ZL
end
section
/-! RevL: list(reversed(a list)). -/
namespace RL
open PySem PySem.Calls PyProof.Rows PySem.Spec PySem.W RT
section
variable {prog : Program} {w : World} {A : Around} {E : Value → Shared → Prop} {s : Shared}
theorem extend_rev {it l S : Addr} {items : Array Value} {c₀ : Nat} {R : Result → Shared → Prop} (res : Value) (hh : A.handled = none) (hit : s.heap.IsRevIter it l ((items.size : Int) - 1)) (hl : s.heap.IsList l items) (hne : l ≠ it) (hSi : S ≠ it) (hSl : S ≠ l) (hn : items.size ≤ sizeLine)
    (hS : s.heap.get? S = some { cls := .type "list", data := .seq #[] c₀ })
    (hR : ∀ (h' : Heap) (tk : Nat) (acc : Array Value) (c : Nat), (∀ b o, b ≠ it → b ≠ S → s.heap.get? b = some o → h'.get? b = some o) → h'.get? S = some { cls := .type "list", dict := none, data := .seq acc c, slots := #[] } → ItemsOf (fun i v => items[items.size - 1 - i]? = some v) acc items.size → R (.ok (.ret res)) { s with heap := h', toks := tk }) :
    wpAny (model prog w) A.in1 (Builtin.List.listExtendWith (.ref S) (.ref it) res)
      (fun fin s' => match fin with | .done f => R (.ok f) s' | .again c' => c'.quiet = true ∧ codeAny (model prog w) A c' R s') (fun e s' => R (.error e) s') s := by
  have W := (Walks.listRev (prog := prog) (w := w) (A := A.in1) hh it l hne items).toS
  have hSf : S ∉ [it, l] := by simp only [List.mem_cons, List.not_mem_nil, or_false, not_or]; exact ⟨hSi, hSl⟩
  have hT : s.TypeIs (.ref it) "list_reverseiterator" := hit.typeIs
  have h1 : Builtin.List.listSameRef (.ref S) (.ref it) = false := by simp [Builtin.List.listSameRef, hSi]
  unfold Builtin.List.listExtendWith
  refine wpAny_bind (wpAny_typeOf hT ?_)
  rw [if_neg (by rw [h1]; decide)]
  refine wpAny_bind (wpAny_pyIter_revIter hit ?_)
  refine wpAny_bind (wpAny_holding ?_)
  unfold Builtin.List.listLengthHint
  refine wpAny_bind (wpAny_specialOf hT nolen_lri ?_)
  show wpAny _ A.in1 (specialOf (Value.ref it) (Str.ofString "__length_hint__") >>= _) _ _ _
  refine wpAny_bind (wpAny_specialOf hT hint_lri ?_)
  generalize hid : ("list_reverseiterator.__length_hint__" : String) = id0
  wp_delta
  rw [show splitId id0 = some ("list_reverseiterator", "__length_hint__") from by subst hid; decide +kernel]
  subst hid
  refine wpAny_bind (wpAny_isInstance (b := true) hT (by rw [isSubtype_type]; kernel_rfl) ?_)
  refine wpAny_pure ?_
  rw [if_neg (by decide)]
  have e0 : ((items.size : Nat) : Int) - 1 - ((0 : Nat) : Int) = (items.size : Int) - 1 := by omega
  refine wpAny_pure ⟨plainId_quiet PySem.F.plain_extend_loop _, codeAny_extend_loopS W hn _ hSf _ items.size 0 _ _ _ rfl (Nat.zero_le _) ⟨Nat.zero_le _, by rw [e0]; exact hit, hl⟩ hS (ItemsOf.nil _) fun s' acc' c' hm hS' hacc => ?_⟩
  rw [Moved.eq_with hm]
  refine hR s'.heap s'.toks acc' c' (fun b o b1 b2 e => hm.heap b o (fun hmem => ?_) e) hS' hacc
  rcases List.mem_cons.mp hmem with e' | hmem
  · exact b2 e'
  · exact b1 (List.mem_singleton.mp hmem)
theorem init_rev {it l S : Addr} {items : Array Value} {R : Result → Shared → Prop} (hh : A.handled = none) (hit : s.heap.IsRevIter it l ((items.size : Int) - 1)) (hl : s.heap.IsList l items) (hne : l ≠ it) (hSi : S ≠ it) (hSl : S ≠ l) (hn : items.size ≤ sizeLine)
    (hS : s.heap.get? S = some { cls := .type "list", data := .seq #[] })
    (hR : ∀ (h' : Heap) (tk : Nat) (acc : Array Value) (c : Nat), (∀ b o, b ≠ it → b ≠ S → s.heap.get? b = some o → h'.get? b = some o) → h'.get? S = some { cls := .type "list", dict := none, data := .seq acc c, slots := #[] } → ItemsOf (fun i v => items[items.size - 1 - i]? = some v) acc items.size → R (.ok (.ret .none)) { s with heap := h', toks := tk }) :
    wpAny (model prog w) A.in1 (Builtin.«list.__init__» ⟨[.ref S, .ref it], []⟩)
      (fun fin s' => match fin with | .done f => R (.ok f) s' | .again c' => c'.quiet = true ∧ codeAny (model prog w) A c' R s') (fun e s' => R (.error e) s') s := by
  show wpAny _ _ (do let old ← Builtin.List.listItems (.ref S); Builtin.List.listUpdate (.ref S) (fun _ => #[]); letGo old.toList.reverse; Builtin.List.listExtendWith (.ref S) (.ref it) .none) _ _ s
  refine wpAny_bind ?_
  unfold Builtin.List.listItems
  refine wpAny_bind (wpAny_seqItems hS rfl (wpAny_pure ?_))
  show wpAny _ _ (updateSeq S (fun _ => #[]) >>= fun _ => letGo (#[] : Array Value).toList.reverse >>= fun _ => Builtin.List.listExtendWith (.ref S) (.ref it) .none) _ _ s
  refine wpAny_bind (wpAny_updateSeq hS rfl ?_)
  have hS₂ := Heap.get?_update_self (Obj.mapSeq (fun _ => (#[] : Array Value))) hS rfl
  have oth : ∀ b o, b ≠ S → s.heap.get? b = some o → (s.heap.update S (Obj.mapSeq (fun _ => (#[] : Array Value)))).get? b = some o := fun b o hb e => (Heap.get?_update_other _ _ (Ne.symm hb)).trans e
  refine wpAny_bind (wpAny_letGo ?_)
  obtain ⟨ol, hol, c1⟩ := id hl
  refine extend_rev .none hh (hit.at fun o e => oth it o (Ne.symm hSi) e) ⟨ol, oth l _ (Ne.symm hSl) hol, c1⟩ hne hSi hSl hn hS₂ fun h' tk acc c hk hS' hacc => ?_
  exact hR h' tk acc c (fun b o b1 b2 e => hk b o b1 b2 (oth b o b2 e)) hS' hacc
theorem call_rev {it l : Addr} {items : Array Value} {Q : Value → Shared → Prop} (hh : A.handled = none) (hit : s.heap.IsRevIter it l ((items.size : Int) - 1)) (hl : s.heap.IsList l items) (hne : l ≠ it) (hn : items.size ≤ sizeLine)
    (hQ : ∀ (h' : Heap) (tk : Nat) (acc : Array Value) (c : Nat), (∀ b o, b ≠ it → s.heap.get? b = some o → h'.get? b = some o) → h'.get? s.heap.objs.size = some { cls := .type "list", dict := none, data := .seq acc c, slots := #[] } → ItemsOf (fun i v => items[items.size - 1 - i]? = some v) acc items.size →
      Q (.ref s.heap.objs.size) { s with heap := h', toks := tk }) :
    wpAny (model prog w) A (call (.type "list") [.ref it]) Q E s := by
  obtain ⟨oi, hoi, _⟩ := id hit
  obtain ⟨ol, hol, c1⟩ := id hl
  have hSi : s.heap.objs.size ≠ it := Nat.ne_of_gt (Heap.lt_size hoi)
  have hSl : s.heap.objs.size ≠ l := Nat.ne_of_gt (Heap.lt_size hol)
  refine callType_codes (Q₁ := fun obj r => obj = .ref s.heap.objs.size ∧ r = { s with heap := s.heap.push { cls := .type "list", data := .seq #[] } }) PySem.F.called_list (PySem.F.typeCall_list_1 _) PySem.F.entry_list_init (code_list_new _ ⟨rfl, rfl⟩) fun obj r hr => ?_
  obtain ⟨rfl, rfl⟩ := hr
  have hS : (s.heap.push { cls := .type "list", data := .seq #[] }).get? s.heap.objs.size = some { cls := .type "list", data := .seq #[] } := Heap.get?_push_size _ rfl
  have up : ∀ b o, s.heap.get? b = some o → (s.heap.push { cls := .type "list", data := .seq #[] }).get? b = some o := fun b o e => Heap.get?_push_of_some _ e
  refine ⟨⟨_, hS, rfl⟩, PySem.F.args_list_init_2 _ _, init_rev (A := A.in1) hh (hit.at fun o e => up _ o e) (hl.push _) hne hSi hSl hn hS fun h' tk acc c hk hS' hacc => ?_⟩
  exact ⟨rfl, hQ h' tk acc c (fun b o hb e => hk b o hb (Nat.ne_of_lt (Heap.lt_size e)) (up b o e)) hS' hacc⟩
end
open L2
section
variable {X : L2.Cx}
/-- list(reversed(x)), x a list: a new list -/
def tListRev (K : PySem.W.Frag) (te : TE) : TE := fun σ H Q => te σ H fun v H1 => ∃ (a : Addr) (xs : List V), v = .ref a ∧ SqL K H1 a xs ∧ ∀ q, H1 q = none → Q (.ref q) (upd H1 q (.lst xs.reverse))
theorem pe_listRev {e : Expr} {te : TE} {p p2 pos pos2 : Pos} (hc : X.calm = true) (hg : Gl X "list") (hm : X.mg "list" = none) (hg2 : Gl X "reversed") (hm2 : X.mg "reversed" = none) (he : PE X e te)
    (hs : starEach [e] X.env = (false, eval e X.env) :: starEach [] X.env := by rfl)
    (hs2 : starEach [.Call (.Name "reversed" p2) [e] [] pos2] X.env = (false, eval (.Call (.Name "reversed" p2) [e] [] pos2) X.env) :: starEach [] X.env := by rfl) :
    PE X (.Call (.Name "list" p) [.Call (.Name "reversed" p2) [e] [] pos2] [] pos) (tListRev X.K te) := by
  refine ⟨fun pins s σ H Q I h => ?_⟩
  refine Call_ (ld_blt I hg hm (by decide +kernel : bootBuiltins "list" = some (.type "list")) (PyProof.Rows.callWith_type1 (args_cons (Call_ (ld_blt I hg2 hm2 PyProof.Rows.boot_reversed (PyProof.Rows.callWith_type1 (args_cons (thn (he.run pins s σ H _ I h) fun u s1 ⟨v, H1, I1, r1, q1⟩ => args_nil ?_) hs) hs rfl))) hs2) hs2 rfl))
  obtain ⟨a, xs, ev, hq, q⟩ := q1
  subst ev
  obtain rfl : u = Value.ref a := r1
  obtain ⟨its, rv, p', hz⟩ := I1.list hq
  refine call_reversed_list p'.isList (args_nil ?_)
  have I2 : Inv X pins σ H1 { s1 with heap := s1.heap.push (revObj a ((its.toArray.size : Int) - 1)) } := I1.kept (t' := s1.toks) fun b o e => Heap.get?_push_of_some _ e
  obtain ⟨f0, f1, f2, f3, f4, f5⟩ := I1.fpOk (H' := H1) (b := s1.heap.objs.size) (Nat.le_refl _) (I1.hok.fresh (Nat.le_refl _))
  obtain ⟨ol, hol, c1⟩ := id p'.isList
  have hne : a ≠ s1.heap.objs.size := Nat.ne_of_lt (Heap.lt_size hol)
  have hn : its.toArray.size ≤ sizeLine := by rw [List.size_toArray, ← rv.length]; exact hz
  refine call_rev (s := { s1 with heap := s1.heap.push (revObj a ((its.toArray.size : Int) - 1)) }) (I1.ok.hd hc) ⟨_, Heap.get?_push_size _ rfl, rfl, rfl⟩ (p'.isList.push _) hne hn fun h' tk acc c hk hS hi => ?_
  have out : ∀ b o, s1.heap.get? b = some o → h'.get? b = some o := fun b o e => hk b o (Nat.ne_of_lt (Heap.lt_size e)) (Heap.get?_push_of_some _ e)
  have hsz : s1.heap.objs.size ≤ (s1.heap.push (revObj a ((its.toArray.size : Int) - 1))).objs.size := by simp [Heap.push]
  refine ⟨.ref _, upd H1 _ (.lst xs.reverse), I1.laid (t' := tk) out hsz (show ObjOk X.prog X.w _ _ _ (.lst xs.reverse) from ⟨by rw [List.length_reverse]; exact hz, acc.toList, c, vals_rev rv hi, ?_⟩), rfl, q _ (I1.hok.fresh hsz)⟩
  rw [Array.toArray_toList]
  exact hS
end
end RL
end
section
/-! RevT: for c in reversed(a text). -/
namespace RX
open PySem PySem.Spec PyProof.Rows L2 RT
theorem norev_str : typeLookup (.type "str") "__reversed__" = pure none := by rw [typeLookup_type, builtinLookup_eq_fast]; kernel_rfl
theorem get_str : typeLookup (.type "str") "__getitem__" = pure (some (.builtin "str.__getitem__")) := by rw [typeLookup_type, builtinLookup_eq_fast]; kernel_rfl
theorem sub_str_dict : isSubtype (.type "str") (.type "dict") = pure false := by rw [isSubtype_type]; kernel_rfl
/-- reversed(x), the next place i -/
def IsRx (h : Heap) (a : Addr) (x : Str) (t : Tok) (i : Int) : Prop := ∃ o, h.get? a = some o ∧ o.cls = .type "reversed" ∧ o.data = .fields #[.str x t, rawInt i]
theorem IsRx.at {h h' : Heap} {a : Addr} {x : Str} {t : Tok} {i : Int} (r : IsRx h a x t i) (e : ∀ o, h.get? a = some o → h'.get? a = some o) : IsRx h' a x t i := let ⟨o, ho, z⟩ := r; ⟨o, e _ ho, z⟩
def rxObj (x : Str) (t : Tok) (i : Int) : Obj := { cls := .type "reversed", data := .fields #[.str x t, rawInt i] }
section
variable {prog : Program} {w : World} {A : Around} {E : Value → Shared → Prop} {s : Shared}
theorem IsRx.typeIs {a : Addr} {x : Str} {t : Tok} {i : Int} (r : IsRx s.heap a x t i) : s.TypeIs (.ref a) "reversed" := let ⟨o, ho, hc, _⟩ := r; ⟨o, ho, hc⟩
theorem code_rx {x : Str} {t : Tok} {Q₁ : Value → Shared → Prop} (hfit : ¬ (x.length : Int) ≥ 2 ^ 63)
    (h : Q₁ (.ref s.heap.objs.size) { s with heap := s.heap.push (rxObj x t ((x.length : Int) - 1)), toks := s.toks + 1 + 1 }) :
    codeAny (model prog w) A (.call (.builtin "reversed.__new__") ⟨[.type "reversed", .str x t], []⟩) (wants Q₁ E) s := by
  have hT : s.TypeIs (.str x t) "str" := typeIs_str s x t
  refine codeAny_of_tree ?_
  show wpAny _ A.in1 (do checkBuiltinCall "reversed.__new__" ⟨[.type "reversed", .str x t], []⟩; again (.builtin "reversed.__new__" ⟨[.type "reversed", .str x t], []⟩)) _ _ s
  refine wpAny_bind (wpAny_of_eq (F.newCall_reversed_1 _) (wpAny_pure ⟨plainId_quiet F.plain_reversed_new _, codeAny_builtin F.entry_reversed_new ?_⟩))
  rw [Around.under_plainId F.plain_reversed_new _]
  unfold Builtin.«reversed.__new__»
  refine wpAny_bind (wpAny_of_eq (newClass_reversed _) ?_)
  try dsimp only
  refine wpAny_bind (wpAny_of_eq (a := ()) (by first | rfl | kernel_rfl) ?_)
  try dsimp only
  refine wpAny_bind (wpAny_of_eq (a := ()) (by first | rfl | kernel_rfl) ?_)
  try dsimp only
  refine wpAny_bind (wpAny_specialOf hT norev_str ?_)
  try dsimp only
  refine wpAny_bind ?_
  wp_delta
  refine wpAny_bind (wpAny_isInstance (T := "str") (U := "dict") (b := false) hT sub_str_dict ?_)
  try dsimp only
  try rw [if_neg Bool.false_ne_true]
  try dsimp only
  refine wpAny_bind (wpAny_specialOf hT get_str ?_)
  try dsimp only
  try rw [if_pos (by decide +kernel)]
  refine wpAny_pure ?_
  try dsimp only
  try rw [if_neg (by decide)]
  try dsimp only
  refine wpAny_bind (PySem.P.len_str hfit ?_)
  refine wpAny_bind (wpAny_of_eq (a := some ((x.length : Nat) : Int)) rfl ?_)
  try dsimp only
  refine wpAny_bind ?_
  show wpAny _ _ (newObj (.type "reversed") (.fields #[.str x t, rawInt ((x.length : Int) - 1)])) _ _ _
  refine wpAny_newObj_type ?_
  exact wpAny_pure h
theorem call_rx {x : Str} {t : Tok} {Q : Value → Shared → Prop} (hfit : ¬ (x.length : Int) ≥ 2 ^ 63)
    (h : Q (.ref s.heap.objs.size) { s with heap := s.heap.push (rxObj x t ((x.length : Int) - 1)), toks := s.toks + 1 + 1 }) : wpAny (model prog w) A (call (.type "reversed") [.str x t]) Q E s := by
  refine callType_codes (Q₁ := fun obj s₁ => s₁.TypeIs obj "reversed" ∧ Q obj s₁) called_rt (F.typeCall_reversed_1 _) F.entry_object_init
    (code_rx (A := A.in1) hfit ⟨⟨_, Heap.get?_push_size _ rfl, rfl⟩, h⟩) fun obj s₁ h₁ => ?_
  exact ⟨h₁.1, F.args_object_init_2 obj _, object_init_meets called_rt.init.lookup called_rt.made (by decide) prog w A.in1 _ s₁ ⟨h₁.1, rfl, h₁.2⟩⟩
theorem next_rx {it : Addr} {x : Str} {t : Tok} {i c : Nat} {Q : Option Value → Shared → Prop} (hit : IsRx s.heap it x t (i : Int)) (hc : x.cps[i]? = some c) (hsz : x.length < 2 ^ 62)
    (hQ : ∀ h', IsRx h' it x t ((i : Int) - 1) → Heap.SameBut it s.heap h' → Q (some (.str ⟨#[c]⟩ (s.toks + 1))) { s with heap := h', toks := s.toks + 1 + 1 }) : wpAny (model prog w) A (pyNext (.ref it)) Q E s := by
  obtain ⟨o, ho, hcl, hd⟩ := id hit
  have hi : i < x.length := (Array.getElem?_eq_some_iff.mp hc).1
  have hT : s.TypeIs (.str x t) "str" := typeIs_str s x t
  unfold pyNext
  refine wpAny_bind (wpAny_attempt (wpAny_callSpecial?_slot (name := Str.ofString "__next__") hit.typeIs slot_rt_next
    (wpAny_call_entry slot_rt_next hit.typeIs entry_rt_next ?_ (args_rt_next _))))
  unfold Builtin.«reversed.__next__»
  refine wpAny_bind (wpAny_of_eq (a := (Value.ref it, [])) rfl ?_)
  try dsimp only
  refine wpAny_bind (wpAny_field ho hd (x := .str x t) rfl ?_)
  try dsimp only
  refine wpAny_bind (wpAny_field ho hd (x := rawInt (i : Int)) rfl ?_)
  show wpAny _ _ (if (i : Int) < 0 then _ else _) _ _ s
  rw [if_neg (by omega)]
  try dsimp only
  refine wpAny_bind (wpAny_specialOf hT get_str ?_)
  try dsimp only
  try rw [if_neg (by decide)]
  try dsimp only
  refine wpAny_bind (wpAny_mkInt ?_)
  refine wpAny_bind (wpAny_attempt ?_)
  have fin : seqIndex? (i : Int) x.length = some i := seqIndex_of (by omega) (by omega)
  refine PySem.P.getItem_str (s := { s with toks := s.toks + 1 }) (c := c) (by simp; omega) (by rw [fin]; exact hc) ?_
  try dsimp only
  refine wpAny_bind (wpAny_field (s := { s with toks := s.toks + 1 + 1 }) ho hd (x := rawInt (i : Int)) rfl ?_)
  try dsimp only
  refine wpAny_bind (wpAny_setField (s := { s with toks := s.toks + 1 + 1 }) ho hd (by simp) ?_)
  first
  | refine wpAny_pure ⟨_, rfl, wpAny_pure (hQ _ ?_ (Heap.SameBut.update ..))⟩
  | refine wpAny_bind (wpAny_pure (wpAny_pure ⟨_, rfl, wpAny_pure (hQ _ ?_ (Heap.SameBut.update ..))⟩))
  exact ⟨_, Heap.get?_update_self _ ho (Obj.isFreed_of_fields (Obj.data_mapFields hd _)), (Obj.cls_mapFields ..).trans hcl, by
    rw [Obj.data_mapFields hd]; simp⟩
theorem next_rx_end {it : Addr} {x : Str} {t : Tok} {Q : Option Value → Shared → Prop} (hh : A.handled = none) (hit : IsRx s.heap it x t (-1))
    (hQ : ∀ h', Heap.ExtBut it s.heap h' → Q none { s with heap := h' }) : wpAny (model prog w) A (pyNext (.ref it)) Q E s := by
  obtain ⟨o, ho, hc, hd⟩ := id hit
  unfold pyNext
  refine wpAny_bind (wpAny_attempt (wpAny_callSpecial?_slot (name := Str.ofString "__next__") hit.typeIs slot_rt_next
    (wpAny_call_entry slot_rt_next hit.typeIs entry_rt_next ?_ (args_rt_next _))))
  unfold Builtin.«reversed.__next__»
  refine wpAny_bind (wpAny_of_eq (a := (Value.ref it, [])) rfl ?_)
  try dsimp only
  refine wpAny_bind (wpAny_field ho hd (x := .str x t) rfl ?_)
  try dsimp only
  refine wpAny_bind (wpAny_field ho hd (x := rawInt (-1)) rfl ?_)
  show wpAny _ _ (if (-1 : Int) < 0 then _ else _) _ _ s
  rw [if_pos (by decide)]
  try dsimp only
  refine wpAny_bind (wpAny_rule ?_)
  refine wpAny_bind ?_
  wp_delta
  refine wpAny_bind (wpAny_setField ho hd (by simp) ?_)
  have ho2 := Heap.get?_update_self (Obj.mapFields (·.setIfInBounds 1 (rawInt (-1)))) ho (Obj.isFreed_of_fields (Obj.data_mapFields hd _))
  refine wpAny_setField (s := { s with heap := s.heap.update it (Obj.mapFields (·.setIfInBounds 1 (rawInt (-1)))) }) ho2 (Obj.data_mapFields hd _) (by simp) ?_
  try dsimp only
  first
  | show wpAny _ _ (newExc (.type "StopIteration") [] >>= _) _ _ _
  | (refine wpAny_bind ?_; show wpAny _ _ (newExc (.type "StopIteration") [] >>= _) _ _ _)
  | (refine wpAny_bind ?_; wp_delta; show wpAny _ _ (newExc (.type "StopIteration") [] >>= _) _ _ _)
  refine wpAny_bind ?_
  simp only [newExc, newTuple]
  refine wpAny_bind (wpAny_newObj_type ?_ (by size_fits))
  refine wpAny_bind (m := firstArgMember _ _) (wpAny_of_eq (a := Value.none) (by first | rfl | (simp only [firstArgMember]; rfl)) ?_)
  refine wpAny_newObj_type ?_ (by size_fits)
  simp only [raiseNew]
  refine wpAny_bind (wpAny_handled ?_)
  first | rw [show A.in1.handled = none from hh] | rw [hh]
  refine wpAny_bind (wpAny_pure (wpAny_throw ?_))
  refine wpAny_bind (wpAny_isInstance (T := "StopIteration") (b := true) ⟨_, Heap.get?_push_size _ rfl, rfl⟩ isSubtype_stop ?_)
  refine wpAny_pure (hQ _ ?_)
  refine ((?_ : Heap.ExtBut it s.heap _).push _).push _
  exact fun b ob hb e => (Heap.get?_update_other _ _ (Ne.symm hb)).trans ((Heap.get?_update_other _ _ (Ne.symm hb)).trans e)
theorem iter_rx {it : Addr} {x : Str} {t : Tok} {i : Int} {Q : Value → Shared → Prop} (hit : IsRx s.heap it x t i) (h : Q (.ref it) s) : wpAny (model prog w) A (pyIter (.ref it)) Q E s := by
  refine wpAny_pyIter_slot hit.typeIs slot_rt_iter (wpAny_call_entry slot_rt_iter hit.typeIs entry_rt_iter ?_ (args_rt_iter _))
  show wpAny _ _ (ret (.ref it)) _ _ s
  exact wpAny_pure ⟨_, rfl, "reversed", _, hit.typeIs, slot_rt_next.lookup, h⟩
end
/-- the text's signs from its end -/
def Itx (x : Str) : It := ⟨fun i _ => i < x.cps.size, fun i H v H' => H' = H ∧ ∃ c, x.cps[x.cps.size - 1 - i]? = some c ∧ v = .str ⟨#[c]⟩, fun i _ => x.cps.size ≤ i⟩
theorem turn_rx {P : Program} {w : World} {K : PySem.W.Frag} {tg : Expr} (it : Addr) (x : Str) (t : Tok) (hsz : x.length < 2 ^ 62) : Turn P w K tg (Itx x) [it] it (fun i h => i ≤ x.cps.size ∧ IsRx h it x t ((x.cps.size : Int) - 1 - (i : Nat))) where
  mem := by simp
  obj := fun i h st b hb => by
    have e : b = it := by simpa using hb
    subst e
    obtain ⟨_, o, e, c, d⟩ := st
    exact ⟨o, e, fun v z => by rw [d] at z; cases z⟩
  keep := fun i h h' st k => ⟨st.1, st.2.at fun o e => k it (by simp) o e⟩
  item := by
    intro X hP hw hK hc i pins s σ H E I hf st hg
    subst hP hw hK
    have hg : i < x.cps.size := hg
    obtain ⟨f0, f1, f2, f3, f4, f5⟩ := hf it (by simp)
    obtain ⟨hin, hit⟩ := st
    have e1 : (x.cps.size : Int) - 1 - ((i : Nat) : Int) = ((x.cps.size - 1 - i : Nat) : Int) := by omega
    rw [e1] at hit
    obtain ⟨c, hcx⟩ : ∃ c, x.cps[x.cps.size - 1 - i]? = some c := ⟨_, Array.getElem?_eq_getElem (by omega)⟩
    refine next_rx hit hcx hsz fun h' st' sb => ?_
    have e2 : ((x.cps.size - 1 - i : Nat) : Int) - 1 = (x.cps.size : Int) - 1 - ((i + 1 : Nat) : Int) := by omega
    rw [e2] at st'
    have I1 : Inv X pins σ H { s with heap := h', toks := s.toks + 1 + 1 } := I.turned (t' := s.toks + 1 + 1) (fun b o hb e => (sb.2 b hb).trans e) f0 f1 f3 f4 f5
    obtain ⟨o, e, cc, d⟩ := id st'
    exact ⟨_, rfl, go_of (s := { s with heap := h', toks := s.toks + 1 + 1 }) e cc d (by decide) ⟨.str ⟨#[c]⟩, H, I1, ⟨_, rfl⟩, ⟨rfl, c, hcx, rfl⟩, ⟨hg, st'⟩, fun b hb => (hf b hb).1⟩⟩
  done := by
    intro X hP hw hK hc i pins s σ H E I hf st hg
    subst hP hw hK
    obtain ⟨f0, f1, f2, f3, f4, f5⟩ := hf it (by simp)
    obtain ⟨hin, hit⟩ := st
    have hge : x.cps.size ≤ i := hg
    have e1 : (x.cps.size : Int) - 1 - ((i : Nat) : Int) = -1 := by omega
    rw [e1] at hit
    exact next_rx_end (I.ok.hd hc) hit fun h' eb => ⟨rfl, I.turned (t' := s.toks) (fun b o hb e => eb b o hb e) f0 f1 f3 f4 f5⟩
  self := fun A i s Q E st h => iter_rx st.2 h
/-- reversed(x), x a list, a tuple or a text -/
def iRevX (K : PySem.W.Frag) (te : TE) : TI := fun σ H R => te σ H fun v H1 => (∃ (a : Addr) (xs : List V), v = .ref a ∧ ((SqL K H1 a xs ∧ R (Itv K a xs.length) H1) ∨ (SqT K H1 a xs ∧ R (ItvT K a xs.length) H1))) ∨ ∃ x : Str, v = .str x ∧ x.length < 2 ^ 62 ∧ R (Itx x) H1
section
variable {X : Cx} {tg : Expr}
theorem pi_revX {e : Expr} {te : TE} {p pos : Pos} (hg : Gl X "reversed") (hm : X.mg "reversed" = none) (he : PE X e te) (hs : starEach [e] X.env = (false, eval e X.env) :: starEach [] X.env := by rfl) : PI X tg (.Call (.Name "reversed" p) [e] [] pos) (iRevX X.K te) := by
  refine ⟨fun pins s σ H R I h => ?_⟩
  refine Call_ (ld_blt I hg hm PyProof.Rows.boot_reversed (PyProof.Rows.callWith_type1 (args_cons (thn (he.run pins s σ H _ I h) fun u s1 ⟨v, H1, I1, r1, q1⟩ => args_nil ?_) hs) hs rfl))
  rcases q1 with ⟨a, xs, ev, q⟩ | ⟨x, ev, hx, q⟩
  · subst ev
    obtain rfl : u = Value.ref a := r1
    rcases q with ⟨hq, q⟩ | ⟨hq, q⟩
    · obtain ⟨its, rv, p', hz⟩ := I1.list hq
      have hl := rv.length
      have e1 : ((its.toArray.size : Nat) : Int) - 1 = (xs.length : Int) - 1 - ((0 : Nat) : Int) := by simp only [List.size_toArray]; omega
      refine call_reversed_list p'.isList (wpAny_pyIter_revIter (l := a) (i := ((its.toArray.size : Nat) : Int) - 1) ⟨_, Heap.get?_push_size _ rfl, rfl, rfl⟩ ?_)
      refine pi_one (tk := s1.toks) I1 _ (turn_rev a _ xs.length) ⟨Nat.zero_le _, ?_⟩ q
      rw [← e1]
      exact ⟨_, Heap.get?_push_size _ rfl, rfl, rfl⟩
    · obtain ⟨its, rv, p', hz⟩ := I1.tuple hq
      have hl := rv.length
      have hn := line63
      have e1 : ((its.toArray.size : Nat) : Int) - 1 = (xs.length : Int) - 1 - ((0 : Nat) : Int) := by simp only [List.size_toArray]; omega
      refine call_reversed_tup p' (fun A E Q k => len_tuple p' (by simp only [List.size_toArray] <;> omega) k) (iter_rt (t := a) (i := ((its.toArray.size : Nat) : Int) - 1) ⟨_, Heap.get?_push_size _ rfl, rfl, rfl⟩ ?_)
      refine pi_one (tk := s1.toks + 1 + 1) I1 _ (turn_rt a _ xs.length) ⟨Nat.zero_le _, ?_⟩ q
      rw [← e1]
      exact ⟨_, Heap.get?_push_size _ rfl, rfl, rfl⟩
  · subst ev
    obtain ⟨t, rfl⟩ := r1
    have e1 : (x.length : Int) - 1 = (x.cps.size : Int) - 1 - ((0 : Nat) : Int) := by show (x.cps.size : Int) - 1 = _; omega
    refine call_rx (by omega) (iter_rx (x := x) (t := t) (i := (x.length : Int) - 1) ⟨_, Heap.get?_push_size _ rfl, rfl, rfl⟩ ?_)
    refine pi_one (tk := s1.toks + 1 + 1) I1 _ (turn_rx _ x t hx) ⟨Nat.zero_le _, ?_⟩ q
    rw [← e1]
    exact ⟨_, Heap.get?_push_size _ rfl, rfl, rfl⟩
end
end RX
end
section
/-! UnpL: a, b = a list. -/
namespace Snd
open PySem L2 PySem.Spec PyProof.Rows
open Sem (wp)
section
variable {prog : Program} {w : World} {A : Around} {E : Value → Shared → Prop} {s : Shared}
theorem draw_list {it t : Addr} {items : Array Value} (hne : t ≠ it) : ∀ (n i : Nat) (s : Shared) (Q : List Value → Shared → Prop), s.heap.IsListIter it t i → s.heap.IsList t items → i + n ≤ items.size →
    (∀ h' : Heap, h'.IsListIter it t (i + n) → Heap.SameBut it s.heap h' → Q ((items.toList.drop i).take n) { s with heap := h' }) → wpAny (model prog w) A (draw (.ref it) n) Q E s
  | 0, i, s, Q, hit, _, _, hQ => by
    show wpAny _ _ (pure []) Q E s
    exact wpAny_pure (by simpa using hQ s.heap hit (Heap.SameBut.refl ..))
  | n + 1, i, s, Q, hit, ht, hle, hQ => by
    have hlt : i < items.size := by omega
    show wpAny _ _ (pyNext (.ref it) >>= _) Q E s
    refine wpAny_bind (wpAny_pyNext_list_item hit ht (x := items[i]) (by simp [hlt]) fun h₁ hit₁ hs₁ => ?_)
    refine wpAny_bind (wpAny_holding (draw_list hne n (i + 1) _ _ hit₁ (ht.extBut hs₁.extBut hne) (by omega) fun h₂ hit₂ hs₂ => wpAny_pure ?_))
    have hd : items.toList.drop i = items[i] :: items.toList.drop (i + 1) := by simp [List.drop_eq_getElem_cons, hlt]
    have := hQ h₂ (by rw [show i + (n + 1) = i + 1 + n by omega]; exact hit₂) (hs₁.trans hs₂)
    rw [hd, List.take_succ_cons] at this
    exact this
theorem unpackItems_list {t : Addr} {items : Array Value} {Q : List Value → Shared → Prop} (hh : A.handled = none) (ht : s.heap.IsList t items)
    (hQ : ∀ h', Heap.ExtBut s.heap.objs.size s.heap h' → Q items.toList { s with heap := h' }) : wpAny (model prog w) A (unpackItems (.ref t) items.size none) Q E s := by
  have hlt : t ≠ s.heap.objs.size := by obtain ⟨o, ho, _⟩ := ht; exact Nat.ne_of_lt (Heap.lt_size ho)
  unfold unpackItems
  refine wpAny_bind ?_
  · unfold notIterableAtAll
    refine wpAny_bind (wpAny_specialOf ht.typeIs slot_list_iter.lookup ?_)
    refine wpAny_pure ?_
    simp only [Bool.false_eq_true, if_false]
    refine wpAny_bind (wpAny_holding (wpAny_pyIter_list ht ?_))
    refine wpAny_bind (wpAny_holding (draw_list hlt items.size 0 _ _ ⟨_, Heap.get?_push_size _ rfl, rfl, rfl⟩ (ht.push _) (by omega) fun h₁ hit₁ hs₁ => ?_))
    have hall : List.take items.size (List.drop 0 items.toList) = items.toList := by
      rw [List.drop_zero]; exact List.take_of_length_le (by simp)
    rw [hall]
    rw [if_neg (by simp)]
    have ht₁ : h₁.IsList t items := (ht.push _).extBut hs₁.extBut hlt
    refine wpAny_bind (wpAny_holding (wpAny_pyNext_list_end hh hit₁ ht₁ (by simp) fun h₂ he₂ => ?_))
    simp only [Option.isSome_none, Bool.false_eq_true, if_false]
    refine wpAny_pure (hQ h₂ fun b o hb e => he₂ b o hb (hs₁.extBut b o hb (Heap.get?_push_of_some _ e)))
theorem assign_Tuple_list {env : Env} {elts : List Expr} {x1} {pos : Pos} {t : Addr} {items : Array Value} {Q : Unit → Shared → Prop} (hh : A.handled = none) (ht : s.heap.IsList t items)
    (hn : (assignEach elts env).length = items.size) (hstar : (assignEach elts env).findIdx? (·.1) = none)
    (h : ∀ h', Heap.ExtBut s.heap.objs.size s.heap h' → wpAny (model prog w) A (assignInOrder ((assignEach elts env).map (·.2)) items.toList) Q E { s with heap := h' }) :
    wpAny (model prog w) A (assign (.Tuple elts x1 pos) env (.ref t)) Q E s := by
  rw [assign_Tuple]
  refine wpAny_bind (wpAny_standAt ?_)
  unfold unpack
  rw [hn, hstar]
  exact wpAny_bind (wpAny_holding (unpackItems_list hh ht h))
end
/-- (a, b, ..) = a list of that length -/
def gLstT (K : PySem.W.Frag) (n : Nat) (t : TGs) : TG := fun v σ H Q => ∃ a xs, v = .ref a ∧ SqL K H a xs ∧ xs.length = n ∧ t xs σ H Q
theorem pg_lst {X : L2.Cx} {pos : Pos} {es : List Expr} {k : Nat} {t : TGs} {n : Nat} (hc : X.calm = true) (h : PGs X es t)
    (hn : (assignEach es X.env).length = n) (hst : (assignEach es X.env).findIdx? (·.1) = none) : PG X (.Tuple es k pos) (gLstT X.K n t) := by
  refine ⟨fun pins s σ H v u Q I r hw => ?_⟩
  obtain ⟨a, xs, e1, hq, hl, hw⟩ := hw
  subst e1
  cases r
  obtain ⟨its, rv, ht, hz⟩ := I.list hq
  refine assign_Tuple_list (I.ok.hd hc) ht.isList (by simp [hn, ← hl, rv.length]) hst fun h' hx => ?_
  have I1 : Inv X pins σ H { s with heap := h' } := I.kept (t' := s.toks) fun b o e => hx b o (Nat.ne_of_lt (Heap.lt_size e)) e
  exact h.run pins _ σ H xs _ Q I1 (by simpa using rv) hw
end Snd
end
section
/-! Sound5: expressions: the readings of the IR over those of the model. -/
namespace Snd
open PySem L2 PySem.Spec PyProof.Rows
abbrev WE := M.St → M.AH → M.VQ → Prop
abbrev WA := M.St → M.AH → (List SD → M.AH → Prop) → Prop
abbrev WO := M.St → M.AH → (Option Int → M.AH → Prop) → Prop
/-- a reading of the IR as one of the model -/
def lift (K : Fr) (w : WE) : TE := fun σ H Q => ∃ σa h Qa, RS K H σ σa ∧ RH K H h ∧ w σa h Qa ∧ Kont K H h Qa Q
def liftT (K : Fr) (w : WE) : TT := fun σ H Q => ∃ σa h Qa, RS K H σ σa ∧ RH K H h ∧ w σa h Qa ∧ ∀ d h', Qa d h' → ∃ b, d = .bl b ∧ ∀ H', Frm H h H' h' → RH K H' h' → Q b H'
def KontA (K : Fr) (H : Hp) (h : M.AH) (Qa : List SD → M.AH → Prop) (Q : List V → Hp → Prop) : Prop := ∀ ds h' vs H', Qa ds h' → Frm H h H' h' → Reps K H' ds vs → RH K H' h' → Q vs H'
def liftA (K : Fr) (w : WA) : TA := fun σ H Q => ∃ σa h Qa, RS K H σ σa ∧ RH K H h ∧ w σa h Qa ∧ KontA K H h Qa Q
def liftO (K : Fr) (w : WO) : TO := fun σ H Q => ∃ σa h Qa, RS K H σ σa ∧ RH K H h ∧ w σa h Qa ∧ ∀ o h' H', Qa o h' → Frm H h H' h' → RH K H' h' → Q o H'

theorem _root_.L2.PE.imp {X : L2.Cx} {e : Expr} {t t' : TE} (a : PE X e t) (i : ∀ σ H Q, t' σ H Q → t σ H Q) : PE X e t' := ⟨fun pins s σ H Q I h => a.run pins s σ H Q I (i σ H Q h)⟩
theorem _root_.L2.PT.imp {X : L2.Cx} {e : Expr} {t t' : TT} (a : PT X e t) (i : ∀ σ H Q, t' σ H Q → t σ H Q) : PT X e t' := ⟨fun pins s σ H Q I h => a.run pins s σ H Q I (i σ H Q h)⟩
theorem _root_.L2.PW.imp {X : L2.Cx} {e : Expr} {t t' : TT} (a : PW X e t) (i : ∀ σ H Q, t' σ H Q → t σ H Q) : PW X e t' := ⟨fun wh pins s σ H Q I h => a.run wh pins s σ H Q I (i σ H Q h)⟩
theorem _root_.L2.PA.imp {X : L2.Cx} {e : List Expr} {t t' : TA} (a : PA X e t) (i : ∀ σ H Q, t' σ H Q → t σ H Q) : PA X e t' := ⟨fun pos pins s σ H Q I h => a.run pos pins s σ H Q I (i σ H Q h)⟩
theorem _root_.L2.PO.imp {X : L2.Cx} {e : Option Expr} {t t' : TO} (a : PO X e t) (i : ∀ σ H Q, t' σ H Q → t σ H Q) : PO X e t' := ⟨fun pins s σ H Q I h => a.run pins s σ H Q I (i σ H Q h)⟩

section
variable {X : L2.Cx} {K : Fr} {σ : L2.St} {σa : M.St} {H H1 : Hp} {h h1 : M.AH} {w wa wb wc : WE} {Qa : M.VQ} {a b c e : Expr} {pos : Pos}
theorem lift_go {R : VK} (rs : RS K H σ σa) (rh : RH K H h) (q : w σa h Qa) (k : ∀ d h' v H', Qa d h' → Frm H h H' h' → Rep K H' d v → RH K H' h' → RS K H' σ σa → R v H') : lift K w σ H R :=
  ⟨σa, h, Qa, rs, rh, q, fun d h' v H' q f r rh' => k d h' v H' q f r rh' (rs.kp (f.kp rh))⟩
theorem liftA_go {w : WA} {Qa : List SD → M.AH → Prop} {R : List V → Hp → Prop} (rs : RS K H σ σa) (rh : RH K H h) (q : w σa h Qa) (k : ∀ d h' v H', Qa d h' → Frm H h H' h' → Reps K H' d v → RH K H' h' → RS K H' σ σa → R v H') : liftA K w σ H R :=
  ⟨σa, h, Qa, rs, rh, q, fun d h' v H' q f r rh' => k d h' v H' q f r rh' (rs.kp (f.kp rh))⟩

/-! ### names and constants -/
theorem s_var {i : Nat} {x : Str} (hN : X.N[i]? = some x) (hv : Vis X.env.scope x) (hd : (x == ("__debug__" : Str)) = false) (hcd : (x == ("__classdict__" : Str)) = false) :
    PE X (.Name x pos) (lift X.F fun σ h Q => match σ[i]? with | some (some d) => Q d h | _ => False) := by
  refine (pe_var hN hv hd hcd).imp fun σ H Q ⟨σa, h, Qa, rs, rh, q, k⟩ => ?_
  dsimp only at q
  cases e : σa[i]? with
  | none => rw [e] at q; exact q.elim
  | some o => cases o with
    | none => rw [e] at q; exact q.elim
    | some d =>
      rw [e] at q
      obtain ⟨v, e2, r⟩ := rs.2 i d e
      exact ⟨v, e2, k.now rh q r⟩
theorem s_const {v : V} {d : SD} (p : PE X e (tC v)) (r : ∀ H, Rep X.F H d v) : PE X e (lift X.F fun _ h Q => Q d h) :=
  p.imp fun σ H Q ⟨σa, h, Qa, rs, rh, q, k⟩ => k.now rh q (r H)

/-! ### operators -/
theorem s_bin {o : M.Bop} (ha : PE X a (lift X.F wa)) (hb : PE X b (lift X.F wb)) : PE X (.BinOp a (bop o) b pos) (lift X.F fun σ h Q => wa σ h fun x h1 => wb σ h1 fun y h2 => M.opBin o x y h2 Q) := by
  refine (pe_op (op_bin o) ha hb).imp fun σ H Q ⟨σa, h, Qa, rs, rh, q, k⟩ => ?_
  exact lift_go rs rh q fun dx h1 x H1 q1 f1 r1 rh1 rs1 => lift_go rs1 rh1 q1 fun dy h2 y H2 q2 f2 r2 rh2 rs2 =>
    bin_ok rh2 (r1.kp (f2.kp rh1)) r2 q2 (k.go (f1.trans f2))
theorem s_neg (ha : PE X a (lift X.F wa)) : PE X (.UnaryOp .USub a pos) (lift X.F fun σ h Q => wa σ h fun x h1 => match x with | .int i => Q (.int (-i)) h1 | _ => False) := by
  refine (pe_un un_neg ha).imp fun σ H Q ⟨σa, h, Qa, rs, rh, q, k⟩ => ?_
  refine lift_go rs rh q fun dx h1 x H1 q1 f1 r1 rh1 rs1 => ?_
  cases dx with
  | int i =>
    cases (show x = _ from r1)
    exact ⟨i, rfl, (k.go f1).now rh1 q1 rfl⟩
  | _ => exact q1.elim
theorem s_not (ha : PE X a (lift X.F wa)) : PE X (.UnaryOp .Not a pos) (lift X.F fun σ h Q => wa σ h fun x h1 => match x with | .bl b => Q (.bl (!b)) h1 | _ => False) := by
  refine (pe_not ha).imp fun σ H Q ⟨σa, h, Qa, rs, rh, q, k⟩ => ?_
  refine lift_go rs rh q fun dx h1 x H1 q1 f1 r1 rh1 rs1 => ?_
  cases dx with
  | bl i =>
    cases (show x = _ from r1)
    exact ⟨i, rfl, (k.go f1).now rh1 q1 rfl⟩
  | _ => exact q1.elim
theorem t_not (ha : PT X a (liftT X.F wa)) : PT X (.UnaryOp .Not a pos) (liftT X.F fun σ h Q => wa σ h fun x h1 => match x with | .bl b => Q (.bl (!b)) h1 | _ => False) := by
  refine (pt_not ha).imp fun σ H Q ⟨σa, h, Qa, rs, rh, q, k⟩ => ?_
  refine ⟨σa, h, _, rs, rh, q, fun d h' q1 => ?_⟩
  cases d with
  | bl b =>
    obtain ⟨b', e, kk⟩ := k _ _ q1
    cases e
    exact ⟨b, rfl, fun H' f rh' => kk H' f rh'⟩
  | _ => exact q1.elim
theorem s_cmp (hu : X.A.units + 200 < cLine) {o : M.Cop} (hm : behindInMarks (cop o) b = false) (ha : PE X a (lift X.F wa)) (hb : PE X b (lift X.F wb)) :
    PE X (.Compare a [cop o] [b] pos) (lift X.F fun σ h Q => wa σ h fun x h1 => wb σ h1 fun y h2 => M.opCmp o x y h2 fun c => Q (.bl c) h2) := by
  refine (pe_cmpR (op_cmp hu o) ha hb hm).imp fun σ H Q ⟨σa, h, Qa, rs, rh, q, k⟩ => ?_
  exact lift_go rs rh q fun dx h1 x H1 q1 f1 r1 rh1 rs1 => lift_go rs1 rh1 q1 fun dy h2 y H2 q2 f2 r2 rh2 rs2 =>
    cmp_ok rh2 (r1.kp (f2.kp rh1)) r2 q2 fun b hb => (k.go (f1.trans f2)).now rh2 hb rfl
theorem t_cmp (hu : X.A.units + 200 < cLine) {o : M.Cop} (hm : behindInMarks (cop o) b = false) (ha : PE X a (lift X.F wa)) (hb : PE X b (lift X.F wb)) :
    PT X (.Compare a [cop o] [b] pos) (liftT X.F fun σ h Q => wa σ h fun x h1 => wb σ h1 fun y h2 => M.opCmp o x y h2 fun c => Q (.bl c) h2) := by
  refine (pt_cmpR (op_cmp hu o) ha hb hm).imp fun σ H Q ⟨σa, h, Qa, rs, rh, q, k⟩ => ?_
  exact lift_go rs rh q fun dx h1 x H1 q1 f1 r1 rh1 rs1 => lift_go rs1 rh1 q1 fun dy h2 y H2 q2 f2 r2 rh2 rs2 =>
    cmp_ok rh2 (r1.kp (f2.kp rh1)) r2 q2 fun b hb => by
      obtain ⟨b', e, kk⟩ := k _ _ hb
      cases e
      exact ⟨b, rfl, kk H2 (f1.trans f2) rh2⟩
theorem s_chn (hu : X.A.units + 200 < cLine) {o o' : M.Cop} (hm : lastMarks [cop o, cop o'] [b, c] = false) (ha : PE X a (lift X.F wa)) (hb : PE X b (lift X.F wb)) (hc : PE X c (lift X.F wc)) :
    PE X (.Compare a [cop o, cop o'] [b, c] pos) (lift X.F fun σ h Q => wa σ h fun x h1 => wb σ h1 fun y h2 => M.opCmp o x y h2 fun k => match k with
    | true => wc σ h2 fun z h3 => M.opCmp o' y z h3 fun k' => Q (.bl k') h3
    | false => Q (.bl false) h2) := by
  refine (pe_chain (op_cmp hu o) (op_cmp hu o') ha hb hc hm).imp fun σ H Q ⟨σa, h, Qa, rs, rh, q, k⟩ => ?_
  exact lift_go rs rh q fun dx h1 x H1 q1 f1 r1 rh1 rs1 => lift_go rs1 rh1 q1 fun dy h2 y H2 q2 f2 r2 rh2 rs2 =>
    cmp_ok rh2 (r1.kp (f2.kp rh1)) r2 q2 fun b hb => ⟨b, rfl, by
      cases b with
      | true =>
        refine lift_go rs2 rh2 hb fun dz h3 z H3 q3 f3 r3 rh3 rs3 => ?_
        exact cmp_ok rh3 (r2.kp (f3.kp rh2)) r3 q3 fun b' hb' => (k.go ((f1.trans f2).trans f3)).now rh3 hb' rfl
      | false => exact (k.go (f1.trans f2)).now rh2 hb rfl⟩
theorem t_chn (hu : X.A.units + 200 < cLine) {o o' : M.Cop} (hm : lastMarks [cop o, cop o'] [b, c] = false) (ha : PE X a (lift X.F wa)) (hb : PE X b (lift X.F wb)) (hc : PE X c (lift X.F wc)) :
    PT X (.Compare a [cop o, cop o'] [b, c] pos) (liftT X.F fun σ h Q => wa σ h fun x h1 => wb σ h1 fun y h2 => M.opCmp o x y h2 fun k => match k with
    | true => wc σ h2 fun z h3 => M.opCmp o' y z h3 fun k' => Q (.bl k') h3
    | false => Q (.bl false) h2) := by
  refine (pt_chain (op_cmp hu o) (op_cmp hu o') ha hb hc hm).imp fun σ H Q ⟨σa, h, Qa, rs, rh, q, k⟩ => ?_
  exact lift_go rs rh q fun dx h1 x H1 q1 f1 r1 rh1 rs1 => lift_go rs1 rh1 q1 fun dy h2 y H2 q2 f2 r2 rh2 rs2 =>
    cmp_ok rh2 (r1.kp (f2.kp rh1)) r2 q2 fun b hb => ⟨b, rfl, by
      cases b with
      | true =>
        refine lift_go rs2 rh2 hb fun dz h3 z H3 q3 f3 r3 rh3 rs3 => ?_
        exact cmp_ok rh3 (r2.kp (f3.kp rh2)) r3 q3 fun b' hb' => by
          obtain ⟨b'', e, kk⟩ := k _ _ hb'
          cases e
          exact ⟨b', rfl, kk H3 ((f1.trans f2).trans f3) rh3⟩
      | false =>
        obtain ⟨b'', e, kk⟩ := k _ _ hb
        cases e
        exact ⟨false, rfl, kk H2 (f1.trans f2) rh2⟩⟩
theorem s_ite (hc : PT X c (liftT X.F wc)) (ha : PE X a (lift X.F wa)) (hb : PE X b (lift X.F wb)) :
    PE X (.IfExp c a b pos) (lift X.F fun σ h Q => wc σ h fun x h1 => match x with
    | .bl true => wa σ h1 Q
    | .bl false => wb σ h1 Q
    | _ => False) := by
  refine (pe_ifExp hc ha hb).imp fun σ H Q ⟨σa, h, Qa, rs, rh, q, k⟩ => ?_
  refine ⟨σa, h, _, rs, rh, q, fun d h' q1 => ?_⟩
  cases d with
  | bl b =>
    refine ⟨b, rfl, fun H' f rh' => ?_⟩
    cases b with
    | true => exact lift_go (rs.kp (f.kp rh)) rh' q1 fun d h2 v H2 q2 f2 r2 rh2 _ => k _ _ _ _ q2 (f.trans f2) r2 rh2
    | false => exact lift_go (rs.kp (f.kp rh)) rh' q1 fun d h2 v H2 q2 f2 r2 rh2 _ => k _ _ _ _ q2 (f.trans f2) r2 rh2
  | _ => exact q1.elim
theorem pt_plain (ha : PE X e (lift X.F wa)) (he : ∀ whole, isTrue e X.env whole = (do let v ← whole; standAt e.pos; holding [v] (truthy v))) : PT X e (liftT X.F wa) := by
  refine (pt_val ha he).imp fun σ H Q ⟨σa, h, Qa, rs, rh, q, k⟩ => ?_
  refine ⟨σa, h, Qa, rs, rh, q, fun d h' v H' q1 f r rh' => ?_⟩
  obtain ⟨b, rfl, kk⟩ := k d h' q1
  exact ⟨b, r, kk H' f rh'⟩

/-! ### items, slices -/
theorem s_ix (hu : X.A.units + 200 < cLine) (hs : PlainIx b) (ha : PE X a (lift X.F wa)) (hb : PE X b (lift X.F wb)) : PE X (.Subscript a b pos) (lift X.F fun σ h Q => wa σ h fun x h1 => wb σ h1 fun y h2 => M.opIx x y h2 Q) := by
  refine (pe_ix (ix_all (by omega)) ha hb hs).imp fun σ H Q ⟨σa, h, Qa, rs, rh, q, k⟩ => ?_
  exact lift_go rs rh q fun dx h1 x H1 q1 f1 r1 rh1 rs1 => lift_go rs1 rh1 q1 fun dy h2 y H2 q2 f2 r2 rh2 rs2 =>
    ix_ok rh2 (r1.kp (f2.kp rh1)) r2 q2 (k.go (f1.trans f2))
theorem s_part (he : PE X e (lift X.F w)) : PO X (some e) (liftO X.F fun σ h Q => w σ h fun d h1 => match d with | .int n => Q (some n) h1 | _ => False) := by
  refine (po_some he).imp fun σ H Q ⟨σa, h, Qa, rs, rh, q, k⟩ => ?_
  refine lift_go rs rh q fun d h1 v H1 q1 f1 r1 rh1 _ => ?_
  cases d with
  | int i =>
    cases (show v = _ from r1)
    exact ⟨i, rfl, k _ _ _ q1 f1 rh1⟩
  | _ => exact q1.elim
theorem s_nopart : PO X none (liftO X.F fun _ h Q => Q none h) := po_none.imp fun σ H Q ⟨σa, h, Qa, rs, rh, q, k⟩ => k _ _ _ q .refl rh
theorem s_sl {lo hi : Option Expr} {wl wh : WO} {p2 : Pos} (ha : PE X a (lift X.F wa)) (hl : PO X lo (liftO X.F wl)) (hh : PO X hi (liftO X.F wh)) :
    PE X (.Subscript a (.Slice lo hi none p2) pos) (lift X.F fun σ h Q => wa σ h fun x h1 => wl σ h1 fun l h2 => wh σ h2 fun u h3 => M.opSl x l u h3 Q) := by
  refine (pe_slice sl_all ha hl hh).imp fun σ H Q ⟨σa, h, Qa, rs, rh, q, k⟩ => ?_
  refine lift_go rs rh q fun dx h1 x H1 q1 f1 r1 rh1 rs1 => ?_
  refine ⟨σa, h1, _, rs1, rh1, q1, fun l h2 H2 q2 f2 rh2 => ?_⟩
  refine ⟨σa, h2, _, rs1.kp (f2.kp rh1), rh2, q2, fun u h3 H3 q3 f3 rh3 => ?_⟩
  exact sl_ok rh3 ((r1.kp (f2.kp rh1)).kp (f3.kp rh2)) q3 (k.go ((f1.trans f2).trans f3))

theorem s_rev {p1 p2 p3 : Pos} {k0 : Nat} (ha : PE X a (lift X.F wa)) : PE X (.Subscript a (.Slice none none (some (.UnaryOp .USub (.Constant (.int 1) k0 p1) p2)) p3) pos) (lift X.F fun σ h Q => wa σ h fun x h1 => M.aLst x h1 fun _ xs => ∀ r, h1 r = none → Q (.ref r) (M.up h1 r (.lst xs.reverse))) := by
  refine (pe_revL ha).imp fun σ H Q ⟨σa, h, Qa, rs, rh, q, k⟩ => ?_
  refine lift_go rs rh q fun dx h1 x H1 q1 f1 r1 rh1 rs1 => ?_
  obtain ⟨p, xs, rfl, e1, q⟩ := aLst_inv q1
  cases (show x = _ from r1)
  obtain ⟨ws, a1, r2⟩ := rh1 p _ e1
  refine ⟨p, ws, rfl, SqL.of a1, fun l hn => ?_⟩
  exact k _ _ _ _ (q l (rh1.none hn)) (f1.trans (frm_new hn)) rfl (rh_new rh1 hn ⟨_, upd_same, r2.rev.kp (kp_new hn)⟩)

theorem s_lrev {p p2 cpos : Pos} (hc : X.calm = true) (hg : Gl X "list") (hm : X.mg "list" = none) (hg2 : Gl X "reversed") (hm2 : X.mg "reversed" = none) (hs : starEach [a] X.env = (false, eval a X.env) :: starEach [] X.env) (ha : PE X a (lift X.F wa)) :
    PE X (.Call (.Name "list" p) [.Call (.Name "reversed" p2) [a] [] cpos] [] pos) (lift X.F fun σ h Q => wa σ h fun x h1 => M.aLst x h1 fun _ xs => ∀ r, h1 r = none → Q (.ref r) (M.up h1 r (.lst xs.reverse))) := by
  refine (RL.pe_listRev hc hg hm hg2 hm2 ha hs).imp fun σ H Q ⟨σa, h, Qa, rs, rh, q, k⟩ => ?_
  refine lift_go rs rh q fun dx h1 x H1 q1 f1 r1 rh1 rs1 => ?_
  obtain ⟨p, xs, rfl, e1, q⟩ := aLst_inv q1
  cases (show x = _ from r1)
  obtain ⟨ws, a1, r2⟩ := rh1 p _ e1
  refine ⟨p, ws, rfl, SqL.of a1, fun l hn => ?_⟩
  exact k _ _ _ _ (q l (rh1.none hn)) (f1.trans (frm_new hn)) rfl (rh_new rh1 hn ⟨_, upd_same, r2.rev.kp (kp_new hn)⟩)
/-! ### argument lists, displays -/
theorem s_nil : PA X [] (liftA X.F fun _ h Q => Q [] h) := pa_nil.imp fun σ H Q ⟨σa, h, Qa, rs, rh, q, k⟩ => k _ _ _ _ q .refl rfl rh
theorem s_cons {es : List Expr} {wr : WA} (hs : starEach (e :: es) X.env = (false, eval e X.env) :: starEach es X.env) (he : PE X e (lift X.F w)) (hr : PA X es (liftA X.F wr)) :
    PA X (e :: es) (liftA X.F fun σ h Q => w σ h fun d h1 => wr σ h1 fun ds h2 => Q (d :: ds) h2) := by
  refine (pa_cons he hr hs).imp fun σ H Q ⟨σa, h, Qa, rs, rh, q, k⟩ => ?_
  exact lift_go rs rh q fun d h1 v H1 q1 f1 r1 rh1 rs1 => liftA_go rs1 rh1 q1 fun ds h2 vs H2 q2 f2 r2 rh2 _ => k _ _ _ _ q2 (f1.trans f2) (Reps.cons (r1.kp (f2.kp rh1)) r2) rh2
theorem s_tup {es : List Expr} {wr : WA} {x1} (hr : PA X es (liftA X.F wr)) : PE X (.Tuple es x1 pos) (lift X.F fun σ h Q => wr σ h fun ds h1 => ds.length ≤ M.LINE ∧ Q (.tup ds) h1) := by
  refine (pe_tup hr).imp fun σ H Q ⟨σa, h, Qa, rs, rh, q, k⟩ => ?_
  refine liftA_go rs rh q fun ds h1 vs H1 ⟨hz, q1⟩ f1 r1 rh1 _ => ⟨by rw [r1.length, line_eq]; exact hz, fun p hn => ?_⟩
  exact k _ _ _ _ q1 (f1.trans (frm_hid hn)) ⟨p, vs, rfl, .inl upd_same, r1.kp (kp_new hn)⟩ (rh_hid rh1 hn)
theorem s_lst {es : List Expr} {wr : WA} (hr : PA X es (liftA X.F wr)) : PE X (.List es pos) (lift X.F fun σ h Q => wr σ h fun ds h1 => ds.length ≤ M.LINE ∧ ∀ r, h1 r = none → Q (.ref r) (M.up h1 r (.lst ds))) := by
  refine (pe_lst hr).imp fun σ H Q ⟨σa, h, Qa, rs, rh, q, k⟩ => ?_
  refine liftA_go rs rh q fun ds h1 vs H1 ⟨hz, q1⟩ f1 r1 rh1 _ => ⟨by rw [r1.length, line_eq]; exact hz, fun p hn => ?_⟩
  exact k _ _ _ _ (q1 p (rh1.none hn)) (f1.trans (frm_new hn)) rfl (rh_new rh1 hn ⟨_, upd_same, r1.kp (kp_new hn)⟩)
theorem s_dct : PE X (.Dict [] [] pos) (lift X.F fun _ h Q => ∀ r, h r = none → Q (.ref r) (M.up h r (.dct 0 []))) := by
  refine pe_dnewK.imp fun σ H Q ⟨σa, h, Qa, rs, rh, q, k⟩ => ?_
  intro d hn
  exact k _ _ _ _ (q d (rh.none hn)) (frm_new hn) rfl (rh_new rh hn (dct0.mpr ⟨[], upd_same, .nil⟩))

def tDNewN (P : Program) (w : World) : TE := fun _ H Q => ∀ p, H p = none → Q (.ref p) (upd H p (.ext (EntO P w p [])))
theorem ent_empty {P : Program} {w : World} {H : Hp} (h : Heap) (hb : sysModules < h.objs.size) : ObjOk P w H (h.push { cls := .type "dict", data := .dict #[] }) h.objs.size (.ext (EntO P w h.objs.size [])) := by
  obtain ⟨o, es, ep, h1, h2, h3, h4, _, h5⟩ := Heap.DictOfH.new (knd := nestedKind P w) h
  exact ⟨⟨Nat.zero_le _, beq_eq_false_iff_ne.mpr (Ne.symm (Nat.ne_of_lt hb)), [], .nil, o, es, ep, h1, h2, h3, h4, h5⟩, ⟨o, h1⟩, fun _ _ e st => ent_ok e st⟩
theorem pe_dnewN : PE X (.Dict [] [] pos) (tDNewN X.prog X.w) := ⟨fun pins s σ H Q I h =>
  wpAny_Dict_empty ⟨.ref s.heap.objs.size, _, I.laid (a := s.heap.objs.size) (o := .ext (EntO X.prog X.w s.heap.objs.size [])) (t' := s.toks) (fun _ _ q => Heap.get?_push_of_some _ q) (Nat.le_refl _) (ent_empty s.heap I.big), rfl, h _ (I.hok.fresh (Nat.le_refl _))⟩⟩
theorem s_dcn : PE X (.Dict [] [] pos) (lift X.F fun _ h Q => ∀ r, h r = none → Q (.ref r) (M.up h r (.dcn []))) := by
  refine pe_dnewN.imp fun σ H Q ⟨σa, h, Qa, rs, rh, q, k⟩ => ?_
  intro d hn
  exact k _ _ _ _ (q d (rh.none hn)) (frm_new hn) rfl (rh_new rh hn ⟨[], upd_same, .nil⟩)
theorem frm_ext {H' : Hp} {p : Addr} {ob : M.Ob} (k1 : ∀ c o, H c = some o → H' c = some o) (hp : H p = none) : Frm H h H' (M.up h p ob) := fun a o e n => ⟨k1 a o e, up_ne (ne_of_none e hp)⟩
theorem rh_ext {H' : Hp} {p : Addr} {ob : M.Ob} (r : RH K H h) (k1 : ∀ c o, H c = some o → H' c = some o) (hp : H p = none) (o : ObRep K H' p ob) : RH K H' (M.up h p ob) := fun a u e => by
  by_cases z : a = p
  · subst z; rw [up_same] at e; cases e; exact o
  · rw [up_ne z] at e
    have x := r a u e
    obtain ⟨w, e1, _⟩ := x.some
    exact x.kp ⟨fun b vs q => k1 b _ q, fun b o w q => k1 b _ q⟩ (by rw [e1]; exact k1 a _ e1)
theorem zip_rep {H' : Hp} : ∀ {ds es : List SD} {xs ys : List V} {ts : List Addr}, Reps K H' ds xs → Reps K H' es ys → Paired (fun (t : Addr) (q : V × V) => H' t = some (.tup [q.1, q.2])) ts (xs.zip ys) → Reps K H' (M.zipL ds es) (ts.map V.ref) := by
  intro ds
  induction ds with
  | nil =>
    intro es xs ys ts r1 r2 pr
    cases (show xs = _ from r1)
    cases pr
    exact rfl
  | cons d ds ih =>
    intro es xs ys ts r1 r2 pr
    obtain ⟨v, r, e, a, b⟩ := r1
    subst e
    cases es with
    | nil =>
      cases (show ys = _ from r2)
      cases pr
      exact rfl
    | cons d2 es =>
      obtain ⟨v2, r', e, a2, b2⟩ := r2
      subst e
      cases pr with
      | cons h t => exact ⟨_, _, rfl, ⟨_, _, rfl, .inl h, .cons a (.one a2)⟩, ih b b2 t⟩
theorem aTup_inv {d : SD} {f : List SD → Prop} (q : M.aTup d f) : ∃ xs, d = .tup xs ∧ f xs := by
  cases d with
  | tup i => exact ⟨i, rfl, q⟩
  | _ => exact False.elim q
theorem s_lzip {e e2 : Expr} {p p2 cpos : Pos} {wr : WA} (hc : X.calm = true) (hg : Gl X "list") (hm : X.mg "list" = none) (hgz : Gl X "zip") (hmz : X.mg "zip" = none) (ha : PA X [e, e2] (liftA X.F wr))
    (hs : starEach [e, e2] X.env = (false, eval e X.env) :: starEach [e2] X.env) (hpl : (backTo cpos (starEach [e2] X.env)).any (·.1) = false) :
    PE X (.Call (.Name "list" p) [.Call (.Name "zip" p2) [e, e2] [] cpos] [] pos) (lift X.F fun σ h Q => wr σ h fun ds h2 => M.arg2 ds fun x y => M.aTup x fun xs => M.aTup y fun ys => ∀ r, h2 r = none → Q (.ref r) (M.up h2 r (.lst (M.zipL xs ys)))) := by
  refine (ZL.pe_lzip hc hg hm hgz hmz ha hs hpl).imp fun σ H Q ⟨σa, h, Qa, rs, rh, q, k⟩ => ?_
  refine ⟨σa, h, _, rs, rh, q, ?_⟩
  rintro ds h2 vs H2 q f r rh2
  obtain ⟨x, y, rfl, q⟩ := arg2_inv q
  obtain ⟨xs, rfl, q⟩ := aTup_inv q
  obtain ⟨ys, rfl, q⟩ := aTup_inv q
  obtain ⟨v, w, rfl, ⟨a1, us, rfl, t1, r1⟩, ⟨a2, ws, rfl, t2, r2⟩⟩ := reps2 r
  refine ⟨_, _, rfl, a1, a2, us, ws, rfl, rfl, t1.imp .inl id, t2.imp .inl id, fun H' p ts k1 k2 k3 k4 k5 k6 k7 => ?_⟩
  have kp : Kp H2 H' := ⟨fun b vs q => k1 b _ q, fun b o w q => k1 b _ q⟩
  exact k _ _ _ _ (q p (rh2.none k2)) (f.trans (frm_ext k1 k2)) rfl (rh_ext rh2 k1 k2 ⟨_, k5, zip_rep (r1.kp kp) (r2.kp kp) k6⟩)
/-! ### list(range(..)) -/
theorem rgV_rep (lo hi : Int) : Reps K H (M.rangeL lo hi) (rgV lo hi) := by
  unfold M.rangeL rgV
  generalize List.range (hi - lo).toNat = l
  induction l with
  | nil => exact rfl
  | cons i l ih => exact ⟨_, _, rfl, rfl, ih⟩
theorem aRng_inv1 {d : SD} {f : Int → Int → Prop} (q : M.aRng [d] f) : ∃ n, d = .int n ∧ -(2 ^ 62) ≤ n ∧ n ≤ M.LINE ∧ f 0 n := by
  cases d with
  | int n => exact ⟨n, rfl, q.1.1, q.1.2, q.2⟩
  | _ => exact False.elim q
theorem aRng_inv2 {d e : SD} {f : Int → Int → Prop} (q : M.aRng [d, e] f) : ∃ a b, d = .int a ∧ e = .int b ∧ -(2 ^ 62) ≤ a ∧ a ≤ M.LINE ∧ -(2 ^ 62) ≤ b ∧ b ≤ M.LINE ∧ (b - a).toNat ≤ M.LINE ∧ f a b := by
  cases d with
  | int a => cases e with
    | int b => exact ⟨a, b, rfl, rfl, q.1.1.1, q.1.1.2, q.1.2.1, q.1.2.2.1, q.1.2.2.2, q.2⟩
    | _ => exact False.elim q
  | _ => exact False.elim q
theorem s_lrng1 {p p2 cpos : Pos} (hc : X.calm = true) (hg : Gl X "list") (hm : X.mg "list" = none) (hgr : Gl X "range") (hmr : X.mg "range" = none) (ha : PE X a (lift X.F wa)) (hs : starEach [a] X.env = (false, eval a X.env) :: starEach [] X.env) :
    PE X (.Call (.Name "list" p) [.Call (.Name "range" p2) [a] [] cpos] [] pos) (lift X.F fun σ h Q => wa σ h fun d h1 => M.aRng [d] fun lo hi => ∀ r, h1 r = none → Q (.ref r) (M.up h1 r (.lst (M.rangeL lo hi)))) := by
  refine (pe_listRg hc hg hm (prg_1 hgr hmr ha hs)).imp fun σ H Q ⟨σa, h, Qa, rs, rh, q, k⟩ => ?_
  refine lift_go rs rh q fun d h1 v H1 q1 f1 r1 rh1 _ => ?_
  have hl : M.LINE = 16777216 := rfl
  obtain ⟨n, rfl, n0, n1, q1⟩ := aRng_inv1 q1
  cases (show v = _ from r1)
  exact ⟨n, rfl, ⟨by omega, by omega, by omega, by omega, by omega⟩, fun l hn => k _ _ _ _ (q1 l (rh1.none hn)) (f1.trans (frm_new hn)) rfl (rh_new rh1 hn ⟨_, upd_same, rgV_rep 0 n⟩)⟩
theorem s_lrng2 {p p2 cpos : Pos} (hc : X.calm = true) (hg : Gl X "list") (hm : X.mg "list" = none) (hgr : Gl X "range") (hmr : X.mg "range" = none) (ha : PE X a (lift X.F wa)) (hb : PE X b (lift X.F wb)) (hs : starEach [a, b] X.env = (false, eval a X.env) :: starEach [b] X.env) (hs2 : starEach [b] X.env = (false, eval b X.env) :: starEach [] X.env) (hp : (backTo cpos (starEach [b] X.env)).any (·.1) = false) :
    PE X (.Call (.Name "list" p) [.Call (.Name "range" p2) [a, b] [] cpos] [] pos) (lift X.F fun σ h Q => wa σ h fun d h1 => wb σ h1 fun e h2 => M.aRng [d, e] fun lo hi => ∀ r, h2 r = none → Q (.ref r) (M.up h2 r (.lst (M.rangeL lo hi)))) := by
  refine (pe_listRg hc hg hm (prg_2 hgr hmr ha hb hs hs2 hp)).imp fun σ H Q ⟨σa, h, Qa, rs, rh, q, k⟩ => ?_
  refine lift_go rs rh q fun d h1 v H1 q1 f1 r1 rh1 rs1 => lift_go rs1 rh1 q1 fun e h2 w H2 q2 f2 r2 rh2 _ => ?_
  have hl : M.LINE = 16777216 := rfl
  obtain ⟨m, n, rfl, rfl, n0, n1, n2, n3, n4, q2⟩ := aRng_inv2 q2
  cases (show v = _ from r1); cases (show w = _ from r2)
  exact ⟨m, n, rfl, rfl, ⟨by omega, by omega, by omega, by omega, by omega⟩, fun l hn => k _ _ _ _ (q2 l (rh2.none hn)) ((f1.trans f2).trans (frm_new hn)) rfl (rh_new rh2 hn ⟨_, upd_same, rgV_rep m n⟩)⟩
/-! ### dict displays -/
theorem keys_get : ∀ {kvs : List (SD × SD)}, M.keysOk 0 kvs = true → ∀ {ps : List (V × V)}, Paired (fun (x : SD × SD) (p : V × V) => Rep K H x.1 p.1 ∧ Rep K H x.2 p.2) kvs ps → ∃ ks : List (Key × V), ps = ks.map (fun kv => (kV kv.1, kv.2)) ∧ Paired (PR K H R0) kvs ks
  | [], _, _, r => by cases r; exact ⟨[], rfl, .nil⟩
  | x :: kvs, ok, _, r => by
    cases r with
    | @cons _ p _ ps h t =>
      simp only [M.keysOk] at ok
      obtain ⟨o1, o2⟩ := ba ok
      obtain ⟨ks, e, pr⟩ := keys_get o2 t
      obtain ⟨k, ek⟩ := keyOk0 o1
      have ev := keyV_rep ek h.1
      refine ⟨(k, p.2) :: ks, ?_, .cons ⟨⟨ek, rep_str h.1⟩, h.2⟩ pr⟩
      rw [List.map_cons, ← e, ← ev]
def wPs : List (WE × WE) → WA
  | [], _, h, Q => Q [] h
  | (wk, wv) :: r, σ, h, Q => wk σ h fun d h1 => wv σ h1 fun e h2 => wPs r σ h2 fun ds h3 => Q (d :: e :: ds) h3
theorem tp_go : ∀ (ws : List (WE × WE)) {σ : L2.St} {σa : M.St} {H : Hp} {h : M.AH} {Qa : List SD → M.AH → Prop} {R : List (V × V) → Hp → Prop}, RS K H σ σa → RH K H h → wPs ws σa h Qa →
    (∀ ds h' H' ps kvs, Qa ds h' → Frm H h H' h' → RH K H' h' → M.pairUp ds = some kvs → Paired (fun (x : SD × SD) (p : V × V) => Rep K H' x.1 p.1 ∧ Rep K H' x.2 p.2) kvs ps → ps.length = ws.length → R ps H') →
    tPairs (ws.map fun w => (lift K w.1, lift K w.2)) σ H R
  | [], σ, σa, H, h, Qa, R, rs, rh, q, k => k [] h H [] [] q .refl rh rfl .nil rfl
  | (wk, wv) :: r, σ, σa, H, h, Qa, R, rs, rh, q, k => by
    show lift K wk σ H _
    refine lift_go rs rh q fun d h1 x H1 q1 f1 r1 rh1 rs1 => ?_
    refine lift_go rs1 rh1 q1 fun e h2 y H2 q2 f2 r2 rh2 rs2 => ?_
    refine tp_go r rs2 rh2 q2 fun ds h3 H3 ps kvs q3 f3 rh3 pu pr ln => ?_
    have k3 := f3.kp rh2
    have k2 := f2.kp rh1
    refine k (d :: e :: ds) h3 H3 ((x, y) :: ps) ((d, e) :: kvs) q3 ((f1.trans f2).trans f3) rh3 (by simp only [M.pairUp, pu]; rfl) (.cons ⟨(r1.kp k2).kp k3, r2.kp k3⟩ pr) (by simp [ln])
theorem s_dsp {ks : List (Option Expr)} {vs : List Expr} {ws : List (WE × WE)} (hp : PPs X pos ks vs (ws.map fun w => (lift X.F w.1, lift X.F w.2))) (hall : ks.all (·.isSome) = true) (hl : ks.length = vs.length) (h0 : ks ≠ []) (h15 : ks.length ≤ 15) (hw : ws.length ≤ 15) :
    PE X (.Dict ks vs pos) (lift X.F fun σ h Q => ∀ r, h r = none → wPs ws σ (M.up h r (.dct 0 [])) fun ds h2 => h2 r = some (.dct 0 []) ∧ M.aSome (M.pairUp ds) fun kvs => M.keysOk 0 kvs = true ∧ Q (.ref r) (M.up h2 r (.dct 0 (M.mergeL [] kvs)))) := by
  refine (pe_disp hp hall hl h0 h15).imp fun σ H Q ⟨σa, h, Qa, rs, rh, q, k⟩ => ?_
  intro p hn
  have f0 : Frm H h (upd H p (.dK [])) (M.up h p (.dct 0 [])) := frm_new hn
  have rh0 : RH X.F (upd H p (.dK [])) (M.up h p (.dct 0 [])) := rh_new rh hn (dct0.mpr ⟨[], upd_same, .nil⟩)
  refine tp_go ws (rs.kp (f0.kp rh)) rh0 (q p (rh.none hn)) fun ds h2 H2 ps kvs q2 f2 rh2 pu pr ln => ?_
  obtain ⟨e2, q2⟩ := q2
  rw [pu] at q2
  obtain ⟨ok, q2⟩ := q2
  obtain ⟨ks2, e3, pk⟩ := keys_get ok pr
  obtain ⟨qs, e4, pe4⟩ := dct0.mp (rh2 p _ e2)
  cases pe4
  refine ⟨e4, ks2, e3, by rw [e3, List.length_map] at ln; omega, ?_⟩
  have kp : Kp H2 (upd H2 p (.dK (mergeK [] ks2))) := kp_put rh2 e2
  exact k _ _ _ _ q2 ((f0.trans f2).trans (frm_put e2)) rfl (rh_put rh2 e2 (dct0.mpr ⟨_, upd_same, Paired.mapP (kv_merge pk .nil) fun _ _ z => ⟨z.1, z.2.kp kp⟩⟩))
/-! ### calls -/
theorem s_blt {x : Str} {p : Pos} {es : List Expr} {wr : WA} {b : M.Blt} {bk : BK} (hcalm : X.calm = true) (hu : X.A.units + 200 < cLine) (eb : bltK b = some bk) (hx : x = bk.name) (hg : Gl X x) (hm : X.mg x = none)
    (he : starEach (e :: es) X.env = (false, eval e X.env) :: starEach es X.env) (hpl : (backTo pos (starEach es X.env)).any (·.1) = false) (hr : PA X (e :: es) (liftA X.F wr)) :
    PE X (.Call (.Name x p) (e :: es) [] pos) (lift X.F fun σ h Q => wr σ h fun ds h1 => M.opBlt b ds h1 Q) := by
  subst hx
  have key : PE X (.Call (.Name bk.name p) (e :: es) [] pos) (tCB (rBlt X.F b) (liftA X.F wr)) := by
    have cr := call_blt (X := X) hcalm hu b eb
    cases b <;> simp only [bltK, Option.some.injEq, reduceCtorEq] at eb <;> subst eb
    all_goals first
      | exact pe_callB cr hg hm (by decide +kernel) hr (by decide +kernel) (by decide +kernel) he hpl
      | exact pe_callTy cr hg hm (by decide +kernel) hr (by decide +kernel) (by decide +kernel) he hpl
  refine key.imp fun σ H Q ⟨σa, h, Qa, rs, rh, q, k⟩ => ?_
  exact liftA_go rs rh q fun ds h1 vs H1 q1 f1 r1 rh1 _ => blt_ok rh1 r1 q1 (k.go f1)
theorem s_isi {t : M.Ty} {p p2 : Pos} {xt : Str} (hg : Gl X "isinstance") (hm : X.mg "isinstance" = none) (hxt : xt = Str.ofString (tyS t)) (hg2 : Gl X xt) (hm2 : X.mg xt = none)
    (he : starEach [a, .Name xt p2] X.env = (false, eval a X.env) :: starEach [.Name xt p2] X.env) (ha : PE X a (lift X.F wa)) :
    PE X (.Call (.Name "isinstance" p) [a, .Name xt p2] [] pos) (lift X.F fun σ h Q => wa σ h fun x h1 => match M.opIsi x t h1 with | some b => Q (.bl b) h1 | none => False) := by
  subst hxt
  have pt : PE X (.Name (Str.ofString (tyS t)) p2) (tC (.ty (tyS t))) := by
    cases t <;> exact pe_bltn (v := .ty _) hg2 hm2 (u := .type _) (by decide +kernel) rfl (by decide +kernel) (by decide +kernel)
  refine (pe_callB call_isi hg hm (by decide +kernel) (pa_cons ha (pa_cons pt pa_nil) he) (by decide +kernel) (by decide +kernel) he rfl).imp fun σ H Q ⟨σa, h, Qa, rs, rh, q, k⟩ => ?_
  refine lift_go rs rh q fun dx h1 x H1 q1 f1 r1 rh1 rs1 => ?_
  cases e : M.opIsi dx t h1 with
  | none => rw [e] at q1; exact q1.elim
  | some b =>
    rw [e] at q1
    exact isi_ok rh1 r1 e ((k.go f1).now rh1 q1 rfl)
theorem s_mth0 (hu : X.A.units + 200 < cLine) {m : M.Mth} {T id : String} {nm nm2 : Str} {apos cpos : Pos} (em : mthT m = some (T, id, nm)) (hnm : nm2 = nm) (hbase : attributeBase a nm X.env (eval a X.env) = eval a X.env) (hline : (apos.endLine == cpos.line) = true) (ha : PE X a (lift X.F wa)) :
    PE X (.Call (.Attribute a nm2 apos) [] [] cpos) (lift X.F fun σ h Q => wa σ h fun x h1 => M.recvOk m x h1 ∧ M.opMth m x [] h1 Q) := by
  subst hnm
  have F := mth_fact em
  refine (pe_bm0 F.pa F.slot F.ty (mth_rule (by omega) em) ha hbase hline).imp fun σ H Q ⟨σa, h, Qa, rs, rh, q, k⟩ => ?_
  exact lift_go rs rh q fun dx h1 x H1 ⟨q0, q1⟩ f1 r1 rh1 rs1 => ⟨recv_ok em rh1 r1 q0, mth_ok (ds := []) (vs := []) rh1 r1 rfl q1 (k.go f1)⟩
theorem s_mth (hu : X.A.units + 200 < cLine) {m : M.Mth} {T id : String} {nm nm2 : Str} {apos cpos : Pos} {es : List Expr} {wr : WA} (em : mthT m = some (T, id, nm)) (hnm : nm2 = nm) (hbase : attributeBase a nm X.env (eval a X.env) = eval a X.env)
    (hfew : ((backTo cpos (starEach (e :: es) X.env)).all (fun x => !x.1) && (backToKw cpos (keywordEach [] X.env)).all (fun x => x.1.isSome)
      && decide ((e :: es).length + ([] : List Keyword).length + (if ([] : List Keyword).isEmpty then 0 else 1) < 30)) = true)
    (hline : (apos.endLine == cpos.line) = true) (hs : starEach (e :: es) X.env = (false, eval e X.env) :: starEach es X.env) (hplain : (backTo cpos (starEach es X.env)).any (·.1) = false) (ha : PE X a (lift X.F wa)) (hr : PA X (e :: es) (liftA X.F wr)) :
    PE X (.Call (.Attribute a nm2 apos) (e :: es) [] cpos) (lift X.F fun σ h Q => wa σ h fun x h1 => M.recvOk m x h1 ∧ wr σ h1 fun ds h2 => M.opMth m x ds h2 Q) := by
  subst hnm
  have F := mth_fact em
  refine (pe_bm F.pa F.slot F.ty (mth_rule (by omega) em) ha hr hbase hfew hline hs hplain).imp fun σ H Q ⟨σa, h, Qa, rs, rh, q, k⟩ => ?_
  refine lift_go rs rh q fun dx h1 x H1 ⟨q0, q1⟩ f1 r1 rh1 rs1 => ⟨recv_ok em rh1 r1 q0, ?_⟩
  exact liftA_go rs1 rh1 q1 fun ds h2 vs H2 q2 f2 r2 rh2 _ => mth_ok rh2 (r1.kp (f2.kp rh1)) r2 q2 (k.go (f1.trans f2))
/-- what a def of the program promises -/
def spC (K : Fr) (P : M.Prog) (n : Nat) (f : M.Sx) : Sp := fun vs H Q _ => ∃ ds h Qa xx, Reps K H ds vs ∧ RH K H h ∧ M.run P n f ds h Qa xx ∧ Kont K H h Qa Q
theorem s_call {x : Str} {p : Pos} {es : List Expr} {wr : WA} {P : M.Prog} {n : Nat} {f : M.Sx} {fa : Addr} {fd : FuncData} {ps : List Str} {xx : M.XP} (F : FnOk X.prog X.w X.F X.mg X.base CX0 n fa fd ps (spC X.F P n f)) (hroom : Room n X.A) (hg : Gl X x) (hm : X.mg x = some (.ref fa))
    (hk : PySem.W.keepIn X.F (.ref fa) = true) (hb : Binds X.F fd ps []) (hdb : (x == ("__debug__" : Str)) = false)
    (he : starEach (e :: es) X.env = (false, eval e X.env) :: starEach es X.env) (hpl : (backTo pos (starEach es X.env)).any (·.1) = false) (hr : PA X (e :: es) (liftA X.F wr)) :
    PE X (.Call (.Name x p) (e :: es) [] pos) (lift X.F fun σ h Q => wr σ h fun ds h1 => M.run P n f ds h1 Q xx) := by
  refine (pe_call F hroom hg hm hk hb .nil pass0 hr hdb he hpl).imp fun σ H Q ⟨σa, h, Qa, rs, rh, q, k⟩ => ?_
  refine liftA_go rs rh q fun ds h1 vs H1 q1 f1 r1 rh1 _ => ?_
  exact ⟨ds, h1, Qa, xx, by rw [List.append_nil]; exact r1, rh1, q1, k.go f1⟩
theorem s_call0 {x : Str} {p : Pos} {P : M.Prog} {n : Nat} {f : M.Sx} {fa : Addr} {fd : FuncData} {ps : List Str} {xx : M.XP} (F : FnOk X.prog X.w X.F X.mg X.base CX0 n fa fd ps (spC X.F P n f)) (hroom : Room n X.A) (hg : Gl X x) (hm : X.mg x = some (.ref fa))
    (hk : PySem.W.keepIn X.F (.ref fa) = true) (hb : Binds X.F fd ps []) (hdb : (x == ("__debug__" : Str)) = false) :
    PE X (.Call (.Name x p) [] [] pos) (lift X.F fun σ h Q => M.run P n f [] h Q xx) := by
  refine (pe_call0 F hroom hg hm hk hb .nil pass0 hdb).imp fun σ H Q ⟨σa, h, Qa, rs, rh, q, k⟩ => ?_
  exact ⟨[], h, Qa, xx, rfl, rh, q, k⟩
theorem reps_nons {K : Fr} {H : Hp} : ∀ k : Nat, Reps K H (List.replicate k .non) (List.replicate k V.non)
  | 0 => rfl
  | k + 1 => ⟨_, _, rfl, rfl, reps_nons k⟩
theorem s_callD {x : Str} {p : Pos} {es : List Expr} {wr : WA} {P : M.Prog} {n k : Nat} {f : M.Sx} {fa : Addr} {fd : FuncData} {ps : List Str} {ds0 : List Value} {xx : M.XP} (F : FnOk X.prog X.w X.F X.mg X.base CX0 n fa fd ps (spC X.F P n f)) (hroom : Room n X.A) (hg : Gl X x) (hm : X.mg x = some (.ref fa))
    (hk : PySem.W.keepIn X.F (.ref fa) = true) (hd : Vals (List.replicate k V.non) ds0) (hb : Binds X.F fd ps ds0) (hdb : (x == ("__debug__" : Str)) = false)
    (he : starEach (e :: es) X.env = (false, eval e X.env) :: starEach es X.env) (hpl : (backTo pos (starEach es X.env)).any (·.1) = false) (hr : PA X (e :: es) (liftA X.F wr)) :
    PE X (.Call (.Name x p) (e :: es) [] pos) (lift X.F fun σ h Q => wr σ h fun ds h1 => M.run P n f (ds ++ List.replicate k .non) h1 Q xx) := by
  refine (pe_call F hroom hg hm hk hb hd pass0 hr hdb he hpl).imp fun σ H Q ⟨σa, h, Qa, rs, rh, q, k⟩ => ?_
  refine liftA_go rs rh q fun ds h1 vs H1 q1 f1 r1 rh1 _ => ?_
  exact ⟨_, h1, Qa, xx, r1.append (reps_nons _), rh1, q1, k.go f1⟩
end
end Snd
end
section
/-! Sound6: what is walked, targets, comprehensions, statements. -/
namespace Snd
open PySem L2 PySem.Spec PyProof.Rows
section
variable {X : L2.Cx} {K : Fr} {σ : L2.St} {σa : M.St} {H H1 : Hp} {h h1 : M.AH} {w wa wb wc : WE} {Qa : M.VQ} {a b c e : Expr} {pos : Pos} {tg : Expr}
/-- an iterator of the model bears the items xs, as long as ok holds -/
def Walks (K : Fr) (H1 : Hp) (J : It) (xs : List SD) (ok : M.AH → Prop) : Prop := ∀ (i : Nat) (H : Hp) (h : M.AH), Kp H1 H → Fz H1 H → RH K H h → ok h →
  (i < xs.length → J.go i H) ∧ (xs.length ≤ i → J.stop i H) ∧ ∀ x H', J.yld i H x H' → ∀ d, xs[i]? = some d → Rep K H' d x ∧ Frm H h H' h ∧ RH K H' h
theorem PI.imp' {t t' : TI} (a : PI X tg e t) (i : ∀ σ H Q, t' σ H Q → t σ H Q) : PI X tg e t' := ⟨fun pins s σ H Q I h => a.run pins s σ H Q I (i σ H Q h)⟩
def liftI (K : Fr) (k : M.Itk) (w : WA) : TI := fun σ H R => ∃ σa h Qd, RS K H σ σa ∧ RH K H h ∧ w σa h Qd ∧ ∀ ds h1, Qd ds h1 → ∃ QW : List SD → (M.AH → Prop) → Prop, M.walk k ds h1 QW ∧
  ∀ xs ok J H1, QW xs ok → Frm H h H1 h1 → RH K H1 h1 → Walks K H1 J xs ok → R J H1
/-- a list, a tuple, a text -/
def iSeq (K : Fr) (tl : TE) : TI := fun σ H R => tl σ H fun x H1 => (∃ a, x = .ref a ∧ (∃ xs, SqL K H1 a xs) ∧ R (Itl K a) H1) ∨ (∃ a, x = .ref a ∧ (∃ xs, SqT K H1 a xs) ∧ R (Itt K a) H1) ∨ ∃ z, x = .str z ∧ R (Its z) H1
theorem pi_seq {l : Expr} {tl : TE} (hl : PE X l tl) : PI X tg l (iSeq X.F tl) := by
  refine ⟨fun pins s σ H R I hw => thn (hl.run pins s σ H _ I hw) ?_⟩
  rintro v s1 ⟨x, H1, J, rv, q⟩
  rcases q with ⟨ad, rfl, ⟨xs, hx⟩, q⟩ | ⟨ad, rfl, ⟨xs, hx⟩, q⟩ | ⟨z, rfl, q⟩
  · cases rv
    obtain ⟨its, r, p, hz⟩ := J.list hx
    exact wpAny_pyIter_list p.isList (pi_one (tk := s1.toks) J _ (turn_list ad _) ⟨_, Heap.get?_push_size _ rfl, rfl, rfl⟩ q)
  · cases rv
    obtain ⟨its, r, p, hz⟩ := J.tuple hx
    exact wpAny_pyIter_tuple (show s1.heap.IsTuple ad its.toArray from p) (pi_one (tk := s1.toks) J _ (turn_tuple ad _) ⟨_, Heap.get?_push_size _ rfl, rfl, rfl⟩ q)
  · obtain ⟨t, rfl⟩ := rv
    cases wide : z.cps.all (· < 128)
    · exact wpAny_pyIter_wide wide (pi_one (tk := s1.toks) J _ (turn_str _ z t "str_iterator" (.inr rfl)) ⟨_, Heap.get?_push_size _ rfl, rfl, rfl⟩ q)
    · exact wpAny_pyIter_ascii wide (pi_one (tk := s1.toks) J _ (turn_str _ z t "str_ascii_iterator" (.inl rfl)) ⟨_, Heap.get?_push_size _ rfl, rfl, rfl⟩ q)
theorem sql_inj {p : Addr} {vs ws : List V} (e : H p = some (.lst vs)) (h : SqL K H p ws) (no : ¬ KLst K p ws) : ws = vs := by
  rcases h with (h | ⟨o, h⟩) | h
  · rw [e] at h; cases h; rfl
  · rw [e] at h; cases h
  · exact absurd h no
/-- a list's items at a turn: what the walk yields is what stands there -/
theorem walks_lst {p : Addr} {xs : List SD} : Walks K H1 (Itl K p) xs (fun h' => h' p = some (.lst xs)) := by
  intro i H h kp fz rh ok
  obtain ⟨vs, e, r⟩ := rh p _ ok
  have ln := r.length
  refine ⟨fun hi => ⟨vs, vs[i]'(by omega), SqL.of e, by simp⟩, fun hi => ⟨vs, SqL.of e, by omega⟩, ?_⟩
  rintro x H' ⟨rfl, y⟩ d hd
  obtain ⟨v, h1, h2⟩ := r.get hd
  have := y vs (SqL.of e)
  rw [h1] at this
  cases this
  exact ⟨h2, .refl, rh⟩
theorem walks_rol {p : Addr} {xs : List SD} {vs : List V} (t : (∃ o, H1 p = some (.frz o (.lst vs))) ∨ KLst K p vs) (r : Reps K H1 xs vs) : Walks K H1 (Itl K p) xs (fun _ => True) := by
  intro i H h kp fz rh ok
  have ln := r.length
  have hs : SqL K H p vs := rol_sql (t.imp (fun ⟨o, e⟩ => ⟨o, kp.2 _ _ _ e⟩) id)
  refine ⟨fun hi => ⟨vs, vs[i]'(by omega), hs, by simp⟩, fun hi => ⟨vs, hs, by omega⟩, ?_⟩
  rintro x H' ⟨rfl, y⟩ d hd
  obtain ⟨v, h1, h2⟩ := (r.kp kp).get hd
  have := y vs hs
  rw [h1] at this
  cases this
  exact ⟨h2, .refl, rh⟩
theorem walks_tup {p : Addr} {xs : List SD} {vs : List V} (t : H1 p = some (.tup vs) ∨ KTup K p vs) (r : Reps K H1 xs vs) : Walks K H1 (Itt K p) xs (fun _ => True) := by
  intro i H h kp fz rh ok
  have ln := r.length
  have hs : SqT K H p vs := (t.imp (kp.1 _ _) id).imp .inl id
  refine ⟨fun hi => ⟨vs, vs[i]'(by omega), hs, by simp⟩, fun hi => ⟨vs, hs, by omega⟩, ?_⟩
  rintro x H' ⟨rfl, y⟩ d hd
  obtain ⟨v, h1, h2⟩ := (r.kp kp).get hd
  have := y vs hs
  rw [h1] at this
  cases this
  exact ⟨h2, .refl, rh⟩
theorem walks_str {s : M.Sx} (ok : sOk s) : Walks K H1 (Its (sV s)) (s.map fun c => .str [c]) (fun _ => True) := by
  intro i H h kp fz rh _
  have sz : (sV s).cps.size = s.length := by simp [sV]
  refine ⟨fun hi => by show i < (sV s).cps.size; rw [sz]; simpa using hi, fun hi => by show (sV s).cps.size ≤ i; rw [sz]; simpa using hi, ?_⟩
  rintro x H' ⟨rfl, c, hc, rfl⟩ d hd
  rw [List.getElem?_map] at hd
  have e : s[i]? = some c := by
    rw [← Array.getElem?_toList, sV_cps] at hc
    exact hc
  rw [e] at hd
  simp only [Option.map_some, Option.some.injEq] at hd
  subst hd
  exact ⟨⟨rfl, fun z hz => by
    have : z = c := by simpa using hz
    subst this
    exact ok _ (List.mem_of_getElem? e)⟩, .refl, rh⟩
theorem walks_rng (lo hi : Int) (n : Nat) (hn : n = (hi - lo).toNat) : Walks K H1 (Itr lo n) (M.rangeL lo hi) (fun _ => True) := by
  intro i H h kp fz rh _
  have ln : (M.rangeL lo hi).length = n := by simp [M.rangeL, hn]
  refine ⟨fun q => by show i < n; omega, fun q => by show n ≤ i; omega, ?_⟩
  rintro x H' ⟨rfl, rfl⟩ d hd
  have hi : i < n := by rw [← ln]; exact (List.getElem?_eq_some_iff.mp hd).1
  simp only [M.rangeL, List.getElem?_map] at hd
  rw [List.getElem?_range (by omega)] at hd
  simp only [Option.map_some, Option.some.injEq] at hd
  subst hd
  exact ⟨rfl, .refl, rh⟩
theorem enumL_get : ∀ (xs : List SD) (k i : Nat) (d : SD), (M.enumL k xs)[i]? = some d → ∃ x, xs[i]? = some x ∧ d = .tup [.int ((k + i : Nat) : Int), x]
  | [], k, i, d, e => by simp [M.enumL] at e
  | x :: xs, k, 0, d, e => by
    simp only [M.enumL, List.getElem?_cons_zero, Option.some.injEq] at e
    exact ⟨x, rfl, e.symm⟩
  | x :: xs, k, i + 1, d, e => by
    simp only [M.enumL, List.getElem?_cons_succ] at e
    obtain ⟨y, h1, h2⟩ := enumL_get xs (k + 1) i d e
    refine ⟨y, by simpa using h1, ?_⟩
    rw [h2]
    have : k + 1 + i = k + (i + 1) := by omega
    rw [this]
theorem enumL_len : ∀ (xs : List SD) (k : Nat), (M.enumL k xs).length = xs.length
  | [], _ => rfl
  | x :: xs, k => by simp [M.enumL, enumL_len xs (k + 1)]
theorem walks_enum {p : Addr} {xs : List SD} : Walks K H1 (Ite K p) (M.enumL 0 xs) (fun h' => h' p = some (.lst xs)) := by
  intro i H h kp fz rh ok
  obtain ⟨vs, e, r⟩ := rh p _ ok
  have ln := r.length
  have ln2 := enumL_len xs 0
  refine ⟨fun hi => ⟨vs, vs[i]'(by omega), SqL.of e, by simp⟩, fun hi => ⟨vs, SqL.of e, by omega⟩, ?_⟩
  rintro x H' ⟨T, y, rfl, hn, rfl, hy⟩ d hd
  obtain ⟨z, h1, rfl⟩ := enumL_get xs 0 i d hd
  obtain ⟨v, h2, h3⟩ := r.get h1
  have := hy vs (SqL.of e)
  rw [h2] at this
  cases this
  refine ⟨⟨T, _, rfl, .inl upd_same, Reps.cons (by simp [Rep]) (.one (h3.kp (kp_new hn)))⟩, frm_hid hn, rh_hid rh hn⟩

theorem i_seq (hl : PE X e (lift X.F w)) : PI X tg e (liftI X.F .seq fun σ h Q => w σ h fun d h1 => Q [d] h1) := by
  refine PI.imp' (pi_seq hl) fun σ H R ⟨σa, h, Qd, rs, rh, q, k⟩ => ?_
  refine lift_go rs rh q fun d h1 v H1 q1 f1 r1 rh1 _ => ?_
  obtain ⟨QW, hw, kk⟩ := k _ _ q1
  cases d with
  | tup xs =>
    obtain ⟨ad, vs, ev, t, rr⟩ := r1
    exact .inr (.inl ⟨ad, ev, ⟨vs, t.imp .inl id⟩, kk _ _ _ _ hw f1 rh1 (walks_tup t rr)⟩)
  | rol xs =>
    obtain ⟨ad, vs, ev, t, rr⟩ := r1
    exact .inl ⟨ad, ev, ⟨vs, rol_sql t⟩, kk _ _ _ _ hw f1 rh1 (walks_rol t rr)⟩
  | str s => exact .inr (.inr ⟨sV s, r1.1, kk _ _ _ _ hw f1 rh1 (walks_str r1.2)⟩)
  | ref p =>
    simp only [M.walk] at hw
    cases e1 : h1 p with
    | none => rw [e1] at hw; exact hw.elim
    | some o => rw [e1] at hw; cases o with
      | lst xs =>
        obtain ⟨vs, e2, rr⟩ := rh1 p _ e1
        exact .inl ⟨p, r1, ⟨vs, SqL.of e2⟩, kk _ _ _ _ hw f1 rh1 walks_lst⟩
      | _ => exact hw.elim
  | _ => exact hw.elim
theorem walk_rng_inv {ds : List SD} {QW : List SD → (M.AH → Prop) → Prop} (q : M.walk .rng ds h QW) : (∃ n, ds = [.int n] ∧ -(2 ^ 62) ≤ n ∧ n < 2 ^ 62 ∧ QW (M.rangeL 0 n) fun _ => True) ∨
    (∃ a b, ds = [.int a, .int b] ∧ (-(2 ^ 62) ≤ a ∧ a < 2 ^ 62 ∧ -(2 ^ 62) ≤ b ∧ b < 2 ^ 62) ∧ QW (M.rangeL a b) fun _ => True) ∨
    ∃ a b c, ds = [.int a, .int b, .int c] ∧ (c = -1 ∧ -(2 ^ 62) ≤ a ∧ a < 2 ^ 62 ∧ -(2 ^ 62) ≤ b ∧ b < 2 ^ 62) ∧ QW (M.rangeL (b + 1) (a + 1)).reverse fun _ => True := by
  match ds with
  | [] => exact False.elim q
  | [d] => cases d with
    | int n => exact .inl ⟨n, rfl, q⟩
    | _ => exact False.elim q
  | [d, e] => cases d with
    | int a => cases e with
      | int b => exact .inr (.inl ⟨a, b, rfl, q⟩)
      | _ => exact False.elim q
    | _ => cases e <;> exact False.elim q
  | [d, e, f] => cases d with
    | int a => cases e with
      | int b => cases f with
        | int c => exact .inr (.inr ⟨a, b, c, rfl, q⟩)
        | _ => exact False.elim q
      | _ => cases f <;> exact False.elim q
    | _ => cases e <;> cases f <;> exact False.elim q
  | d :: e :: f :: g :: r => cases d <;> cases e <;> cases f <;> exact False.elim q
theorem i_rng1 {p : Pos} (hg : Gl X "range") (hm : X.mg "range" = none) (hs : starEach [a] X.env = [(false, eval a X.env)]) (ha : PE X a (lift X.F wa)) :
    PI X tg (.Call (.Name "range" p) [a] [] pos) (liftI X.F .rng fun σ h Q => wa σ h fun d h1 => Q [d] h1) := by
  refine PI.imp' (pi_range1 hg hm (pa_cons ha pa_nil hs) hs) fun σ H R ⟨σa, h, Qd, rs, rh, q, k⟩ => ?_
  refine lift_go rs rh q fun d h1 v H1 q1 f1 r1 rh1 _ => ?_
  obtain ⟨QW, hw, kk⟩ := k _ _ q1
  rcases walk_rng_inv hw with ⟨n, e, h1, h2, hw2⟩ | ⟨x, y, e, _⟩ | ⟨x, y, z, e, _⟩
  · cases e
    cases (show v = _ from r1)
    exact ⟨n, rfl, h1, h2, kk _ _ _ _ hw2 f1 rh1 (walks_rng 0 n _ (by simp))⟩
  · cases e
  · cases e
theorem i_rng2 {p : Pos} (hg : Gl X "range") (hm : X.mg "range" = none) (hs : starEach [a, b] X.env = [(false, eval a X.env), (false, eval b X.env)]) (hs2 : starEach [b] X.env = [(false, eval b X.env)]) (ha : PE X a (lift X.F wa)) (hb : PE X b (lift X.F wb)) :
    PI X tg (.Call (.Name "range" p) [a, b] [] pos) (liftI X.F .rng fun σ h Q => wa σ h fun d h1 => wb σ h1 fun d2 h2 => Q [d, d2] h2) := by
  refine PI.imp' (pi_range2 hg hm (pa_cons ha (pa_cons hb pa_nil hs2) (by rw [hs, hs2])) hs hs2) fun σ H R ⟨σa, h, Qd, rs, rh, q, k⟩ => ?_
  refine lift_go rs rh q fun d h1 v H1 q1 f1 r1 rh1 rs1 => lift_go rs1 rh1 q1 fun d2 h2 v2 H2 q2 f2 r2 rh2 rs2 => ?_
  obtain ⟨QW, hw, kk⟩ := k _ _ q2
  rcases walk_rng_inv hw with ⟨n, e, h1, h2, hw2⟩ | ⟨x, y, e, hb, hw2⟩ | ⟨x, y, z, e, _⟩
  · cases e
  · cases e
    cases (show v = _ from r1); cases (show v2 = _ from r2)
    exact ⟨x, y, rfl, hb, kk _ _ _ _ hw2 (f1.trans f2) rh2 (walks_rng x y _ rfl)⟩
  · cases e
theorem walks_rng3 (a b : Int) : Walks K H1 (Itc a (-1) (a - b).toNat) (M.rangeL (b + 1) (a + 1)).reverse (fun _ => True) := by
  intro i H h kp fz rh _
  have lr : (M.rangeL (b + 1) (a + 1)).length = (a - b).toNat := by simp [M.rangeL]; omega
  have ln : (M.rangeL (b + 1) (a + 1)).reverse.length = (a - b).toNat := by rw [List.length_reverse, lr]
  refine ⟨fun q => by show i < (a - b).toNat; omega, fun q => by show (a - b).toNat ≤ i; omega, ?_⟩
  rintro x H' ⟨rfl, rfl⟩ d hd
  have hi : i < (a - b).toNat := by rw [← ln]; exact (List.getElem?_eq_some_iff.mp hd).1
  rw [List.getElem?_reverse (by omega), lr] at hd
  simp only [M.rangeL, List.getElem?_map] at hd
  rw [List.getElem?_range (by omega)] at hd
  simp only [Option.map_some, Option.some.injEq] at hd
  subst hd
  have : a + ((i : Nat) : Int) * (-1) = b + 1 + (((a - b).toNat - 1 - i : Nat) : Int) := by omega
  rw [this]
  exact ⟨rfl, .refl, rh⟩
theorem i_rng3 {p : Pos} (hg : Gl X "range") (hm : X.mg "range" = none) (hs : starEach [a, b, c] X.env = [(false, eval a X.env), (false, eval b X.env), (false, eval c X.env)]) (hs2 : starEach [b, c] X.env = [(false, eval b X.env), (false, eval c X.env)]) (hs3 : starEach [c] X.env = [(false, eval c X.env)])
    (ha : PE X a (lift X.F wa)) (hb : PE X b (lift X.F wb)) (hc : PE X c (lift X.F wc)) :
    PI X tg (.Call (.Name "range" p) [a, b, c] [] pos) (liftI X.F .rng fun σ h Q => wa σ h fun d h1 => wb σ h1 fun d2 h2 => wc σ h2 fun d3 h3 => Q [d, d2, d3] h3) := by
  refine PI.imp' (pi_range3 hg hm (pa_cons ha (pa_cons hb (pa_cons hc pa_nil hs3) (by rw [hs2, hs3])) (by rw [hs, hs2])) (by rw [hs, hs2]) (by rw [hs2]; rfl)) fun σ H R ⟨σa, h, Qd, rs, rh, q, k⟩ => ?_
  refine lift_go rs rh q fun d h1 v H1 q1 f1 r1 rh1 rs1 => lift_go rs1 rh1 q1 fun d2 h2 v2 H2 q2 f2 r2 rh2 rs2 => lift_go rs2 rh2 q2 fun d3 h3 v3 H3 q3 f3 r3 rh3 rs3 => ?_
  obtain ⟨QW, hw, kk⟩ := k _ _ q3
  rcases walk_rng_inv hw with ⟨n, e, h1, h2, hw2⟩ | ⟨x, y, e, _⟩ | ⟨x, y, z, e, ⟨hz, h1, h2, h4, h5⟩, hw2⟩
  · cases e
  · cases e
  · cases e
    cases (show v = _ from r1); cases (show v2 = _ from r2); cases (show v3 = _ from r3)
    subst hz
    exact ⟨x, y, -1, (x - y).toNat, rfl, RgC.neg h1 h2 h4 h5, kk _ _ _ _ hw2 ((f1.trans f2).trans f3) rh3 (walks_rng3 x y)⟩
theorem walk_enum_inv {ds : List SD} {QW : List SD → (M.AH → Prop) → Prop} (q : M.walk .enum ds h QW) : ∃ p xs, ds = [.ref p] ∧ h p = some (.lst xs) ∧ QW (M.enumL 0 xs) fun h' => h' p = some (.lst xs) := by
  match ds with
  | [] => exact False.elim q
  | [d] => cases d with
    | ref p =>
      simp only [M.walk] at q
      cases e : h p with
      | none => rw [e] at q; exact q.elim
      | some o => rw [e] at q; cases o with
        | lst xs => exact ⟨p, xs, rfl, e, q⟩
        | _ => exact q.elim
    | _ => exact False.elim q
  | d :: e :: r => cases d <;> exact False.elim q
theorem i_enum {p tpos : Pos} {elts : List Expr} {kk : Nat} (hg : Gl X "enumerate") (hm : X.mg "enumerate" = none) (hs : starEach [a] X.env = [(false, eval a X.env)]) (ha : PE X a (lift X.F wa)) :
    PI X (.Tuple elts kk tpos) (.Call (.Name "enumerate" p) [a] [] pos) (liftI X.F .enum fun σ h Q => wa σ h fun d h1 => Q [d] h1) := by
  refine PI.imp' (pi_enum hg hm (pa_cons ha pa_nil hs) hs) fun σ H R ⟨σa, h, Qd, rs, rh, q, k⟩ => ?_
  refine lift_go rs rh q fun d h1 v H1 q1 f1 r1 rh1 _ => ?_
  obtain ⟨QW, hw, kk⟩ := k _ _ q1
  obtain ⟨p, xs, e, e1, hw2⟩ := walk_enum_inv hw
  cases e
  cases (show v = _ from r1)
  obtain ⟨vs, e2, rr⟩ := rh1 p _ e1
  exact ⟨p, vs, rfl, SqL.of e2, kk _ _ _ _ hw2 f1 rh1 walks_enum⟩

/-! ### targets -/
def gNames : List Nat → TGs
  | [] => gNil
  | i :: is => gCons (gName i) (gNames is)
def gOf (K : Fr) : M.Tgt → TG
  | .nm i => gName i
  | .tp ts => gTup K ts.length (gNames ts)
theorem rs_set {i : Nat} {d : SD} {v : V} (rs : RS K H σ σa) (r : Rep K H d v) : RS K H (σ.set i (some v)) (σa.set i (some d)) := by
  refine ⟨by simpa using rs.1, fun j e q => ?_⟩
  by_cases z : i = j
  · subst z
    by_cases hl : i < σa.length
    · rw [List.getElem?_set_self hl] at q
      cases q
      exact ⟨v, by rw [List.getElem?_set_self (by rw [rs.1]; exact hl)], r⟩
    · rw [List.getElem?_eq_none (by simpa using hl)] at q; cases q
  · rw [List.getElem?_set_ne z] at q
    obtain ⟨u, e1, e2⟩ := rs.2 j e q
    exact ⟨u, by rw [List.getElem?_set_ne z]; exact e1, e2⟩
theorem setTs_ok : ∀ {is : List Nat} {ds : List SD} {vs : List V} {σ : L2.St} {σa σb : M.St} {Q : L2.St → Hp → Prop}, M.setT.setTs is ds σa = some σb → RS K H σ σa → Reps K H ds vs → (∀ σ', RS K H σ' σb → Q σ' H) → gNames is vs σ H Q
  | [], [], vs, σ, σa, σb, Q, e, rs, r, k => by
    simp only [M.setT.setTs, Option.some.injEq] at e
    subst e
    exact ⟨r, k σ rs⟩
  | [], _ :: _, vs, σ, σa, σb, Q, e, _, _, _ => by simp [M.setT.setTs] at e
  | _ :: _, [], vs, σ, σa, σb, Q, e, _, _, _ => by simp [M.setT.setTs] at e
  | i :: is, d :: ds, vs, σ, σa, σb, Q, e, rs, ⟨v, r, ev, r1, r2⟩, k => by
    simp only [M.setT.setTs] at e
    exact ⟨v, r, ev, setTs_ok e (rs_set rs r1) r2 k⟩
theorem setTs_len : ∀ {is : List Nat} {ds : List SD} {σa σb : M.St}, M.setT.setTs is ds σa = some σb → is.length = ds.length
  | [], [], _, _, _ => rfl
  | [], _ :: _, _, _, e => by simp [M.setT.setTs] at e
  | _ :: _, [], _, _, e => by simp [M.setT.setTs] at e
  | i :: is, d :: ds, _, _, e => by simp only [M.setT.setTs] at e; simp [setTs_len e]
theorem setT_ok {t : M.Tgt} {d : SD} {v : V} {σb : M.St} {Q : L2.St → Hp → Prop} (e : M.setT t d σa = some σb) (rs : RS K H σ σa) (r : Rep K H d v) (k : ∀ σ', RS K H σ' σb → Q σ' H) : gOf K t v σ H Q := by
  cases t with
  | nm i =>
    simp only [M.setT, Option.some.injEq] at e
    subst e
    exact k _ (rs_set rs r)
  | tp ts =>
    cases d with
    | tup ds =>
      obtain ⟨ad, vs, ev, t, rr⟩ := r
      exact ⟨ad, vs, ev, t.imp .inl id, by rw [rr.length, setTs_len e], setTs_ok e rs rr k⟩
    | _ => simp [M.setT] at e
theorem wipe_rs (rs : RS K H σ σa) : ∀ vs : List Nat, RS K H (wipe σ vs) (M.forget σa vs)
  | [] => rs
  | v :: vs => by
    have ih := wipe_rs rs vs
    unfold wipe M.forget
    refine ⟨by simpa using ih.1, fun j e q => ?_⟩
    by_cases z : v = j
    · subst z
      by_cases hl : v < (M.forget σa vs).length
      · rw [List.getElem?_set_self hl] at q; cases q
      · rw [List.getElem?_eq_none (by simpa using hl)] at q; cases q
    · rw [List.getElem?_set_ne z] at q
      obtain ⟨u, e1, e2⟩ := ih.2 j e q
      exact ⟨u, by rw [List.getElem?_set_ne z]; exact e1, e2⟩
/-- storing to a comprehension's own names, then forgetting them -/
theorem wipe_set {i : Nat} {v : Option V} : ∀ {vs : List Nat} {σ : L2.St}, i ∈ vs → wipe (σ.set i v) vs = wipe σ vs
  | j :: vs, σ, hm => by
    unfold wipe
    by_cases z : i ∈ vs
    · rw [wipe_set z]
    · have e : j = i := by
        rcases List.mem_cons.mp hm with e | e
        · exact e.symm
        · exact absurd e z
      subst e
      have : ∀ {ws : List Nat} {τ : L2.St}, j ∉ ws → wipe (τ.set j v) ws = (wipe τ ws).set j v := by
        intro ws
        induction ws with
        | nil => intro τ _; rfl
        | cons k ws ih =>
          intro τ hk
          unfold wipe
          rw [ih (fun q => hk (List.mem_cons_of_mem _ q)), List.set_comm]
          exact fun q => hk (by rw [← q]; exact List.mem_cons_self)
      rw [this z, List.set_set]
theorem wipe_wipe : ∀ {vs : List Nat} {σ : L2.St}, wipe (wipe σ vs) vs = wipe σ vs := by
  have gen : ∀ {ws vs : List Nat} {σ : L2.St}, (∀ i ∈ ws, i ∈ vs) → wipe (wipe σ ws) vs = wipe σ vs := by
    intro ws
    induction ws with
    | nil => intro vs σ _; rfl
    | cons k ws ih =>
      intro vs σ hk
      show wipe ((wipe σ ws).set k none) vs = _
      rw [wipe_set (hk k List.mem_cons_self), ih (fun i hi => hk i (List.mem_cons_of_mem _ hi))]
  intro vs σ
  exact gen fun i hi => hi
def tgtIn (own : List Nat) : M.Tgt → Bool
  | .nm i => own.contains i
  | .tp ts => ts.all fun i => own.contains i
theorem gNames_wipe {own : List Nat} : ∀ {is : List Nat} {vs : List V} {σ : L2.St} {Q : L2.St → Hp → Prop}, (is.all fun i => own.contains i) = true → gNames is vs σ H Q → gNames is vs σ H fun σ' H' => wipe σ' own = wipe σ own ∧ Q σ' H'
  | [], _, _, _, _, ⟨e, q⟩ => ⟨e, rfl, q⟩
  | i :: is, vs, σ, Q, hi, ⟨v, r, e, q⟩ => by
    rw [List.all_cons] at hi
    obtain ⟨h1, h2⟩ := ba hi
    refine ⟨v, r, e, ?_⟩
    have q' := gNames_wipe h2 (show gNames is r (σ.set i (some v)) H Q from q)
    have e2 : wipe (σ.set i (some v)) own = wipe σ own := wipe_set (by simpa using h1)
    rw [e2] at q'
    exact q'
theorem gOf_wipe {own : List Nat} {t : M.Tgt} {v : V} {Q : L2.St → Hp → Prop} (ht : tgtIn own t = true) (q : gOf K t v σ H Q) : gOf K t v σ H fun σ' H' => wipe σ' own = wipe σ own ∧ Q σ' H' := by
  cases t with
  | nm i => exact ⟨wipe_set (by simpa [tgtIn] using ht), q⟩
  | tp ts =>
    obtain ⟨ad, xs, e, s, hl, q⟩ := q
    exact ⟨ad, xs, e, s, hl, gNames_wipe ht q⟩

/-! ### a comprehension -/
def tWith (K : Fr) (w : WE) : TT := liftT K w
theorem lc_ok {k : M.Itk} {wsrc : WA} {wif : WE} {welt : WE} {t : M.Tgt} {own : List Nat} {Q : VK} (ht : tgtIn own t = true)
    (q : lift K (fun σ h Q => wsrc σ h fun ds h1 => M.walk k ds h1 fun xs ok =>
      M.compW xs ok (fun x h2 yes no => match M.setT t x (M.forget σ own) with
        | some σ' => wif σ' h2 fun c h3 => match c with
          | .bl true => welt σ' h3 yes
          | .bl false => no h3
          | _ => False
        | none => False) (fun acc h2 => ∀ r, h2 r = none → Q (.ref r) (M.up h2 r (.lst acc))) h1) σ H Q) :
    tLc (liftI K k wsrc) (gOf K t) (liftT K wif) (lift K welt) own σ H Q := by
  obtain ⟨σa, h, Qa, rs, rh, q, kk⟩ := q
  have hl := line_eq
  refine ⟨σa, h, _, rs, rh, q, fun ds h1 q1 => ⟨_, q1, fun xs ok J H1 cw f1 rh1 wk => ?_⟩⟩
  intro D hD
  obtain ⟨P, p0, pok, hz, step, done⟩ := cw
  have rs1 := rs.kp (f1.kp rh)
  have kp0 : Kp H1 (upd H1 D (.lst [])) := kp_new hD
  have hD1 : h1 D = none := rh1.none hD
  -- the invariant: the new list is hidden
  let W : Nat → Nat → Hp → Prop := fun i m H' => m = xs.length - i ∧ i ≤ xs.length ∧ ∃ h' acc av, RH K H' h' ∧ Frm (upd H1 D (.lst [])) h1 (upd H' D (.lst [])) h' ∧ H' D = some (.lst av) ∧ h' D = none ∧ Reps K H' acc av ∧ P i acc h'
  have kpW : ∀ {H' : Hp} {h' : M.AH} {av : List V}, Frm (upd H1 D (.lst [])) h1 (upd H' D (.lst [])) h' → RH K (upd H1 D (.lst [])) h1 → Kp H1 H' := fun {H' h' av} f r => by
    refine ⟨fun ad vs e => ?_, fun ad ob u e => ?_⟩
    · have ne := ne_of_none e hD
      have := (f.kp r).1 ad vs (by rw [upd_ne ne]; exact e)
      rw [upd_ne ne] at this; exact this
    · have ne := ne_of_none e hD
      have := (f.kp r).2 ad ob u (by rw [upd_ne ne]; exact e)
      rw [upd_ne ne] at this; exact this
  have rh1' : RH K (upd H1 D (.lst [])) h1 := rh_hid rh1 hD
  refine ⟨W, ⟨xs.length, by simp, Nat.zero_le _, h1, [], [], rh1', by rw [upd_upd]; exact .refl, upd_same, hD1, rfl, p0⟩, ?_⟩
  rintro i m H' ⟨rfl, hi, h', acc, av, rh', f', hDv, hDn, ra, p⟩
  obtain ⟨hok, hacc⟩ := pok i acc h' p
  have kp' : Kp H1 H' := kpW (av := av) f' rh1'
  have fz' : Fz H1 H' := fun ad ob u e => by
    have ne := ne_of_none e hD
    have := (f'.fz rh1') ad ob u (by rw [upd_ne ne]; exact e)
    rw [upd_ne ne] at this; exact this
  obtain ⟨wg, ws, wy⟩ := wk i H' h' kp' fz' rh' hok
  have frmBack : ∀ {H2 : Hp} {h2 : M.AH}, Frm H' h' H2 h2 → Frm (upd H1 D (.lst [])) h1 (upd H2 D (.lst [])) h2 := fun {H2 h2} f2 ad o e n => by
    obtain ⟨e1, n1⟩ := f' ad o e n
    by_cases z : ad = D
    · subst z
      obtain ⟨_, n2⟩ := f2 ad _ hDv (.none hDn)
      rw [upd_same] at e1
      exact ⟨by rw [upd_same]; exact e1, n2.trans n1⟩
    · rw [upd_ne z] at e1 ⊢
      obtain ⟨e2, n2⟩ := f2 ad o e1 (n.eq n1)
      exact ⟨e2, n2.trans n1⟩
  by_cases hlt : i < xs.length
  · refine .inr ⟨wg hlt, fun H2 => W (i + 1) (xs.length - (i + 1)) H2, fun H2 hw => ⟨_, by omega, hw⟩, fun x H2 y => ?_⟩
    obtain ⟨rx, f2, rh2⟩ := wy x H2 y _ (List.getElem?_eq_getElem hlt)
    have sp := step i _ acc h' (List.getElem?_eq_getElem hlt) p
    dsimp only at sp
    cases e : M.setT t xs[i] (M.forget σa own) with
    | none => rw [e] at sp; exact sp.elim
    | some σb =>
      rw [e] at sp
      have rsw : RS K H2 (wipe σ own) (M.forget σa own) := wipe_rs ((rs1.kp kp').kp (f2.kp rh')) own
      have g := setT_ok (Q := fun σ2 H3 => H3 = H2 ∧ RS K H2 σ2 σb) e rsw rx fun σ' r' => ⟨rfl, r'⟩
      have g2 := gOf_wipe ht g
      have gmono : ∀ {Q1 Q2 : L2.St → Hp → Prop} {τ : L2.St} {v : V}, (∀ s Hh, Q1 s Hh → Q2 s Hh) → gOf K t v τ H2 Q1 → gOf K t v τ H2 Q2 := by
        intro Q1 Q2 τ v imp g
        have gn : ∀ {is : List Nat} {vs : List V} {τ : L2.St}, gNames is vs τ H2 Q1 → gNames is vs τ H2 Q2 := by
          intro is
          induction is with
          | nil => intro vs τ ⟨e, q⟩; exact ⟨e, imp _ _ q⟩
          | cons j js ih => intro vs τ ⟨v, r, e, q⟩; exact ⟨v, r, e, ih q⟩
        cases t with
        | nm j => exact imp _ _ g
        | tp ts => obtain ⟨ad, ys, e1, e2, e3, g⟩ := g; exact ⟨ad, ys, e1, e2, e3, gn g⟩
      refine gmono ?_ g2
      rintro σ2 H3 ⟨wp, rfl, rsb⟩
      refine ⟨wp.trans wipe_wipe, ?_⟩
      refine ⟨σb, h', _, rsb, rh2, sp, fun c h3 q3 => ?_⟩
      have fD : ∀ {H4 : Hp} {h4 : M.AH}, Frm H3 h' H4 h4 → Frm H' h' H4 h4 := fun f4 => f2.trans f4
      cases c with
      | bl b =>
        refine ⟨b, rfl, fun H4 f4 rh4 => ?_⟩
        cases b with
        | true =>
          rw [if_pos rfl]
          refine lift_go (rsb.kp (f4.kp rh2)) rh4 q3 fun d h5 v H5 q5 f5 r5 rh5 _ => ?_
          have ft := (fD f4).trans f5
          obtain ⟨e5, n5⟩ := ft D _ hDv (.none hDn)
          rw [hDn] at n5
          have ra5 := ra.kp (ft.kp rh')
          have ln := ra.length
          refine ⟨av, e5, by omega, rfl, by omega, h5, acc ++ [d], av ++ [v], ?_, ?_, upd_same, n5, ?_, q5⟩
          · refine fun ad o ea => (rh5 ad o ea).kp ?_ ?_
            · refine ⟨fun ad vs e => ?_, fun ad ob u e => ?_⟩
              · rw [upd_ne (fun z => by subst z; rw [e5] at e; cases e)]; exact e
              · rw [upd_ne (fun z => by subst z; rw [e5] at e; cases e)]; exact e
            · exact upd_ne (fun z => by subst z; rw [n5] at ea; cases ea)
          · rw [upd_upd]; exact frmBack ft
          · have kp5 : Kp H5 (upd H5 D (.lst (av ++ [v]))) := by
              refine ⟨fun ad vs e => ?_, fun ad ob u e => ?_⟩
              · rw [upd_ne (fun z => by subst z; rw [e5] at e; cases e)]; exact e
              · rw [upd_ne (fun z => by subst z; rw [e5] at e; cases e)]; exact e
            exact (ra5.append (.one r5)).kp kp5
        | false =>
          rw [if_neg Bool.false_ne_true]
          have ft := fD f4
          obtain ⟨e4, n4⟩ := ft D _ hDv (.none hDn)
          rw [hDn] at n4
          exact ⟨rfl, by omega, h3, acc, av, rh4, frmBack ft, e4, n4, ra.kp (ft.kp rh'), q3⟩
      | _ => exact q3.elim
  · have e : i = xs.length := by omega
    subst e
    refine .inl ⟨ws (Nat.le_refl _), ?_⟩
    have dn := done acc h' p D hDn
    refine kk _ _ _ _ dn (fun ad o e n => ?_) rfl (fun ad o e => ?_)
    · obtain ⟨e1, n1⟩ := f1 ad o e n
      have ne := ne_of_none e1 hD
      obtain ⟨e2, n2⟩ := f' ad o (by rw [upd_ne ne]; exact e1) (n.eq n1)
      rw [upd_ne ne] at e2
      exact ⟨e2, by rw [up_ne ne, n2, n1]⟩
    · by_cases z : ad = D
      · subst z
        rw [up_same] at e
        cases e
        exact ⟨av, hDv, ra⟩
      · rw [up_ne z] at e
        exact rh' ad o e

/-! ### statements -/
structure KontS (K : Fr) (H : Hp) (h : M.AH) (R : M.Ends) (D : L2.Ends) : Prop where
  nx : ∀ σa h' σ H', R.nx σa h' → Frm H h H' h' → RS K H' σ σa → RH K H' h' → D.nx σ H'
  rt : Kont K H h R.rt D.rt
  bk : ∀ σa h' σ H', R.bk σa h' → Frm H h H' h' → RS K H' σ σa → RH K H' h' → D.bk σ H'
  ct : ∀ σa h' σ H', R.ct σa h' → Frm H h H' h' → RS K H' σ σa → RH K H' h' → D.ct σ H'
theorem KontS.go {R : M.Ends} {D : L2.Ends} (k : KontS K H h R D) (f : Frm H h H1 h1) : KontS K H1 h1 R D :=
  ⟨fun σa h' σ H' q f' => k.nx σa h' σ H' q (f.trans f'), k.rt.go f, fun σa h' σ H' q f' => k.bk σa h' σ H' q (f.trans f'), fun σa h' σ H' q f' => k.ct σa h' σ H' q (f.trans f')⟩
abbrev WS := M.Ends → M.St → M.AH → Prop
def liftS (K : Fr) (w : WS) : TS := fun D σ H => ∃ σa h R, RS K H σ σa ∧ RH K H h ∧ w R σa h ∧ KontS K H h R D
theorem _root_.L2.PS.imp {X : L2.Cx} {e : Stmt} {t t' : TS} (a : PS X e t) (i : ∀ D σ H, t' D σ H → t D σ H) : PS X e t' := ⟨fun pins s σ H D I h => a.run pins s σ H D I (i D σ H h)⟩
theorem _root_.L2.PSs.imp {X : L2.Cx} {e : List Stmt} {t t' : TS} (a : PSs X e t) (i : ∀ D σ H, t' D σ H → t D σ H) : PSs X e t' := ⟨fun pins s σ H D I h => a.run pins s σ H D I (i D σ H h)⟩
variable {st : Stmt} {ss : List Stmt} {ws ws2 : WS}
theorem liftS_go {R : M.Ends} {D : L2.Ends} (rs : RS K H σ σa) (rh : RH K H h) (q : ws R σa h) (k : KontS K H h R D) : liftS K ws D σ H := ⟨σa, h, R, rs, rh, q, k⟩
theorem ss_nil : PSs X [] (liftS X.F fun R σ h => R.nx σ h) := pss_nil.imp fun D σ H ⟨σa, h, R, rs, rh, q, k⟩ => k.nx _ _ _ _ q .refl rs rh
theorem ss_cons (h1 : PS X st (liftS X.F ws)) (h2 : PSs X ss (liftS X.F ws2)) : PSs X (st :: ss) (liftS X.F fun R σ h => ws { R with nx := fun σ' h' => ws2 R σ' h' } σ h) := by
  refine (pss_cons h1 h2).imp fun D σ H ⟨σa, h, R, rs, rh, q, k⟩ => ?_
  exact liftS_go rs rh q ⟨fun σb h' σ' H' q' f rs' rh' => liftS_go rs' rh' q' (k.go f), k.rt, k.bk, k.ct⟩
theorem ss_pass : PS X (.Pass pos) (liftS X.F fun R σ h => R.nx σ h) := ps_pass.imp fun D σ H ⟨σa, h, R, rs, rh, q, k⟩ => k.nx _ _ _ _ q .refl rs rh
theorem ss_brk : PS X (.Break pos) (liftS X.F fun R σ h => R.bk σ h) := ps_break.imp fun D σ H ⟨σa, h, R, rs, rh, q, k⟩ => k.bk _ _ _ _ q .refl rs rh
theorem ss_cont : PS X (.Continue pos) (liftS X.F fun R σ h => R.ct σ h) := ps_continue.imp fun D σ H ⟨σa, h, R, rs, rh, q, k⟩ => k.ct _ _ _ _ q .refl rs rh
theorem ss_expr (hs : swapsWith e none pos.line X.env = pure false) (he : PE X e (lift X.F w)) : PS X (.Expr e pos) (liftS X.F fun R σ h => w σ h fun _ h1 => R.nx σ h1) := by
  refine (ps_expr he hs).imp fun D σ H ⟨σa, h, R, rs, rh, q, k⟩ => ?_
  exact lift_go rs rh q fun d h1 v H1 q1 f1 r1 rh1 rs1 => k.nx _ _ _ _ q1 f1 rs1 rh1
theorem ss_ret (he : PE X e (lift X.F w)) : PS X (.Return (some e) pos) (liftS X.F fun R σ h => w σ h R.rt) := by
  refine (ps_ret he).imp fun D σ H ⟨σa, h, R, rs, rh, q, k⟩ => ?_
  exact lift_go rs rh q fun d h1 v H1 q1 f1 r1 rh1 rs1 => k.rt _ _ _ _ q1 f1 r1 rh1
theorem ss_retN : PS X (.Return none pos) (liftS X.F fun R σ h => R.rt .non h) := ps_retN.imp fun D σ H ⟨σa, h, R, rs, rh, q, k⟩ => k.rt _ _ _ _ q .refl rfl rh
theorem ss_ife {ls rs' : List Stmt} (hc : PT X c (liftT X.F wc)) (ha : PSs X ls (liftS X.F ws)) (hb : PSs X rs' (liftS X.F ws2)) : PS X (.If c ls rs' pos) (liftS X.F fun R σ h => wc σ h fun d h1 => match d with
    | .bl b => (match b with
      | true => ws R σ h1
      | false => ws2 R σ h1)
    | _ => False) := by
  refine (ps_if hc ha hb).imp fun D σ H ⟨σa, h, R, rs, rh, q, k⟩ => ?_
  refine ⟨σa, h, _, rs, rh, q, fun d h' q1 => ?_⟩
  cases d with
  | bl b =>
    refine ⟨b, rfl, fun H' f rh' => ?_⟩
    cases b with
    | true => exact liftS_go (rs.kp (f.kp rh)) rh' q1 (k.go f)
    | false => exact liftS_go (rs.kp (f.kp rh)) rh' q1 (k.go f)
  | _ => exact q1.elim
theorem ss_whl (hp : PassesOwn (model X.prog X.w) X.A X.env X.xe) (hc : PT X c (liftT X.F wc)) (hb : PSs X ss (liftS X.F ws)) : PS X (.While c ss [] pos) (liftS X.F fun R σ h => ∃ W : Nat → M.St → M.AH → Prop, (∃ m, W m σ h) ∧ ∀ m σ h, W m σ h → wc σ h fun d h1 => match d with
    | .bl b => (match b with
      | true => ws { nx := fun σ' h' => ∃ m', m' < m ∧ W m' σ' h', ct := fun σ' h' => ∃ m', m' < m ∧ W m' σ' h', bk := R.nx, rt := R.rt } σ h1
      | false => R.nx σ h1)
    | _ => False) := by
  refine (ps_while hp hc hb).imp fun D σ H ⟨σa, h, R, rs, rh, ⟨W, ⟨m, w0⟩, step⟩, k⟩ => ?_
  refine ⟨fun m σ H' => ∃ σa h', RS X.F H' σ σa ∧ RH X.F H' h' ∧ Frm H h H' h' ∧ W m σa h', ⟨m, σa, h, rs, rh, .refl, w0⟩, ?_⟩
  rintro m σ H' ⟨σa, h', rs, rh, f, w⟩
  refine ⟨σa, h', _, rs, rh, step m σa h' w, fun d h1 q1 => ?_⟩
  cases d with
  | bl b =>
    refine ⟨b, rfl, fun H1 f1 rh1 => ?_⟩
    have rs1 := rs.kp (f1.kp rh)
    cases b with
    | true =>
      refine iteT ?_
      refine ⟨fun σ2 H2 => ∃ m', m' < m ∧ ∃ σa h', RS X.F H2 σ2 σa ∧ RH X.F H2 h' ∧ Frm H h H2 h' ∧ W m' σa h', fun σ2 H2 z => z, ?_⟩
      refine liftS_go rs1 rh1 q1 ⟨?_, k.rt.go (f.trans f1), ?_, ?_⟩
      · rintro σb h2 σ2 H2 ⟨m', hm, w'⟩ f2 rs2 rh2
        exact ⟨m', hm, σb, h2, rs2, rh2, (f.trans f1).trans f2, w'⟩
      · intro σb h2 σ2 H2 z f2 rs2 rh2
        exact k.nx _ _ _ _ z ((f.trans f1).trans f2) rs2 rh2
      · rintro σb h2 σ2 H2 ⟨m', hm, w'⟩ f2 rs2 rh2
        exact ⟨m', hm, σb, h2, rs2, rh2, (f.trans f1).trans f2, w'⟩
    | false =>
      refine iteF ?_
      exact k.nx _ _ _ _ q1 (f.trans f1) rs1 rh1
  | _ => exact q1.elim
theorem gOf_mono {t : M.Tgt} {Q1 Q2 : L2.St → Hp → Prop} {τ : L2.St} {v : V} (imp : ∀ s, Q1 s H → Q2 s H) (g : gOf K t v τ H Q1) : gOf K t v τ H Q2 := by
  have gn : ∀ {is : List Nat} {vs : List V} {τ : L2.St}, gNames is vs τ H Q1 → gNames is vs τ H Q2 := by
    intro is
    induction is with
    | nil => intro vs τ ⟨e, q⟩; exact ⟨e, imp _ q⟩
    | cons j js ih => intro vs τ ⟨v, r, e, q⟩; exact ⟨v, r, e, ih q⟩
  cases t with
  | nm j => exact imp _ g
  | tp ts => obtain ⟨ad, ys, e1, e2, e3, g⟩ := g; exact ⟨ad, ys, e1, e2, e3, gn g⟩
theorem ss_for {k : M.Itk} {t : M.Tgt} {wsrc : WA} {iter : Expr} (hp : PassesOwn (model X.prog X.w) X.A X.env X.xe) (hcalm : X.calm = true) (hi : PI X tg iter (liftI X.F k wsrc)) (hg : PG X tg (gOf X.F t)) (hb : PSs X ss (liftS X.F ws)) (hs : ∀ x, foldedSetIterable iter X.env x = pure x) :
    PS X (.For tg iter ss [] pos) (liftS X.F fun R σ h => wsrc σ h fun ds h1 => M.walk k ds h1 fun xs ok =>
      M.loopW xs ok (fun x σ h P => match M.setT t x σ with
        | some σ' => ws { nx := P, ct := P, bk := R.nx, rt := R.rt } σ' h
        | none => False) R.nx σ h1) := by
  refine (ps_for hp hcalm hi hg hb hs).imp fun D σ H ⟨σa, h, R, rs, rh, q, kk⟩ => ?_
  refine ⟨σa, h, _, rs, rh, q, fun ds h1 q1 => ⟨_, q1, fun xs ok J H1 lw f1 rh1 wk => ?_⟩⟩
  obtain ⟨P, p0, pok, step, done⟩ := lw
  let W : Nat → Nat → L2.St → Hp → Prop := fun i m σ2 H' => m = xs.length - i ∧ i ≤ xs.length ∧ ∃ σb h', RS X.F H' σ2 σb ∧ RH X.F H' h' ∧ Frm H1 h1 H' h' ∧ P i σb h'
  refine ⟨W, ⟨xs.length, by simp, Nat.zero_le _, σa, h1, rs.kp (f1.kp rh), rh1, .refl, p0⟩, ?_⟩
  rintro i m σ2 H' ⟨rfl, hi, σb, h', rs2, rh2, f2, p⟩
  have hok := pok i σb h' p
  obtain ⟨wg, wst, wy⟩ := wk i H' h' (f2.kp rh1) (f2.fz rh1) rh2 hok
  by_cases hlt : i < xs.length
  · refine .inr ⟨wg hlt, fun σ3 H3 => W (i + 1) (xs.length - (i + 1)) σ3 H3, fun σ3 H3 z => ⟨_, by omega, z⟩, fun x H3 y => ?_⟩
    obtain ⟨rx, f3, rh3⟩ := wy x H3 y _ (List.getElem?_eq_getElem hlt)
    have sp := step i _ σb h' (List.getElem?_eq_getElem hlt) p
    dsimp only at sp
    cases e : M.setT t xs[i] σb with
    | none => rw [e] at sp; exact sp.elim
    | some σc =>
      rw [e] at sp
      have rs3 := rs2.kp (f3.kp rh2)
      refine setT_ok e rs3 rx fun σ4 rs4 => ?_
      have ft := (f1.trans f2).trans f3
      refine liftS_go rs4 rh3 sp ⟨?_, kk.rt.go ft, ?_, ?_⟩
      · intro σd h4 σ5 H5 z f5 rs5 rh5
        exact ⟨rfl, by omega, σd, h4, rs5, rh5, (f2.trans f3).trans f5, z⟩
      · intro σd h4 σ5 H5 z f5 rs5 rh5
        exact kk.nx _ _ _ _ z (ft.trans f5) rs5 rh5
      · intro σd h4 σ5 H5 z f5 rs5 rh5
        exact ⟨rfl, by omega, σd, h4, rs5, rh5, (f2.trans f3).trans f5, z⟩
  · have e : i = xs.length := by omega
    subst e
    exact .inl ⟨wst (Nat.le_refl _), kk.nx _ _ _ _ (done _ _ p) (f1.trans f2) rs2 rh2⟩
theorem ss_asg {t : M.Tgt} (he : PE X e (lift X.F w)) (hg : PG X tg (gOf X.F t)) (hs : swapsWithSole [tg] e pos.line X.env = pure false) (hw : swappedStores [tg] e X.env = pure none) (h1 : (assignEach [tg] X.env).map (·.2) = [assign tg X.env]) :
    PS X (.Assign [tg] e pos) (liftS X.F fun R σ h => w σ h fun d h1 => match M.setT t d σ with | some σ' => R.nx σ' h1 | none => False) := by
  refine (ps_asg he hg hs hw h1).imp fun D σ H ⟨σa, h, R, rs, rh, q, k⟩ => ?_
  refine lift_go rs rh q fun d h1 v H1 q1 f1 r1 rh1 rs1 => ?_
  cases e1 : M.setT t d σa with
  | none => rw [e1] at q1; exact q1.elim
  | some σb =>
    rw [e1] at q1
    exact setT_ok e1 rs1 r1 fun σ' rs' => k.nx _ _ _ _ q1 f1 rs' rh1
theorem ss_six {o i : Expr} {wo wi : WE} {p' : Pos} (hu : X.A.units + 200 < cLine) (he : PE X e (lift X.F w)) (ho : PE X o (lift X.F wo)) (hi : PE X i (lift X.F wi))
    (ha : ∀ v, assign (.Subscript o i p') X.env v = (do
      let ov ← holding [v] (eval o X.env)
      let iv ← holding [v, ov] (eval i X.env)
      standAt p'
      holding [v, ov, iv] (setItem ov iv v)
      release [v, ov, iv] [])) (hs : swapsWithSole [.Subscript o i p'] e pos.line X.env = pure false) (hw : swappedStores [.Subscript o i p'] e X.env = pure none) (h1 : (assignEach [.Subscript o i p'] X.env).map (·.2) = [assign (.Subscript o i p') X.env]) :
    PS X (.Assign [.Subscript o i p'] e pos) (liftS X.F fun R σ h => w σ h fun v h1 => wo σ h1 fun x h2 => wi σ h2 fun y h3 => M.opSet x y v h3 fun h4 => R.nx σ h4) := by
  refine (ps_asg he (pg_sub ho hi (set_all (by omega)) ha) hs hw h1).imp fun D σ H ⟨σa, h, R, rs, rh, q, k⟩ => ?_
  refine lift_go rs rh q fun dv h1 v H1 q1 f1 r1 rh1 rs1 => lift_go rs1 rh1 q1 fun dx h2 x H2 q2 f2 r2 rh2 rs2 => lift_go rs2 rh2 q2 fun dy h3 y H3 q3 f3 r3 rh3 rs3 => ?_
  refine set_ok rh3 (r2.kp (f3.kp rh2)) r3 ((r1.kp (f2.kp rh1)).kp (f3.kp rh2)) q3 fun h4 H4 q4 f4 rh4 => ?_
  exact k.nx _ _ _ _ q4 (((f1.trans f2).trans f3).trans f4) (rs3.kp (f4.kp rh3)) rh4
def iop : M.Bop → Operator := bop
theorem op_iadd : OpR X (inplaceOp .Add) (fun x y H Q => (rI0 fun i j => .int (i + j)) x y H Q ∨ rAddS x y H Q) := iop_add.or iop_add_str
end
end Snd
end
section
/-! Sound6b: locked dicts and their walks; reversed; zip. -/
namespace Snd
open PySem L2 PySem.Spec PyProof.Rows
section
variable {X : L2.Cx} {K : Fr} {σ : L2.St} {σa : M.St} {H H1 : Hp} {h h1 : M.AH} {w wa wb wc : WE} {Qa : M.VQ} {a b c e : Expr} {pos : Pos} {tg : Expr}
theorem walks_rev {p : Addr} {xs : List SD} {vs : List V} (e0 : H1 p = some (.lst vs)) (r0 : Reps K H1 xs vs) : Walks K H1 (Itv K p vs.length) xs.reverse (fun h' => h' p = some (.lst xs)) := by
  intro i H h kp fz rh ok
  obtain ⟨ws, e, r⟩ := rh p _ ok
  have ln := r.length
  have ln0 := r0.length
  refine ⟨fun hi => ⟨by simp at hi; omega, ws, ws[vs.length - 1 - i]'(by simp at hi; omega), SqL.of e, by simp⟩, fun hi => by simp at hi; show vs.length ≤ i; omega, ?_⟩
  rintro x H' ⟨rfl, y⟩ d hd
  have hi : i < xs.length := by have := (List.getElem?_eq_some_iff.mp hd).1; simpa using this
  rw [List.getElem?_reverse hi] at hd
  obtain ⟨v, h1, h2⟩ := r.get hd
  have := y ws (SqL.of e)
  rw [show vs.length - 1 - i = xs.length - 1 - i by omega, h1] at this
  cases this
  exact ⟨h2, .refl, rh⟩
theorem walks_revT {p : Addr} {xs : List SD} {vs : List V} (t : H1 p = some (.tup vs) ∨ KTup K p vs) (r : Reps K H1 xs vs) : Walks K H1 (RT.ItvT K p vs.length) xs.reverse (fun _ => True) := by
  intro i H h kp fz rh ok
  have ln := r.length
  have hs : SqT K H p vs := (t.imp (kp.1 _ _) id).imp .inl id
  refine ⟨fun hi => ⟨by simp at hi; omega, vs, vs[vs.length - 1 - i]'(by simp at hi; omega), hs, by simp⟩, fun hi => by simp at hi; show vs.length ≤ i; omega, ?_⟩
  rintro x H' ⟨rfl, y⟩ d hd
  have hi : i < xs.length := by have := (List.getElem?_eq_some_iff.mp hd).1; simpa using this
  rw [List.getElem?_reverse hi] at hd
  obtain ⟨v, h1, h2⟩ := (r.kp kp).get hd
  have := y vs hs
  rw [show vs.length - 1 - i = xs.length - 1 - i by omega, h1] at this
  cases this
  exact ⟨h2, .refl, rh⟩
theorem zipL_get : ∀ (xs ys : List SD) (i : Nat) (d : SD), (M.zipL xs ys)[i]? = some d → ∃ x y, xs[i]? = some x ∧ ys[i]? = some y ∧ d = .tup [x, y]
  | [], _, i, d, e => by simp [M.zipL] at e
  | _ :: _, [], i, d, e => by simp [M.zipL] at e
  | x :: xs, y :: ys, 0, d, e => by simp [M.zipL] at e; exact ⟨x, y, rfl, rfl, e.symm⟩
  | x :: xs, y :: ys, i + 1, d, e => by
    obtain ⟨a, b, h1, h2, h3⟩ := zipL_get xs ys i d (by simpa [M.zipL] using e)
    exact ⟨a, b, by simpa using h1, by simpa using h2, h3⟩
theorem zipL_len : ∀ (xs ys : List SD), (M.zipL xs ys).length = min xs.length ys.length
  | [], _ => by simp [M.zipL]
  | _ :: _, [] => by simp [M.zipL]
  | x :: xs, y :: ys => by simp [M.zipL, zipL_len xs ys]
theorem walks_zipT {p q : Addr} {xs ys : List SD} {vs ws : List V} (t1 : H1 p = some (.tup vs) ∨ KTup K p vs) (t2 : H1 q = some (.tup ws) ∨ KTup K q ws) (r1 : Reps K H1 xs vs) (r2 : Reps K H1 ys ws) : Walks K H1 (RZ.ItzT K p q) (M.zipL xs ys) (fun _ => True) := by
  intro i H h kp fz rh ok
  have ln1 := r1.length
  have ln2 := r2.length
  have lz := zipL_len xs ys
  have hs1 : SqT K H p vs := (t1.imp (kp.1 _ _) id).imp .inl id
  have hs2 : SqT K H q ws := (t2.imp (kp.1 _ _) id).imp .inl id
  refine ⟨fun hi => ⟨vs, ws, vs[i]'(by omega), ws[i]'(by omega), hs1, hs2, by simp, by simp⟩, fun hi => ⟨vs, ws, hs1, hs2, by omega⟩, ?_⟩
  rintro x H' ⟨T, y, z, rfl, hn, rfl, hy, hz⟩ d hd
  obtain ⟨d1, d2, g1, g2, rfl⟩ := zipL_get xs ys i d hd
  obtain ⟨v1, g3, g4⟩ := (r1.kp kp).get g1
  obtain ⟨v2, g5, g6⟩ := (r2.kp kp).get g2
  have e1 := hy vs hs1
  have e2 := hz ws hs2
  rw [g3] at e1; cases e1
  rw [g5] at e2; cases e2
  exact ⟨⟨T, _, rfl, .inl upd_same, Reps.cons (g4.kp (kp_new hn)) (.one (g6.kp (kp_new hn)))⟩, frm_hid hn, rh_hid rh hn⟩
section
variable {p : Addr} {od : Obj} {kvs : List (SD × SD)} {ps : List (Key × V)}
theorem pr_get (pr : Paired (PR K H R0) kvs ps) {i : Nat} {x : SD × SD} (e : kvs[i]? = some x) : ∃ q, ps[i]? = some q ∧ R0 x.1 q.1 ∧ Rep K H x.2 q.2 := by
  obtain ⟨y, h1, h2⟩ := LiI.paired_get pr e
  exact ⟨y, h1, h2.1, h2.2⟩
theorem R0.rep {d : SD} {k : Key} (r : R0 d k) : Rep K H d (kV k) := by
  obtain ⟨e, s⟩ := r
  cases d <;> simp [keyV] at e
  · subst e; exact rfl
  · subst e; exact ⟨rfl, s _ rfl⟩
theorem walks_keys (e0 : H1 p = some (.frz od (.dK ps))) (pr : Paired (PR K H1 R0) kvs ps) : Walks K H1 (Itk p od ps) (kvs.map (·.1)) (fun _ => True) := by
  intro i H h kp fz rh ok
  have ln := Paired.length pr
  have e := fz _ _ _ e0
  refine ⟨fun hi => ⟨e, by simp at hi; omega⟩, fun hi => ⟨e, by simp at hi; omega⟩, ?_⟩
  rintro x H' ⟨rfl, k, v, h1, rfl⟩ d hd
  rw [List.getElem?_map] at hd
  cases hk : kvs[i]? with
  | none => rw [hk] at hd; cases hd
  | some kv =>
    rw [hk] at hd
    cases hd
    obtain ⟨q, g1, g2, g3⟩ := pr_get pr hk
    rw [g1] at h1; cases h1
    exact ⟨g2.rep, .refl, rh⟩
theorem walks_vals (e0 : H1 p = some (.frz od (.dK ps))) (pr : Paired (PR K H1 R0) kvs ps) : Walks K H1 (Itd p od ps) (kvs.map (·.2)) (fun _ => True) := by
  intro i H h kp fz rh ok
  have ln := Paired.length pr
  have e := fz _ _ _ e0
  refine ⟨fun hi => ⟨e, by simp at hi; omega⟩, fun hi => ⟨e, by simp at hi; omega⟩, ?_⟩
  rintro x H' ⟨rfl, k, h1⟩ d hd
  rw [List.getElem?_map] at hd
  cases hk : kvs[i]? with
  | none => rw [hk] at hd; cases hd
  | some kv =>
    rw [hk] at hd
    cases hd
    obtain ⟨q, g1, g2, g3⟩ := pr_get pr hk
    rw [g1] at h1; cases h1
    exact ⟨g3.kp kp, .refl, rh⟩
theorem walks_items (e0 : H1 p = some (.frz od (.dK ps))) (pr : Paired (PR K H1 R0) kvs ps) : Walks K H1 (Iti p od ps) (kvs.map fun kv => .tup [kv.1, kv.2]) (fun _ => True) := by
  intro i H h kp fz rh ok
  have ln := Paired.length pr
  have e := fz _ _ _ e0
  refine ⟨fun hi => ⟨e, by simp at hi; omega⟩, fun hi => ⟨e, by simp at hi; omega⟩, ?_⟩
  rintro x H' ⟨T, k, v, h1, rfl, hn, rfl⟩ d hd
  rw [List.getElem?_map] at hd
  cases hk : kvs[i]? with
  | none => rw [hk] at hd; cases hd
  | some kv =>
    rw [hk] at hd
    cases hd
    obtain ⟨q, g1, g2, g3⟩ := pr_get pr hk
    rw [g1] at h1; cases h1
    exact ⟨⟨T, _, rfl, .inl upd_same, Reps.cons g2.rep (.one ((g3.kp kp).kp (kp_new hn)))⟩, frm_hid hn, rh_hid rh hn⟩
end
theorem walk_dct_inv {k : M.Itk} {ds : List SD} {f : List (SD × SD) → List SD} {QW : List SD → (M.AH → Prop) → Prop} (hk : ∀ d, M.walk k [d] h QW = match d with | .ref p => (match h p with | some (.rdct _ kvs) => QW (f kvs) fun _ => True | _ => False) | _ => False) {d : SD} (q : M.walk k [d] h QW) :
    ∃ p kd kvs, d = .ref p ∧ h p = some (.rdct kd kvs) ∧ QW (f kvs) fun _ => True := by
  rw [hk] at q
  cases d with
  | ref p =>
    simp only at q
    cases e : h p with
    | none => rw [e] at q; exact q.elim
    | some o => rw [e] at q; cases o with
      | rdct kd kvs => exact ⟨p, kd, kvs, rfl, e, q⟩
      | _ => exact q.elim
  | _ => exact False.elim q
theorem rdct_any {p : Addr} {kd : Nat} {kvs : List (SD × SD)} (o : ObRep K H p (.rdct kd kvs)) : ∃ (od : Obj) (ps : List (Key × V)), H p = some (.frz od (.dK ps)) ∧ Paired (PR K H R0) kvs ps := by
  match kd, o with
  | 0, o => exact rdct0.mp o
theorem i_keys (ha : PE X a (lift X.F wa)) : PI X tg a (liftI X.F .keys fun σ h Q => wa σ h fun d h1 => Q [d] h1) := by
  refine PI.imp' (pi_keys ha) fun σ H R ⟨σa, h, Qd, rs, rh, q, k⟩ => ?_
  refine lift_go rs rh q fun d h1 v H1 q1 f1 r1 rh1 _ => ?_
  obtain ⟨QW, hw, kk⟩ := k _ _ q1
  obtain ⟨p, kd, kvs, rfl, e1, hw2⟩ := walk_dct_inv (k := .keys) (ds := []) (f := fun kvs => kvs.map (·.1)) (fun d => by cases d <;> rfl) hw
  cases (show v = _ from r1)
  obtain ⟨od, ps, e2, pr⟩ := rdct_any (rh1 p _ e1)
  exact ⟨p, od, rfl, .inl ⟨ps, e2, kk _ _ _ _ hw2 f1 rh1 (walks_keys e2 pr)⟩⟩
theorem i_vals {apos cpos : Pos} (hbase : attributeBase a "values" X.env (eval a X.env) = eval a X.env) (hline : (apos.endLine == cpos.line) = true) (ha : PE X a (lift X.F wa)) :
    PI X tg (.Call (.Attribute a "values" apos) [] [] cpos) (liftI X.F .values fun σ h Q => wa σ h fun d h1 => Q [d] h1) := by
  refine PI.imp' (pi_values ha hbase hline) fun σ H R ⟨σa, h, Qd, rs, rh, q, k⟩ => ?_
  refine lift_go rs rh q fun d h1 v H1 q1 f1 r1 rh1 _ => ?_
  obtain ⟨QW, hw, kk⟩ := k _ _ q1
  obtain ⟨p, kd, kvs, rfl, e1, hw2⟩ := walk_dct_inv (k := .values) (ds := []) (f := fun kvs => kvs.map (·.2)) (fun d => by cases d <;> rfl) hw
  cases (show v = _ from r1)
  obtain ⟨od, ps, e2, pr⟩ := rdct_any (rh1 p _ e1)
  exact ⟨p, od, ps, rfl, e2, kk _ _ _ _ hw2 f1 rh1 (walks_vals e2 pr)⟩
theorem i_items {apos cpos tpos : Pos} {elts : List Expr} {kn : Nat} (hbase : attributeBase a "items" X.env (eval a X.env) = eval a X.env) (hline : (apos.endLine == cpos.line) = true) (ha : PE X a (lift X.F wa)) :
    PI X (.Tuple elts kn tpos) (.Call (.Attribute a "items" apos) [] [] cpos) (liftI X.F .items fun σ h Q => wa σ h fun d h1 => Q [d] h1) := by
  refine PI.imp' (pi_items ha hbase hline) fun σ H R ⟨σa, h, Qd, rs, rh, q, k⟩ => ?_
  refine lift_go rs rh q fun d h1 v H1 q1 f1 r1 rh1 _ => ?_
  obtain ⟨QW, hw, kk⟩ := k _ _ q1
  obtain ⟨p, kd, kvs, rfl, e1, hw2⟩ := walk_dct_inv (k := .items) (ds := []) (f := fun kvs => kvs.map fun kv => .tup [kv.1, kv.2]) (fun d => by cases d <;> rfl) hw
  cases (show v = _ from r1)
  obtain ⟨od, ps, e2, pr⟩ := rdct_any (rh1 p _ e1)
  exact ⟨p, od, ps, rfl, e2, kk _ _ _ _ hw2 f1 rh1 (walks_items e2 pr)⟩
theorem walks_revS {s : M.Sx} (ok : sOk s) : Walks K H1 (RX.Itx (sV s)) (s.map fun c => .str [c]).reverse (fun _ => True) := by
  intro i H h kp fz rh _
  have sz : (sV s).cps.size = s.length := by simp [sV]
  have ln : (s.map fun c => (.str [c] : SD)).reverse.length = s.length := by simp
  refine ⟨fun hi => by show i < (sV s).cps.size; rw [sz]; rw [ln] at hi; exact hi, fun hi => by show (sV s).cps.size ≤ i; rw [sz]; rw [ln] at hi; exact hi, ?_⟩
  rintro x H' ⟨rfl, c, hc, rfl⟩ d hd
  have hi : i < s.length := by rw [← ln]; exact (List.getElem?_eq_some_iff.mp hd).1
  rw [List.getElem?_reverse (by simpa using hi), List.getElem?_map, List.length_map] at hd
  rw [sz] at hc
  have e : s[s.length - 1 - i]? = some c := by
    rw [← Array.getElem?_toList, sV_cps] at hc
    exact hc
  rw [e] at hd
  simp only [Option.map_some, Option.some.injEq] at hd
  subst hd
  exact ⟨⟨rfl, fun z hz => by
    have : z = c := by simpa using hz
    subst this
    exact ok _ (List.mem_of_getElem? e)⟩, .refl, rh⟩
theorem i_rev {p : Pos} (hg : Gl X "reversed") (hm : X.mg "reversed" = none) (hs : starEach [a] X.env = (false, eval a X.env) :: starEach [] X.env) (ha : PE X a (lift X.F wa)) :
    PI X tg (.Call (.Name "reversed" p) [a] [] pos) (liftI X.F .rev fun σ h Q => wa σ h fun d h1 => Q [d] h1) := by
  refine PI.imp' (RX.pi_revX hg hm ha hs) fun σ H R ⟨σa, h, Qd, rs, rh, q, k⟩ => ?_
  refine lift_go rs rh q fun d h1 v H1 q1 f1 r1 rh1 _ => ?_
  obtain ⟨QW, hw, kk⟩ := k _ _ q1
  cases d with
  | tup xs =>
    obtain ⟨ad, vs, ev, t, rr⟩ := r1
    exact .inl ⟨ad, vs, ev, .inr ⟨t.imp .inl id, kk _ _ _ _ hw f1 rh1 (walks_revT t rr)⟩⟩
  | str s =>
    obtain ⟨l, hw⟩ := (show s.length ≤ M.LINE ∧ _ from hw)
    refine .inr ⟨sV s, r1.1, ?_, kk _ _ _ _ hw f1 rh1 (walks_revS r1.2)⟩
    have e1 : (sV s).length = s.length := sV_len s
    have : M.LINE = 16777216 := rfl
    omega
  | ref p =>
    simp only [M.walk] at hw
    cases e1 : h1 p with
    | none => rw [e1] at hw; exact hw.elim
    | some o => rw [e1] at hw; cases o with
      | lst xs =>
        obtain ⟨vs, e2, rr⟩ := rh1 p _ e1
        exact .inl ⟨p, vs, r1, .inl ⟨SqL.of e2, kk _ _ _ _ hw f1 rh1 (walks_rev e2 rr)⟩⟩
      | _ => exact hw.elim
  | _ => exact hw.elim
theorem walks_rngR (n : Int) : Walks K H1 (Itc (0 + (((n - 0).toNat : Nat) : Int) - 1) (-1) (n - 0).toNat) (M.rangeL 0 n).reverse (fun _ => True) := by
  intro i H h kp fz rh _
  have ln : (M.rangeL 0 n).reverse.length = (n - 0).toNat := by simp [M.rangeL]
  refine ⟨fun q => by show i < (n - 0).toNat; omega, fun q => by show (n - 0).toNat ≤ i; omega, ?_⟩
  rintro x H' ⟨rfl, rfl⟩ d hd
  have hi : i < (n - 0).toNat := by rw [← ln]; exact (List.getElem?_eq_some_iff.mp hd).1
  have lr : (M.rangeL 0 n).length = (n - 0).toNat := by simp [M.rangeL]
  rw [List.getElem?_reverse (by omega), lr] at hd
  simp only [M.rangeL, List.getElem?_map] at hd
  rw [List.getElem?_range (by omega)] at hd
  simp only [Option.map_some, Option.some.injEq] at hd
  subst hd
  have : (0 : Int) + (((n - 0).toNat : Nat) : Int) - 1 + ((i : Nat) : Int) * (-1) = 0 + (((n - 0).toNat - 1 - i : Nat) : Int) := by omega
  rw [this]
  exact ⟨rfl, .refl, rh⟩
theorem walk_rrng_inv {ds : List SD} {QW : List SD → (M.AH → Prop) → Prop} (q : M.walk .rrng ds h QW) : ∃ n, ds = [.int n] ∧ -(2 ^ 62) ≤ n ∧ n < 2 ^ 62 ∧ QW (M.rangeL 0 n).reverse fun _ => True := by
  match ds with
  | [] => exact False.elim q
  | [d] => cases d with
    | int n => exact ⟨n, rfl, q⟩
    | _ => exact False.elim q
  | d :: e :: r => cases d <;> exact False.elim q
theorem i_rrng {p p2 pos2 : Pos} (hg : Gl X "reversed") (hm : X.mg "reversed" = none) (hg2 : Gl X "range") (hm2 : X.mg "range" = none) (hs : starEach [a] X.env = (false, eval a X.env) :: starEach [] X.env) (ha : PE X a (lift X.F wa)) :
    PI X tg (.Call (.Name "reversed" p) [.Call (.Name "range" p2) [a] [] pos2] [] pos) (liftI X.F .rrng fun σ h Q => wa σ h fun d h1 => Q [d] h1) := by
  refine PI.imp' (pi_revR hg hm (prg_1 hg2 hm2 ha hs)) fun σ H R ⟨σa, h, Qd, rs, rh, q, k⟩ => ?_
  refine lift_go rs rh q fun d h1 v H1 q1 f1 r1 rh1 _ => ?_
  obtain ⟨QW, hw, kk⟩ := k _ _ q1
  obtain ⟨n, e, h1, h2, hw2⟩ := walk_rrng_inv hw
  cases e
  cases (show v = _ from r1)
  exact ⟨n, rfl, by omega, by omega, h1, h2, kk _ _ _ _ hw2 f1 rh1 (walks_rngR n)⟩
theorem walks_zipL {p q : Addr} {xs ys : List SD} : Walks K H1 (Itz K p q) (M.zipL xs ys) (fun h' => h' p = some (.lst xs) ∧ h' q = some (.lst ys)) := by
  intro i H h kp fz rh ⟨ok1, ok2⟩
  obtain ⟨vs, e1, r1⟩ := rh p _ ok1
  obtain ⟨ws, e2, r2⟩ := rh q _ ok2
  have ln1 := r1.length
  have ln2 := r2.length
  have lz := zipL_len xs ys
  have hs1 : SqL K H p vs := SqL.of e1
  have hs2 : SqL K H q ws := SqL.of e2
  refine ⟨fun hi => ⟨vs, ws, vs[i]'(by omega), ws[i]'(by omega), hs1, hs2, by simp, by simp⟩, fun hi => ⟨vs, ws, hs1, hs2, by omega⟩, ?_⟩
  rintro x H' ⟨T, y, z, rfl, hn, rfl, hy, hz⟩ d hd
  obtain ⟨d1, d2, g1, g2, rfl⟩ := zipL_get xs ys i d hd
  obtain ⟨v1, g3, g4⟩ := r1.get g1
  obtain ⟨v2, g5, g6⟩ := r2.get g2
  have f1 := hy vs hs1
  have f2 := hz ws hs2
  rw [g3] at f1; cases f1
  rw [g5] at f2; cases f2
  refine ⟨⟨T, _, rfl, .inl upd_same, Reps.cons (g4.kp (kp_new hn)) (.one (g6.kp (kp_new hn)))⟩, frm_hid hn, rh_hid rh hn⟩
theorem walk_zip_inv {ds : List SD} {QW : List SD → (M.AH → Prop) → Prop} (q : M.walk .zip ds h QW) : (∃ xs ys, ds = [.tup xs, .tup ys] ∧ QW (M.zipL xs ys) fun _ => True) ∨ ∃ p r xs ys, ds = [.ref p, .ref r] ∧ h p = some (.lst xs) ∧ h r = some (.lst ys) ∧ QW (M.zipL xs ys) fun h' => h' p = some (.lst xs) ∧ h' r = some (.lst ys) := by
  match ds with
  | [] => exact False.elim q
  | [d] => cases d <;> exact False.elim q
  | [d, e] =>
    cases d with
    | tup xs => cases e with
      | tup ys => exact .inl ⟨xs, ys, rfl, q⟩
      | _ => exact False.elim q
    | ref p => cases e with
      | ref r =>
        simp only [M.walk] at q
        split at q
        · rename_i xs ys e1 e2
          exact .inr ⟨p, r, xs, ys, rfl, e1, e2, q⟩
        · exact q.elim
      | _ => exact False.elim q
    | _ => exact False.elim q
  | d :: e :: f :: r => cases d <;> first | exact False.elim q | (cases e <;> exact False.elim q)
theorem i_zip {p tpos : Pos} {elts : List Expr} {kn : Nat} {wr : WA} (hg : Gl X "zip") (hm : X.mg "zip" = none) (ha : PA X [a, b] (liftA X.F wr)) (hs : starEach [a, b] X.env = (false, eval a X.env) :: starEach [b] X.env) (hpl : (backTo pos (starEach [b] X.env)).any (·.1) = false) :
    PI X (.Tuple elts kn tpos) (.Call (.Name "zip" p) [a, b] [] pos) (liftI X.F .zip wr) := by
  refine PI.imp' (RZ.pi_zipA hg hm ha hs hpl) fun σ H R ⟨σa, h, Qd, rs, rh, q, k⟩ => ?_
  refine ⟨σa, h, _, rs, rh, q, fun ds h1 vs H1 q1 f1 r1 rh1 => ?_⟩
  obtain ⟨QW, hw, kk⟩ := k _ _ q1
  rcases walk_zip_inv hw with ⟨xs, ys, rfl, hw2⟩ | ⟨p1, p2, xs, ys, rfl, g1, g2, hw2⟩
  case inr =>
    obtain ⟨v, w, rfl, rv, rw'⟩ := reps2 r1
    cases (show v = _ from rv)
    cases (show w = _ from rw')
    obtain ⟨vs, e1, _⟩ := rh1 p1 _ g1
    obtain ⟨ws, e2, _⟩ := rh1 p2 _ g2
    exact ⟨p1, p2, vs, ws, rfl, .inl ⟨SqL.of e1, SqL.of e2, kk _ _ _ _ hw2 f1 rh1 walks_zipL⟩⟩
  obtain ⟨v, w, rfl, ⟨a1, us, rfl, t1, s1⟩, ⟨a2, ws, rfl, t2, s2⟩⟩ := reps2 r1
  exact ⟨a1, a2, us, ws, rfl, .inr ⟨t1.imp .inl id, t2.imp .inl id, kk _ _ _ _ hw2 f1 rh1 (walks_zipT t1 t2 s1 s2)⟩⟩

/-! ### a dict locked for a while -/
theorem lockAt_inv {i : Nat} {f : Nat → Nat → List (SD × SD) → Prop} (q : M.lockAt σa i h f) : ∃ p kd kvs, σa[i]? = some (some (.ref p)) ∧ h p = some (.dct kd kvs) ∧ f p kd kvs := by
  unfold M.lockAt at q
  cases e : σa[i]? with
  | none => rw [e] at q; exact q.elim
  | some o => rw [e] at q; cases o with
    | none => exact q.elim
    | some d => cases d with
      | ref p =>
        simp only at q
        cases e1 : h p with
        | none => rw [e1] at q; exact q.elim
        | some o => rw [e1] at q; cases o with
          | dct kd kvs => exact ⟨p, kd, kvs, rfl, e1, q⟩
          | _ => exact q.elim
      | _ => exact q.elim
structure Lck (K : Fr) (H : Hp) (h : M.AH) (p : Addr) (kd : Nat) (kvs : List (SD × SD)) (ps : List (Key × V)) : Prop where
  e : H p = some (.dK ps)
  kp : ∀ od, Kp H (upd H p (.frz od (.dK ps)))
  rh : ∀ od, RH K (upd H p (.frz od (.dK ps))) (M.up h p (.rdct kd kvs))
  back : ∀ od H' h', Frm (upd H p (.frz od (.dK ps))) (M.up h p (.rdct kd kvs)) H' h' → RH K H' h' → H' p = some (.frz od (.dK ps)) ∧ Frm H h (upd H' p (.dK ps)) (M.up h' p (.dct kd kvs)) ∧ RH K (upd H' p (.dK ps)) (M.up h' p (.dct kd kvs)) ∧ Kp H' (upd H' p (.dK ps))
theorem lck {p : Addr} {kd : Nat} {kvs : List (SD × SD)} (rh : RH K H h) (e : h p = some (.dct kd kvs)) : ∃ ps, Lck K H h p kd kvs ps := by
  have z : kd = 0 := by
    have o := rh p _ e
    match kd, o with
    | 0, _ => rfl
  subst z
  · obtain ⟨ps, e1, pr⟩ := dct0.mp (rh p _ e)
    have kp : ∀ od, Kp H (upd H p (.frz od (.dK ps))) := fun od => kp_put rh e
    have rhl : ∀ od, RH K (upd H p (.frz od (.dK ps))) (M.up h p (.rdct 0 kvs)) := fun od => rh_put rh e (rdct0.mpr ⟨od, ps, upd_same, Paired.mapP pr fun _ _ z => ⟨z.1, z.2.kp (kp od)⟩⟩)
    refine ⟨ps, e1, kp, rhl, fun od H' h' f rh' => ?_⟩
    obtain ⟨f1, f2⟩ := f p _ upd_same (fun o z => by rw [up_same] at z; cases z; rfl)
    rw [up_same] at f2
    have kb : Kp H' (upd H' p (.dK ps)) := kp_put rh' f2
    obtain ⟨od2, ps2, e3, pr2⟩ := rdct0.mp (rh' p _ f2)
    rw [f1] at e3
    cases e3
    exact ⟨f1, frm_lock e rfl f, rh_put rh' f2 (dct0.mpr ⟨ps, upd_same, Paired.mapP pr2 fun _ _ z => ⟨z.1, z.2.kp kb⟩⟩), kb⟩
theorem s_lock {i : Nat} (he : PE X e (lift X.F w)) : PE X e (lift X.F fun σ h Q => M.lockAt σ i h fun p kd kvs => w σ (M.up h p (.rdct kd kvs)) fun d h' => Q d (M.up h' p (.dct kd kvs))) := by
  refine (pe_lock he).imp fun σ H Q ⟨σa, h, Qa, rs, rh, q, k⟩ => ?_
  obtain ⟨p, kd, kvs, e0, e1, q⟩ := lockAt_inv q
  obtain ⟨ps, L⟩ := lck rh e1
  refine ⟨p, _, L.e, trivial, fun od => ?_⟩
  refine ⟨σa, _, _, rs.kp (L.kp od), L.rh od, q, fun d h' v H' q' f r rh' => ?_⟩
  obtain ⟨b1, b2, b3, b4⟩ := L.back od H' h' f rh'
  exact ⟨b1, k _ _ _ _ q' b2 (r.kp b4) b3⟩
theorem ss_lock {i : Nat} {st : Stmt} {ws : WS} (hs : PS X st (liftS X.F ws)) : PS X st (liftS X.F fun R σ h => M.lockAt σ i h fun p kd kvs => ws { nx := fun σ' h' => R.nx σ' (M.up h' p (.dct kd kvs)), rt := fun d h' => R.rt d (M.up h' p (.dct kd kvs)), bk := fun σ' h' => R.bk σ' (M.up h' p (.dct kd kvs)), ct := fun σ' h' => R.ct σ' (M.up h' p (.dct kd kvs)) } σ (M.up h p (.rdct kd kvs))) := by
  refine (ps_lock hs).imp fun D σ H ⟨σa, h, R, rs, rh, q, k⟩ => ?_
  obtain ⟨p, kd, kvs, e0, e1, q⟩ := lockAt_inv q
  obtain ⟨ps, L⟩ := lck rh e1
  refine ⟨p, _, L.e, trivial, fun od => ?_⟩
  refine liftS_go (rs.kp (L.kp od)) (L.rh od) q ⟨?_, ?_, ?_, ?_⟩
  · intro σb h' σ' H' z f rs' rh'
    obtain ⟨b1, b2, b3, b4⟩ := L.back od H' h' f rh'
    exact ⟨b1, k.nx _ _ _ _ z b2 (rs'.kp b4) b3⟩
  · intro d h' v H' z f r rh'
    obtain ⟨b1, b2, b3, b4⟩ := L.back od H' h' f rh'
    exact ⟨b1, k.rt _ _ _ _ z b2 (r.kp b4) b3⟩
  · intro σb h' σ' H' z f rs' rh'
    obtain ⟨b1, b2, b3, b4⟩ := L.back od H' h' f rh'
    exact ⟨b1, k.bk _ _ _ _ z b2 (rs'.kp b4) b3⟩
  · intro σb h' σ' H' z f rs' rh'
    obtain ⟨b1, b2, b3, b4⟩ := L.back od H' h' f rh'
    exact ⟨b1, k.ct _ _ _ _ z b2 (rs'.kp b4) b3⟩
end
end Snd
end
section
/-! Sound6c: min with default, or of a value, the tables of the module. -/
namespace Snd
open PySem L2 PySem.Spec PyProof.Rows
section
variable {X : L2.Cx} {K : Fr} {σ : L2.St} {σa : M.St} {H H1 : Hp} {h h1 : M.AH} {w wa wb wc : WE} {Qa : M.VQ} {a b c e : Expr} {pos : Pos}
/-! ### min(xs, default=None) of numbers -/
def rMinN (K : Fr) : List V → List V → Hp → VK → Prop := fun vs zs H Q => ∃ (a : Addr) (ns : List Int), vs = [V.ref a] ∧ zs = [.non] ∧ SqL K H a (ns.map V.int) ∧ (ns = [] → Q .non H) ∧ ∀ m, m ∈ ns → (∀ y, y ∈ ns → m ≤ y) → Q (.int m) H
theorem ints_all {hp : Heap} : ∀ {us : List Value} {ns : List Int}, IntsAre us ns → ReadsAll hp us (ns.map PyData.int) []
  | _, _, .nil => .nil
  | _, _, .cons n t r => .cons (as := []) (.int n t) (ints_all r)
theorem fold_min : ∀ (ns : List Int) (n : Int), (ns.foldl min n ∈ n :: ns) ∧ ∀ y ∈ n :: ns, ns.foldl min n ≤ y
  | [], n => by simp
  | k :: r, n => by
    rw [List.foldl_cons]
    obtain ⟨h1, h2⟩ := fold_min r (min n k)
    refine ⟨?_, fun y hy => ?_⟩
    · rcases List.mem_cons.mp h1 with e | e
      · rw [e]
        rcases Int.le_total n k with l | l
        · rw [Int.min_eq_left l]; exact List.mem_cons_self
        · rw [Int.min_eq_right l]; exact List.mem_cons_of_mem _ List.mem_cons_self
      · exact List.mem_cons_of_mem _ (List.mem_cons_of_mem _ e)
    · have h3 := h2 _ List.mem_cons_self
      rcases List.mem_cons.mp hy with e | hy
      · subst e; exact Int.le_trans h3 (Int.min_le_left _ _)
      · rcases List.mem_cons.mp hy with e | hy
        · subst e; exact Int.le_trans h3 (Int.min_le_right _ _)
        · exact h2 y (List.mem_cons_of_mem _ hy)
theorem alike_ints (ns : List Int) : PySem.W.AlikeAll (ns.map PyData.int) := by
  refine ⟨fun x hx y hy => ?_, fun x hx => ?_⟩
  · obtain ⟨i, _, rfl⟩ := List.mem_map.mp hx
    obtain ⟨j, _, rfl⟩ := List.mem_map.mp hy
    rfl
  · obtain ⟨i, _, rfl⟩ := List.mem_map.mp hx
    exact fun z => nomatch z
theorem depth_ints : ∀ ns : List Int, PyData.depthAll (ns.map PyData.int) = 0
  | [] => rfl
  | n :: ns => by
    have := depth_ints ns
    rw [List.map_cons]
    simp only [PyData.depthAll, PyData.depth, this]
    rfl
theorem cr_minN (hc : X.calm = true) (hu : X.A.units + 200 < cLine) : CallRK X (.builtin "min") [Str.ofString "default"] (rMinN X.F) := by
  intro pins s σ H vs zs us ws Q I r rz h
  obtain ⟨a, ns, rfl, rfl, hs, q0, q⟩ := h
  obtain rfl := Vals.ref1 r
  obtain ⟨its, rv, hl, _⟩ := I.list hs
  have ez : ws = [Value.none] := by
    cases rz with
    | cons r t => cases t; cases (show _ = Value.none from r); rfl
  subst ez
  have hi := rv.ints
  refine PySem.W.min_list_default (xs := ns.map PyData.int) (as := []) (d := Value.none) (I.ok.hd hc) hl.isList (ints_all hi) (alike_ints ns) (by rw [depth_ints]; omega) (fun e0 h' tk hk => ?_) (fun y ys i v h' tk bs e1 _ rd hk => ?_)
  · exact ⟨.non, H, I.kept hk, rfl, q0 (by simpa using e0)⟩
  · cases ns with
    | nil => cases e1
    | cons n r =>
      rw [List.map_cons, List.cons.injEq] at e1
      obtain ⟨rfl, rfl⟩ := e1
      rw [PySem.W.minD_ints] at rd
      obtain ⟨h1, h2⟩ := fold_min r n
      cases rd
      exact ⟨.int _, H, I.kept hk, ⟨_, rfl⟩, q _ h1 h2⟩
theorem minD_inv {ds : List SD} (q : M.minD ds h Qa) : ∃ p xs ns, ds = [.ref p] ∧ h p = some (.lst xs) ∧ M.intsOf xs = some ns ∧ (ns = [] → Qa .non h) ∧ ∀ m, m ∈ ns → (∀ y, y ∈ ns → m ≤ y) → Qa (.int m) h := by
  obtain ⟨d, rfl, q⟩ := arg1_inv q
  obtain ⟨p, xs, rfl, e, q⟩ := aLst_inv q
  obtain ⟨ns, e2, q⟩ := aSome_inv q
  exact ⟨p, xs, ns, rfl, e, e2, q⟩
theorem s_mnd {p kp np : Pos} {j : Nat} {es : List Expr} {wr : WA} (hcalm : X.calm = true) (hu : X.A.units + 200 < cLine) (hg : Gl X "min") (hm : X.mg "min" = none)
    (he : starEach (e :: es) X.env = (false, eval e X.env) :: starEach es X.env) (hpl : (backTo pos (starEach (e :: es) X.env)).any (·.1) = false) (hr : PA X (e :: es) (liftA X.F wr)) :
    PE X (.Call (.Name "min" p) (e :: es) [⟨some "default", .Constant .none j np, kp⟩] pos) (lift X.F fun σ h Q => wr σ h fun ds h1 => M.minD ds h1 Q) := by
  refine (pe_callBK (ks := [Str.ofString "default"]) (cr_minN hcalm hu) hg hm (by decide +kernel) hr (pk_cons pe_non pk_nil) (by decide +kernel) (by decide +kernel) (by rw [he]; rfl) hpl (by rfl) (by rfl) (by rfl)).imp fun σ H Q ⟨σa, h, Qa, rs, rh, q, k⟩ => ?_
  refine liftA_go rs rh q fun ds h1 vs H1 q1 f1 r1 rh1 _ => ?_
  obtain ⟨pp, xs, ns, rfl, e1, e2, q0, q2⟩ := minD_inv q1
  obtain ⟨v, rfl, rv⟩ := reps1 r1
  cases (show v = _ from rv)
  obtain ⟨us, a1, r2⟩ := rh1 pp _ e1
  have := ints_rep e2 r2
  subst this
  exact ⟨pp, ns, rfl, rfl, SqL.of a1, fun z => (k.go f1).now rh1 (q0 z) rfl, fun m m1 m2 => (k.go f1).now rh1 (q2 m m1 m2) rfl⟩
/-! ### a or b, of None and numbers -/
theorem s_orv (ha : PE X a (lift X.F wa)) (hb : PE X b (lift X.F wb)) : PE X (.BoolOp .Or [a, b] pos) (lift X.F fun σ h Q => wa σ h fun x h1 => match x with
    | .non => wb σ h1 Q
    | .int i => (i ≠ 0 → Q (.int i) h1) ∧ (i = 0 → wb σ h1 Q)
    | _ => False) := by
  have one : PE X (.BoolOp .Or [b] pos) (lift X.F wb) := pe_one hb
  refine (pe_orT ha one).imp fun σ H Q ⟨σa, h, Qa, rs, rh, q, k⟩ => ?_
  refine lift_go rs rh q fun dx h1 x H1 q1 f1 r1 rh1 rs1 => ?_
  cases dx with
  | non =>
    cases (show x = _ from r1)
    exact ⟨false, rfl, ⟨σa, h1, Qa, rs1, rh1, q1, k.go f1⟩⟩
  | int i =>
    cases (show x = _ from r1)
    refine ⟨i != 0, rfl, ?_⟩
    by_cases e : i = 0
    · subst e
      exact ⟨σa, h1, Qa, rs1, rh1, q1.2 rfl, k.go f1⟩
    · rw [if_pos (by simpa using e)]
      exact (k.go f1).now rh1 (q1.1 e) rfl
  | _ => exact q1.elim
/-! ### slices of tuples, whole ones too -/
theorem slw_ok {dx : SD} {x : V} {lo hi : Option Int} {Q : VK} (rh : RH K H h) (rx : Rep K H dx x) (q : M.opSlW dx lo hi h Qa) (k : Kont K H h Qa Q) : rSlA K x lo hi H Q := by
  cases dx with
  | tup ds =>
    obtain ⟨a, vs, e, t, rs⟩ := rx
    subst e
    have ln := rs.length
    have q : Qa (.tup (M.cut ds lo hi)) h := q
    refine ⟨a, vs, rfl, t.imp .inl id, fun hw => ?_, fun _ p hn => k _ _ _ _ q (frm_hid hn) ⟨p, _, rfl, .inl upd_same, (cut_rep rs).kp (kp_new hn)⟩ (rh_hid rh hn)⟩
    have e : M.cut ds lo hi = ds := by
      rw [ln] at hw
      rw [cut_eq, hw.1, hw.2]
      simp
    rw [e] at q
    exact k.now rh q ⟨a, vs, rfl, t, rs⟩
  | _ => exact False.elim q
theorem s_slw {lo hi : Option Expr} {wl wh : WO} {p2 : Pos} (ha : PE X a (lift X.F wa)) (hl : PO X lo (liftO X.F wl)) (hh : PO X hi (liftO X.F wh)) :
    PE X (.Subscript a (.Slice lo hi none p2) pos) (lift X.F fun σ h Q => wa σ h fun x h1 => wl σ h1 fun l h2 => wh σ h2 fun u h3 => M.opSlW x l u h3 Q) := by
  refine (pe_slice sl_tupA ha hl hh).imp fun σ H Q ⟨σa, h, Qa, rs, rh, q, k⟩ => ?_
  refine lift_go rs rh q fun dx h1 x H1 q1 f1 r1 rh1 rs1 => ⟨σa, h1, _, rs1, rh1, q1, fun l h2 H2 q2 f2 rh2 => ⟨σa, h2, _, rs1.kp (f2.kp rh1), rh2, q2, fun u h3 H3 q3 f3 rh3 => ?_⟩⟩
  exact slw_ok rh3 ((r1.kp (f2.kp rh1)).kp (f3.kp rh2)) q3 (k.go ((f1.trans f2).trans f3))
/-! ### t[:0:-1] of tuples: the tail turned about -/
section
open PySem.Calls
variable {prog : Program} {w : World} {A : Around} {E : Value → Shared → Prop} {s : Shared}
theorem places_tl (n : Nat) : Builtin.Slice.slicePlaces ((n : Int) - 1) (min 0 ((n : Int) - 1)) (-1) = n - 1 := by
  unfold Builtin.Slice.slicePlaces
  have h1 : ¬ ((-1 : Int) > 0) := by omega
  simp only [h1, if_false]
  have e : (- -1 : Int) = 1 := by decide
  rw [e, Int.ediv_one]
  split <;> omega
theorem pick_all (ys : List Value) : (List.range ys.length).filterMap (fun m => ys[m]?) = ys := by
  have := PySem.W.krv_all ys.toArray
  simpa using this
theorem filt_congr {α β : Type} {f g : α → Option β} : ∀ {l : List α}, (∀ x ∈ l, f x = g x) → l.filterMap f = l.filterMap g
  | [], _ => rfl
  | x :: r, h => by
    rw [List.filterMap_cons, List.filterMap_cons, h x List.mem_cons_self, filt_congr fun y hy => h y (List.mem_cons_of_mem _ hy)]
theorem pick_tl (xs : Array Value) : ((List.range (xs.size - 1)).filterMap fun (m : Nat) => xs[(((xs.size : Int) - 1) + (m : Int) * -1).toNat]?).toArray = xs.toList.tail.reverse.toArray := by
  congr 1
  have l2 : xs.toList.tail.reverse.length = xs.size - 1 := by simp
  conv => rhs; rw [← pick_all xs.toList.tail.reverse, l2]
  refine filt_congr fun m hm => ?_
  have hm := List.mem_range.mp hm
  have l1 : xs.toList.tail.length = xs.size - 1 := by simp
  rw [List.getElem?_reverse (by omega), l1]
  have : (((xs.size : Int) - 1) + (m : Int) * -1).toNat = xs.size - 1 - m := by omega
  rw [this, List.getElem?_tail, ← Array.getElem?_toList]
  congr 1
  omega
theorem getItem_tuple_tl {t sl : Addr} {items : Array Value} {vl vu vs : Value} {Q : Value → Shared → Prop} (ht : IsTup s.heap t items) (hs : s.heap.IsSliceOf sl vl vu vs) (pl : IsPart vl none) (pu : IsPart vu (some 0)) (ps : IsPart vs (some (-1)))
    (h : Q (.ref s.heap.objs.size) { s with heap := s.heap.push { cls := .type "tuple", data := .seq items.toList.tail.reverse.toArray } })
    (hsz : items.size ≤ sizeLine) : wpAny (model prog w) A (getItem (.ref t) (.ref sl)) Q E s := by
  have htake : sizeOk (.seq items.toList.tail.reverse.toArray) := by
    show items.toList.tail.reverse.toArray.size ≤ sizeLine
    simp
    omega
  obtain ⟨os, hos, hcs, hds⟩ := id hs
  have hTs : s.TypeIs (.ref sl) "slice" := ⟨os, hos, hcs⟩
  unfold getItem
  try with_reducible refine wpAny_holding ?_
  first | refine wpAny_bind (wpAny_pure ?_) | skip
  refine wpAny_bind (wpAny_sequenceKey ht.typeIs (by decide) ?_)
  refine wpAny_bind (wpAny_callSpecial?_slot (name := Str.ofString "__getitem__") ht.typeIs PyProof.Rows.slot_tuple_getitem
    (wpAny_call_entry PyProof.Rows.slot_tuple_getitem ht.typeIs entry_tuple_getitem ?_ (args_tuple_getitem _ _)))
  show wpAny _ _ (Builtin.Tuple.tupleItemsOf (.ref t) >>= _) _ _ s
  refine wpAny_bind (tupleItemsOf_ ht ?_)
  refine wpAny_bind (wpAny_typeOf hTs ?_)
  rw [if_pos (by decide)]
  refine wpAny_bind ?_
  unfold Builtin.Slice.sliceApplied Builtin.Slice.sliceFields
  refine wpAny_bind (wpAny_bind (wpAny_field hos hds (x := vl) rfl (wpAny_bind (wpAny_field hos hds (x := vu) rfl (wpAny_bind (wpAny_field hos hds (x := vs) rfl (wpAny_pure ?_)))))))
  refine wpAny_bind (HT.slicePart_ ps ?_)
  show wpAny _ _ (if ((-1 : Int) == 0) = true then _ else _) _ _ s
  rw [if_neg (by decide)]
  refine wpAny_bind (HT.slicePart_ pl (wpAny_bind (HT.slicePart_ pu (wpAny_bind (wpAny_pure ?_)))))
  show wpAny _ _ (pure (((items.size : Int) - 1), (-1 : Int), Builtin.Slice.slicePlaces ((items.size : Int) - 1) (min 0 ((items.size : Int) - 1)) (-1))) _ _ s
  rw [places_tl]
  refine wpAny_pure ?_
  have hno : ¬ (((((items.size : Int) - 1)) == 0 && (-1 : Int) == 1 && (items.size - 1) == items.size) = true) := by
    simp
  show wpAny _ _ (if ((((items.size : Int) - 1)) == 0 && (-1 : Int) == 1 && (items.size - 1) == items.size) = true then _ else _) _ _ s
  rw [if_neg hno, pick_tl]
  first
    | exact wpAny_bind (m := Builtin.Tuple.tupleExact _) (wpAny_newObj_type (wpAny_pure ⟨_, rfl, wpAny_pure h⟩) htake)
    | exact wpAny_bind (m := Builtin.Tuple.tupleExact _) (wpAny_newObj_type (wpAny_bind (wpAny_pure (wpAny_pure ⟨_, rfl, wpAny_pure h⟩))) htake)
    | exact wpAny_bind (wpAny_bind (m := Builtin.Tuple.tupleExact _) (wpAny_newObj_type (wpAny_pure (wpAny_pure ⟨_, rfl, wpAny_pure h⟩)) htake))
    | exact wpAny_bind (wpAny_bind (m := Builtin.Tuple.tupleExact _) (wpAny_newObj_type (wpAny_pure ⟨_, rfl, wpAny_pure h⟩) htake))
end
theorem pe_tlr {k0 k1 : Nat} {te : TE} {p0 p1 p2 p3 pos : Pos} (he : PE X a te) : PE X (.Subscript a (.Slice none (some (.Constant (.int 0) k0 p0)) (some (.UnaryOp .USub (.Constant (.int 1) k1 p1) p2)) p3) pos) (fun σ H Q => te σ H fun x H1 => ∃ a xs, x = .ref a ∧ SqT X.F H1 a xs ∧ ∀ p, H1 p = none → Q (.ref p) (upd H1 p (.tup xs.tail.reverse))) := by
  refine ⟨fun pins s σ H Q I h => ?_⟩
  refine Subscript_ (thn (he.run pins s σ H _ I h) fun v s1 ⟨x, H1, I1, r1, q1⟩ => ?_)
  obtain ⟨a, xs, ex, hx, q⟩ := q1
  subst ex
  cases r1
  have hst : PO X (some (.UnaryOp .USub (.Constant (.int 1) k1 p1) p2)) (tPart (tUn (rU fun i => .int (-i)) (tC (.int 1)))) := po_some (pe_un un_neg pe_int)
  have hup : PO X (some (.Constant (.int 0) k0 p0)) (tPart (tC (.int 0))) := po_some pe_int
  refine wpAny_Slice (thn (po_none.run pins s1 σ H1 (fun o H2 => o = none ∧ H2 = H1) I1 ⟨rfl, rfl⟩) fun vl s2 ⟨l, H2, I2, pl, el, e2⟩ => ?_)
  subst el e2
  refine thn (hup.run pins s2 σ H2 (fun o H3 => o = some 0 ∧ H3 = H2) I2 ⟨0, rfl, rfl, rfl⟩) fun vu s3 ⟨u, H3, I3, pu, eu, e3⟩ => ?_
  subst eu e3
  refine thn (hst.run pins s3 σ H3 (fun o H4 => o = some (-1) ∧ H4 = H3) I3 ⟨1, rfl, -1, rfl, rfl, rfl⟩) fun vs s4 ⟨o, H4, I4, ps, eo, e4⟩ => ?_
  subst eo e4
  have I5 : Inv X pins σ H4 { s4 with heap := s4.heap.push { cls := .type "slice", data := .fields #[vl, vu, vs] } } := I4.kept (t' := s4.toks) fun b ob q => Heap.get?_push_of_some _ q
  obtain ⟨its, r, ht, hz⟩ := I5.tuple hx
  have hlen := r.length
  show wpAny (model X.prog X.w) X.A (subscriptTail _ (.Slice none (some (.Constant (.int 0) k0 p0)) (some (.UnaryOp .USub (.Constant (.int 1) k1 p1) p2)) p3) (.ref a) (.ref s4.heap.objs.size)) (EP X pins σ Q) X.xe { s4 with heap := s4.heap.push { cls := .type "slice", data := .fields #[vl, vu, vs] } }
  refine tail_any (ops := [.ref a, .ref s4.heap.objs.size]) ht.typeIs PyProof.Rows.slot_tuple_getitem.lookup ?_ (by with_unfolding_all rfl)
  refine getItem_tuple_tl ht (Heap.IsSliceOf.new _ vl vu vs) pl pu ps ?_ (by rw [List.size_toArray]; omega)
  refine ⟨.ref _, _, I5.laid (t' := s4.toks) (o := .tup xs.tail.reverse) (fun b ob q => Heap.get?_push_of_some _ q) (Nat.le_refl _) ?_, rfl, q _ (I5.hok.fresh (Nat.le_refl _))⟩
  have lt : xs.tail.reverse.length ≤ sizeLine := by simp; omega
  have vt : Vals xs.tail.reverse its.tail.reverse := by
    refine Vals.reverse ?_
    cases r with
    | nil => exact .nil
    | cons _ r => exact r
  exact ⟨lt, _, vt, IsTup.new _ _⟩
theorem Reps.tail : ∀ {ds : List SD} {vs : List V}, Reps K H ds vs → Reps K H ds.tail vs.tail
  | [], _, e => by subst e; rfl
  | _ :: _, _, ⟨w, r, e, _, b⟩ => by subst e; exact b
theorem s_tlr {k0 k1 : Nat} {p0 p1 p2 p3 : Pos} (ha : PE X a (lift X.F wa)) : PE X (.Subscript a (.Slice none (some (.Constant (.int 0) k0 p0)) (some (.UnaryOp .USub (.Constant (.int 1) k1 p1) p2)) p3) pos) (lift X.F fun σ h Q => wa σ h fun x h1 => M.aTup x fun xs => Q (.tup xs.tail.reverse) h1) := by
  refine (pe_tlr ha).imp fun σ H Q ⟨σa, h, Qa, rs, rh, q, k⟩ => ?_
  refine lift_go rs rh q fun dx h1 x H1 q1 f1 r1 rh1 rs1 => ?_
  cases dx with
  | tup ds =>
    obtain ⟨a, vs, e, t, r2⟩ := r1
    subst e
    have q1 : Qa (.tup ds.tail.reverse) h1 := q1
    refine ⟨a, vs, rfl, t.imp .inl id, fun p hn => ?_⟩
    exact k _ _ _ _ q1 (f1.trans (frm_hid hn)) ⟨p, _, rfl, .inl upd_same, (r2.tail.rev).kp (kp_new hn)⟩ (rh_hid rh1 hn)
  | _ => exact False.elim q1
/-! ### the tables of the module -/
theorem s_tix {x : Str} {p : Pos} {ad : Addr} {tab : List (M.Sx × M.Sx)} (hs : PlainIx b) (hg : Gl X x) (hm : X.mg x = some (.ref ad)) (hd : (x == ("__debug__" : Str)) = false) (ht : ∀ s t, tab.lookup s = some t → KDct X.F X.w ad (sV s) (.str (sV t)) ∧ sOk t) (hb : PE X b (lift X.F wb)) :
    PE X (.Subscript (.Name x p) b pos) (lift X.F fun σ h Q => wb σ h fun x h1 => match x with
    | .str s => (match tab.lookup s with
      | some t => Q (.str t) h1
      | none => False)
    | _ => False) := by
  refine (pe_ix ix_kdict (pe_glob (v := .ref ad) hg hm rfl hd) hb hs).imp fun σ H Q ⟨σa, h, Qa, rs, rh, q, k⟩ => ?_
  refine lift_go rs rh q fun dx h1 x H1 q1 f1 r1 rh1 rs1 => ?_
  cases dx with
  | str s =>
    cases (show x = _ from r1.1)
    dsimp only at q1
    cases e : tab.lookup s with
    | none => rw [e] at q1; exact q1.elim
    | some t =>
      rw [e] at q1
      obtain ⟨k1, k2⟩ := ht s t e
      exact ⟨ad, sV s, .str (sV t), rfl, rfl, k1, (k.go f1).now rh1 q1 ⟨rfl, k2⟩⟩
  | _ => exact q1.elim
theorem s_gint {x : Str} {p : Pos} {i : Int} (hg : Gl X x) (hm : ∃ t, X.mg x = some (.int i t)) (hd : (x == ("__debug__" : Str)) = false) : PE X (.Name x p) (lift X.F fun _ h Q => Q (.int i) h) := by
  obtain ⟨t, e⟩ := hm
  exact s_const (d := .int i) (pe_glob (v := .int i) hg e ⟨t, rfl⟩ hd) fun H => rfl
end
end Snd
end
section
/-! Sound6d: instances of the program's classes. -/
namespace Snd
open PySem L2 PySem.Spec PyProof.Rows
section
variable {X : L2.Cx} {K : Fr} {σ : L2.St} {σa : M.St} {H H1 : Hp} {h h1 : M.AH} {w wa wo : WE} {wr : WA} {Qa : M.VQ} {a e o : Expr} {es : List Expr} {pos apos : Pos}
abbrev PI1 (K : Fr) (H : Hp) (C : Addr) := fun (x : M.Sx × SD) (p : Str × V) => p.1 = sV x.1 ∧ NoAttr K.K C p.1 ∧ Rep K H x.2 p.2
theorem ins_inv {d : SD} {f : Nat → M.Sx → List (M.Sx × SD) → Prop} (q : M.aIns d h f) : ∃ p c fs, d = .ref p ∧ h p = some (.ins c fs) ∧ f p c fs := by
  cases d with
  | ref p =>
    simp only [M.aIns] at q
    cases e : h p with
    | none => rw [e] at q; exact q.elim
    | some o =>
      rw [e] at q
      cases o with
      | ins c fs => exact ⟨p, c, fs, rfl, e, q⟩
      | _ => exact q.elim
  | _ => exact False.elim q
theorem pi_lookup {C : Addr} {fs : List (M.Sx × SD)} {ps : List (Str × V)} (r : Paired (PI1 K H C) fs ps) (f : M.Sx) :
    (fs.lookup f = none ∧ ps.lookup (sV f) = none) ∨ ∃ d v, fs.lookup f = some d ∧ ps.lookup (sV f) = some v ∧ NoAttr K.K C (sV f) ∧ Rep K H d v := by
  induction r with
  | nil => exact .inl ⟨rfl, rfl⟩
  | @cons x p xs ps hx t ih =>
    obtain ⟨g, d⟩ := x
    obtain ⟨g', v⟩ := p
    obtain ⟨e1, e2, e3⟩ := hx
    dsimp only at e1 e2 e3
    subst e1
    rw [List.lookup_cons, List.lookup_cons]
    by_cases z : f = g
    · subst z
      rw [beq_self_eq_true, beq_self_eq_true]
      exact .inr ⟨d, v, rfl, rfl, e2, e3⟩
    · have z1 : (f == g) = false := beq_eq_false_iff_ne.mpr z
      have z2 : (sV f == sV g) = false := beq_eq_false_iff_ne.mpr fun y => z (sV_inj y)
      rw [z1, z2]
      exact ih
theorem pi_put {C : Addr} {fs : List (M.Sx × SD)} {ps : List (Str × V)} (r : Paired (PI1 K H C) fs ps) {f : M.Sx} {d : SD} {v : V} (na : NoAttr K.K C (sV f)) (rd : Rep K H d v) : Paired (PI1 K H C) (M.putA f d fs) (putF (sV f) v ps) := by
  induction r with
  | nil => exact .cons ⟨rfl, na, rd⟩ .nil
  | @cons x p xs ps hx t ih =>
    obtain ⟨g, d'⟩ := x
    obtain ⟨g', v'⟩ := p
    obtain ⟨e1, e2, e3⟩ := hx
    dsimp only at e1 e2 e3
    subst e1
    unfold M.putA putF
    by_cases z : g = f
    · subst z
      rw [if_pos rfl, if_pos rfl]
      exact .cons ⟨rfl, e2, rd⟩ t
    · rw [if_neg z, if_neg fun y => z (sV_inj y)]
      exact .cons ⟨rfl, e2, e3⟩ ih
/-- e.f -/
theorem s_fld {f : M.Sx} {nm : Str} (hn : nm = sV f) (hb : attributeBase e nm X.env (eval e X.env) = eval e X.env) (ha : PE X e (lift X.F w)) :
    PE X (.Attribute e nm pos) (lift X.F fun σ h Q => w σ h fun x h1 => M.aIns x h1 fun _ _ fs => M.aSome (fs.lookup f) fun v => Q v h1) := by
  subst hn
  refine (pe_fld ha hb).imp fun σ H Q ⟨σa, h, Qa, rs, rh, q, k⟩ => ?_
  refine lift_go rs rh q fun dx h1 x H1 q1 f1 r1 rh1 rs1 => ?_
  obtain ⟨p, c, fs, rfl, e, q2⟩ := ins_inv q1
  cases (show x = _ from r1)
  obtain ⟨C, dx, ps, eH, mg, cl, pr⟩ := rh1 p _ e
  rcases pi_lookup pr f with ⟨l, _⟩ | ⟨d, v, l, l2, na, rv⟩
  · rw [l] at q2; exact q2.elim
  · rw [l] at q2
    exact ⟨p, C, dx, ps, v, rfl, eH, cl, na, l2, (k.go f1).now rh1 q2 rv⟩
/-- o.f = e -/
theorem s_sfld {c f : M.Sx} {nm : Str} {C : Addr} {p' : Pos} (hn : nm = sV f) (hm : X.mg (sV c) = some (.ref C)) (na : NoAttr X.K C (sV f)) (he : PE X e (lift X.F w)) (ho : PE X o (lift X.F wo)) (hs : swapsWith e (some (.Attribute o nm p')) pos.line X.env = pure false) :
    PS X (.Assign [.Attribute o nm p'] e pos) (liftS X.F fun R σ h => w σ h fun v h1 => wo σ h1 fun x h2 => M.aIns x h2 fun p c' fs => c' = c ∧ fs.length < 1000 ∧ R.nx σ (M.up h2 p (.ins c (M.putA f v fs)))) := by
  subst hn
  refine (ps_fld ho he hs).imp fun D σ H ⟨σa, h, R, rs, rh, q, k⟩ => ?_
  refine lift_go rs rh q fun dv h1 v H1 q1 f1 r1 rh1 rs1 => lift_go rs1 rh1 q1 fun dx h2 x H2 q2 f2 r2 rh2 rs2 => ?_
  obtain ⟨p, c', fs, rfl, e, rfl, hl, q3⟩ := ins_inv q2
  cases (show x = _ from r2)
  obtain ⟨C', dx, ps, eH, mg, cl, pr⟩ := rh2 p _ e
  rw [show X.F.mg = X.mg from rfl, hm] at mg
  cases mg
  have kp : Kp H2 (upd H2 p (.ins C dx (putF (sV f) v ps))) := kp_put rh2 e
  have n1 := Paired.length pr
  refine ⟨p, C, dx, ps, rfl, eH, cl, na, by omega, k.nx _ _ _ _ q3 ((f1.trans f2).trans (frm_put e)) (rs2.kp kp) (rh_put rh2 e ⟨C, dx, _, upd_same, hm, cl, Paired.mapP (pi_put pr na (r1.kp (f2.kp rh1))) fun _ _ z => ⟨z.1, z.2.1, z.2.2.kp kp⟩⟩)⟩
theorem meth_ht {env : Env} {nm : Str} {args : List Expr} (hbase : attributeBase o nm env (eval o env) = eval o env)
    (hfew : ((backTo pos (starEach args env)).all (fun x => !x.1) && (backToKw pos (keywordEach [] env)).all (fun x => x.1.isSome)
      && decide (args.length + ([] : List Keyword).length + (if ([] : List Keyword).isEmpty then 0 else 1) < 30)) = true) (hline : (apos.endLine == pos.line) = true) :
    ∃ pl, eval (.Call (.Attribute o nm apos) args [] pos) env = (do
      let ov ← eval o env
      standAt apos.atName
      let (f, first) ← holding [ov] (getMethod ov nm pl)
      callWith pos f first (backTo pos (starEach args env)) (backToKw pos (keywordEach [] env))) := by
  rw [arm_eval_Call, hbase]
  have hform : methodCallForm (args.length + ([] : List Keyword).length) (backTo pos (starEach args env)) (backToKw pos (keywordEach [] env)) = true := hfew
  have hpos : methodCallPos true o env apos pos = pure pos := by unfold methodCallPos; simp [hline]
  unfold methodCall
  rw [hform, hpos]
  exact ⟨_, rfl⟩
/-- o.m(..) -/
theorem s_mcall {P : M.Prog} {n : Nat} {c m : M.Sx} {nm : Str} {C fa : Addr} {fd : FuncData} {ps : List Str} {xx : M.XP} (hn : nm = sV m) (hm : X.mg (sV c) = some (.ref C)) (cl : Cls X.K C) (me : Meth X.K C (sV m) fa)
    (F : FnOk X.prog X.w X.F X.mg X.base CX0 n fa fd ps (spC X.F P n (M.metN c m))) (hr : Room n X.A) (hb : Binds X.F fd ps [])
    (hbase : attributeBase o nm X.env (eval o X.env) = eval o X.env)
    (hfew : ((backTo pos (starEach (e :: es) X.env)).all (fun x => !x.1) && (backToKw pos (keywordEach [] X.env)).all (fun x => x.1.isSome)
      && decide ((e :: es).length + ([] : List Keyword).length + (if ([] : List Keyword).isEmpty then 0 else 1) < 30)) = true) (hline : (apos.endLine == pos.line) = true)
    (he : starEach (e :: es) X.env = (false, eval e X.env) :: starEach es X.env) (hpl : (backTo pos (starEach es X.env)).any (·.1) = false) (ho : PE X o (lift X.F wo)) (ha : PA X (e :: es) (liftA X.F wr)) :
    PE X (.Call (.Attribute o nm apos) (e :: es) [] pos) (lift X.F fun σ h Q => wo σ h fun x h1 => M.aIns x h1 fun p c' fs => c' = c ∧ fs.lookup m = none ∧ wr σ h1 fun ds h2 => M.run P n (M.metN c m) (.ref p :: ds) h2 Q xx) := by
  subst hn
  obtain ⟨pl, ht⟩ := meth_ht hbase hfew hline
  refine (pe_meth (pl := pl) ho cl me F hr hb .nil pass0 ha he hpl ht).imp fun σ H Q ⟨σa, h, Qa, rs, rh, q, k⟩ => ?_
  refine lift_go rs rh q fun dx h1 x H1 q1 f1 r1 rh1 rs1 => ?_
  obtain ⟨p, c', fs, rfl, e, rfl, l, q3⟩ := ins_inv q1
  cases (show x = _ from r1)
  obtain ⟨C', dx, ps', eH, mg, _, pr⟩ := rh1 p _ e
  rw [show X.F.mg = X.mg from rfl, hm] at mg
  cases mg
  rcases pi_lookup pr m with ⟨_, l2⟩ | ⟨_, _, l', _⟩
  · refine ⟨p, dx, ps', rfl, eH, l2, liftA_go rs1 rh1 q3 fun ds h2 vs H2 q4 f2 r2 rh2 _ => ?_⟩
    exact ⟨.ref p :: ds, h2, Qa, xx, ⟨_, _, rfl, rfl, by rw [List.append_nil]; exact r2⟩, rh2, q4, k.go (f1.trans f2)⟩
  · rw [l] at l'; cases l'
theorem s_mcall0 {P : M.Prog} {n : Nat} {c m : M.Sx} {nm : Str} {C fa : Addr} {fd : FuncData} {ps : List Str} {xx : M.XP} (hn : nm = sV m) (hm : X.mg (sV c) = some (.ref C)) (cl : Cls X.K C) (me : Meth X.K C (sV m) fa)
    (F : FnOk X.prog X.w X.F X.mg X.base CX0 n fa fd ps (spC X.F P n (M.metN c m))) (hr : Room n X.A) (hb : Binds X.F fd ps []) (hbase : attributeBase o nm X.env (eval o X.env) = eval o X.env) (hline : (apos.endLine == pos.line) = true) (ho : PE X o (lift X.F wo)) :
    PE X (.Call (.Attribute o nm apos) [] [] pos) (lift X.F fun σ h Q => wo σ h fun x h1 => M.aIns x h1 fun p c' fs => c' = c ∧ fs.lookup m = none ∧ M.run P n (M.metN c m) [.ref p] h1 Q xx) := by
  subst hn
  obtain ⟨pl, ht⟩ := meth_ht (args := []) hbase rfl hline
  refine (pe_meth0 (pl := pl) ho cl me F hr hb .nil pass0 ht).imp fun σ H Q ⟨σa, h, Qa, rs, rh, q, k⟩ => ?_
  refine lift_go rs rh q fun dx h1 x H1 q1 f1 r1 rh1 rs1 => ?_
  obtain ⟨p, c', fs, rfl, e, rfl, l, q3⟩ := ins_inv q1
  cases (show x = _ from r1)
  obtain ⟨C', dx, ps', eH, mg, _, pr⟩ := rh1 p _ e
  rw [show X.F.mg = X.mg from rfl, hm] at mg
  cases mg
  rcases pi_lookup pr m with ⟨_, l2⟩ | ⟨_, _, l', _⟩
  · exact ⟨p, dx, ps', rfl, eH, l2, ⟨[.ref p], h1, Qa, xx, ⟨_, _, rfl, rfl, rfl⟩, rh1, q3, k.go f1⟩⟩
  · rw [l] at l'; cases l'
/-- what a new instance is -/
theorem new_spec {P : M.Prog} {m : Nat} {c : M.Sx} {C : Addr} {xx : M.XP} {Q : VK} {ds : List SD} {vs : List V} {x dx : Addr} (hP : P (M.mkN c) = none) (hm : K.mg (sV c) = some (.ref C)) (cl : Cls K.K C) (rh : RH K H h) (r : Reps K H ds vs) (q : M.run P (m + 1) (M.mkN c) ds h Qa xx) (k : Kont K H h Qa Q)
    (nx : H x = none) (nd : H dx = none) (ne : dx ≠ x) : spC K P m (M.metN c M.sInit) (.ref x :: (vs ++ [])) (upd (upd H dx (.own x)) x (.ins C dx [])) (fun v H2 => v = .non ∧ Q (.ref x) H2) (fun _ _ _ => False) := by
  simp only [M.run] at q
  rw [hP] at q
  have n2 : (upd H dx (.own x)) x = none := by rw [upd_ne ne.symm]; exact nx
  have f1 : Frm H h (upd H dx (.own x)) h := frm_hid nd
  have rh1 : RH K (upd H dx (.own x)) h := rh_hid rh nd
  have rh2 : RH K (upd (upd H dx (.own x)) x (.ins C dx [])) (M.up h x (.ins c [])) := rh_new rh1 n2 ⟨C, dx, [], upd_same, hm, cl, .nil⟩
  refine ⟨.ref x :: ds, _, _, xx, ⟨_, _, rfl, rfl, ?_⟩, rh2, q x (rh.none nx), fun d h' v H' ⟨ed, q'⟩ f rv rh' => ⟨?_, k _ h' _ H' q' ((f1.trans (frm_new n2)).trans f) rfl rh'⟩⟩
  · rw [List.append_nil]
    exact (r.kp (kp_new nd)).kp (kp_new n2)
  · subst ed; exact rv
theorem s_new {P : M.Prog} {m : Nat} {c : M.Sx} {x : Str} {C fa : Addr} {fd : FuncData} {ps : List Str} {xx : M.XP} {p : Pos} (hP : P (M.mkN c) = none) (hx : x = sV c) (hm : X.mg (sV c) = some (.ref C)) (cl : Cls X.K C) (mk : Mk X.K C fa)
    (F : FnOk X.prog X.w X.F X.mg X.base CX0 m fa fd ps (spC X.F P m (M.metN c M.sInit))) (hr : Room (m + 1) X.A) (hb : Binds X.F fd ps []) (hg : Gl X x) (hdb : (x == ("__debug__" : Str)) = false)
    (he : starEach (e :: es) X.env = (false, eval e X.env) :: starEach es X.env) (hpl : (backTo pos (starEach es X.env)).any (·.1) = false) (ha : PA X (e :: es) (liftA X.F wr)) :
    PE X (.Call (.Name x p) (e :: es) [] pos) (lift X.F fun σ h Q => wr σ h fun ds h1 => M.run P (m + 1) (M.mkN c) ds h1 Q xx) := by
  subst hx
  refine (pe_make mk F hr hg hm hb .nil pass0 ha hdb he hpl).imp fun σ H Q ⟨σa, h, Qa, rs, rh, q, k⟩ => ?_
  refine liftA_go rs rh q fun ds h1 vs H1 q1 f1 r1 rh1 _ => ?_
  exact fun x dx nx nd ne => new_spec (K := X.F) hP hm cl rh1 r1 q1 (k.go f1) nx nd ne
theorem s_new0 {P : M.Prog} {m : Nat} {c : M.Sx} {x : Str} {C fa : Addr} {fd : FuncData} {ps : List Str} {xx : M.XP} {p : Pos} (hP : P (M.mkN c) = none) (hx : x = sV c) (hm : X.mg (sV c) = some (.ref C)) (cl : Cls X.K C) (mk : Mk X.K C fa)
    (F : FnOk X.prog X.w X.F X.mg X.base CX0 m fa fd ps (spC X.F P m (M.metN c M.sInit))) (hr : Room (m + 1) X.A) (hb : Binds X.F fd ps []) (hg : Gl X x) (hdb : (x == ("__debug__" : Str)) = false) :
    PE X (.Call (.Name x p) [] [] pos) (lift X.F fun σ h Q => M.run P (m + 1) (M.mkN c) [] h Q xx) := by
  subst hx
  refine (pe_make0 mk F hr hg hm hb .nil pass0 hdb).imp fun σ H Q ⟨σa, h, Qa, rs, rh, q, k⟩ => ?_
  exact fun x dx nx nd ne => new_spec (K := X.F) (ds := []) (vs := []) hP hm cl rh rfl q k nx nd ne
end
end Snd
end
section
/-! Sound6e: the sum of a dict's values. -/
namespace Snd
open PySem L2 PySem.Spec PyProof.Rows
def valO (p d : Addr) : HO := .ext fun h => h.IsValuesView p d
theorem valO_ok {P : Program} {w : World} {H : Hp} {h : Heap} {p d : Addr} (e : h.get? p = some { cls := .type "dict_values", data := .fields #[.ref d] }) : ObjOk P w H h p (valO p d) :=
  ⟨⟨_, e, rfl, rfl⟩, ⟨_, e⟩, fun h1 h2 x k => let ⟨o, ho, r⟩ := x; ⟨o, k o ho, r⟩⟩
section
variable {X : L2.Cx}
def rValsK : V → List V → Hp → VK → Prop := fun x xs H Q => ∃ (a : Addr) (kvs : List (Key × V)), x = .ref a ∧ xs = [] ∧ H a = some (.dK kvs) ∧ ∀ p, H p = none → Q (.ref p) (upd H p (valO p a))
theorem mt_valsK : MtR X "dict.values" rValsK := by
  intro pins s σ H x xs v us Q I rx rxs h
  obtain ⟨a, kvs, rfl, rfl, ha, q⟩ := h
  cases rx
  cases rxs
  obtain ⟨z, hd, vs, rel, dd⟩ := dk_of I.hok ha
  refine call_meetsIn PySem.F.slot_dict_values dd.mapOf.typeIs PySem.F.entry_dict_values (PySem.F.args_dict_values_1 _) (meets_dict_values (mixKind X.prog X.w) a hd) ⟨⟨vs, dd⟩, ?_⟩
  have hf : H s.heap.objs.size = none := I.hok.fresh (Nat.le_refl _)
  exact ⟨.ref s.heap.objs.size, upd H s.heap.objs.size (valO s.heap.objs.size a), I.laid (t' := s.toks) (fun b u e => Heap.get?_push_of_some _ e) (Nat.le_refl _) (valO_ok (Heap.get?_push_size _ rfl)), rfl, q _ hf⟩
theorem kdu_sum0 {prog : Program} {w : World} {A : Around} {E : Value → Shared → Prop} {s : Shared} {T : String} {r d : Addr} {n : Nat} {P : Nat → Value → Prop} {OK : Heap → Prop} {Q : Value → Shared → Prop} (K : PySem.W.KdlSrc prog w T r d n P OK) (hh : A.handled = none) (hok : OK s.heap) (val : Nat → Int) (hval : ∀ (i : Nat) (v : Value), P i v → ∃ t : Tok, v = Value.int (val i) t)
    (h : ∀ (h' : Heap) (tk : Nat) (t' : Tok), (∀ b o, s.heap.get? b = some o → h'.get? b = some o) → Q (.int (preSum val n) t') { s with heap := h', toks := tk }) :
    wpAny (model prog w) A (call (.builtin "sum") [.ref r]) Q E s := by
  refine call_sum_walkAnyS ?_
  obtain ⟨oI, St, hit, W, st⟩ := K.iter A.in1 s hh hok
  refine hit _ _ ⟨s.heap.objs.size, _, _, _, n, P, _, val, rfl, W.toS, st, fun b hb => ?_, hval, fun s' t' hm => ?_⟩
  · show b < (s.heap.push oI).objs.size
    rw [size_push']
    rcases List.mem_cons.mp hb with e | hb
    · rw [e]; exact Nat.lt_succ_self _
    · rw [List.mem_singleton.mp hb]; exact Nat.lt_succ_of_lt (K.there _ hok).2
  · have hk : ∀ b o, s.heap.get? b = some o → s'.heap.get? b = some o := fun b o e =>
      hm.heap b o (fun hI => absurd (Heap.lt_size e) (by rw [List.mem_singleton.mp hI]; exact Nat.lt_irrefl _)) (Heap.get?_push_of_some _ e)
    rw [Moved.eq_with hm]
    exact h s'.heap s'.toks t' hk
theorem pre_sum : ∀ ns : List Int, preSum (fun i => (ns[i]?).getD 0) ns.length = ns.sum := by
  have key : ∀ (ns : List Int) (j : Nat), j ≤ ns.length → preSum (fun i => (ns[i]?).getD 0) j = (ns.take j).sum := by
    intro ns j
    induction j with
    | zero => intro _; simp [preSum]
    | succ j ih =>
      intro hj
      have lj : j < ns.length := by omega
      rw [preSum, ih (by omega), List.take_add_one, List.getElem?_eq_getElem lj, List.sum_append]
      simp
  intro ns
  rw [key ns _ (Nat.le_refl _), List.take_length]
theorem kv_at : ∀ {kvs : List (Key × V)} {vs : List (Key × Value)} {ns : List Int} {i : Nat} {k : Key} {v : Value}, KV kvs vs → kvs.map (·.2) = ns.map V.int → vs[i]? = some (k, v) → ∃ t, v = Value.int ((ns[i]?).getD 0) t
  | _, _, _, i, k, v, .nil, _, e => by simp at e
  | _, _, [], _, _, _, .cons _ _, h, _ => by simp at h
  | _, _, n :: ns, 0, k, v, .cons a b, h, e => by
    simp at e h
    subst e
    have := a.2
    rw [h.1] at this
    exact this
  | _, _, n :: ns, i + 1, k, v, .cons a b, h, e => by
    simp only [List.map_cons, List.cons.injEq] at h
    obtain ⟨t, ht⟩ := kv_at (i := i) b h.2 (by simpa using e)
    exact ⟨t, by simpa using ht⟩
def rSumV : List V → Hp → VK → Prop := fun xs H Q => ∃ (p a : Addr) (kvs : List (Key × V)) (ns : List Int), xs = [.ref p] ∧ H p = some (valO p a) ∧ H a = some (.dK kvs) ∧ kvs.map (·.2) = ns.map V.int ∧ Q (.int ns.sum) H
theorem cr_sumV (hc : X.calm = true) : CallR X (.builtin "sum") rSumV := by
  intro pins s σ H xs us Q I r h
  obtain ⟨p, a, kvs, ns, rfl, hv, ha, hn, q⟩ := h
  obtain ⟨hview, _⟩ := I.hok p _ hv
  obtain ⟨z, hd, vs, rel, dd⟩ := dk_of I.hok ha
  obtain ⟨ep, hat⟩ := dd.dictAt
  rw [Vals.ref1 r]
  have l1 : kvs.length = vs.length := Paired.length rel
  have l2 : kvs.length = ns.length := by simpa using congrArg List.length hn
  refine kdu_sum0 (PySem.W.kdl_values (knd := mixKind X.prog X.w) (kvs := vs) (ep := ep)) (I.ok.hd hc) ⟨hview, hat⟩ (fun i => (ns[i]?).getD 0) (fun i v ⟨k, e⟩ => kv_at rel hn e) fun h' tk t' hk => ?_
  rw [← l1, l2, pre_sum]
  exact ⟨.int _, H, I.kept hk, ⟨_, rfl⟩, q⟩
end
section
variable {X : L2.Cx} {wa : WE} {y : Expr} {p pos apos cpos : Pos}
theorem ints_vals {K : Fr} {H : Hp} : ∀ {kvs : List (SD × SD)} {ps : List (Key × V)} {ns : List Int}, Paired (PR K H R0) kvs ps → M.intsOf (kvs.map (·.2)) = some ns → ps.map (·.2) = ns.map V.int
  | _, _, ns, .nil, h => by
    simp [M.intsOf] at h
    subst h
    rfl
  | _, _, ns, .cons (a := x) (b := q) a b, h => by
    simp only [List.map_cons] at h ⊢
    obtain ⟨k, d⟩ := x
    cases d <;> simp [M.intsOf] at h
    obtain ⟨ms, e1, rfl⟩ := h
    have := ints_vals b e1
    rw [this, show q.2 = _ from a.2]
    rfl
/-- sum(y.values()) -/
theorem s_smv {x : Str} (hx : x = ("sum" : Str)) (hcalm : X.calm = true) (hg : Gl X x) (hm : X.mg x = none) (hbase : attributeBase y "values" X.env (eval y X.env) = eval y X.env) (hline : (apos.endLine == cpos.line) = true) (ha : PE X y (lift X.F wa)) :
    PE X (.Call (.Name x p) [.Call (.Attribute y "values" apos) [] [] cpos] [] pos) (lift X.F fun σ h Q => wa σ h fun d h1 => M.aVals d h1 fun kvs => M.aSome (M.intsOf (kvs.map (·.2))) fun ns => Q (.int ns.sum) h1) := by
  subst hx
  refine (pe_callB (cr_sumV hcalm) hg hm PyProof.Rows.boot_sum (pa_cons (pe_bm0 PySem.F.plainAttrs_dict PySem.F.slot_dict_values PySem.F.type_dict_values mt_valsK ha hbase hline) pa_nil) (by decide +kernel) (by decide +kernel) rfl rfl).imp fun σ H Q ⟨σa, h, Qa, rs, rh, q, k⟩ => ?_
  refine lift_go rs rh q fun d h1 v H1 q1 f1 r1 rh1 rs1 => ?_
  cases d with
  | ref r =>
    cases (show v = _ from r1)
    simp only [M.aVals] at q1
    cases e : h1 r with
    | none => rw [e] at q1; exact q1.elim
    | some o =>
      rw [e] at q1
      match o, e, q1 with
      | .dct 0 kvs, e, q1 =>
        obtain ⟨ps, eH, pr⟩ := dct0.mp (rh1 r _ e)
        cases en : M.intsOf (kvs.map (·.2)) with
        | none => simp only [en] at q1; exact q1.elim
        | some ns =>
          simp only [en] at q1
          refine ⟨.inr (.inr (.inl ⟨rfl, .inl ⟨_, eH⟩⟩)), r, ps, rfl, rfl, eH, fun p hp => ?_⟩
          have np : r ≠ p := ne_of_none eH hp
          exact ⟨p, r, ps, ns, rfl, upd_same, by rw [upd_ne np]; exact eH, ints_vals pr en, k _ h1 _ _ q1 (f1.trans (frm_hid hp)) rfl (rh_hid rh1 hp)⟩
  | _ => exact False.elim q1
end
end Snd
end
section
/-! Sound7: the IR against the text, and the whole. -/
namespace Snd
open PySem L2 PySem.Spec PyProof.Rows

def visB (sc : Scope) (x : Str) : Bool := match sc.names.lookup x with
  | some .local => true | some .cell => true | some .free => true | _ => false
def locB (s0 : Scope) (x : Str) : Bool := match s0.names.lookup x with
  | some .local => true | some .cell => true | _ => false
def glB (sc : Scope) (x : Str) : Bool := match sc.names.lookup x with
  | some .globalImplicit => true | _ => false
def plainN (x : Str) : Bool := !(x == ("__debug__" : Str)) && !(x == ("__classdict__" : Str))
def opB (o : M.Bop) : Operator → Bool
  | .Add => (match o with | .add => true | _ => false)
  | .Sub => (match o with | .sub => true | _ => false)
  | .Mult => (match o with | .mul => true | _ => false)
  | .Mod => (match o with | .mod => true | _ => false)
  | .FloorDiv => (match o with | .fdiv => true | _ => false)
  | .Pow => (match o with | .pow => true | _ => false)
  | _ => false
theorem opB_eq {o : M.Bop} {p : Operator} (h : opB o p = true) : p = bop o := by cases p <;> cases o <;> first | rfl | cases h
def copB (o : M.Cop) : CmpOp → Bool
  | .Eq => (match o with | .eq => true | _ => false)
  | .NotEq => (match o with | .ne => true | .nes => true | _ => false)
  | .Lt => (match o with | .lt => true | _ => false)
  | .LtE => (match o with | .le => true | _ => false)
  | .Gt => (match o with | .gt => true | _ => false)
  | .GtE => (match o with | .ge => true | _ => false)
  | .In => (match o with | .isin => true | _ => false)
  | .NotIn => (match o with | .notin => true | _ => false)
  | .Is => (match o with | .is_ => true | _ => false)
  | .IsNot => (match o with | .isnt => true | _ => false)
theorem copB_eq {o : M.Cop} {p : CmpOp} (h : copB o p = true) : p = cop o := by cases p <;> cases o <;> first | rfl | cases h
def bltB (bn : List Str) (sc : Scope) (b : M.Blt) (x : Str) : Bool := match bltK b with
  | some bk => decide (x = bk.name) && bn.contains x && glB sc x
  | none => false
def mthB (m : M.Mth) (x : Str) : Bool := match mthT m with
  | some (_, _, nm) => decide (x = nm)
  | none => false
/-- not a call without arguments: super() is one -/
def recvB : Expr → Bool
  | .Call _ [] _ _ => false
  | _ => true
def ownB (N : List Str) : List Nat → Option (List (Str × Nat))
  | [] => some []
  | i :: is => match N[i]?, ownB N is with
    | some x, some r => some ((x, i) :: r)
    | _, _ => none
theorem ownB_map {N : List Str} : ∀ {is : List Nat} {r : List (Str × Nat)}, ownB N is = some r → r.map (·.2) = is
  | [], r, e => by simp only [ownB, Option.some.injEq] at e; subst e; rfl
  | i :: is, r, e => by
    simp only [ownB] at e
    cases e1 : N[i]? <;> cases e2 : ownB N is <;> simp [e1, e2] at e
    subst e
    simp [ownB_map e2]
def nmB (N : List Str) (s0 : Scope) (i : Nat) : Expr → Bool
  | .Name x _ => decide (N[i]? = some x) && locB s0 x
  | _ => false
def nmsB (N : List Str) (s0 : Scope) : List Nat → List Expr → Bool
  | [], [] => true
  | i :: is, e :: es => nmB N s0 i e && nmsB N s0 is es
  | _, _ => false
def tgB (N : List Str) (s0 : Scope) : M.Tgt → Expr → Bool
  | .nm i, e => nmB N s0 i e
  | .tp ts, .Tuple es _ _ => nmsB N s0 ts es
  | _, _ => false
def chrB (s : M.Sx) : Bool := s.all fun c => decide (c < 0x110000)
def smallB (n : Nat) : Bool := decide (n < 20)

/-- what may stand unread: what is never reached -/
@[simp] def badB : Expr → Bool
  | .Call .. => true
  | .Subscript .. => true
  | .Attribute .. => true
  | .Name .. => true
  | .BinOp .. => true
  | .Dict .. => true
  | _ => false
@[simp] def lockB : Expr → Bool
  | .Call .. => true
  | _ => false
/-- the def's names by slot, the built-in names that stand free, the program's defs -/
structure Tb where
  N : List Str
  bn : List Str
  fs : List M.Sx
  gs : List (M.Sx × Int)
  ts : List (M.Sx × List (M.Sx × M.Sx))
  cs : List M.Sx
  ms : List (M.Sx × M.Sx)
  at_ : List (M.Sx × M.Sx)
  ds : List (M.Sx × Nat)
  ws : List (M.Sx × List M.Sx)
def revB : Expr → Bool
  | .Slice none none (some (.UnaryOp .USub (.Constant (.int m) _ _) _)) _ => decide (m = 1)
  | _ => false
theorem revB_eq {j : Expr} (h : revB j = true) : ∃ k p1 p2 p3, j = .Slice none none (some (.UnaryOp .USub (.Constant (.int 1) k p1) p2)) p3 := by
  unfold revB at h
  split at h
  · have := of_decide_eq_true h
    subst this
    exact ⟨_, _, _, _, rfl⟩
  · cases h
def tlrB : Expr → Bool
  | .Slice none (some (.Constant (.int z) _ _)) (some (.UnaryOp .USub (.Constant (.int m) _ _) _)) _ => decide (z = 0) && decide (m = 1)
  | _ => false
theorem tlrB_eq {j : Expr} (h : tlrB j = true) : ∃ k0 k p0 p1 p2 p3, j = .Slice none (some (.Constant (.int 0) k0 p0)) (some (.UnaryOp .USub (.Constant (.int 1) k p1) p2)) p3 := by
  unfold tlrB at h
  split at h
  · simp only [Bool.and_eq_true, decide_eq_true_eq] at h
    obtain ⟨rfl, rfl⟩ := h
    exact ⟨_, _, _, _, _, _, rfl⟩
  · cases h
mutual
def mtE (T : Tb) : Scope → Scope → M.E → Expr → Bool
  | sc, s0, .var i, e => (match e with
    | .Name x _ => decide (T.N[i]? = some x) && visB sc x && plainN x
    | _ => false)
  | sc, s0, .int n, e => (match e with
    | .Constant (.int m) _ _ => decide (m = n)
    | _ => false)
  | sc, s0, .str s, e => (match e with
    | .Constant (.str x) _ _ => decide (x = sV s) && chrB s
    | _ => false)
  | sc, s0, .bl b, e => (match e with
    | .Constant (.bool c) _ _ => b == c
    | _ => false)
  | sc, s0, .non, e => (match e with
    | .Constant .none _ _ => true
    | _ => false)
  | sc, s0, .gint x n, e => (match e with
    | .Name y _ => decide (y = sV x) && T.gs.contains (x, n) && glB sc y && plainN y
    | _ => false)
  | sc, s0, .slw a lo hi, e => (match e with
    | .Subscript x (.Slice l u none _) _ => mtE T sc s0 a x && mtO T sc s0 lo l && mtO T sc s0 hi u
    | _ => false)
  | sc, s0, .mnd es, e => (match e with
    | .Call (.Name x _) (y :: l) [⟨kw, .Constant .none _ _, _⟩] _ => decide (x = ("min" : Str)) && decide (kw = some ("default" : Str)) && T.bn.contains x && glB sc x && mtEs T sc s0 es (y :: l)
    | _ => false)
  | sc, s0, .orv a b, e => (match e with
    | .BoolOp .Or [x, .Constant (.int i) j p] _ => mtE T sc s0 a x && mtE T sc s0 b (.Constant (.int i) j p)
    | _ => false)
  | sc, s0, .tix x tab a, e => (match e with
    | .Subscript (.Name y _) j _ => decide (y = sV x) && T.ts.contains (x, tab) && glB sc y && plainN y && mtE T sc s0 a j
    | _ => false)
  | sc, s0, .gtp x ss, e => (match e with
    | .Name y _ => decide (y = sV x) && T.ws.contains (x, ss) && glB sc y && plainN y
    | _ => false)
  | sc, s0, .tup es, e => (match e with
    | .Tuple l _ _ => mtEs T sc s0 es l
    | _ => false)
  | sc, s0, .lst es, e => (match e with
    | .List l _ => mtEs T sc s0 es l
    | _ => false)
  | sc, s0, .dct k es, e => (match e with
    | .Dict ks vs _ => (match k, es with
      | 0, .nil => ks.isEmpty && vs.isEmpty
      | 0, .cons a r => mtPs T sc s0 (.cons a r) ks vs && decide (ks.length ≤ 15)
      | _, _ => false)
    | _ => false)
  | sc, s0, .dcn, e => (match e with
    | .Dict ks vs _ => ks.isEmpty && vs.isEmpty
    | _ => false)
  | sc, s0, .bad, e => badB e
  | sc, s0, .lock i a, e => lockB e && mtE T sc s0 a e
  | sc, s0, .lzip es, e => (match e with
    | .Call (.Name x _) [.Call (.Name z _) [a, b] [] _] [] _ => decide (x = ("list" : Str)) && T.bn.contains x && glB sc x && decide (z = ("zip" : Str)) && T.bn.contains z && glB sc z && mtEs T sc s0 es [a, b]
    | _ => false)
  | sc, s0, .lrng es, e => (match e with
    | .Call (.Name x _) [.Call (.Name z _) (y :: l) [] _] [] _ => decide (x = ("list" : Str)) && T.bn.contains x && glB sc x && decide (z = ("range" : Str)) && T.bn.contains z && glB sc z && mtEs T sc s0 es (y :: l) && decide (l.length < 2)
    | _ => false)
  | sc, s0, .rev a, e => (match e with
    | .Subscript x j _ => revB j && mtE T sc s0 a x
    | .Call (.Name x _) [.Call (.Name z _) [y] [] _] [] _ => decide (x = ("list" : Str)) && T.bn.contains x && glB sc x && decide (z = ("reversed" : Str)) && T.bn.contains z && glB sc z && mtE T sc s0 a y
    | _ => false)
  | sc, s0, .tlr a, e => (match e with
    | .Subscript x j _ => tlrB j && mtE T sc s0 a x
    | _ => false)
  | sc, s0, .bin o a b, e => (match e with
    | .BinOp l op r _ => opB o op && mtE T sc s0 a l && mtE T sc s0 b r
    | _ => false)
  | sc, s0, .neg a, e => (match e with
    | .UnaryOp .USub x _ => mtE T sc s0 a x
    | _ => false)
  | sc, s0, .cmp o a b, e => (match e with
    | .Compare l [op] [r] _ => copB o op && mtE T sc s0 a l && mtE T sc s0 b r
    | _ => false)
  | sc, s0, .chn o o' a b c, e => (match e with
    | .Compare l [op, op'] [r, r'] _ => copB o op && copB o' op' && mtE T sc s0 a l && mtE T sc s0 b r && mtE T sc s0 c r'
    | _ => false)
  | sc, s0, .bop k es, e => (match e with
    | .BoolOp .And (x :: l) _ => k && mtEs T sc s0 es (x :: l) && testsB (x :: l)
    | .BoolOp .Or (x :: l) _ => !k && mtEs T sc s0 es (x :: l) && testsB (x :: l)
    | _ => false)
  | sc, s0, .not a, e => (match e with
    | .UnaryOp .Not x _ => mtE T sc s0 a x && testB x
    | _ => false)
  | sc, s0, .ite c a b, e => (match e with
    | .IfExp t l r _ => mtE T sc s0 c t && testB t && mtE T sc s0 a l && mtE T sc s0 b r
    | _ => false)
  | sc, s0, .ix a i, e => (match e with
    | .Subscript x j _ => mtE T sc s0 a x && mtE T sc s0 i j
    | _ => false)
  | sc, s0, .sl a lo hi, e => (match e with
    | .Subscript x (.Slice l u none _) _ => mtE T sc s0 a x && mtO T sc s0 lo l && mtO T sc s0 hi u
    | _ => false)
  | sc, s0, .call f es, e => (match e with
    | .Call (.Name x _) l [] _ => decide (x = sV f) && T.fs.contains f && glB sc x && plainN x && mtEs T sc s0 es l
    | _ => false)
  | sc, s0, .callD f k es, e => (match e with
    | .Call (.Name x _) (y :: l) [] _ => decide (x = sV f) && T.ds.contains (f, k) && glB sc x && plainN x && mtEs T sc s0 es (y :: l)
    | _ => false)
  | sc, s0, .smv a, e => (match e with
    | .Call (.Name x _) [.Call (.Attribute y nm apos) [] [] cpos] [] _ => decide (x = ("sum" : Str)) && T.bn.contains x && glB sc x && decide (nm = ("values" : Str)) && (apos.endLine == cpos.line) && recvB y && mtE T sc s0 a y
    | _ => false)
  | sc, s0, .fld a f, e => (match e with
    | .Attribute y nm _ => decide (nm = sV f) && recvB y && mtE T sc s0 a y
    | _ => false)
  | sc, s0, .newo c es, e => (match e with
    | .Call (.Name x _) l [] _ => decide (x = sV c) && T.cs.contains c && glB sc x && plainN x && mtEs T sc s0 es l
    | _ => false)
  | sc, s0, .mcall c m o es, e => (match e with
    | .Call (.Attribute x nm apos) l [] pos => decide (nm = sV m) && T.ms.contains (c, m) && (apos.endLine == pos.line) && recvB x && mtE T sc s0 o x && mtEs T sc s0 es l && smallB l.length
    | _ => false)
  | sc, s0, .blt b es, e => (match e with
    | .Call (.Name x _) (y :: l) [] _ => bltB T.bn sc b x && mtEs T sc s0 es (y :: l)
    | _ => false)
  | sc, s0, .isi a t, e => (match e with
    | .Call (.Name x _) [y, .Name z _] [] _ => decide (x = ("isinstance" : Str)) && T.bn.contains x && glB sc x && decide (z = Str.ofString (tyS t)) && T.bn.contains z && glB sc z && mtE T sc s0 a y
    | _ => false)
  | sc, s0, .mth m o es, e => (match e with
    | .Call (.Attribute x nm apos) l [] pos => mthB m nm && (apos.endLine == pos.line) && recvB x && mtE T sc s0 o x && mtEs T sc s0 es l && smallB l.length
    | _ => false)
  | sc, s0, .lc elt t own k src ifs, e => (match e with
    | .ListComp x [⟨tg, it, cs, a⟩] scope _ => decide (a = 0) && tgtIn own t && tgB T.N scope t tg && mtI T sc s0 k src it && tupK k t && compsB T.N sc scope own &&
        mtEs T (relS scope sc) scope ifs cs && testsB cs && decide (cs.length < 2) && mtE T (relS scope sc) scope elt x
    | _ => false)
def mtEs (T : Tb) : Scope → Scope → M.Es → List Expr → Bool
  | sc, s0, .nil, l => l.isEmpty
  | sc, s0, .cons e es, l => (match l with
    | x :: r => mtE T sc s0 e x && mtEs T sc s0 es r
    | [] => false)
def mtPs (T : Tb) : Scope → Scope → M.Es → List (Option Expr) → List Expr → Bool
  | sc, s0, .nil, ks, vs => ks.isEmpty && vs.isEmpty
  | sc, s0, .cons a .nil, ks, vs => false
  | sc, s0, .cons a (.cons b r), ks, vs => (match ks, vs with
    | some x :: ks, y :: vs => mtE T sc s0 a x && mtE T sc s0 b y && mtPs T sc s0 r ks vs
    | _, _ => false)
def mtO (T : Tb) : Scope → Scope → M.Es → Option Expr → Bool
  | sc, s0, .nil, o => o.isNone
  | sc, s0, .cons e es, o => (match o with
    | some x => mtE T sc s0 e x && (match es with
      | .nil => true
      | _ => false)
    | none => false)
def mtI (T : Tb) : Scope → Scope → M.Itk → M.Es → Expr → Bool
  | sc, s0, k, .nil, e => false
  | sc, s0, k, .cons a r, e => (match k with
    | .seq => mtE T sc s0 a e && (match r with
      | .nil => true
      | _ => false)
    | .rng => (match e with
      | .Call (.Name x _) (y :: l) [] _ => decide (x = ("range" : Str)) && T.bn.contains x && glB sc x && mtE T sc s0 a y && mtEs T sc s0 r l && decide (l.length < 3)
      | _ => false)
    | .enum => (match e with
      | .Call (.Name x _) [y] [] _ => decide (x = ("enumerate" : Str)) && T.bn.contains x && glB sc x && mtE T sc s0 a y && (match r with
        | .nil => true
        | _ => false)
      | _ => false)
    | .keys => mtE T sc s0 a e && (match r with
      | .nil => true
      | _ => false)
    | .rev => (match e with
      | .Call (.Name x _) [y] [] _ => decide (x = ("reversed" : Str)) && T.bn.contains x && glB sc x && mtE T sc s0 a y && (match r with
        | .nil => true
        | _ => false)
      | _ => false)
    | .rrng => (match e with
      | .Call (.Name x _) [.Call (.Name z _) [y] [] _] [] _ => decide (x = ("reversed" : Str)) && T.bn.contains x && glB sc x && decide (z = ("range" : Str)) && T.bn.contains z && glB sc z && mtE T sc s0 a y && (match r with
        | .nil => true
        | _ => false)
      | _ => false)
    | .zip => (match e with
      | .Call (.Name x _) [y, z] [] _ => decide (x = ("zip" : Str)) && T.bn.contains x && glB sc x && mtE T sc s0 a y && mtEs T sc s0 r [z]
      | _ => false)
    | .values => (match e with
      | .Call (.Attribute y nm apos) [] [] cpos => decide (nm = ("values" : Str)) && (apos.endLine == cpos.line) && recvB y && mtE T sc s0 a y && (match r with
        | .nil => true
        | _ => false)
      | _ => false)
    | .items => (match e with
      | .Call (.Attribute y nm apos) [] [] cpos => decide (nm = ("items" : Str)) && (apos.endLine == cpos.line) && recvB y && mtE T sc s0 a y && (match r with
        | .nil => true
        | _ => false)
      | _ => false))
def testB : Expr → Bool
  | .IfExp .. => false
  | .BoolOp .Or [_, .Constant (.int _) _ _] _ => false
  | _ => true
def testsB : List Expr → Bool
  | [] => true
  | e :: es => testB e && testsB es
/-- enumerate and its like give pairs to a pair of names -/
def tupK : M.Itk → M.Tgt → Bool
  | .enum, .tp _ => true
  | .enum, _ => false
  | .zip, .tp _ => true
  | .zip, _ => false
  | .items, .tp _ => true
  | .items, _ => false
  | _, _ => true
/-- what walks give pairs alone -/
def needT : M.Itk → Bool
  | .enum => true
  | .zip => true
  | .items => true
  | _ => false
def compsB (N : List Str) (sc scope : Scope) (own : List Nat) : Bool := match ownB N own with
  | some r => blkC N sc scope r
  | none => false
end

/-! ### what a matched expression is not -/
def okX : Expr → Bool
  | .Starred .. => false
  | .Slice .. => false
  | .Set .. => false
  | _ => true
theorem ok_mt {T : Tb} {sc s0 : Scope} {ir : M.E} {e : Expr} (h : mtE T sc s0 ir e = true) : okX e = true := by
  cases e <;> first | rfl | (cases ir <;> first | (exact absurd h (by simp [mtE, badB, lockB])))
section
variable {e : Expr} {es : List Expr} {env : Env}
theorem ok_star (h : okX e = true) : starEach (e :: es) env = (false, eval e env) :: starEach es env := by cases e <;> first | rfl | cases h
theorem ok_ix (h : okX e = true) : PlainIx e := by intro o i; cases e <;> first | rfl | cases h
theorem ok_behind (h : okX e = true) {op : CmpOp} : behindInMarks op e = false := by cases e <;> first | rfl | cases h
theorem ok_fold (h : okX e = true) {x : Value} : foldedSetIterable e env x = pure x := by cases e <;> first | rfl | cases h
theorem ok_base (h : recvB e = true) {nm : Str} : attributeBase e nm env (eval e env) = eval e env := by
  cases e <;> try rfl
  rename_i f as kw p
  cases as with
  | nil => cases h
  | cons a as => cases f <;> rfl
end
end Snd
end
section
/-! Sound8: what the IR says of a text holds of the model's run of it. -/
namespace Snd
open PySem L2 PySem.Spec PyProof.Rows

/-- the context in which a matched text runs -/
structure XOk (P : M.Prog) (n : Nat) (T : Tb) (sc s0 : Scope) (X : L2.Cx) : Prop where
  eN : X.N = T.N
  nd : X.N.Nodup
  eS : X.env.scope = sc
  st : ∀ x, locB s0 x = true → L2.Loc sc x ∧ (X.fn x = true ∨ sc.names.lookup x = some NameKind.local)
  calm : X.calm = true
  room : Room n X.A
  xe : X.xe = fun _ _ => False
  free : ∀ x ∈ T.bn, X.mg x = none
  fn : ∀ f ∈ T.fs, ∃ fa fdc ps, X.mg (sV f) = some (.ref fa) ∧ PySem.W.keepIn X.F (.ref fa) = true ∧ FnOk X.prog X.w X.F X.mg X.base CX0 n fa fdc ps (spC X.F P n f) ∧ Binds X.F fdc ps []
  gi : ∀ p ∈ T.gs, ∃ t, X.mg (sV p.1) = some (.int p.2 t)
  tb : ∀ p ∈ T.ts, ∃ a, X.mg (sV p.1) = some (.ref a) ∧ ∀ s t, p.2.lookup s = some t → KDct X.F X.w a (sV s) (.str (sV t)) ∧ sOk t
  cs : ∀ c ∈ T.cs, P (M.mkN c) = none ∧ ∃ C, X.mg (sV c) = some (.ref C) ∧ PySem.W.keepIn X.K (.ref C) = true ∧ Cls X.K C ∧ ∀ m, n = m + 1 → ∃ fa fd ps, Mk X.K C fa ∧ FnOk X.prog X.w X.F X.mg X.base CX0 m fa fd ps (spC X.F P m (M.metN c M.sInit)) ∧ Binds X.F fd ps []
  ms : ∀ q ∈ T.ms, ∃ C fa fd ps, X.mg (sV q.1) = some (.ref C) ∧ Cls X.K C ∧ Meth X.K C (sV q.2) fa ∧ FnOk X.prog X.w X.F X.mg X.base CX0 n fa fd ps (spC X.F P n (M.metN q.1 q.2)) ∧ Binds X.F fd ps []
  at_ : ∀ q ∈ T.at_, ∃ C, X.mg (sV q.1) = some (.ref C) ∧ NoAttr X.K C (sV q.2)
  ds : ∀ q ∈ T.ds, ∃ fa fdc ps us, X.mg (sV q.1) = some (.ref fa) ∧ PySem.W.keepIn X.F (.ref fa) = true ∧ FnOk X.prog X.w X.F X.mg X.base CX0 n fa fdc ps (spC X.F P n q.1) ∧ Vals (List.replicate q.2 V.non) us ∧ Binds X.F fdc ps us
  wt : ∀ p ∈ T.ws, ∃ a vs, X.mg (sV p.1) = some (.ref a) ∧ KTup X.F a vs ∧ ∀ H, Reps X.F H (p.2.map M.D.str) vs
section
variable {P : M.Prog} {n : Nat} {T : Tb} {sc s0 : Scope} {X : L2.Cx} {xx : M.XP}
theorem XOk.units (ok : XOk P n T sc s0 X) : X.A.units + 200 < cLine := by have := ok.room.un; have : cLine = 9900 := rfl; omega
theorem ba3 {a b c : Bool} (h : (a && b && c) = true) : a = true ∧ b = true ∧ c = true := by
  obtain ⟨h1, h2⟩ := ba h
  obtain ⟨h3, h4⟩ := ba h1
  exact ⟨h3, h4, h2⟩
theorem visB_ok {x : Str} (h : visB sc x = true) : Vis sc x := by
  unfold visB at h
  split at h
  · exact .inl (by assumption)
  · exact .inr (.inl (by assumption))
  · exact .inr (.inr (by assumption))
  · cases h
theorem glB_ok (ok : XOk P n T sc s0 X) {x : Str} (h : glB sc x = true) : Gl X x := by
  unfold glB at h
  split at h
  · show X.env.scope.names.lookup x = _
    rw [ok.eS]; assumption
  · cases h
theorem nm_ok (ok : XOk P n T sc s0 X) {i : Nat} {e : Expr} (h : nmB T.N s0 i e = true) : PG X e (gName i) := by
  cases e <;> try (cases h)
  rename_i x p
  obtain ⟨h1, h2⟩ := ba h
  have e1 : X.N[i]? = some x := by rw [ok.eN]; exact of_decide_eq_true h1
  obtain ⟨l, f⟩ := ok.st x h2
  exact pg_name ok.nd e1 (by rw [ok.eS]; exact l) (by rw [ok.eS]; exact f)
theorem nm_star {i : Nat} {e : Expr} {es : List Expr} {env : Env} (h : nmB T.N s0 i e = true) : assignEach (e :: es) env = (false, assign e env) :: assignEach es env := by
  cases e <;> first | rfl | cases h
theorem nms_ok (ok : XOk P n T sc s0 X) : ∀ {is : List Nat} {es : List Expr}, nmsB T.N s0 is es = true → PGs X es (gNames is) ∧ (assignEach es X.env).length = is.length ∧ (assignEach es X.env).findIdx? (·.1) = none
  | [], [], _ => ⟨pgs_nil, rfl, rfl⟩
  | [], _ :: _, h => by cases h
  | _ :: _, [], h => by cases h
  | i :: is, e :: es, h => by
    obtain ⟨h1, h2⟩ := ba h
    obtain ⟨a, b, c⟩ := nms_ok ok h2
    have q := nm_star (es := es) (env := X.env) h1
    refine ⟨pgs_cons (nm_ok ok h1) a (by rw [q]; rfl), by rw [q]; simp [b], ?_⟩
    rw [q, List.findIdx?_cons]
    simp [c]
theorem tg_ok (ok : XOk P n T sc s0 X) {t : M.Tgt} {e : Expr} (h : tgB T.N s0 t e = true) : PG X e (gOf X.F t) := by
  cases t with
  | nm i => exact nm_ok ok h
  | tp ts =>
    cases e <;> try (cases h)
    obtain ⟨a, b, c⟩ := nms_ok ok h
    exact pg_tup ok.calm a b c
theorem blk_ok (ok : XOk P n T sc s0 X) {scope : Scope} {own : List (Str × Nat)} (hb : BlkOk T.N sc scope own) (s : Shared) (H : Hp) (C : Addr) (cl : List (Str × Addr)) (fp : List Addr) : XOk P n T (relS scope sc) scope (X.blk s H scope (compEnvC scope cl C X.env) fp) := by
  have e : (compEnvC scope cl C X.env).scope = relS scope sc := by rw [← ok.eS]; rfl
  refine ⟨ok.eN, ok.nd, e, fun x hx => ?_, ok.calm, ok.room, rfl, ok.free, ok.fn, ok.gi, ok.tb, ok.cs, ok.ms, ok.at_, ok.ds, ok.wt⟩
  unfold locB at hx
  have key : ∀ k, k ≠ .free → scope.names.lookup x = some k → (relS scope sc).names.lookup x = some k := fun k hk h => lookup_relS_keep hk h
  split at hx
  · rename_i h
    exact ⟨.inl (key _ (by decide) h), .inr (key _ (by decide) h)⟩
  · rename_i h
    refine ⟨.inr (key _ (by decide) h), .inl ?_⟩
    show (scope.names.lookup x == some NameKind.cell) = true
    rw [h]; rfl
  · cases hx
theorem s_bopA {es : List Expr} {e : Expr} {pos : Pos} {wa : WE} {wb : WE} (ha : PE X e (lift X.F wa)) (hb : PE X (.BoolOp .And es pos) (lift X.F wb)) (hne : es ≠ []) :
    PE X (.BoolOp .And (e :: es) pos) (lift X.F fun σ h Q => wa σ h fun d h1 => match d with
    | .bl b => (match b == true with
      | true => wb σ h1 Q
      | false => Q (.bl b) h1)
    | _ => False) := by
  obtain ⟨e2, es2, rfl⟩ : ∃ e2 es2, es = e2 :: es2 := by cases es with
    | nil => exact absurd rfl hne
    | cons a b => exact ⟨a, b, rfl⟩
  refine (pe_and ha hb).imp fun σ H Q ⟨σa, h, Qa, rs, rh, q, k⟩ => ?_
  refine lift_go rs rh q fun d h1 v H1 q1 f1 r1 rh1 rs1 => ?_
  cases d with
  | bl b =>
    cases (show v = _ from r1)
    refine ⟨b, rfl, ?_⟩
    cases b with
    | true => exact lift_go rs1 rh1 q1 fun d h2 v H2 q2 f2 r2 rh2 _ => k _ _ _ _ q2 (f1.trans f2) r2 rh2
    | false => exact (k.go f1).now rh1 q1 rfl
  | _ => exact q1.elim
theorem s_bopO {es : List Expr} {e : Expr} {pos : Pos} {wa : WE} {wb : WE} (ha : PE X e (lift X.F wa)) (hb : PE X (.BoolOp .Or es pos) (lift X.F wb)) (hne : es ≠ []) :
    PE X (.BoolOp .Or (e :: es) pos) (lift X.F fun σ h Q => wa σ h fun d h1 => match d with
    | .bl b => (match b == false with
      | true => wb σ h1 Q
      | false => Q (.bl b) h1)
    | _ => False) := by
  obtain ⟨e2, es2, rfl⟩ : ∃ e2 es2, es = e2 :: es2 := by cases es with
    | nil => exact absurd rfl hne
    | cons a b => exact ⟨a, b, rfl⟩
  refine (pe_or ha hb).imp fun σ H Q ⟨σa, h, Qa, rs, rh, q, k⟩ => ?_
  refine lift_go rs rh q fun d h1 v H1 q1 f1 r1 rh1 rs1 => ?_
  cases d with
  | bl b =>
    cases (show v = _ from r1)
    refine ⟨b, rfl, ?_⟩
    cases b with
    | false => exact lift_go rs1 rh1 q1 fun d h2 v H2 q2 f2 r2 rh2 _ => k _ _ _ _ q2 (f1.trans f2) r2 rh2
    | true => exact (k.go f1).now rh1 q1 rfl
  | _ => exact q1.elim
/-- the last of and, or -/
theorem s_bop1 {o : BoolOp} {k : Bool} {e : Expr} {pos : Pos} {wa : WE} (ha : PE X e (lift X.F wa)) :
    PE X (.BoolOp o [e] pos) (lift X.F fun σ h Q => wa σ h fun d h1 => match d with
    | .bl b => (match b == k with
      | true => Q (.bl k) h1
      | false => Q (.bl b) h1)
    | _ => False) := by
  refine (pe_one ha).imp fun σ H Q ⟨σa, h, Qa, rs, rh, q, kk⟩ => ?_
  refine lift_go rs rh q fun d h1 v H1 q1 f1 r1 rh1 rs1 => ?_
  cases d with
  | bl b =>
    refine (kk.go f1).now rh1 ?_ r1
    cases b <;> cases k <;> exact q1
  | _ => exact q1.elim
theorem w_bopA {es : List Expr} {e : Expr} {pos : Pos} {wa : WE} {wb : WE} (ha : PT X e (liftT X.F wa)) (hb : PW X (.BoolOp .And es pos) (liftT X.F wb)) (hne : es ≠ []) :
    PW X (.BoolOp .And (e :: es) pos) (liftT X.F fun σ h Q => wa σ h fun d h1 => match d with
    | .bl b => (match b == true with
      | true => wb σ h1 Q
      | false => Q (.bl b) h1)
    | _ => False) := by
  obtain ⟨e2, es2, rfl⟩ : ∃ e2 es2, es = e2 :: es2 := by cases es with
    | nil => exact absurd rfl hne
    | cons a b => exact ⟨a, b, rfl⟩
  refine (pw_and ha hb).imp fun σ H Q ⟨σa, h, Qa, rs, rh, q, k⟩ => ?_
  refine ⟨σa, h, _, rs, rh, q, fun d h1 q1 => ?_⟩
  cases d with
  | bl b =>
    refine ⟨b, rfl, fun H1 f1 rh1 => ?_⟩
    cases b with
    | true => exact iteT ⟨σa, h1, _, rs.kp (f1.kp rh), rh1, q1, fun d h2 q2 => let ⟨b, e, kk⟩ := k d h2 q2; ⟨b, e, fun H2 f2 rh2 => kk H2 (f1.trans f2) rh2⟩⟩
    | false =>
      obtain ⟨b, e, kk⟩ := k _ _ q1
      cases e
      exact iteF (kk H1 f1 rh1)
  | _ => exact q1.elim
theorem w_bopO {es : List Expr} {e : Expr} {pos : Pos} {wa : WE} {wb : WE} (ha : PT X e (liftT X.F wa)) (hb : PW X (.BoolOp .Or es pos) (liftT X.F wb)) (hne : es ≠ []) :
    PW X (.BoolOp .Or (e :: es) pos) (liftT X.F fun σ h Q => wa σ h fun d h1 => match d with
    | .bl b => (match b == false with
      | true => wb σ h1 Q
      | false => Q (.bl b) h1)
    | _ => False) := by
  obtain ⟨e2, es2, rfl⟩ : ∃ e2 es2, es = e2 :: es2 := by cases es with
    | nil => exact absurd rfl hne
    | cons a b => exact ⟨a, b, rfl⟩
  refine (pw_or ha hb).imp fun σ H Q ⟨σa, h, Qa, rs, rh, q, k⟩ => ?_
  refine ⟨σa, h, _, rs, rh, q, fun d h1 q1 => ?_⟩
  cases d with
  | bl b =>
    refine ⟨b, rfl, fun H1 f1 rh1 => ?_⟩
    cases b with
    | false => exact iteF ⟨σa, h1, _, rs.kp (f1.kp rh), rh1, q1, fun d h2 q2 => let ⟨b, e, kk⟩ := k d h2 q2; ⟨b, e, fun H2 f2 rh2 => kk H2 (f1.trans f2) rh2⟩⟩
    | true =>
      obtain ⟨b, e, kk⟩ := k _ _ q1
      cases e
      exact iteT (kk H1 f1 rh1)
  | _ => exact q1.elim
theorem w_bop1A {k : Bool} {e : Expr} {pos : Pos} {wa : WE} (ha : PT X e (liftT X.F wa)) :
    PW X (.BoolOp .And [e] pos) (liftT X.F fun σ h Q => wa σ h fun d h1 => match d with
    | .bl b => (match b == k with
      | true => Q (.bl k) h1
      | false => Q (.bl b) h1)
    | _ => False) := by
  refine (pw_and1 ha).imp fun σ H Q ⟨σa, h, Qa, rs, rh, q, kk⟩ => ?_
  refine ⟨σa, h, _, rs, rh, q, fun d h1 q1 => ?_⟩
  cases d with
  | bl b =>
    have q2 : Qa (.bl b) h1 := by cases b <;> cases k <;> exact q1
    exact kk _ _ q2
  | _ => exact q1.elim
theorem w_bop1O {k : Bool} {e : Expr} {pos : Pos} {wa : WE} (ha : PT X e (liftT X.F wa)) :
    PW X (.BoolOp .Or [e] pos) (liftT X.F fun σ h Q => wa σ h fun d h1 => match d with
    | .bl b => (match b == k with
      | true => Q (.bl k) h1
      | false => Q (.bl b) h1)
    | _ => False) := by
  refine (pw_or1 ha).imp fun σ H Q ⟨σa, h, Qa, rs, rh, q, kk⟩ => ?_
  refine ⟨σa, h, _, rs, rh, q, fun d h1 q1 => ?_⟩
  cases d with
  | bl b =>
    have q2 : Qa (.bl b) h1 := by cases b <;> cases k <;> exact q1
    exact kk _ _ q2
  | _ => exact q1.elim
end

/-- the readings of one expression, as a value and as a test -/
structure EOk (X : L2.Cx) (e : Expr) (w : WE) : Prop where
  v : PE X e (lift X.F w)
  t : testB e = true → PT X e (liftT X.F w)
structure BOk (X : L2.Cx) (k : Bool) (es : List Expr) (w : WE) : Prop where
  v : ∀ pos, PE X (.BoolOp (if k then .And else .Or) es pos) (lift X.F w)
  t : testsB es = true → ∀ pos, PW X (.BoolOp (if k then .And else .Or) es pos) (liftT X.F w)
def C (P : M.Prog) (n : Nat) (xx : M.XP) : M.Cx := ⟨M.run P n, xx⟩
section
variable {P : M.Prog} {n : Nat} {T : Tb} {xx : M.XP}
theorem call_any {sc s0 : Scope} {X : L2.Cx} (ok : XOk P n T sc s0 X) {x : Str} {p pos : Pos} {l : List Expr} {f : M.Sx} {w : WA} (hx : x = sV f) (hf : f ∈ T.fs) (hg : glB sc x = true) (hp : plainN x = true)
    (hl : ∀ e es, l = e :: es → starEach (e :: es) X.env = (false, eval e X.env) :: starEach es X.env ∧ (backTo pos (starEach es X.env)).any (·.1) = false) (ha : PA X l (liftA X.F w)) (h0 : l = [] → ∀ σ h Q, w σ h Q → Q [] h) :
    PE X (.Call (.Name x p) l [] pos) (lift X.F fun σ h Q => w σ h fun ds h1 => M.run P n f ds h1 Q xx) := by
  obtain ⟨fa, fdc, ps, h1, h2, h3, h4⟩ := ok.fn f hf
  have hdb : (x == ("__debug__" : Str)) = false := by
    obtain ⟨a, _⟩ := ba hp
    simpa using a
  have hm : X.mg x = some (.ref fa) := by rw [hx]; exact h1
  cases l with
  | nil => exact (s_call0 (xx := xx) h3 ok.room (glB_ok ok hg) hm h2 h4 hdb).imp fun σ H Q ⟨σa, h, Qa, rs, rh, q, k⟩ => ⟨σa, h, Qa, rs, rh, h0 rfl _ _ _ q, k⟩
  | cons e es =>
    obtain ⟨a, b⟩ := hl e es rfl
    exact s_call h3 ok.room (glB_ok ok hg) hm h2 h4 hdb a b ha
theorem new_any {sc s0 : Scope} {X : L2.Cx} (ok : XOk P n T sc s0 X) {x : Str} {p pos : Pos} {l : List Expr} {c : M.Sx} {w : WA} (hx : x = sV c) (hc : c ∈ T.cs) (hg : glB sc x = true) (hp : plainN x = true)
    (hl : ∀ e es, l = e :: es → starEach (e :: es) X.env = (false, eval e X.env) :: starEach es X.env ∧ (backTo pos (starEach es X.env)).any (·.1) = false) (ha : PA X l (liftA X.F w)) (h0 : l = [] → ∀ σ h Q, w σ h Q → Q [] h) :
    PE X (.Call (.Name x p) l [] pos) (lift X.F fun σ h Q => w σ h fun ds h1 => M.run P n (M.mkN c) ds h1 Q xx) := by
  obtain ⟨hP, C, hm, hk, cl, mk⟩ := ok.cs c hc
  have hdb : (x == ("__debug__" : Str)) = false := by
    obtain ⟨a, _⟩ := ba hp
    simpa using a
  cases n with
  | zero =>
    cases l with
    | nil => exact ⟨fun pins s σ H Q I ⟨σa, h, Qa, rs, rh, q, k⟩ => by
        have := h0 rfl _ _ _ q
        simp only [M.run] at this⟩
    | cons e es =>
      obtain ⟨a, b⟩ := hl e es rfl
      refine ⟨fun pins s σ H Q I ⟨σa, h, Qa, rs, rh, q, k⟩ => ?_⟩
      refine wpAny_Call_Name_kw (ld_glob I (glB_ok ok hg) (by rw [hx]; exact hm) ?_ hdb)
      refine PySem.W.callWith_K (h₀ := X.base) I.ok.mod.kin hk (thn (ha.run pos pins s σ H (fun _ _ => False) I (liftA_go rs rh q fun ds h1 vs H1 q1 _ _ _ _ => by simp only [M.run] at q1)) fun us s1 ⟨vs, H1, I1, r, q⟩ => q.elim) a b
  | succ m =>
    obtain ⟨fa, fd, ps, mk1, F, hb⟩ := mk m rfl
    cases l with
    | nil => exact (s_new0 (xx := xx) hP hx hm cl mk1 F ok.room hb (glB_ok ok hg) hdb).imp fun σ H Q ⟨σa, h, Qa, rs, rh, q, k⟩ => ⟨σa, h, Qa, rs, rh, h0 rfl _ _ _ q, k⟩
    | cons e es =>
      obtain ⟨a, b⟩ := hl e es rfl
      exact s_new hP hx hm cl mk1 F ok.room hb (glB_ok ok hg) hdb a b ha
theorem ok_any : ∀ {l : List Expr} {pos : Pos} {env : Env}, (∀ e ∈ l, okX e = true) → (backTo pos (starEach l env)).any (·.1) = false
  | [], _, _, _ => rfl
  | e :: l, pos, env, h => by
    rw [ok_star (h e List.mem_cons_self)]
    show (false || (backTo pos (starEach l env)).any (·.1)) = false
    rw [ok_any fun e he => h e (List.mem_cons_of_mem _ he)]
    rfl
theorem oks_mt {sc s0 : Scope} : ∀ {ir : M.Es} {l : List Expr}, mtEs T sc s0 ir l = true → ∀ e ∈ l, okX e = true
  | .nil, [], _ => fun e he => nomatch he
  | .nil, _ :: _, h => by simp [mtEs] at h
  | .cons a r, [], h => by simp [mtEs] at h
  | .cons a r, x :: l, h => by
    simp only [mtEs] at h
    obtain ⟨h1, h2⟩ := ba h
    intro e he
    rcases List.mem_cons.mp he with z | he
    · rw [z]; exact ok_mt h1
    · exact oks_mt h2 e he
theorem nil_mt {sc s0 : Scope} {C : M.Cx} {ir : M.Es} {l : List Expr} (h : mtEs T sc s0 ir l = true) (e : l = []) : ∀ σ hh Q, M.wEs C ir σ hh Q → Q [] hh := by
  subst e
  cases ir with
  | nil => intro σ hh Q q; simpa only [M.wEs] using q
  | cons a r => simp [mtEs] at h
theorem opName {b : M.Blt} {bn : List Str} {sc : Scope} {x : Str} (h : bltB bn sc b x = true) : ∃ bk, bltK b = some bk ∧ x = bk.name ∧ x ∈ bn ∧ glB sc x = true := by
  unfold bltB at h
  cases e : bltK b with
  | none => rw [e] at h; cases h
  | some bk =>
    rw [e] at h
    obtain ⟨h1, h2, h3⟩ := ba3 h
    exact ⟨bk, rfl, of_decide_eq_true h1, by simpa using h2, h3⟩
theorem mthName {m : M.Mth} {x : Str} (h : mthB m x = true) : ∃ T id, mthT m = some (T, id, x) := by
  unfold mthB at h
  cases e : mthT m with
  | none => rw [e] at h; cases h
  | some z =>
    rw [e] at h
    obtain ⟨a, b, c⟩ := z
    have : x = c := of_decide_eq_true h
    subst this
    exact ⟨a, b, rfl⟩
theorem few_ok {l : List Expr} {pos : Pos} {env : Env} (h : ∀ e ∈ l, okX e = true) (hs : smallB l.length = true) :
    ((backTo pos (starEach l env)).all (fun x => !x.1) && (backToKw pos (keywordEach [] env)).all (fun x => x.1.isSome) && decide (l.length + ([] : List Keyword).length + (if ([] : List Keyword).isEmpty then 0 else 1) < 30)) = true := by
  have h1 : (backTo pos (starEach l env)).all (fun x => !x.1) = true := by
    have := ok_any (pos := pos) (env := env) h
    rw [List.all_eq_not_any_not]
    simpa using this
  have h2 : l.length < 20 := of_decide_eq_true hs
  rw [h1]
  have h3 : (backToKw pos (keywordEach [] env)).all (fun x => x.1.isSome) = true := rfl
  rw [h3]
  have h4 : decide (l.length + ([] : List Keyword).length + (if ([] : List Keyword).isEmpty then 0 else 1) < 30) = true := decide_eq_true (by simp; omega)
  rw [h4]
  rfl
end
end Snd
end
section
/-! Sound9: expressions, by recursion on the IR. -/
namespace Snd
open PySem L2 PySem.Spec PyProof.Rows
section
variable {P : M.Prog} {n : Nat} {T : Tb} {xx : M.XP}
theorem EOk.plain {X : L2.Cx} {x : Expr} {w : WE} (h : PE X x (lift X.F w)) (he : ∀ whole, isTrue x X.env whole = (do let v ← whole; standAt x.pos; holding [v] (truthy v))) : EOk X x w := ⟨h, fun _ => pt_plain h he⟩
theorem EOk.eq {X : L2.Cx} {x : Expr} {w w' : WE} (h : EOk X x w) (e : w' = w) : EOk X x w' := by rw [e]; exact h
mutual
theorem sndE : ∀ (ir : M.E) (x : Expr) (X : L2.Cx) (sc s0 : Scope), XOk P n T sc s0 X → mtE T sc s0 ir x = true → EOk X x (M.wE (C P n xx) ir)
  | .var i, x, X, sc, s0, ok, h => by
    cases x <;> try (exfalso; revert h; simp [mtE]; done)
    rename_i y p
    simp only [mtE] at h
    obtain ⟨h1, h2, h3⟩ := ba3 h
    obtain ⟨h4, h5⟩ := ba h3
    refine (EOk.plain (s_var (i := i) (by rw [ok.eN]; exact of_decide_eq_true h1) (by rw [ok.eS]; exact visB_ok h2) (by simpa using h4) (by simpa using h5)) (by intro _; rfl)).eq (by funext σ h Q; simp only [M.wE] <;> rfl)
  | .int k, x, X, sc, s0, ok, h => by
    cases x <;> try (exfalso; revert h; simp [mtE]; done)
    rename_i c j p
    cases c <;> try (exfalso; revert h; simp [mtE]; done)
    simp only [mtE] at h
    have e := of_decide_eq_true h
    subst e
    exact (EOk.plain (s_const (d := .int _) pe_int fun H => rfl) (by intro _; rfl)).eq (by funext σ h Q; simp only [M.wE])
  | .str s, x, X, sc, s0, ok, h => by
    cases x <;> try (exfalso; revert h; simp [mtE]; done)
    rename_i c j p
    cases c <;> try (exfalso; revert h; simp [mtE]; done)
    simp only [mtE] at h
    obtain ⟨h1, h2⟩ := ba h
    have e := of_decide_eq_true h1
    subst e
    have os : sOk s := fun c hc => of_decide_eq_true (List.all_eq_true.mp h2 c hc)
    exact (EOk.plain (s_const (d := .str s) pe_str fun H => ⟨rfl, os⟩) (by intro _; rfl)).eq (by funext σ h Q; simp only [M.wE])
  | .bl b, x, X, sc, s0, ok, h => by
    cases x <;> try (exfalso; revert h; simp [mtE]; done)
    rename_i c j p
    cases c <;> try (exfalso; revert h; simp [mtE]; done)
    simp only [mtE, beq_iff_eq] at h
    subst h
    exact (EOk.plain (s_const (d := .bl _) pe_bl fun H => rfl) (by intro _; rfl)).eq (by funext σ h Q; simp only [M.wE])
  | .non, x, X, sc, s0, ok, h => by
    cases x <;> try (exfalso; revert h; simp [mtE]; done)
    rename_i c j p
    cases c <;> try (exfalso; revert h; simp [mtE]; done)
    exact (EOk.plain (s_const (d := .non) pe_non fun H => rfl) (by intro _; rfl)).eq (by funext σ h Q; simp only [M.wE])
  | .gint y i, x, X, sc, s0, ok, h => by
    cases x <;> try (exfalso; revert h; simp [mtE]; done)
    simp only [mtE] at h
    obtain ⟨h, h4⟩ := ba h
    obtain ⟨h1, h2, h3⟩ := ba3 h
    have e := of_decide_eq_true h1
    subst e
    exact (EOk.plain (s_gint (glB_ok ok h3) (ok.gi (y, i) (by simpa using h2)) (by simpa using (ba h4).1)) (by intro _; rfl)).eq (by funext σ h Q; simp only [M.wE])
  | .slw a lo hi, x, X, sc, s0, ok, h => by
    cases x <;> try (exfalso; revert h; simp [mtE]; done)
    rename_i y s p
    cases s <;> try (exfalso; revert h; simp [mtE]; done)
    rename_i l u st p2
    cases st with
    | some _ => exact absurd h (by simp [mtE])
    | none =>
      simp only [mtE] at h
      obtain ⟨h1, h2, h3⟩ := ba3 h
      exact (EOk.plain (s_slw (sndE a _ X sc s0 ok h1).v (sndO lo _ X sc s0 ok h2) (sndO hi _ X sc s0 ok h3)) (by intro _; rfl)).eq (by funext σ h Q; simp only [M.wE])
  | .mnd es, x, X, sc, s0, ok, h => by
    cases x <;> try (exfalso; revert h; simp [mtE]; done)
    rename_i g l kw p
    cases g <;> try (exfalso; revert h; simp [mtE]; done)
    cases l with
    | nil => exact absurd h (by simp [mtE])
    | cons y l =>
      match kw, h with
      | [⟨kn, kv, kp⟩], h =>
        cases kv <;> try (exfalso; revert h; simp [mtE]; done)
        rename_i c j np
        cases c <;> try (exfalso; revert h; simp [mtE]; done)
        simp only [mtE] at h
        obtain ⟨h, h5⟩ := ba h
        obtain ⟨h, h4⟩ := ba h
        obtain ⟨h1, h2, h3⟩ := ba3 h
        have e := of_decide_eq_true h1
        subst e
        have e := of_decide_eq_true h2
        subst e
        have hl := oks_mt h5
        exact (EOk.plain (s_mnd ok.calm ok.units (glB_ok ok h4) (ok.free _ (by simpa using h3)) (ok_star (hl y List.mem_cons_self)) (ok_any hl) (sndEs es _ X sc s0 ok h5)) (by intro _; rfl)).eq (by funext σ h Q; simp only [M.wE])
      | [], h => exact absurd h (by simp [mtE])
      | _ :: _ :: _, h => exact absurd h (by simp [mtE])
  | .orv a b, x, X, sc, s0, ok, h => by
    cases x <;> try (exfalso; revert h; simp [mtE]; done)
    rename_i op l p
    cases op with
    | And => exact absurd h (by simp [mtE])
    | Or =>
      match l, h with
      | [y, z], h =>
        cases z <;> try (exfalso; revert h; simp [mtE]; done)
        rename_i k j q
        cases k <;> try (exfalso; revert h; simp [mtE]; done)
        simp only [mtE] at h
        obtain ⟨h1, h2⟩ := ba h
        exact (EOk.mk (s_orv (sndE a y X sc s0 ok h1).v (sndE b _ X sc s0 ok h2).v) fun z => by cases z).eq (by funext σ h Q; simp only [M.wE] <;> rfl)
      | [], h => exact absurd h (by simp [mtE])
      | [_], h => exact absurd h (by simp [mtE])
      | _ :: _ :: _ :: _, h => exact absurd h (by simp [mtE])
  | .tix y tab a, x, X, sc, s0, ok, h => by
    cases x <;> try (exfalso; revert h; simp [mtE]; done)
    rename_i o j p
    cases o <;> try (exfalso; revert h; simp [mtE]; done)
    simp only [mtE] at h
    obtain ⟨h, h5⟩ := ba h
    obtain ⟨h, h4⟩ := ba h
    obtain ⟨h1, h2, h3⟩ := ba3 h
    have e := of_decide_eq_true h1
    subst e
    obtain ⟨ad, e1, e2⟩ := ok.tb (y, tab) (by simpa using h2)
    exact (EOk.plain (s_tix (ok_ix (ok_mt h5)) (glB_ok ok h3) e1 (by simpa using (ba h4).1) e2 (sndE a _ X sc s0 ok h5).v) (by intro _; rfl)).eq (by funext σ h Q; simp only [M.wE] <;> rfl)
  | .gtp y ss, x, X, sc, s0, ok, h => by
    cases x <;> try (exfalso; revert h; simp [mtE]; done)
    simp only [mtE] at h
    obtain ⟨h, h4⟩ := ba h
    obtain ⟨h1, h2, h3⟩ := ba3 h
    have e := of_decide_eq_true h1
    subst e
    obtain ⟨a, vs, e1, e2, e3⟩ := ok.wt (y, ss) (by simpa using h2)
    exact (EOk.plain (s_const (d := .tup (ss.map .str)) (pe_glob (v := .ref a) (glB_ok ok h3) e1 rfl (by simpa using (ba h4).1)) fun H => ⟨a, vs, rfl, .inr e2, e3 H⟩) (by intro _; rfl)).eq (by funext σ h Q; simp only [M.wE])
  | .tup es, x, X, sc, s0, ok, h => by
    cases x <;> try (exfalso; revert h; simp [mtE]; done)
    simp only [mtE] at h
    exact (EOk.plain (s_tup (sndEs es _ X sc s0 ok h)) (by intro _; rfl)).eq (by funext σ h Q; simp only [M.wE])
  | .lst es, x, X, sc, s0, ok, h => by
    cases x <;> try (exfalso; revert h; simp [mtE]; done)
    simp only [mtE] at h
    exact (EOk.plain (s_lst (sndEs es _ X sc s0 ok h)) (by intro _; rfl)).eq (by funext σ h Q; simp only [M.wE])
  | .dcn, x, X, sc, s0, ok, h => by
    cases x <;> try (exfalso; revert h; simp [mtE]; done)
    rename_i ks vs p
    cases ks <;> try (exfalso; revert h; simp [mtE]; done)
    cases vs <;> try (exfalso; revert h; simp [mtE]; done)
    exact (EOk.plain s_dcn (by intro _; rfl)).eq (by funext σ h Q; simp only [M.wE])
  | .dct k es, x, X, sc, s0, ok, h => by
    cases x <;> try (exfalso; revert h; simp [mtE]; done)
    rename_i ks vs p
    cases k with
    | succ _ => exact absurd h (by cases es <;> simp [mtE])
    | zero =>
      cases es with
      | nil =>
        cases ks <;> try (exfalso; revert h; simp [mtE]; done)
        cases vs <;> try (exfalso; revert h; simp [mtE]; done)
        exact (EOk.plain s_dct (by intro _; rfl)).eq (by funext σ h Q; simp only [M.wE])
      | cons a r =>
        simp only [mtE] at h
        obtain ⟨h1, h2⟩ := ba h
        obtain ⟨ws, hp, e1, e2, e3, e4⟩ := sndPs (.cons a r) ks vs X sc s0 ok h1
        have h15 := of_decide_eq_true h2
        have hne : ks ≠ [] := by
          rintro rfl
          cases r <;> simp [mtPs] at h1
        refine (EOk.plain (s_dsp (hp p) e2 e3 hne h15 (by omega)) (by intro _; rfl)).eq ?_
        funext σ h Q
        simp only [M.wE, ← e1, M.wEs]
  | .bad, x, X, sc, s0, ok, h => by
    refine ⟨⟨fun pins s σ H Q I ⟨_, _, _, _, _, q, _⟩ => ?_⟩, fun _ => ⟨fun pins s σ H Q I ⟨_, _, _, _, _, q, _⟩ => ?_⟩⟩
    · simp only [M.wE] at q
    · simp only [M.wE] at q
  | .lock i a, x, X, sc, s0, ok, h => by
    simp only [mtE] at h
    obtain ⟨h1, h2⟩ := ba h
    have ia := (sndE a x X sc s0 ok h2).v
    refine (EOk.plain (s_lock (i := i) ia) ?_).eq (by funext σ h Q; simp only [M.wE])
    cases x <;> first | (intro _; rfl) | cases h1
  | .lzip es, x, X, sc, s0, ok, h => by
    cases x <;> try (exfalso; revert h; simp [mtE]; done)
    rename_i g l kw p
    cases g <;> try (exfalso; revert h; simp [mtE]; done)
    match l, kw, h with
    | [y], [], h =>
      cases y <;> try (exfalso; revert h; simp [mtE]; done)
      rename_i g2 l2 kw2 p2
      cases g2 <;> try (exfalso; revert h; simp [mtE]; done)
      match l2, kw2, h with
      | [a, b], [], h =>
        simp only [mtE] at h
        obtain ⟨h, h7⟩ := ba h
        obtain ⟨h, h6⟩ := ba h
        obtain ⟨h, h5⟩ := ba h
        obtain ⟨h, h4⟩ := ba h
        obtain ⟨h1, h2, h3⟩ := ba3 h
        have e := of_decide_eq_true h1
        subst e
        have e := of_decide_eq_true h4
        subst e
        have hl := oks_mt h7
        exact (EOk.plain (s_lzip ok.calm (glB_ok ok h3) (ok.free _ (by simpa using h2)) (glB_ok ok h6) (ok.free _ (by simpa using h5)) (sndEs es _ X sc s0 ok h7) (ok_star (hl a (by simp))) (ok_any fun z hz => hl z (by simp at hz ⊢; exact .inr hz))) (by intro _; rfl)).eq (by funext σ h Q; simp only [M.wE])
      | [], _, h => exact absurd h (by simp [mtE])
      | [_], _, h => exact absurd h (by simp [mtE])
      | _ :: _ :: _ :: _, _, h => exact absurd h (by simp [mtE])
      | [_, _], _ :: _, h => exact absurd h (by simp [mtE])
    | [], _, h => exact absurd h (by simp [mtE])
    | _ :: _ :: _, _, h => exact absurd h (by simp [mtE])
    | [y], _ :: _, h => exact absurd h (by cases y <;> simp [mtE])
  | .rev a, x, X, sc, s0, ok, h => by
    cases x <;> try (exfalso; revert h; simp [mtE]; done)
    · rename_i g l kw p
      cases g <;> try (exfalso; revert h; simp [mtE]; done)
      match l, kw, h with
      | [y], [], h =>
        cases y <;> try (exfalso; revert h; simp [mtE]; done)
        rename_i g2 l2 kw2 p2
        cases g2 <;> try (exfalso; revert h; simp [mtE]; done)
        match l2, kw2, h with
        | [z], [], h =>
          simp only [mtE] at h
          obtain ⟨h, h7⟩ := ba h
          obtain ⟨h, h6⟩ := ba h
          obtain ⟨h, h5⟩ := ba h
          obtain ⟨h, h4⟩ := ba h
          obtain ⟨h1, h2, h3⟩ := ba3 h
          have e := of_decide_eq_true h1
          subst e
          have e := of_decide_eq_true h4
          subst e
          exact (EOk.plain (s_lrev ok.calm (glB_ok ok h3) (ok.free _ (by simpa using h2)) (glB_ok ok h6) (ok.free _ (by simpa using h5)) (ok_star (es := []) (ok_mt h7)) (sndE a z X sc s0 ok h7).v) (by intro _; rfl)).eq (by funext σ h Q; simp only [M.wE])
        | [], _, h => exact absurd h (by simp [mtE])
        | _ :: _ :: _, _, h => exact absurd h (by simp [mtE])
        | [_], _ :: _, h => exact absurd h (by simp [mtE])
      | [], _, h => exact absurd h (by simp [mtE])
      | _ :: _ :: _, _, h => exact absurd h (by simp [mtE])
      | [y], _ :: _, h => exact absurd h (by cases y <;> simp [mtE])
    · rename_i y j p
      simp only [mtE] at h
      obtain ⟨h1, h2⟩ := ba h
      obtain ⟨k, p1, p2, p3, rfl⟩ := revB_eq h1
      exact (EOk.plain (s_rev (sndE a y X sc s0 ok h2).v) (by intro _; rfl)).eq (by funext σ h Q; simp only [M.wE])
  | .tlr a, x, X, sc, s0, ok, h => by
    cases x <;> try (exfalso; revert h; simp [mtE]; done)
    rename_i y j p
    simp only [mtE] at h
    obtain ⟨h1, h2⟩ := ba h
    obtain ⟨k0, k, p0, p1, p2, p3, rfl⟩ := tlrB_eq h1
    exact (EOk.plain (s_tlr (sndE a y X sc s0 ok h2).v) (by intro _; rfl)).eq (by funext σ h Q; simp only [M.wE])
  | .lrng es, x, X, sc, s0, ok, h => by
    cases x <;> try (exfalso; revert h; simp [mtE]; done)
    rename_i g l kw p
    cases g <;> try (exfalso; revert h; simp [mtE]; done)
    match l, kw, h with
    | [y], [], h =>
      cases y <;> try (exfalso; revert h; simp [mtE]; done)
      rename_i g2 l2 kw2 p2
      cases g2 <;> try (exfalso; revert h; simp [mtE]; done)
      match l2, kw2, h with
      | a :: l3, [], h =>
        simp only [mtE] at h
        obtain ⟨h, h8⟩ := ba h
        obtain ⟨h, h7⟩ := ba h
        obtain ⟨h, h6⟩ := ba h
        obtain ⟨h, h5⟩ := ba h
        obtain ⟨h, h4⟩ := ba h
        obtain ⟨h1, h2, h3⟩ := ba3 h
        have e := of_decide_eq_true h1
        subst e
        have e := of_decide_eq_true h4
        subst e
        have hl := oks_mt h7
        have hy := hl a List.mem_cons_self
        match es, l3, h7, h8 with
        | .nil, _, h7, _ => simp [mtEs] at h7
        | .cons ia .nil, [], h7, _ =>
          simp only [mtEs] at h7
          have i1 := (sndE ia _ X sc s0 ok (ba h7).1).v
          exact (EOk.plain (s_lrng1 ok.calm (glB_ok ok h3) (ok.free _ (by simpa using h2)) (glB_ok ok h6) (ok.free _ (by simpa using h5)) i1 (ok_star hy)) (by intro _; rfl)).eq (by funext σ h Q; simp only [M.wE, M.wEs])
        | .cons ia (.cons ib .nil), [b], h7, _ =>
          simp only [mtEs] at h7
          obtain ⟨h71, h72⟩ := ba h7
          obtain ⟨h73, _⟩ := ba h72
          have i1 := (sndE ia _ X sc s0 ok h71).v
          have i2 := (sndE ib _ X sc s0 ok h73).v
          have sb := ok_mt h73
          exact (EOk.plain (s_lrng2 ok.calm (glB_ok ok h3) (ok.free _ (by simpa using h2)) (glB_ok ok h6) (ok.free _ (by simpa using h5)) i1 i2 (ok_star hy) (ok_star sb) (by rw [ok_star sb]; rfl)) (by intro _; rfl)).eq (by funext σ h Q; simp only [M.wE, M.wEs])
        | .cons _ .nil, _ :: _, h7, _ => simp [mtEs] at h7
        | .cons _ (.cons _ _), [], h7, _ => simp [mtEs] at h7
        | .cons _ (.cons _ (.cons _ _)), [_], h7, _ => simp [mtEs] at h7
        | .cons _ (.cons _ _), _ :: _ :: _, _, h8 =>
          have h8 := of_decide_eq_true h8
          simp only [List.length_cons] at h8
          omega
      | [], _, h => exact absurd h (by simp [mtE])
      | _ :: _, _ :: _, h => exact absurd h (by simp [mtE])
    | [], _, h => exact absurd h (by simp [mtE])
    | _ :: _ :: _, _, h => exact absurd h (by simp [mtE])
    | [y], _ :: _, h => exact absurd h (by cases y <;> simp [mtE])
  | .bin o a b, x, X, sc, s0, ok, h => by
    cases x <;> try (exfalso; revert h; simp [mtE]; done)
    simp only [mtE] at h
    obtain ⟨h1, h2, h3⟩ := ba3 h
    have e := opB_eq h1
    subst e
    exact (EOk.plain (s_bin (sndE a _ X sc s0 ok h2).v (sndE b _ X sc s0 ok h3).v) (by intro _; rfl)).eq (by funext σ h Q; simp only [M.wE])
  | .neg a, x, X, sc, s0, ok, h => by
    cases x <;> try (exfalso; revert h; simp [mtE]; done)
    rename_i op y p
    cases op <;> try (exfalso; revert h; simp [mtE]; done)
    simp only [mtE] at h
    exact (EOk.plain (s_neg (sndE a _ X sc s0 ok h).v) (by intro _; rfl)).eq (by funext σ h Q; simp only [M.wE] <;> rfl)
  | .not a, x, X, sc, s0, ok, h => by
    cases x <;> try (exfalso; revert h; simp [mtE]; done)
    rename_i op y p
    cases op <;> try (exfalso; revert h; simp [mtE]; done)
    simp only [mtE] at h
    obtain ⟨h1, h2⟩ := ba h
    have ih := sndE a _ X sc s0 ok h1
    exact (EOk.mk (s_not ih.v) fun _ => t_not (ih.t h2)).eq (by funext σ h Q; simp only [M.wE] <;> rfl)
  | .cmp o a b, x, X, sc, s0, ok, h => by
    cases x <;> try (exfalso; revert h; simp [mtE]; done)
    rename_i l ops rs p
    cases ops with
    | nil => exact absurd h (by simp [mtE])
    | cons op ops =>
      cases ops with
      | cons _ _ => exact absurd h (by simp [mtE])
      | nil => cases rs with
        | nil => exact absurd h (by simp [mtE])
        | cons r rs => cases rs with
          | cons _ _ => exact absurd h (by simp [mtE])
          | nil =>
            simp only [mtE] at h
            obtain ⟨h1, h2, h3⟩ := ba3 h
            have e := copB_eq h1
            subst e
            have i1 := (sndE a _ X sc s0 ok h2).v
            have i2 := (sndE b _ X sc s0 ok h3).v
            have hb := ok_behind (op := cop o) (ok_mt h3)
            exact (EOk.mk (s_cmp ok.units hb i1 i2) fun _ => t_cmp ok.units hb i1 i2).eq (by funext σ h Q; simp only [M.wE])
  | .chn o o' a b c, x, X, sc, s0, ok, h => by
    cases x <;> try (exfalso; revert h; simp [mtE]; done)
    rename_i l ops rs p
    match ops, rs, h with
    | [op, op'], [r, r'], h =>
      simp only [mtE] at h
      obtain ⟨h, h5⟩ := ba h
      obtain ⟨h, h4⟩ := ba h
      obtain ⟨h1, h2, h3⟩ := ba3 h
      have e := copB_eq h1
      subst e
      have e := copB_eq h2
      subst e
      have i1 := (sndE a _ X sc s0 ok h3).v
      have i2 := (sndE b _ X sc s0 ok h4).v
      have i3 := (sndE c _ X sc s0 ok h5).v
      have hb : lastMarks [cop o, cop o'] [r, r'] = false := ok_behind (op := cop o') (ok_mt h5)
      exact (EOk.mk (s_chn ok.units hb i1 i2 i3) fun _ => t_chn ok.units hb i1 i2 i3).eq (by funext σ h Q; simp only [M.wE] <;> rfl)
    | [], _, h => exact absurd h (by simp [mtE])
    | [_], _, h => exact absurd h (by simp [mtE])
    | _ :: _ :: _ :: _, _, h => exact absurd h (by simp [mtE])
    | [_, _], [], h => exact absurd h (by simp [mtE])
    | [_, _], [_], h => exact absurd h (by simp [mtE])
    | [_, _], _ :: _ :: _ :: _, h => exact absurd h (by simp [mtE])
  | .bop k es, x, X, sc, s0, ok, h => by
    cases x <;> try (exfalso; revert h; simp [mtE]; done)
    rename_i op l p
    cases l with
    | nil => exact absurd h (by cases op <;> simp [mtE])
    | cons y l =>
      cases op with
      | And =>
        simp only [mtE] at h
        obtain ⟨h1, h2, h3⟩ := ba3 h
        subst h1
        have b := sndB true es (y :: l) X sc s0 ok (by simp) h2
        exact (EOk.mk (b.v p) fun _ => (b.t h3 p).pt).eq (by funext σ h Q; simp only [M.wE])
      | Or =>
        simp only [mtE] at h
        obtain ⟨h1, h2, h3⟩ := ba3 h
        cases k with
        | true => cases h1
        | false =>
          have b := sndB false es (y :: l) X sc s0 ok (by simp) h2
          exact (EOk.mk (b.v p) fun _ => (b.t h3 p).pt).eq (by funext σ h Q; simp only [M.wE])
  | .ite c a b, x, X, sc, s0, ok, h => by
    cases x <;> try (exfalso; revert h; simp [mtE]; done)
    simp only [mtE] at h
    obtain ⟨h, h4⟩ := ba h
    obtain ⟨h1, h2, h3⟩ := ba3 h
    exact (EOk.mk (s_ite ((sndE c _ X sc s0 ok h1).t h2) (sndE a _ X sc s0 ok h3).v (sndE b _ X sc s0 ok h4).v) fun z => by cases z).eq (by funext σ h Q; simp only [M.wE] <;> rfl)
  | .ix a i, x, X, sc, s0, ok, h => by
    cases x <;> try (exfalso; revert h; simp [mtE]; done)
    simp only [mtE] at h
    obtain ⟨h1, h2⟩ := ba h
    exact (EOk.plain (s_ix ok.units (ok_ix (ok_mt h2)) (sndE a _ X sc s0 ok h1).v (sndE i _ X sc s0 ok h2).v) (by intro _; rfl)).eq (by funext σ h Q; simp only [M.wE])
  | .sl a lo hi, x, X, sc, s0, ok, h => by
    cases x <;> try (exfalso; revert h; simp [mtE]; done)
    rename_i y s p
    cases s <;> try (exfalso; revert h; simp [mtE]; done)
    rename_i l u st p2
    cases st with
    | some _ => exact absurd h (by simp [mtE])
    | none =>
      simp only [mtE] at h
      obtain ⟨h1, h2, h3⟩ := ba3 h
      exact (EOk.plain (s_sl (sndE a _ X sc s0 ok h1).v (sndO lo _ X sc s0 ok h2) (sndO hi _ X sc s0 ok h3)) (by intro _; rfl)).eq (by funext σ h Q; simp only [M.wE])
  | .call f es, x, X, sc, s0, ok, h => by
    cases x <;> try (exfalso; revert h; simp [mtE]; done)
    rename_i g l kw p
    cases g <;> try (exfalso; revert h; simp [mtE]; done)
    cases kw <;> try (exfalso; revert h; simp [mtE]; done)
    simp only [mtE] at h
    obtain ⟨h, h5⟩ := ba h
    obtain ⟨h, h4⟩ := ba h
    obtain ⟨h1, h2, h3⟩ := ba3 h
    have hl := oks_mt h5
    refine (EOk.plain (call_any (xx := xx) ok (of_decide_eq_true h1) (by simpa using h2) h3 h4 (fun e r q => ?_) (sndEs es _ X sc s0 ok h5) (fun q => nil_mt h5 q)) (by intro _; rfl)).eq (by funext σ h Q; simp only [M.wE] <;> rfl)
    subst q
    exact ⟨ok_star (hl e List.mem_cons_self), ok_any fun z hz => hl z (List.mem_cons_of_mem _ hz)⟩
  | .callD f k es, x, X, sc, s0, ok, h => by
    cases x <;> try (exfalso; revert h; simp [mtE]; done)
    rename_i g l kw p
    cases g <;> try (exfalso; revert h; simp [mtE]; done)
    rename_i g p3
    cases l with
    | nil => exact absurd h (by simp [mtE])
    | cons y l =>
      cases kw <;> try (exfalso; revert h; simp [mtE]; done)
      simp only [mtE] at h
      obtain ⟨h, h5⟩ := ba h
      obtain ⟨h, h4⟩ := ba h
      obtain ⟨h1, h2, h3⟩ := ba3 h
      have hl := oks_mt h5
      obtain ⟨fa, fdc, ps, us, e1, e2, e3, e4, e5⟩ := ok.ds (f, k) (by simpa using h2)
      have hdb : (g == ("__debug__" : Str)) = false := by
        obtain ⟨a, _⟩ := ba h4
        simpa using a
      have hx := of_decide_eq_true h1
      subst hx
      exact (EOk.plain (s_callD (xx := xx) e3 ok.room (glB_ok ok h3) e1 e2 e4 e5 hdb (ok_star (hl y List.mem_cons_self)) (ok_any fun z hz => hl z (List.mem_cons_of_mem _ hz)) (sndEs es _ X sc s0 ok h5)) (by intro _; rfl)).eq (by funext σ h Q; simp only [M.wE] <;> rfl)
  | .smv a, x, X, sc, s0, ok, h => by
    match x, h with
    | .Call (.Name x p) [.Call (.Attribute y nm apos) [] [] cpos] [] pos, h =>
      simp only [mtE] at h
      obtain ⟨h, h7⟩ := ba h
      obtain ⟨h, h6⟩ := ba h
      obtain ⟨h, h5⟩ := ba h
      obtain ⟨h, h4⟩ := ba h
      obtain ⟨h1, h2, h3⟩ := ba3 h
      have hn := of_decide_eq_true h4
      subst hn
      exact (EOk.plain (s_smv (of_decide_eq_true h1) ok.calm (glB_ok ok h3) (ok.free _ (by simpa using h2)) (ok_base h6) h5 (sndE a _ X sc s0 ok h7).v) (by intro _; rfl)).eq (by funext σ h Q; simp only [M.wE])
  | .fld a f, x, X, sc, s0, ok, h => by
    cases x <;> try (exfalso; revert h; simp [mtE]; done)
    simp only [mtE] at h
    obtain ⟨h1, h2, h3⟩ := ba3 h
    exact (EOk.plain (s_fld (of_decide_eq_true h1) (ok_base h2) (sndE a _ X sc s0 ok h3).v) (by intro _; rfl)).eq (by funext σ h Q; simp only [M.wE])
  | .newo c es, x, X, sc, s0, ok, h => by
    cases x <;> try (exfalso; revert h; simp [mtE]; done)
    rename_i g l kw p
    cases g <;> try (exfalso; revert h; simp [mtE]; done)
    cases kw <;> try (exfalso; revert h; simp [mtE]; done)
    simp only [mtE] at h
    obtain ⟨h, h5⟩ := ba h
    obtain ⟨h, h4⟩ := ba h
    obtain ⟨h1, h2, h3⟩ := ba3 h
    have hl := oks_mt h5
    refine (EOk.plain (new_any (xx := xx) ok (of_decide_eq_true h1) (by simpa using h2) h3 h4 (fun e r q => ?_) (sndEs es _ X sc s0 ok h5) (fun q => nil_mt h5 q)) (by intro _; rfl)).eq (by funext σ h Q; simp only [M.wE] <;> rfl)
    subst q
    exact ⟨ok_star (hl e List.mem_cons_self), ok_any fun z hz => hl z (List.mem_cons_of_mem _ hz)⟩
  | .mcall c m o es, x, X, sc, s0, ok, h => by
    cases x <;> try (exfalso; revert h; simp [mtE]; done)
    rename_i g l kw p
    cases g <;> try (exfalso; revert h; simp [mtE]; done)
    cases kw <;> try (exfalso; revert h; simp [mtE]; done)
    rename_i y nm apos
    simp only [mtE] at h
    obtain ⟨h, h7⟩ := ba h
    obtain ⟨h, h6⟩ := ba h
    obtain ⟨h, h5⟩ := ba h
    obtain ⟨h, h4⟩ := ba h
    obtain ⟨h1, h2, h3⟩ := ba3 h
    obtain ⟨C, fa, fd, ps, hm, cl, me, F, hb⟩ := ok.ms (c, m) (by simpa using h2)
    have hl := oks_mt h6
    have io := (sndE o _ X sc s0 ok h5).v
    cases l with
    | nil =>
      have key : ∀ σ hh Q, M.wEs (Snd.C P n xx) es σ hh Q → Q [] hh := nil_mt h6 rfl
      refine (EOk.plain ((s_mcall0 (xx := xx) (of_decide_eq_true h1) hm cl me F ok.room hb (ok_base h4) h3 io).imp fun σ H Q ⟨σa, hh, Qa, rs, rh, q, k⟩ => ⟨σa, hh, Qa, rs, rh, ?_, k⟩) (by intro _; rfl)).eq (w := M.wE (Snd.C P n xx) (.mcall c m o es)) rfl
      cases es with
      | nil => exact (by simpa only [M.wE, M.wEs] using q : M.wE (Snd.C P n xx) o σa hh fun x h1 => M.aIns x h1 fun p c' fs => c' = c ∧ List.lookup m fs = none ∧ (Snd.C P n xx).call (M.metN c m) [M.D.ref p] h1 Qa (Snd.C P n xx).ex)
      | cons _ _ => simp [mtEs] at h6
    | cons e r =>
      exact (EOk.plain (s_mcall (xx := xx) (of_decide_eq_true h1) hm cl me F ok.room hb (ok_base h4) (few_ok hl h7) h3 (ok_star (hl e List.mem_cons_self)) (ok_any fun z hz => hl z (List.mem_cons_of_mem _ hz)) io (sndEs es _ X sc s0 ok h6)) (by intro _; rfl)).eq (by funext σ h Q; simp only [M.wE] <;> rfl)
  | .blt b es, x, X, sc, s0, ok, h => by
    cases x <;> try (exfalso; revert h; simp [mtE]; done)
    rename_i g l kw p
    cases g <;> try (exfalso; revert h; simp [mtE]; done)
    cases l with
    | nil => exact absurd h (by simp [mtE])
    | cons y l =>
      cases kw <;> try (exfalso; revert h; simp [mtE]; done)
      simp only [mtE] at h
      obtain ⟨h1, h2⟩ := ba h
      obtain ⟨bk, e1, e2, e3, e4⟩ := opName h1
      have hl := oks_mt h2
      exact (EOk.plain (s_blt ok.calm ok.units e1 e2 (glB_ok ok e4) (ok.free _ e3) (ok_star (hl y List.mem_cons_self)) (ok_any fun z hz => hl z (List.mem_cons_of_mem _ hz)) (sndEs es _ X sc s0 ok h2)) (by intro _; rfl)).eq (by funext σ h Q; simp only [M.wE])
  | .isi a t, x, X, sc, s0, ok, h => by
    cases x <;> try (exfalso; revert h; simp [mtE]; done)
    rename_i g l kw p
    cases g <;> try (exfalso; revert h; simp [mtE]; done)
    rename_i nm np
    match l, kw, h with
    | [y, w], [], h =>
      cases w <;> try (exfalso; revert h; simp [mtE]; done)
      simp only [mtE] at h
      obtain ⟨h, h7⟩ := ba h
      obtain ⟨h, h6⟩ := ba h
      obtain ⟨h, h5⟩ := ba h
      obtain ⟨h, h4⟩ := ba h
      obtain ⟨h1, h2, h3⟩ := ba3 h
      have e := of_decide_eq_true h1
      subst e
      exact (EOk.plain (s_isi (glB_ok ok h3) (ok.free _ (by simpa using h2)) (of_decide_eq_true h4) (glB_ok ok h6) (ok.free _ (by simpa using h5)) (ok_star (ok_mt h7)) (sndE a _ X sc s0 ok h7).v) (by intro _; rfl)).eq (by funext σ h Q; simp only [M.wE] <;> rfl)
    | [], _, h => exact absurd h (by simp [mtE])
    | [_], _, h => exact absurd h (by simp [mtE])
    | _ :: _ :: _ :: _, _, h => exact absurd h (by simp [mtE])
    | [_, w], _ :: _, h => exact absurd h (by cases w <;> simp [mtE])
  | .mth m o es, x, X, sc, s0, ok, h => by
    cases x <;> try (exfalso; revert h; simp [mtE]; done)
    rename_i g l kw p
    cases g <;> try (exfalso; revert h; simp [mtE]; done)
    cases kw <;> try (exfalso; revert h; simp [mtE]; done)
    rename_i y nm apos
    simp only [mtE] at h
    obtain ⟨h, h6⟩ := ba h
    obtain ⟨h, h5⟩ := ba h
    obtain ⟨h, h4⟩ := ba h
    obtain ⟨h1, h2, h3⟩ := ba3 h
    obtain ⟨Ty, id, em⟩ := mthName h1
    have hl := oks_mt h5
    have io := (sndE o _ X sc s0 ok h4).v
    cases l with
    | nil =>
      have key : ∀ σ hh Q, M.wEs (C P n xx) es σ hh Q → Q [] hh := nil_mt h5 rfl
      refine (EOk.plain ((s_mth0 ok.units em rfl (ok_base h3) h2 io).imp fun σ H Q ⟨σa, hh, Qa, rs, rh, q, k⟩ => ⟨σa, hh, Qa, rs, rh, ?_, k⟩) (by intro _; rfl)).eq (w := M.wE (C P n xx) (.mth m o es)) rfl
      cases es with
      | nil => simpa only [M.wE, M.wEs] using q
      | cons _ _ => simp [mtEs] at h5
    | cons e r =>
      refine (EOk.plain (s_mth ok.units em rfl (ok_base h3) (few_ok hl h6) h2 (ok_star (hl e List.mem_cons_self)) (ok_any fun z hz => hl z (List.mem_cons_of_mem _ hz)) io (sndEs es _ X sc s0 ok h5)) (by intro _; rfl)).eq (by funext σ h Q; simp only [M.wE])
  | .lc elt t own k src ifs, x, X, sc, s0, ok, h => by
    cases x <;> try (exfalso; revert h; simp [mtE]; done)
    rename_i y gs scope p
    match gs, h with
    | [⟨tg, it, cs, a⟩], h =>
      simp only [mtE] at h
      obtain ⟨h, h10⟩ := ba h
      obtain ⟨h, h9⟩ := ba h
      obtain ⟨h, h8⟩ := ba h
      obtain ⟨h, h7⟩ := ba h
      obtain ⟨h, h6⟩ := ba h
      obtain ⟨h, h5⟩ := ba h
      obtain ⟨h, h4⟩ := ba h
      obtain ⟨h1, h2, h3⟩ := ba3 h
      have ea := of_decide_eq_true h1
      subst ea
      unfold compsB at h6
      cases eo : ownB T.N own with
      | none => rw [eo] at h6; cases h6
      | some ow =>
        rw [eo] at h6
        have blk := blkOk_by h6
        have em := ownB_map eo
        have iI := sndI k src it tg X sc s0 ok h4 (by
          intro e
          cases t with
          | nm _ => cases k <;> first | exact absurd e (by decide) | exact absurd h5 (by simp [tupK])
          | tp ts => cases tg <;> first | exact ⟨_, _, _, rfl⟩ | cases h3)
        have gT : ∀ (s : Shared) (H : Hp) (D : Addr) (cl : List (Str × Addr)) (fp : List Addr), PG (X.blk s H scope (compEnvC scope cl D X.env) fp) tg (gOf X.F t) := fun s H D cl fp => tg_ok (blk_ok ok blk s H D cl fp) h3
        have iE : ∀ (s : Shared) (H : Hp) (D : Addr) (cl : List (Str × Addr)) (fp : List Addr), PE (X.blk s H scope (compEnvC scope cl D X.env) fp) y (lift X.F (M.wE (C P n xx) elt)) := fun s H D cl fp => (sndE elt _ _ _ _ (blk_ok ok blk s H D cl fp) h10).v
        have iT : ∀ (s : Shared) (H : Hp) (D : Addr) (cl : List (Str × Addr)) (fp : List Addr), PTs (X.blk s H scope (compEnvC scope cl D X.env) fp) cs (liftT X.F (M.wB (C P n xx) true ifs)) := fun s H D cl fp => by
          have okb := blk_ok ok blk s H D cl fp
          match cs, ifs, h7, h8, h9 with
          | [], .nil, _, _, _ =>
            refine ⟨fun pins s σ H Q I ⟨σa, hh, Qa, rs, rh, q, kk⟩ => pts_nil.run pins s σ H Q I ?_⟩
            simp only [M.wB] at q
            obtain ⟨b, e, kk⟩ := kk _ _ q
            cases e
            exact kk H .refl rh
          | [], .cons _ _, h7, _, _ => simp [mtEs] at h7
          | [c], .nil, h7, _, _ => simp [mtEs] at h7
          | [c], .cons i r, h7, h8, _ =>
            simp only [mtEs] at h7
            obtain ⟨h71, h72⟩ := ba h7
            cases r with
            | cons _ _ => simp [mtEs] at h72
            | nil =>
              have ht := (sndE i c _ _ _ okb h71).t (ba h8).1
              refine pts_one (ht.imp fun σ H Q ⟨σa, hh, Qa, rs, rh, q, kk⟩ => ⟨σa, hh, _, rs, rh, (by simpa only [M.wB] using q), fun d h' q1 => ?_⟩)
              cases d with
              | bl b =>
                have q2 : Qa (.bl b) h' := by cases b <;> exact q1
                exact kk _ _ q2
              | _ => exact q1.elim
          | _ :: _ :: _, _, _, _, h9 =>
            have h9 := of_decide_eq_true h9
            simp only [List.length_cons] at h9
            omega
        have hfold : ∀ z, foldedSetIterable it X.env z = pure z := by
          intro z
          cases k with
          | seq =>
            cases src with
            | nil => simp [mtI] at h4
            | cons a r =>
              simp only [mtI] at h4
              exact ok_fold (ok_mt (ba h4).1)
          | keys =>
            cases src with
            | nil => simp [mtI] at h4
            | cons a r =>
              simp only [mtI] at h4
              exact ok_fold (ok_mt (ba h4).1)
          | _ =>
            cases src with
            | nil => simp [mtI] at h4
            | cons a r => cases it <;> first | rfl | (simp [mtI] at h4)
        have key := pe_lc (pos := p) (elt := y) ok.calm ok.nd iI (by rw [ok.eN, ok.eS]; exact blk) gT iT iE hfold
        rw [em] at key
        refine (EOk.plain (key.imp fun σ H Q q => lc_ok h2 q) (by intro _; rfl)).eq (by funext σ h Q; simp only [M.wE] <;> rfl)
    | [], h => exact absurd h (by simp [mtE])
    | _ :: _ :: _, h => exact absurd h (by simp [mtE])
theorem sndEs : ∀ (ir : M.Es) (l : List Expr) (X : L2.Cx) (sc s0 : Scope), XOk P n T sc s0 X → mtEs T sc s0 ir l = true → PA X l (liftA X.F (M.wEs (C P n xx) ir))
  | .nil, l, X, sc, s0, ok, h => by
    cases l with
    | cons _ _ => simp [mtEs] at h
    | nil =>
      have e : M.wEs (C P n xx) .nil = fun _ h Q => Q [] h := by funext σ h Q; simp only [M.wEs]
      rw [e]
      exact s_nil
  | .cons a r, l, X, sc, s0, ok, h => by
    cases l with
    | nil => simp [mtEs] at h
    | cons x l =>
      simp only [mtEs] at h
      obtain ⟨h1, h2⟩ := ba h
      have e : M.wEs (C P n xx) (.cons a r) = fun σ h Q => M.wE (C P n xx) a σ h fun d h1 => M.wEs (C P n xx) r σ h1 fun ds h2 => Q (d :: ds) h2 := by funext σ h Q; simp only [M.wEs]
      rw [e]
      exact s_cons (ok_star (ok_mt h1)) (sndE a _ X sc s0 ok h1).v (sndEs r _ X sc s0 ok h2)
theorem sndPs : ∀ (ir : M.Es) (ks : List (Option Expr)) (vs : List Expr) (X : L2.Cx) (sc s0 : Scope), XOk P n T sc s0 X → mtPs T sc s0 ir ks vs = true →
    ∃ ws : List (WE × WE), (∀ pos, PPs X pos ks vs (ws.map fun w => (lift X.F w.1, lift X.F w.2))) ∧ M.wEs (C P n xx) ir = wPs ws ∧ ks.all (·.isSome) = true ∧ ks.length = vs.length ∧ ws.length = ks.length
  | .nil, ks, vs, X, sc, s0, ok, h => by
    cases ks with
    | cons _ _ => simp [mtPs] at h
    | nil =>
      cases vs with
      | cons _ _ => simp [mtPs] at h
      | nil => exact ⟨[], fun pos => pps_nil, by funext σ h Q; simp only [M.wEs, wPs], rfl, rfl, rfl⟩
  | .cons a .nil, ks, vs, X, sc, s0, ok, h => by simp [mtPs] at h
  | .cons a (.cons b r), ks, vs, X, sc, s0, ok, h => by
    match ks, vs, h with
    | some x :: ks, y :: vs, h =>
      simp only [mtPs] at h
      obtain ⟨h1, h2, h3⟩ := ba3 h
      obtain ⟨ws, hp, e1, e2, e3, e4⟩ := sndPs r ks vs X sc s0 ok h3
      refine ⟨(M.wE (C P n xx) a, M.wE (C P n xx) b) :: ws, fun pos => pps_cons (sndE a x X sc s0 ok h1).v (sndE b y X sc s0 ok h2).v (hp pos), ?_, ?_, ?_, ?_⟩
      · funext σ h Q; simp only [M.wEs, wPs, e1]
      · simpa using e2
      · simp [e3]
      · simp [e4]
    | [], _, h => simp [mtPs] at h
    | none :: _, [], h => simp [mtPs] at h
    | none :: _, _ :: _, h => simp [mtPs] at h
    | some _ :: _, [], h => simp [mtPs] at h
theorem sndB : ∀ (k : Bool) (ir : M.Es) (l : List Expr) (X : L2.Cx) (sc s0 : Scope), XOk P n T sc s0 X → l ≠ [] → mtEs T sc s0 ir l = true → BOk X k l (M.wB (C P n xx) k ir)
  | k, .nil, l, X, sc, s0, ok, hne, h => by
    cases l with
    | cons _ _ => simp [mtEs] at h
    | nil => exact absurd rfl hne
  | k, .cons a r, l, X, sc, s0, ok, hne, h => by
    cases l with
    | nil => simp [mtEs] at h
    | cons x l =>
      simp only [mtEs] at h
      obtain ⟨h1, h2⟩ := ba h
      have ia := sndE a x X sc s0 ok h1
      cases l with
      | nil =>
        cases r with
        | cons _ _ => simp [mtEs] at h2
        | nil =>
          have e : M.wB (C P n xx) k (.cons a .nil) = fun σ h Q => M.wE (C P n xx) a σ h fun d h1 => match d with
            | .bl b => (match b == k with
              | true => Q (.bl k) h1
              | false => Q (.bl b) h1)
            | _ => False := by funext σ h Q; simp only [M.wB] <;> rfl
          rw [e]
          refine ⟨fun pos => ?_, fun ht pos => ?_⟩
          · exact s_bop1 ia.v
          · have ht := (ba ht).1
            cases k with
            | true => exact w_bop1A (ia.t ht)
            | false => exact w_bop1O (ia.t ht)
      | cons x2 l2 =>
        have ib := sndB k r (x2 :: l2) X sc s0 ok (by simp) h2
        have e : M.wB (C P n xx) k (.cons a r) = fun σ h Q => M.wE (C P n xx) a σ h fun d h1 => match d with
          | .bl b => (match b == k with
            | true => M.wB (C P n xx) k r σ h1 Q
            | false => Q (.bl b) h1)
          | _ => False := by funext σ h Q; simp only [M.wB] <;> rfl
        rw [e]
        cases k with
        | true => exact ⟨fun pos => s_bopA ia.v (ib.v pos) (by simp), fun ht pos => w_bopA (ia.t (ba ht).1) (ib.t (ba ht).2 pos) (by simp)⟩
        | false => exact ⟨fun pos => s_bopO ia.v (ib.v pos) (by simp), fun ht pos => w_bopO (ia.t (ba ht).1) (ib.t (ba ht).2 pos) (by simp)⟩
theorem sndO : ∀ (ir : M.Es) (o : Option Expr) (X : L2.Cx) (sc s0 : Scope), XOk P n T sc s0 X → mtO T sc s0 ir o = true → PO X o (liftO X.F (M.wO (C P n xx) ir))
  | .nil, o, X, sc, s0, ok, h => by
    cases o with
    | some _ => simp [mtO] at h
    | none =>
      have e : M.wO (C P n xx) .nil = fun _ h Q => Q none h := by funext σ h Q; simp only [M.wO]
      rw [e]
      exact s_nopart
  | .cons a r, o, X, sc, s0, ok, h => by
    cases o with
    | none => simp [mtO] at h
    | some x =>
      cases r with
      | cons _ _ => simp [mtO] at h
      | nil =>
        simp only [mtO] at h
        have e : M.wO (C P n xx) (.cons a .nil) = fun σ h Q => M.wE (C P n xx) a σ h fun d h1 => match d with | .int n => Q (some n) h1 | _ => False := by funext σ h Q; simp only [M.wO] <;> rfl
        rw [e]
        exact s_part (sndE a _ X sc s0 ok (ba h).1).v
theorem sndI : ∀ (k : M.Itk) (ir : M.Es) (e tg : Expr) (X : L2.Cx) (sc s0 : Scope), XOk P n T sc s0 X → mtI T sc s0 k ir e = true → (needT k = true → ∃ es kk p, tg = .Tuple es kk p) → PI X tg e (liftI X.F k (M.wEs (C P n xx) ir))
  | k, .nil, e, tg, X, sc, s0, ok, h, ht => by simp [mtI] at h
  | k, .cons a r, e, tg, X, sc, s0, ok, h, ht => by
    have w1 : M.wEs (C P n xx) (.cons a .nil) = fun σ h Q => M.wE (C P n xx) a σ h fun d h1 => Q [d] h1 := by funext σ h Q; simp only [M.wEs]
    cases k <;> try (exfalso; revert h; simp [mtI]; done)
    · simp only [mtI] at h
      obtain ⟨h1, h2⟩ := ba h
      cases r with
      | cons _ _ => cases h2
      | nil =>
        rw [w1]
        exact i_seq (sndE a _ X sc s0 ok h1).v
    · cases e <;> try (exfalso; revert h; simp [mtI]; done)
      rename_i g l kw p
      cases g <;> try (exfalso; revert h; simp [mtI]; done)
      cases l with
      | nil => exact absurd h (by simp [mtI])
      | cons y l =>
        cases kw <;> try (exfalso; revert h; simp [mtI]; done)
        simp only [mtI] at h
        obtain ⟨h, h6⟩ := ba h
        obtain ⟨h, h5⟩ := ba h
        obtain ⟨h, h4⟩ := ba h
        obtain ⟨h1, h2, h3⟩ := ba3 h
        have e := of_decide_eq_true h1
        subst e
        have ia := (sndE a _ X sc s0 ok h4).v
        have sy := ok_mt h4
        match l, r, h5, h6 with
        | [], .nil, _, _ =>
          rw [w1]
          exact i_rng1 (glB_ok ok h3) (ok.free _ (by simpa using h2)) (ok_star (es := []) sy) ia
        | [], .cons _ _, h5, _ => simp [mtEs] at h5
        | [z], .nil, h5, _ => simp [mtEs] at h5
        | [z], .cons b r, h5, _ =>
          simp only [mtEs] at h5
          obtain ⟨h51, h52⟩ := ba h5
          cases r with
          | cons _ _ => simp [mtEs] at h52
          | nil =>
            have w2 : M.wEs (C P n xx) (.cons a (.cons b .nil)) = fun σ h Q => M.wE (C P n xx) a σ h fun d h1 => M.wE (C P n xx) b σ h1 fun d2 h2 => Q [d, d2] h2 := by funext σ h Q; simp only [M.wEs]
            rw [w2]
            have sz := ok_mt h51
            exact i_rng2 (glB_ok ok h3) (ok.free _ (by simpa using h2)) (by rw [ok_star sy, ok_star sz]; rfl) (ok_star (es := []) sz) ia (sndE b _ X sc s0 ok h51).v
        | [z, z2], .nil, h5, _ => simp [mtEs] at h5
        | [z, z2], .cons b .nil, h5, _ => simp [mtEs] at h5
        | [z, z2], .cons b (.cons c r), h5, _ =>
          simp only [mtEs] at h5
          obtain ⟨h51, h52⟩ := ba h5
          obtain ⟨h53, h54⟩ := ba h52
          cases r with
          | cons _ _ => simp [mtEs] at h54
          | nil =>
            have w3 : M.wEs (C P n xx) (.cons a (.cons b (.cons c .nil))) = fun σ h Q => M.wE (C P n xx) a σ h fun d h1 => M.wE (C P n xx) b σ h1 fun d2 h2 => M.wE (C P n xx) c σ h2 fun d3 h3 => Q [d, d2, d3] h3 := by funext σ h Q; simp only [M.wEs]
            rw [w3]
            have sz := ok_mt h51
            have sz2 := ok_mt h53
            exact i_rng3 (glB_ok ok h3) (ok.free _ (by simpa using h2)) (by rw [ok_star sy, ok_star sz, ok_star sz2]; rfl) (by rw [ok_star sz, ok_star sz2]; rfl) (ok_star (es := []) sz2) ia (sndE b _ X sc s0 ok h51).v (sndE c _ X sc s0 ok h53).v
        | _ :: _ :: _ :: _, _, _, h6 =>
          have h6 := of_decide_eq_true h6
          simp only [List.length_cons] at h6
          omega
    · obtain ⟨es, kk, tp, rfl⟩ := ht rfl
      cases e <;> try (exfalso; revert h; simp [mtI]; done)
      rename_i g l kw p
      cases g <;> try (exfalso; revert h; simp [mtI]; done)
      match l, kw, h with
      | [y, z], [], h =>
        simp only [mtI] at h
        obtain ⟨h, h5⟩ := ba h
        obtain ⟨h, h4⟩ := ba h
        obtain ⟨h1, h2, h3⟩ := ba3 h
        have e := of_decide_eq_true h1
        subst e
        have w3 : M.wEs (C P n xx) (.cons a r) = fun σ h Q => M.wE (C P n xx) a σ h fun d h1 => M.wEs (C P n xx) r σ h1 fun ds h2 => Q (d :: ds) h2 := by funext σ h Q; simp only [M.wEs]
        rw [w3]
        have sy := ok_mt h4
        have sz := oks_mt h5 z (by simp)
        have hs : starEach [y, z] X.env = (false, eval y X.env) :: starEach [z] X.env := ok_star sy
        exact i_zip (glB_ok ok h3) (ok.free _ (by simpa using h2)) (s_cons hs (sndE a _ X sc s0 ok h4).v (sndEs r _ X sc s0 ok h5)) hs (by rw [ok_star (es := []) sz]; rfl)
      | [], _, h => exact absurd h (by simp [mtI])
      | [_], _, h => exact absurd h (by simp [mtI])
      | _ :: _ :: _ :: _, _, h => exact absurd h (by simp [mtI])
      | [_, _], _ :: _, h => exact absurd h (by simp [mtI])
    · obtain ⟨es, kk, tp, rfl⟩ := ht rfl
      cases e <;> try (exfalso; revert h; simp [mtI]; done)
      rename_i g l kw p
      cases g <;> try (exfalso; revert h; simp [mtI]; done)
      match l, kw, h with
      | [y], [], h =>
        simp only [mtI] at h
        obtain ⟨h, h5⟩ := ba h
        obtain ⟨h, h4⟩ := ba h
        obtain ⟨h1, h2, h3⟩ := ba3 h
        have e := of_decide_eq_true h1
        subst e
        cases r with
        | cons _ _ => cases h5
        | nil =>
          rw [w1]
          exact i_enum (glB_ok ok h3) (ok.free _ (by simpa using h2)) (ok_star (es := []) (ok_mt h4)) (sndE a _ X sc s0 ok h4).v
      | [], _, h => exact absurd h (by simp [mtI])
      | _ :: _ :: _, _, h => exact absurd h (by simp [mtI])
      | [_], _ :: _, h => exact absurd h (by simp [mtI])
    · obtain ⟨es, kk, tp, rfl⟩ := ht rfl
      cases e <;> try (exfalso; revert h; simp [mtI]; done)
      rename_i g l kw p
      cases g <;> try (exfalso; revert h; simp [mtI]; done)
      match l, kw, h with
      | [], [], h =>
        simp only [mtI] at h
        obtain ⟨h, h5⟩ := ba h
        obtain ⟨h, h4⟩ := ba h
        obtain ⟨h1, h2, h3⟩ := ba3 h
        have e := of_decide_eq_true h1
        subst e
        cases r with
        | cons _ _ => cases h5
        | nil =>
          rw [w1]
          exact i_items (ok_base h3) h2 (sndE a _ X sc s0 ok h4).v
      | _ :: _, _, h => exact absurd h (by simp [mtI])
      | [], _ :: _, h => exact absurd h (by simp [mtI])
    · cases e <;> try (exfalso; revert h; simp [mtI]; done)
      rename_i g l kw p
      cases g <;> try (exfalso; revert h; simp [mtI]; done)
      match l, kw, h with
      | [], [], h =>
        simp only [mtI] at h
        obtain ⟨h, h5⟩ := ba h
        obtain ⟨h, h4⟩ := ba h
        obtain ⟨h1, h2, h3⟩ := ba3 h
        have e := of_decide_eq_true h1
        subst e
        cases r with
        | cons _ _ => cases h5
        | nil =>
          rw [w1]
          exact i_vals (ok_base h3) h2 (sndE a _ X sc s0 ok h4).v
      | _ :: _, _, h => exact absurd h (by simp [mtI])
      | [], _ :: _, h => exact absurd h (by simp [mtI])
    · cases e <;> try (exfalso; revert h; simp [mtI]; done)
      rename_i g l kw p
      cases g <;> try (exfalso; revert h; simp [mtI]; done)
      match l, kw, h with
      | [y], [], h =>
        simp only [mtI] at h
        obtain ⟨h, h5⟩ := ba h
        obtain ⟨h, h4⟩ := ba h
        obtain ⟨h1, h2, h3⟩ := ba3 h
        have e := of_decide_eq_true h1
        subst e
        cases r with
        | cons _ _ => cases h5
        | nil =>
          rw [w1]
          exact i_rev (glB_ok ok h3) (ok.free _ (by simpa using h2)) (ok_star (es := []) (ok_mt h4)) (sndE a _ X sc s0 ok h4).v
      | [], _, h => exact absurd h (by simp [mtI])
      | _ :: _ :: _, _, h => exact absurd h (by simp [mtI])
      | [_], _ :: _, h => exact absurd h (by simp [mtI])
    · simp only [mtI] at h
      obtain ⟨h1, h2⟩ := ba h
      cases r with
      | cons _ _ => cases h2
      | nil =>
        rw [w1]
        exact i_keys (sndE a _ X sc s0 ok h1).v
    · cases e <;> try (exfalso; revert h; simp [mtI]; done)
      rename_i g l kw p
      cases g <;> try (exfalso; revert h; simp [mtI]; done)
      match l, kw, h with
      | [y], [], h =>
        cases y <;> try (exfalso; revert h; simp [mtI]; done)
        rename_i g2 l2 kw2 p2
        cases g2 <;> try (exfalso; revert h; simp [mtI]; done)
        match l2, kw2, h with
        | [b], [], h =>
          simp only [mtI] at h
          obtain ⟨h, h8⟩ := ba h
          obtain ⟨h, h7⟩ := ba h
          obtain ⟨h, h6⟩ := ba h
          obtain ⟨h, h5⟩ := ba h
          obtain ⟨h, h4⟩ := ba h
          obtain ⟨h1, h2, h3⟩ := ba3 h
          have e := of_decide_eq_true h1
          subst e
          have e := of_decide_eq_true h4
          subst e
          cases r with
          | cons _ _ => cases h8
          | nil =>
            rw [w1]
            exact i_rrng (glB_ok ok h3) (ok.free _ (by simpa using h2)) (glB_ok ok h6) (ok.free _ (by simpa using h5)) (ok_star (es := []) (ok_mt h7)) (sndE a _ X sc s0 ok h7).v
        | [], _, h => exact absurd h (by simp [mtI])
        | _ :: _ :: _, _, h => exact absurd h (by simp [mtI])
        | [_], _ :: _, h => exact absurd h (by simp [mtI])
      | [], _, h => exact absurd h (by simp [mtI])
      | _ :: _ :: _, _, h => exact absurd h (by simp [mtI])
      | [z], _ :: _, h => exact absurd h (by cases z <;> simp [mtI])
end
end
end Snd
end
section
/-! Sound10: statements, defs. -/
namespace Snd
open PySem L2 PySem.Spec PyProof.Rows

def swV (sc : Scope) (t : Str) (p : Pos) (scope : Scope) (vp : Pos) : Bool := (if sc.kind.isAnnotationScope then ScopeKind.function else sc.kind) == .function && sc.names.lookup t == some .local && p.line == vp.line && !(scope.names.any fun (n, k) => n == t && (k == .local || k == .cell))
theorem sw_eq {elt : Expr} {gs : List Comprehension} {scope : Scope} {vp p : Pos} {t : Str} {l : Nat} {env : Env} : swapsWith (.ListComp elt gs scope vp) (some (.Name t p)) l env = pure (swV env.scope t p scope vp) := rfl
theorem sw_sole {elt : Expr} {gs : List Comprehension} {scope : Scope} {vp p : Pos} {t : Str} {l : Nat} {env : Env} : swapsWithSole [.Name t p] (.ListComp elt gs scope vp) l env = pure (swV env.scope t p scope vp) := rfl
def compX : Expr → Bool
  | .ListComp .. => true
  | .SetComp .. => true
  | .DictComp .. => true
  | _ => false
def tupX : Expr → Bool
  | .Tuple .. => true
  | _ => false
theorem sw_plain {e : Expr} (h : compX e = false) {o : Option Expr} {l : Nat} {env : Env} : swapsWith e o l env = pure false := by cases e <;> first | rfl | cases h
/-- a target and a value whose stores are in order -/
def asgB (tg e : Expr) : Bool := match tg with
  | .Name _ _ => true
  | .Tuple .. => !(tupX e) && !(compX e)
  | _ => false
def starX : Expr → Bool
  | .Starred .. => true
  | _ => false
def tupI : M.E → Bool
  | .tup _ => true
  | _ => false
/-- a, b = x, y of plain local names: stored from the right -/
def parB (sc : Scope) : Expr → Expr → Bool
  | .Tuple [.Name x px, .Name y py] _ _, .Tuple [a, b] _ _ => !(x == y) && (sc.kind == .function) && decide (sc.names.lookup x = some .local) && decide (sc.names.lookup y = some .local) && (py.line == px.line) && !(starX a) && !(starX b) && !(foldedForSure 8 a && foldedForSure 8 b) && !(constantsAlone 8 a && constantsAlone 8 b)
  | _, _ => false
theorem par_sw0 {x y : Str} {px py pt p2 : Pos} {kt k2 : Nat} {a b : Expr} {env : Env} {sc : Scope} (n1 : x ≠ y) (k1 : env.kindOf x = some .local) (k2' : env.kindOf y = some .local) (bk : env.blockKind = .function) (h5 : (py.line == px.line) = true) (h6 : starX a = false) (h7 : starX b = false) (h8 : (foldedForSure 8 a && foldedForSure 8 b) = false) (h9 : (constantsAlone 8 a && constantsAlone 8 b) = false) :
   swappedStores [.Tuple [.Name x px, .Name y py] kt pt] (.Tuple [a, b] k2 p2) env = pure (some [x, y]) := by
  have e1 : ([a, b].any fun | .Starred .. => true | _ => false) = false := by
    have e0 : (fun e : Expr => match e with | .Starred .. => true | _ => false) = starX := by funext e; cases e <;> rfl
    rw [e0]
    simp [h6, h7]
  have e2 : ([Expr.Name x px, Expr.Name y py].filterMap fun
    | .Name id pos => if env.kindOf id == some .local && pos.line == px.line then some id else none
    | _ => none) = [x, y] := by
    have h5' : py.line = px.line := by simpa using h5
    simp [List.filterMap, k1, k2', h5']
  have e2' : ([Expr.Name x px, Expr.Name y py].filterMap fun
    | .Name id pos => if env.kindOf id == some .local && pos.line == (Option.map (fun x => x.pos.line) [Expr.Name x px, Expr.Name y py].head?).getD 0 then some id else none
    | _ => none) = [x, y] := e2
  have e3 : ([x, y].eraseDups.length != [x, y].length) = false := by
    have : [x, y].eraseDups = [x, y] := by
      have z : (y == x) = false := by simpa using Ne.symm n1
      simp [List.eraseDups, List.eraseDupsBy, List.eraseDupsBy.loop, z]
    rw [this]
    simp
  unfold swappedStores
  have e4 : ([a, b].all (foldedForSure 8)) = false := by simpa using h8
  have e5 : ([a, b].all (constantsAlone 8)) = false := by simpa using h9
  have e6 : ([x, y].length != [Expr.Name x px, Expr.Name y py].length) = false := by simp
  have c0 : ¬ (!([Expr.Name x px, Expr.Name y py].length == 2 || [Expr.Name x px, Expr.Name y py].length == 3) || [a, b].length != [Expr.Name x px, Expr.Name y py].length || env.blockKind != .function) = true := by rw [bk]; exact Bool.false_ne_true
  have e7 : ([x, y].length != [Expr.Name x px, Expr.Name y py].length || [x, y].eraseDups.length != [x, y].length) = false := by rw [e3]; rfl
  refine (if_neg c0).trans ?_
  refine (if_neg fun h => Bool.false_ne_true (e1.symm.trans h)).trans ?_
  have key : ∀ ns : List Str, ns = [x, y] → (if (ns.length != [Expr.Name x px, Expr.Name y py].length || ns.eraseDups.length != ns.length) = true then (pure none : Sem (Option (List Str))) else if ([a, b].all (foldedForSure 8)) = true then pure none else if ([a, b].all (constantsAlone 8)) = true then (do unsupported "assign.tuple-of-constant-expressions:order-of-the-stores"; pure (some ns)) else pure (some ns)) = pure (some [x, y]) := by
    intro ns hn
    subst hn
    rw [if_neg (by rw [e7]; exact Bool.false_ne_true), if_neg (by rw [e4]; exact Bool.false_ne_true), if_neg (by rw [e5]; exact Bool.false_ne_true)]
  exact key _ e2'
theorem par_sw {x y : Str} {px py pt p2 : Pos} {kt k2 : Nat} {a b : Expr} {env : Env} {sc : Scope} (eS : env.scope = sc) (h : parB sc (.Tuple [.Name x px, .Name y py] kt pt) (.Tuple [a, b] k2 p2) = true) :
    x ≠ y ∧ sc.names.lookup x = some .local ∧ sc.names.lookup y = some .local ∧ swappedStores [.Tuple [.Name x px, .Name y py] kt pt] (.Tuple [a, b] k2 p2) env = pure (some [x, y]) := by
  simp only [parB, Bool.and_eq_true, Bool.not_eq_true', decide_eq_true_eq] at h
  obtain ⟨⟨⟨⟨⟨⟨⟨⟨h1, h2⟩, h3⟩, h4⟩, h5⟩, h6⟩, h7⟩, h8⟩, h9⟩ := h
  have n1 : x ≠ y := by simpa using h1
  refine ⟨n1, h3, h4, ?_⟩
  have k1 : env.kindOf x = some .local := by unfold Env.kindOf; rw [eS]; exact h3
  have k2' : env.kindOf y = some .local := by unfold Env.kindOf; rw [eS]; exact h4
  have bk : env.blockKind = .function := by
    unfold Env.blockKind
    rw [eS]
    have : sc.kind = .function := by simpa using h2
    rw [this]
    rfl
  exact par_sw0 (sc := sc) n1 k1 k2' bk h5 h6 h7 h8 h9
theorem ss_par {P : M.Prog} {n : Nat} {T : Tb} {sc : Scope} {X : L2.Cx} {i j : Nat} {x y : Str} {a b : Expr} {wr : WA} {px py pt p2 pos : Pos} {kt k2 : Nat} (ok : XOk P n T sc sc X) (hi : T.N[i]? = some x) (hj : T.N[j]? = some y) (hp : parB sc (.Tuple [.Name x px, .Name y py] kt pt) (.Tuple [a, b] k2 p2) = true) (ha : PA X [a, b] (liftA X.F wr)) :
    PS X (.Assign [.Tuple [.Name x px, .Name y py] kt pt] (.Tuple [a, b] k2 p2) pos) (liftS X.F fun R σ h => wr σ h fun ds h1 => ds.length ≤ M.LINE ∧ match M.setT (.tp [i, j]) (.tup ds) σ with | some σ' => R.nx σ' h1 | none => False) := by
  obtain ⟨n1, l1, l2, hw⟩ := par_sw ok.eS hp
  have ni : i ≠ j := by rintro rfl; rw [hi] at hj; cases hj; exact n1 rfl
  refine (ps_par ok.calm ok.nd (by rw [ok.eN]; exact hi) (by rw [ok.eN]; exact hj) ni (by rw [ok.eS]; exact l1) (by rw [ok.eS]; exact l2) ha hw).imp fun D σ H ⟨σa, h, R, rs, rh, q, k⟩ => ?_
  refine liftA_go rs rh q fun ds h1 vs H1 ⟨_, q1⟩ f1 r1 rh1 rs1 => ?_
  match ds, r1, q1 with
  | [d, e], ⟨v, _, e1, ra, w, _, e2, rb, e3⟩, q1 =>
    cases (show _ = [] from e3)
    subst e2
    subst e1
    exact ⟨v, w, rfl, k.nx _ _ _ _ q1 f1 (rs_set (rs_set rs1 ra) rb) rh1⟩
  | [], _, q1 => exact q1.elim
  | [_], _, q1 => exact q1.elim
  | _ :: _ :: _ :: _, _, q1 => exact q1.elim
theorem ss_asgl {P : M.Prog} {n : Nat} {T : Tb} {sc : Scope} {X : L2.Cx} {ts : List Nat} {es : List Expr} {k0 : Nat} {p0 pos : Pos} {e : Expr} {w : WE} (ok : XOk P n T sc sc X) (he : PE X e (lift X.F w)) (ht : nmsB T.N sc ts es = true) (h1 : tupX e = false) (h2 : compX e = false) :
    PS X (.Assign [.Tuple es k0 p0] e pos) (liftS X.F fun R σ h => w σ h fun d h1 => M.aLst d h1 fun _ xs => match M.setT (.tp ts) (.tup xs) σ with | some σ' => R.nx σ' h1 | none => False) := by
  obtain ⟨a, b, c⟩ := nms_ok ok ht
  refine (ps_asg he (pg_lst ok.calm a b c) (by cases e <;> first | rfl | cases h2) (by cases e <;> first | rfl | cases h1) rfl).imp fun D σ H ⟨σa, h, R, rs, rh, q, k⟩ => ?_
  refine lift_go rs rh q fun d h1 v H1 q1 f1 r1 rh1 rs1 => ?_
  obtain ⟨p, xs, rfl, e1, q⟩ := aLst_inv q1
  cases (show v = _ from r1)
  obtain ⟨ws, a1, r2⟩ := rh1 p _ e1
  cases e2 : M.setT (.tp ts) (.tup xs) σa with
  | none => rw [e2] at q; exact q.elim
  | some σb =>
    rw [e2] at q
    exact ⟨p, ws, rfl, SqL.of a1, by rw [r2.length, setTs_len e2], setTs_ok e2 rs1 r2 fun σ' rs' => k.nx _ _ _ _ q f1 rs' rh1⟩
def augB : M.Bop → Bool
  | .add => true
  | .sub => true
  | _ => false
mutual
def mtS (T : Tb) : Scope → M.S → Stmt → Bool
  | sc, .asg t e, s => (match s with
    | .Assign [tg] x _ => tgB T.N sc t tg && mtE T sc sc e x && (asgB tg x || tupI e && parB sc tg x)
    | _ => false)
  | sc, .asgl ts e, s => (match s with
    | .Assign [tg] x _ => tgB T.N sc (.tp ts) tg && mtE T sc sc e x && asgB tg x
    | _ => false)
  | sc, .sfld c o f e, s => (match s with
    | .Assign [.Attribute a nm _] x _ => decide (nm = sV f) && T.at_.contains (c, f) && mtE T sc sc o a && mtE T sc sc e x
    | _ => false)
  | sc, .six o i e, s => (match s with
    | .Assign [.Subscript a j _] x _ => mtE T sc sc o a && mtE T sc sc i j && mtE T sc sc e x
    | _ => false)
  | sc, .aug i o e, s => (match s with
    | .AugAssign (.Name x _) op y _ => nmB T.N sc i (.Name x ⟨0, 0, 0, 0⟩) && opB o op && mtE T sc sc e y && augB o
    | _ => false)
  | sc, .ex e, s => (match s with
    | .Expr x _ => mtE T sc sc e x && !(compX x)
    | _ => false)
  | sc, .ret e, s => (match s with
    | .Return (some x) _ => mtE T sc sc e x
    | _ => false)
  | sc, .retN, s => (match s with
    | .Return none _ => true
    | _ => false)
  | sc, .ife c a b, s => (match s with
    | .If x l r _ => mtE T sc sc c x && testB x && mtSs T sc a l && mtSs T sc b r
    | _ => false)
  | sc, .whl c b, s => (match s with
    | .While x l [] _ => mtE T sc sc c x && testB x && mtSs T sc b l
    | _ => false)
  | sc, .for_ t k src b, s => (match s with
    | .For tg it l [] _ => tgB T.N sc t tg && tupK k t && mtI T sc sc k src it && mtSs T sc b l
    | _ => false)
  | sc, .pass, s => (match s with
    | .Pass _ => true
    | _ => false)
  | sc, .brk, s => (match s with
    | .Break _ => true
    | _ => false)
  | sc, .cont, s => (match s with
    | .Continue _ => true
    | _ => false)
  | sc, .bad, s => true
  | sc, .lock i s, x => mtS T sc s x
  | sc, .lock2 i s, x => mtS T sc s x
def mtSs (T : Tb) : Scope → M.Ss → List Stmt → Bool
  | sc, .nil, l => l.isEmpty
  | sc, .cons s r, l => (match l with
    | x :: y => mtS T sc s x && mtSs T sc r y
    | [] => false)
end
section
variable {P : M.Prog} {n : Nat} {T : Tb} {xx : M.XP}
theorem fold_mt {sc s0 : Scope} {k : M.Itk} {src : M.Es} {it : Expr} (h4 : mtI T sc s0 k src it = true) {env : Env} : ∀ z, foldedSetIterable it env z = pure z := by
  intro z
  cases k with
  | seq =>
    cases src with
    | nil => simp [mtI] at h4
    | cons a r =>
      simp only [mtI] at h4
      exact ok_fold (ok_mt (ba h4).1)
  | keys =>
    cases src with
    | nil => simp [mtI] at h4
    | cons a r =>
      simp only [mtI] at h4
      exact ok_fold (ok_mt (ba h4).1)
  | _ =>
    cases src with
    | nil => simp [mtI] at h4
    | cons a r => cases it <;> first | rfl | (simp [mtI] at h4)
theorem ifs_ok {sc s0 : Scope} {Y : L2.Cx} (okb : XOk P n T sc s0 Y) {cs : List Expr} {ifs : M.Es} (h7 : mtEs T sc s0 ifs cs = true) (h8 : testsB cs = true) (h9 : decide (cs.length < 2) = true) : PTs Y cs (liftT Y.F (M.wB (C P n xx) true ifs)) := by
  match cs, ifs, h7, h8, h9 with
  | [], .nil, _, _, _ =>
    refine ⟨fun pins s σ H Q I ⟨σa, hh, Qa, rs, rh, q, kk⟩ => pts_nil.run pins s σ H Q I ?_⟩
    simp only [M.wB] at q
    obtain ⟨b, e, kk⟩ := kk _ _ q
    cases e
    exact kk H .refl rh
  | [], .cons _ _, h7, _, _ => simp [mtEs] at h7
  | [c], .nil, h7, _, _ => simp [mtEs] at h7
  | [c], .cons i r, h7, h8, _ =>
    simp only [mtEs] at h7
    obtain ⟨h71, h72⟩ := ba h7
    cases r with
    | cons _ _ => simp [mtEs] at h72
    | nil =>
      have ht := (sndE (xx := xx) i c _ _ _ okb h71).t (ba h8).1
      refine pts_one (ht.imp fun σ H Q ⟨σa, hh, Qa, rs, rh, q, kk⟩ => ⟨σa, hh, _, rs, rh, (by simpa only [M.wB] using q), fun d h' q1 => ?_⟩)
      cases d with
      | bl b =>
        have q2 : Qa (.bl b) h' := by cases b <;> exact q1
        exact kk _ _ q2
      | _ => exact q1.elim
  | _ :: _ :: _, _, _, _, h9 =>
    have h9 := of_decide_eq_true h9
    simp only [List.length_cons] at h9
    omega
/-- name = [..], the list laid and stored at once -/
theorem ss_lc {sc : Scope} {X : L2.Cx} (ok : XOk P n T sc sc X) {elt : M.E} {t : M.Tgt} {own : List Nat} {k : M.Itk} {src ifs : M.Es} {y : Expr} {gs : List Comprehension} {scope : Scope} {vp : Pos} {i : Nat} {v : Str} {pv sp : Pos}
    (h : mtE T sc sc (.lc elt t own k src ifs) (.ListComp y gs scope vp) = true) (hn : nmB T.N sc i (.Name v pv) = true) (hs : swV sc v pv scope vp = true) :
    PS X (.Assign [.Name v pv] (.ListComp y gs scope vp) sp) (liftS X.F fun R σ h => M.wE (C P n xx) (.lc elt t own k src ifs) σ h fun d h1 => R.nx (σ.set i (some d)) h1) := by
  match gs, h with
  | [⟨tg, it, cs, a⟩], h =>
    simp only [mtE] at h
    obtain ⟨h, h10⟩ := ba h
    obtain ⟨h, h9⟩ := ba h
    obtain ⟨h, h8⟩ := ba h
    obtain ⟨h, h7⟩ := ba h
    obtain ⟨h, h6⟩ := ba h
    obtain ⟨h, h5⟩ := ba h
    obtain ⟨h, h4⟩ := ba h
    obtain ⟨h1, h2, h3⟩ := ba3 h
    have ea := of_decide_eq_true h1
    subst ea
    unfold compsB at h6
    cases eo : ownB T.N own with
    | none => rw [eo] at h6; cases h6
    | some ow =>
      rw [eo] at h6
      have blk := blkOk_by h6
      have em := ownB_map eo
      have iI := sndI (xx := xx) k src it tg X sc sc ok h4 (by
        intro e
        cases t with
        | nm _ => cases k <;> first | exact absurd e (by decide) | exact absurd h5 (by simp [tupK])
        | tp ts => cases tg <;> first | exact ⟨_, _, _, rfl⟩ | cases h3)
      have gT : ∀ (s : Shared) (H : Hp) (D : Addr) (cl : List (Str × Addr)) (fp : List Addr), PG (X.blk s H scope (compEnvC scope cl D X.env) fp) tg (gOf X.F t) := fun s H D cl fp => tg_ok (blk_ok ok blk s H D cl fp) h3
      have iE : ∀ (s : Shared) (H : Hp) (D : Addr) (cl : List (Str × Addr)) (fp : List Addr), PE (X.blk s H scope (compEnvC scope cl D X.env) fp) y (lift X.F (M.wE (C P n xx) elt)) := fun s H D cl fp => (sndE elt _ _ _ _ (blk_ok ok blk s H D cl fp) h10).v
      have iT : ∀ (s : Shared) (H : Hp) (D : Addr) (cl : List (Str × Addr)) (fp : List Addr), PTs (X.blk s H scope (compEnvC scope cl D X.env) fp) cs (liftT X.F (M.wB (C P n xx) true ifs)) := fun s H D cl fp => ifs_ok (xx := xx) (blk_ok ok blk s H D cl fp) h7 h8 h9
      have hl : sc.names.lookup v = some .local := by
        unfold swV at hs
        simp only [Bool.and_eq_true, beq_iff_eq] at hs
        exact hs.1.1.2
      obtain ⟨hn1, _⟩ := ba hn
      have key := ps_setLc (i := i) (y := v) (py := pv) (spos := sp) (pos := vp) (elt := y) ok.calm ok.nd (by rw [ok.eN]; exact of_decide_eq_true hn1) (by rw [ok.eS]; exact hl) (by rw [sw_eq, ok.eS, hs]) iI (by rw [ok.eN, ok.eS]; exact blk) gT iT iE (fold_mt h4)
      rw [em] at key
      refine key.imp fun D σ H ⟨σa, h, R, rs, rh, q, k⟩ => ?_
      refine lc_ok h2 (lift_go (w := _) (Qa := fun d h1 => R.nx (σa.set i (some d)) h1) rs rh (by simp only [M.wE] at q; exact q) fun d h1 v H1 q1 f1 r1 rh1 rs1 => ?_)
      exact k.nx _ _ _ _ q1 f1 (rs_set rs1 r1) rh1
  | [], h => exact absurd h (by simp [mtE])
  | _ :: _ :: _, h => exact absurd h (by simp [mtE])
theorem nm_each {e : Expr} {env : Env} {N : List Str} {s0 : Scope} {t : M.Tgt} (h : tgB N s0 t e = true) : (assignEach [e] env).map (·.2) = [assign e env] := by
  cases t with
  | nm i => rw [nm_star (T := ⟨N, [], [], [], [], [], [], [], [], []⟩) (es := []) (show nmB N s0 i e = true from h)]; rfl
  | tp ts => cases e <;> first | rfl | cases h
theorem ss_aug {X : L2.Cx} {i : Nat} {x : Str} {e : Expr} {w : WE} {o : M.Bop} {p pos : Pos} (hN : X.N.Nodup) (hi : X.N[i]? = some x) (hx : L2.Loc X.env.scope x) (hf : X.fn x = true ∨ X.env.scope.names.lookup x = some .local) (ho : o = .add ∨ o = .sub) (he : PE X e (lift X.F w)) :
    PS X (.AugAssign (.Name x p) (bop o) e pos) (liftS X.F fun R σ h => match σ[i]? with
      | some (some x) => w σ h fun y h1 => M.opAug o x y fun z => R.nx (σ.set i (some z)) h1
      | _ => False) := by
  have fin : ∀ {D : L2.Ends} {σ : L2.St} {H : Hp}, liftS X.F (fun R σ h => match σ[i]? with
      | some (some x) => w σ h fun y h1 => M.opAug o x y fun z => R.nx (σ.set i (some z)) h1
      | _ => False) D σ H → ∃ v, σ[i]? = some (some v) ∧ lift X.F w σ H fun u H1 => (o = .add ∧ ((∃ a b, v = .int a ∧ u = .int b ∧ D.nx (σ.set i (some (.int (a + b)))) H1) ∨ ∃ a b, v = .str a ∧ u = .str b ∧ a.length + b.length ≤ sizeLine ∧ D.nx (σ.set i (some (.str (a ++ b)))) H1)) ∨ (o = .sub ∧ ∃ a b, v = .int a ∧ u = .int b ∧ D.nx (σ.set i (some (.int (a - b)))) H1) := by
    rintro D σ H ⟨σa, h, R, rs, rh, q, k⟩
    cases e1 : σa[i]? with
    | none => rw [e1] at q; exact q.elim
    | some z => cases z with
      | none => rw [e1] at q; exact q.elim
      | some d =>
        rw [e1] at q
        obtain ⟨v, e2, r⟩ := rs.2 i d e1
        refine ⟨v, e2, lift_go rs rh q fun dy h1 u H1 q1 f1 r1 rh1 rs1 => ?_⟩
        have r := r.kp (f1.kp rh)
        have go : ∀ {dz : SD} {z : V}, R.nx (σa.set i (some dz)) h1 → Rep X.F H1 dz z → D.nx (σ.set i (some z)) H1 := fun q rz => k.nx _ _ _ _ q f1 (rs_set rs1 rz) rh1
        cases o <;> try (exact False.elim q1)
        · cases d <;> try (exact False.elim q1)
          · cases dy <;> try (exact False.elim q1)
            cases (show v = _ from r); cases (show u = _ from r1)
            exact .inl ⟨rfl, .inl ⟨_, _, rfl, rfl, go q1 rfl⟩⟩
          · cases dy <;> try (exact False.elim q1)
            cases (show v = _ from r.1); cases (show u = _ from r1.1)
            refine .inl ⟨rfl, .inr ⟨_, _, rfl, rfl, by rw [sV_len, sV_len, line_eq]; exact q1.1, ?_⟩⟩
            rw [sV_app]
            exact go q1.2 ⟨rfl, sOk_app r.2 r1.2⟩
        · cases d <;> try (exact False.elim q1)
          cases dy <;> try (exact False.elim q1)
          cases (show v = _ from r); cases (show u = _ from r1)
          exact .inr ⟨rfl, _, _, rfl, rfl, go q1 rfl⟩
  cases o
  case add =>
    have ip : PIp X .Add (fun x y H Q => (rI0 fun i j => .int (i + j)) x y H Q ∨ rAddS x y H Q) := fun pins s σ H x y v u Q I r1 r2 h => op_iadd pins s σ H x y v u Q I r1 r2 h
    refine (ps_aug hN hi hx he ip hf).imp fun D σ H z => ?_
    obtain ⟨v, e, σa, h, Qa, rs, rh, q, k⟩ := fin z
    refine ⟨v, e, σa, h, Qa, rs, rh, q, fun d h' u H' q' f r rh' => ?_⟩
    rcases k d h' u H' q' f r rh' with ⟨_, ⟨a, b, e1, e2, q⟩ | ⟨a, b, e1, e2, hz, q⟩⟩ | ⟨w, _⟩
    · exact .inl ⟨a, b, e1, e2, q⟩
    · exact .inr ⟨a, b, e1, e2, hz, q⟩
    · cases w
  case sub =>
    refine (ps_aug hN hi hx he ip_sub hf).imp fun D σ H z => ?_
    obtain ⟨v, e, σa, h, Qa, rs, rh, q, k⟩ := fin z
    refine ⟨v, e, σa, h, Qa, rs, rh, q, fun d h' u H' q' f r rh' => ?_⟩
    rcases k d h' u H' q' f r rh' with ⟨w, _⟩ | ⟨_, a, b, e1, e2, q⟩
    · cases w
    · exact ⟨a, b, e1, e2, q⟩
  all_goals (rcases ho with ho | ho <;> cases ho)

theorem six_ok {o i : Expr} {p : Pos} {env : Env} (h : okX i = true) : ∀ v, assign (.Subscript o i p) env v = (do
      let ov ← holding [v] (eval o env)
      let iv ← holding [v, ov] (eval i env)
      standAt p
      holding [v, ov, iv] (setItem ov iv v)
      release [v, ov, iv] []) := by intro v; cases i <;> first | rfl | cases h
theorem never_ok {sc s0 : Scope} {X : L2.Cx} (ok : XOk P n T sc s0 X) : PassesOwn (model X.prog X.w) X.A X.env X.xe := by rw [ok.xe]; exact .never
mutual
theorem sndS : ∀ (ir : M.S) (x : Stmt) (X : L2.Cx) (sc : Scope), XOk P n T sc sc X → mtS T sc ir x = true → PS X x (liftS X.F (M.wS (C P n xx) ir))
  | .asg t e, x, X, sc, ok, h => by
    cases x <;> try (exfalso; revert h; simp [mtS]; done)
    rename_i ts v p
    match ts, h with
    | [tg], h =>
      simp only [mtS] at h
      obtain ⟨h1, h2, h3'⟩ := ba3 h
      have w1 : M.wS (C P n xx) (.asg t e) = fun R σ h => M.wE (C P n xx) e σ h fun d h1 => match M.setT t d σ with | some σ' => R.nx σ' h1 | none => False := by funext R σ h; simp only [M.wS] <;> rfl
      rw [w1]
      have ie := (sndE (xx := xx) e v X sc sc ok h2).v
      have it := tg_ok ok h1
      by_cases h3 : asgB tg v = true
      case neg =>
        have h3 := ba ((Bool.or_eq_true _ _ |>.mp h3').resolve_left h3)
        obtain ⟨h4, h5⟩ := h3
        obtain ⟨es, rfl⟩ : ∃ es, e = .tup es := by cases e <;> first | exact ⟨_, rfl⟩ | cases h4
        unfold parB at h5
        split at h5
        · rename_i x1 px1 y1 py1 k1 p1 a1 b1 k2 p2
          cases t with
          | nm _ => cases h1
          | tp is =>
            match is, h1 with
            | [i, j], h1 =>
              simp only [tgB, nmsB, nmB, Bool.and_eq_true] at h1
              have hi := of_decide_eq_true h1.1.1
              have hj := of_decide_eq_true h1.2.1.1
              simp only [mtE] at h2
              have w2 : (fun (R : M.Ends) σ h => M.wE (C P n xx) (.tup es) σ h fun d h1 => match M.setT (.tp [i, j]) d σ with | some σ' => R.nx σ' h1 | none => False) = fun R σ h => M.wEs (C P n xx) es σ h fun ds h1 => ds.length ≤ M.LINE ∧ match M.setT (.tp [i, j]) (.tup ds) σ with | some σ' => R.nx σ' h1 | none => False := by funext R σ h; simp only [M.wE]
              rw [w2]
              exact ss_par ok hi hj h5 (sndEs (xx := xx) es _ X sc sc ok h2)
            | [], h1 => cases h1
            | [_], h1 => simp [tgB, nmsB] at h1
            | _ :: _ :: _ :: _, h1 => simp [tgB, nmsB] at h1
        · cases h5
      by_cases hc : compX v = true
      · cases tg <;> try (exfalso; revert h3; simp [asgB]; done)
        · rename_i nm np
          cases t with
          | tp _ => cases h1
          | nm i =>
            cases e <;> cases v <;> try (exfalso; revert h2; simp [mtE]; done)
            all_goals try (exfalso; revert hc; simp [compX]; done)
            rename_i elt t own k src ifs y gs scope vp _
            cases hs : swV sc nm np scope vp with
            | true => exact (ss_lc (xx := xx) ok h2 h1 hs).imp fun D σ H z => z
            | false => exact ss_asg ie it (by rw [sw_sole, ok.eS, hs]) rfl (nm_each h1)
        · exfalso
          revert h3
          simp only [asgB, hc]
          simp
      · have hc : compX v = false := by simpa using hc
        refine ss_asg ie it (sw_plain hc) ?_ (nm_each h1)
        cases tg <;> try (exfalso; revert h3; simp [asgB]; done)
        · rfl
        · have ht : tupX v = false := by
            simp only [asgB] at h3
            have := (ba h3).1
            simpa using this
          cases v <;> first | rfl | cases ht
    | [], h => exact absurd h (by simp [mtS])
    | _ :: _ :: _, h => exact absurd h (by simp [mtS])
  | .asgl ts e, x, X, sc, ok, h => by
    cases x <;> try (exfalso; revert h; simp [mtS]; done)
    rename_i ts' v p
    match ts', h with
    | [tg], h =>
      simp only [mtS] at h
      obtain ⟨h1, h2, h3⟩ := ba3 h
      have w1 : M.wS (C P n xx) (.asgl ts e) = fun R σ h => M.wE (C P n xx) e σ h fun d h1 => M.aLst d h1 fun _ xs => match M.setT (.tp ts) (.tup xs) σ with | some σ' => R.nx σ' h1 | none => False := by funext R σ h; simp only [M.wS] <;> rfl
      rw [w1]
      cases tg <;> try (exfalso; revert h1; simp [tgB]; done)
      simp only [asgB, Bool.and_eq_true, Bool.not_eq_true'] at h3
      exact ss_asgl ok (sndE (xx := xx) e v X sc sc ok h2).v h1 h3.1 h3.2
    | [], h => exact absurd h (by simp [mtS])
    | _ :: _ :: _, h => exact absurd h (by simp [mtS])
  | .sfld c o f e, x, X, sc, ok, h => by
    cases x <;> try (exfalso; revert h; simp [mtS]; done)
    rename_i ts v p
    match ts, h with
    | [tg], h =>
      cases tg <;> try (exfalso; revert h; simp [mtS]; done)
      simp only [mtS] at h
      obtain ⟨h, h4⟩ := ba h
      obtain ⟨h1, h2, h3⟩ := ba3 h
      obtain ⟨C', hm, na⟩ := ok.at_ (c, f) (by simpa using h2)
      have w1 : M.wS (C P n xx) (.sfld c o f e) = fun R σ h => M.wE (C P n xx) e σ h fun v h1 => M.wE (C P n xx) o σ h1 fun x h2 => M.aIns x h2 fun p c' fs => c' = c ∧ fs.length < 1000 ∧ R.nx σ (M.up h2 p (.ins c (M.putA f v fs))) := by funext R σ h; simp only [M.wS]
      rw [w1]
      refine s_sfld (of_decide_eq_true h1) hm na (sndE (xx := xx) e v X sc sc ok h4).v (sndE (xx := xx) o _ X sc sc ok h3).v ?_
      cases v <;> rfl
    | [], h => exact absurd h (by simp [mtS])
    | _ :: _ :: _, h => exact absurd h (by simp [mtS])
  | .six o i e, x, X, sc, ok, h => by
    cases x <;> try (exfalso; revert h; simp [mtS]; done)
    rename_i ts v p
    match ts, h with
    | [tg], h =>
      cases tg <;> try (exfalso; revert h; simp [mtS]; done)
      simp only [mtS] at h
      obtain ⟨h1, h2, h3⟩ := ba3 h
      have w1 : M.wS (C P n xx) (.six o i e) = fun R σ h => M.wE (C P n xx) e σ h fun v h1 => M.wE (C P n xx) o σ h1 fun x h2 => M.wE (C P n xx) i σ h2 fun y h3 => M.opSet x y v h3 fun h4 => R.nx σ h4 := by funext R σ h; simp only [M.wS]
      rw [w1]
      refine ss_six ok.units (sndE (xx := xx) e v X sc sc ok h3).v (sndE (xx := xx) o _ X sc sc ok h1).v (sndE (xx := xx) i _ X sc sc ok h2).v (six_ok (ok_mt h2)) ?_ rfl rfl
      cases v <;> rfl
    | [], h => exact absurd h (by simp [mtS])
    | _ :: _ :: _, h => exact absurd h (by simp [mtS])
  | .aug i o e, x, X, sc, ok, h => by
    cases x <;> try (exfalso; revert h; simp [mtS]; done)
    rename_i tg op v p
    cases tg <;> try (exfalso; revert h; simp [mtS]; done)
    simp only [mtS] at h
    obtain ⟨h, h4⟩ := ba h
    obtain ⟨h1, h2, h3⟩ := ba3 h
    obtain ⟨h5, h6⟩ := ba h1
    obtain ⟨l, f⟩ := ok.st _ h6
    have eo := opB_eq h2
    subst eo
    have w1 : M.wS (C P n xx) (.aug i o e) = fun R σ h => match σ[i]? with
      | some (some x) => M.wE (C P n xx) e σ h fun y h1 => M.opAug o x y fun z => R.nx (σ.set i (some z)) h1
      | _ => False := by funext R σ h; simp only [M.wS] <;> rfl
    rw [w1]
    exact ss_aug ok.nd (by rw [ok.eN]; exact of_decide_eq_true h5) (by rw [ok.eS]; exact l) (by rw [ok.eS]; exact f) (by cases o <;> first | exact .inl rfl | exact .inr rfl | cases h4) (sndE (xx := xx) e v X sc sc ok h3).v
  | .ex e, x, X, sc, ok, h => by
    cases x <;> try (exfalso; revert h; simp [mtS]; done)
    simp only [mtS] at h
    obtain ⟨h1, h2⟩ := ba h
    have w1 : M.wS (C P n xx) (.ex e) = fun R σ h => M.wE (C P n xx) e σ h fun _ h1 => R.nx σ h1 := by funext R σ h; simp only [M.wS]
    rw [w1]
    exact ss_expr (sw_plain (by simpa using h2)) (sndE (xx := xx) e _ X sc sc ok h1).v
  | .ret e, x, X, sc, ok, h => by
    cases x <;> try (exfalso; revert h; simp [mtS]; done)
    rename_i v p
    cases v with
    | none => exact absurd h (by simp [mtS])
    | some v =>
      simp only [mtS] at h
      have w1 : M.wS (C P n xx) (.ret e) = fun R σ h => M.wE (C P n xx) e σ h R.rt := by funext R σ h; simp only [M.wS]
      rw [w1]
      exact ss_ret (sndE (xx := xx) e _ X sc sc ok h).v
  | .retN, x, X, sc, ok, h => by
    cases x <;> try (exfalso; revert h; simp [mtS]; done)
    rename_i v p
    cases v with
    | some _ => exact absurd h (by simp [mtS])
    | none =>
      have w1 : M.wS (C P n xx) .retN = fun R σ h => R.rt .non h := by funext R σ h; simp only [M.wS]
      rw [w1]
      exact ss_retN
  | .ife c a b, x, X, sc, ok, h => by
    cases x <;> try (exfalso; revert h; simp [mtS]; done)
    simp only [mtS] at h
    obtain ⟨h, h4⟩ := ba h
    obtain ⟨h1, h2, h3⟩ := ba3 h
    have w1 : M.wS (C P n xx) (.ife c a b) = fun R σ h => M.wE (C P n xx) c σ h fun d h1 => match d with
      | .bl k => (match k with
        | true => M.wSs (C P n xx) a R σ h1
        | false => M.wSs (C P n xx) b R σ h1)
      | _ => False := by funext R σ h; simp only [M.wS, M.wT] <;> rfl
    rw [w1]
    exact ss_ife ((sndE (xx := xx) c _ X sc sc ok h1).t h2) (sndSs a _ X sc ok h3) (sndSs b _ X sc ok h4)
  | .whl c b, x, X, sc, ok, h => by
    cases x <;> try (exfalso; revert h; simp [mtS]; done)
    rename_i v l els p
    cases els with
    | cons _ _ => exact absurd h (by simp [mtS])
    | nil =>
      simp only [mtS] at h
      obtain ⟨h1, h2, h3⟩ := ba3 h
      have w1 : M.wS (C P n xx) (.whl c b) = fun R σ h => ∃ W : Nat → M.St → M.AH → Prop, (∃ m, W m σ h) ∧ ∀ m σ h, W m σ h → M.wE (C P n xx) c σ h fun d h1 => match d with
        | .bl k => (match k with
          | true => M.wSs (C P n xx) b { nx := fun σ' h' => ∃ m', m' < m ∧ W m' σ' h', ct := fun σ' h' => ∃ m', m' < m ∧ W m' σ' h', bk := R.nx, rt := R.rt } σ h1
          | false => R.nx σ h1)
        | _ => False := by funext R σ h; simp only [M.wS, M.wT] <;> rfl
      rw [w1]
      exact ss_whl (never_ok ok) ((sndE (xx := xx) c _ X sc sc ok h1).t h2) (sndSs b _ X sc ok h3)
  | .for_ t k src b, x, X, sc, ok, h => by
    cases x <;> try (exfalso; revert h; simp [mtS]; done)
    rename_i tg it l els p
    cases els with
    | cons _ _ => exact absurd h (by simp [mtS])
    | nil =>
      simp only [mtS] at h
      obtain ⟨h, h4⟩ := ba h
      obtain ⟨h1, h2, h3⟩ := ba3 h
      have w1 : M.wS (C P n xx) (.for_ t k src b) = fun R σ h => M.wEs (C P n xx) src σ h fun ds h1 => M.walk k ds h1 fun xs ok =>
          M.loopW xs ok (fun x σ h P' => match M.setT t x σ with
            | some σ' => M.wSs (C P n xx) b { nx := P', ct := P', bk := R.nx, rt := R.rt } σ' h
            | none => False) R.nx σ h1 := by funext R σ h; simp only [M.wS] <;> rfl
      rw [w1]
      refine ss_for (never_ok ok) ok.calm (sndI (xx := xx) k src it tg X sc sc ok h3 (by
        intro e
        cases t with
        | nm _ => cases k <;> first | exact absurd e (by decide) | exact absurd h2 (by simp [tupK])
        | tp ts => cases tg <;> first | exact ⟨_, _, _, rfl⟩ | cases h1)) (tg_ok ok h1) (sndSs b _ X sc ok h4) (fold_mt h3)
  | .pass, x, X, sc, ok, h => by
    cases x <;> try (exfalso; revert h; simp [mtS]; done)
    have w1 : M.wS (C P n xx) .pass = fun R σ h => R.nx σ h := by funext R σ h; simp only [M.wS]
    rw [w1]
    exact ss_pass
  | .brk, x, X, sc, ok, h => by
    cases x <;> try (exfalso; revert h; simp [mtS]; done)
    have w1 : M.wS (C P n xx) .brk = fun R σ h => R.bk σ h := by funext R σ h; simp only [M.wS]
    rw [w1]
    exact ss_brk
  | .cont, x, X, sc, ok, h => by
    cases x <;> try (exfalso; revert h; simp [mtS]; done)
    have w1 : M.wS (C P n xx) .cont = fun R σ h => R.ct σ h := by funext R σ h; simp only [M.wS]
    rw [w1]
    exact ss_cont
  | .lock i s, x, X, sc, ok, h => by
    simp only [mtS] at h
    have w1 : M.wS (C P n xx) (.lock i s) = fun R σ h => M.lockAt σ i h fun p kd kvs => M.wS (C P n xx) s { nx := fun σ' h' => R.nx σ' (M.up h' p (.dct kd kvs)), rt := fun d h' => R.rt d (M.up h' p (.dct kd kvs)), bk := fun σ' h' => R.bk σ' (M.up h' p (.dct kd kvs)), ct := fun σ' h' => R.ct σ' (M.up h' p (.dct kd kvs)) } σ (M.up h p (.rdct kd kvs)) := by funext R σ h; simp only [M.wS]
    rw [w1]
    exact ss_lock (sndS s x X sc ok h)
  | .lock2 i s, x, X, sc, ok, h => by
    simp only [mtS] at h
    have w1 : M.wS (C P n xx) (.lock2 i s) = fun R σ h => (M.lockAt σ i h fun p kd kvs => M.wS (C P n xx) s { nx := fun σ' h' => R.nx σ' (M.up h' p (.dct kd kvs)), rt := fun d h' => R.rt d (M.up h' p (.dct kd kvs)), bk := fun σ' h' => R.bk σ' (M.up h' p (.dct kd kvs)), ct := fun σ' h' => R.ct σ' (M.up h' p (.dct kd kvs)) } σ (M.up h p (.rdct kd kvs))) ∨ M.wS (C P n xx) s R σ h := by funext R σ h; simp only [M.wS]
    rw [w1]
    have ih := sndS s x X sc ok h
    exact ⟨fun pins s σ H D I ⟨σa, hh, R, rs, rh, q, k⟩ => q.elim (fun q => (ss_lock ih).run pins s σ H D I ⟨σa, hh, R, rs, rh, q, k⟩) (fun q => ih.run pins s σ H D I ⟨σa, hh, R, rs, rh, q, k⟩)⟩
  | .bad, x, X, sc, ok, h => by
    refine ⟨fun pins s σ H D I ⟨_, _, _, _, _, q, _⟩ => ?_⟩
    simp only [M.wS] at q
theorem sndSs : ∀ (ir : M.Ss) (l : List Stmt) (X : L2.Cx) (sc : Scope), XOk P n T sc sc X → mtSs T sc ir l = true → PSs X l (liftS X.F (M.wSs (C P n xx) ir))
  | .nil, l, X, sc, ok, h => by
    cases l with
    | cons _ _ => simp [mtSs] at h
    | nil =>
      have w1 : M.wSs (C P n xx) .nil = fun R σ h => R.nx σ h := by funext R σ h; simp only [M.wSs]
      rw [w1]
      exact ss_nil
  | .cons s r, l, X, sc, ok, h => by
    cases l with
    | nil => simp [mtSs] at h
    | cons x l =>
      simp only [mtSs] at h
      obtain ⟨h1, h2⟩ := ba h
      have w1 : M.wSs (C P n xx) (.cons s r) = fun R σ h => M.wS (C P n xx) s { R with nx := fun σ' h' => M.wSs (C P n xx) r R σ' h' } σ h := by funext R σ h; simp only [M.wSs]
      rw [w1]
      exact ss_cons (sndS s x X sc ok h1) (sndSs r l X sc ok h2)
end

/-! ### defs -/
/-- a def of the program: its name, its names by slot, its row's statement, what it does -/
structure Fn where
  f : M.Sx
  N : List Str
  ps : List Str
  params : Arguments
  body : List Stmt
  scope : Scope
  fd : M.FD
  /-- of a class -/
  cl : Option (M.Sx × M.Sx)
  /-- so many of its last parameters have the default None -/
  df : Nat
def Fn.nm (F : Fn) : Str := match F.cl with
  | none => sV F.f
  | some (_, m) => sV m
/-- what is looked at of a def's text -/
def FnScopeB (N ps : List Str) (sc : Scope) : Bool := (match sc.kind with | .function => true | _ => false) && !sc.isCoroutine && !sc.isGenerator && decide N.Nodup && decide (N.take ps.length = ps) && (ps.all fun x => match sc.names.lookup x with
  | some .local => true | some .cell => true | _ => false) && sc.names.all fun y => match y.2 with
  | .free => false | _ => true
/-- the module's numbers and tables -/
structure Gc where
  gs : List (M.Sx × Int)
  ts : List (M.Sx × List (M.Sx × M.Sx))
  cs : List M.Sx
  ms : List (M.Sx × M.Sx)
  at_ : List (M.Sx × M.Sx)
  ds : List (M.Sx × Nat)
  ws : List (M.Sx × List M.Sx)
def Fn.ok (bn : List Str) (fs : List M.Sx) (gc : Gc) (F : Fn) : Bool := FnScopeB F.N F.ps F.scope && decide (F.fd.ps = F.ps.length) && decide (F.fd.n = F.N.length) && mtSs ⟨F.N, bn, fs, gc.gs, gc.ts, gc.cs, gc.ms, gc.at_, gc.ds, gc.ws⟩ F.scope F.fd.body F.body
theorem fnScope_of {N ps : List Str} {sc : Scope} (h : FnScopeB N ps sc = true) : FnScope N ps sc := by
  unfold FnScopeB at h
  simp only [Bool.and_eq_true, decide_eq_true_eq, List.all_eq_true, Bool.not_eq_true'] at h
  obtain ⟨⟨⟨⟨⟨⟨h1, h2⟩, h3⟩, h4⟩, h5⟩, h6⟩, h7⟩ := h
  refine ⟨?_, h2, h3, h4, h5, fun x hx => ?_, fun y hy e => ?_⟩
  · split at h1 <;> first | assumption | cases h1
  · have := h6 x hx
    split at this
    · exact .inl (by assumption)
    · exact .inr (by assumption)
    · cases this
  · have := h7 y hy
    rw [e] at this
    cases this
end
end Snd
end
section
/-! Sound11: a whole program, and a law's end. -/
namespace Snd
open PySem L2 PySem.Spec PyProof.Rows
def Fn.Bnd (F : Fn) : Prop := ∀ (kV doc pm : Value) (an : Option Addr) (cdv ct : Value) (us : List Value), us.length = F.ps.length → bindArgs (PySem.W.fnOf F.nm (sV F.f) F.params F.body F.scope .none kV doc pm an cdv ct) ⟨us, []⟩ = pure (F.ps.zip us)
/-- k of its defaults fill up -/
def Fn.BndD (F : Fn) (k : Nat) : Prop := ∀ (T : Addr) (kV doc pm : Value) (an : Option Addr) (cdv ct : Value) (us its : List Value), us.length + k = F.ps.length → its.length = F.df →
  ∃ kk, bindArgs (PySem.W.fnOf F.nm (sV F.f) F.params F.body F.scope (.ref T) kV doc pm an cdv ct) ⟨us, []⟩ = seqItems? (.ref T) >>= kk ∧ kk (some its.toArray) = pure (F.ps.zip (us ++ its.drop (F.df - k)))
def Fn.BOk (F : Fn) : Prop := (F.df = 0 ∧ F.Bnd) ∨ (F.df ≠ 0 ∧ F.df ≤ F.ps.length ∧ ∀ k, k ≤ F.df → F.BndD k)
abbrev Fn.dv (F : Fn) : List V := List.replicate F.df V.non
theorem binds_ok {K : PySem.W.Frag} {F : Fn} {fa : Addr} {fd : FuncData} (hB : F.BOk) (D : FunD K F.nm (sV F.f) F.params F.body F.scope F.dv [] fa fd) {k : Nat} (hk : k ≤ F.df) : ∃ us, Vals (List.replicate k V.non) us ∧ Binds K fd F.ps us := by
  rcases hB with ⟨z, b⟩ | ⟨z, le, b⟩
  · have e : F.dv = [] := by unfold Fn.dv; rw [z]; rfl
    rw [e] at D
    obtain rfl : k = 0 := by omega
    exact ⟨[], .nil, D.bindsN b⟩
  · have e : F.dv ≠ [] := by
      unfold Fn.dv
      intro y
      have := congrArg List.length y
      simp at this
      exact z this
    have ln : F.dv.length = F.df := by unfold Fn.dv; simp
    obtain ⟨us, v, bb⟩ := D.binds1 (F.ps.length - k) (F.df - k) e (by rw [ln]; omega) fun T kV doc pm an cdv ct us its h1 h2 => b k hk T kV doc pm an cdv ct us its (by omega) (by rw [h2, ln])
    refine ⟨us, ?_, bb⟩
    have : F.dv.drop (F.df - k) = List.replicate k V.non := by
      unfold Fn.dv
      rw [List.drop_replicate]
      congr 1
      omega
    rw [this] at v
    exact v
theorem binds_full {K : PySem.W.Frag} {F : Fn} {fa : Addr} {fd : FuncData} (hB : F.BOk) (D : FunD K F.nm (sV F.f) F.params F.body F.scope F.dv [] fa fd) : Binds K fd F.ps [] := by
  obtain ⟨us, v, b⟩ := binds_ok hB D (k := 0) (Nat.zero_le _)
  cases v
  exact b
def AllP (p : Fn → Prop) : List Fn → Prop
  | [] => True
  | F :: r => p F ∧ AllP p r
theorem AllP.get {p : Fn → Prop} : ∀ {l : List Fn}, AllP p l → ∀ F ∈ l, p F
  | F :: r, ⟨a, b⟩, G, h => by
    rcases List.mem_cons.mp h with e | h
    · rw [e]; exact a
    · exact b.get G h
def tabP (tab : List Fn) : M.Prog := M.pOf (tab.map fun F => (F.f, F.fd))
theorem tabP_of : ∀ {tab : List Fn}, (tab.map (·.f)).Nodup → ∀ F ∈ tab, tabP tab F.f = some F.fd
  | G :: r, nd, F, h => by
    rw [List.map_cons, List.nodup_cons] at nd
    rcases List.mem_cons.mp h with e | h
    · subst e
      simp [tabP, M.pOf, List.find?_cons]
    · have ne : G.f ≠ F.f := fun e => nd.1 (by rw [e]; exact List.mem_map.mpr ⟨F, h, rfl⟩)
      have ih := tabP_of nd.2 F h
      unfold tabP M.pOf at ih ⊢
      rw [List.map_cons, List.find?_cons]
      have : (G.f == F.f) = false := by simpa using ne
      simp only [this]
      exact ih
theorem rs_start {K : Fr} {H : Hp} {ds : List SD} {vs : List V} (r : Reps K H ds vs) (N : List Str) (fd : M.FD) (h1 : fd.n = N.length) (h2 : fd.ps = ds.length) : RS K H (L2.start N vs) (M.start fd ds) := by
  have ln := r.length
  unfold L2.start M.start
  refine ⟨by simp [h1, h2, ln], fun i d e => ?_⟩
  by_cases hi : i < ds.length
  · rw [List.getElem?_append_left (by simpa using hi), List.getElem?_map] at e
    cases q : ds[i]? with
    | none => rw [q] at e; cases e
    | some x =>
      rw [q] at e
      simp only [Option.map_some, Option.some.injEq] at e
      subst e
      obtain ⟨v, e1, e2⟩ := r.get q
      exact ⟨v, by rw [List.getElem?_append_left (by simpa [ln] using hi), List.getElem?_map, e1]; rfl, e2⟩
  · rw [List.getElem?_append_right (by simpa using hi)] at e
    have := List.getElem?_replicate (a := (none : Option SD)) (n := fd.n - fd.ps) (i := i - (ds.map some).length)
    rw [this] at e
    split at e <;> cases e
section
variable {P : Program} {w : World} {K : PySem.W.Frag} {mg : Str → Option Value} {base : Heap}
theorem init_eq : sV M.sInit = ("__init__" : Str) := by rfl
theorem tabP_none {tab : List Fn} {f : M.Sx} (h : (tab.any fun F => decide (F.f = f)) = false) : tabP tab f = none := by
  have h := List.any_eq_false.mp h
  have : ((tab.map fun F => (F.f, F.fd)).find? fun p => p.1 == f) = none := by
    rw [List.find?_eq_none]
    intro p hp
    obtain ⟨F, hF, rfl⟩ := List.mem_map.mp hp
    have := h F hF
    simpa using this
  simp only [tabP, M.pOf, this, Option.map_none]
/-- where a def lies -/
def FnAt (K : PySem.W.Frag) (mg : Str → Option Value) (F : Fn) (fa : Addr) : Prop := match F.cl with
  | none => mg (sV F.f) = some (.ref fa)
  | some (c, m) => fa = He.ma K (He.ga K (sV c)) (sV m)
/-- the classes' defs are in the table -/
def Gc.okT (gc : Gc) (tab : List Fn) : Bool := (gc.cs.all fun c => (tab.any fun F => decide (F.cl = some (c, M.sInit)) && decide (F.f = M.metN c M.sInit)) && !(tab.any fun F => decide (F.f = M.mkN c))) &&
  ((gc.ms.all fun q => tab.any fun F => decide (F.cl = some q) && decide (F.f = M.metN q.1 q.2)) &&
  gc.ds.all fun q => tab.any fun F => decide (F.cl = none) && decide (F.f = q.1) && decide (q.2 ≤ F.df))
def glob (tab : List Fn) : List M.Sx := (tab.filter fun F => F.cl.isNone).map (·.f)
/-- a tuple of texts of the module's -/
def KTupF (K : PySem.W.Frag) (a : Addr) (vs : List V) : Prop := ∃ (o : Obj) (its : Array Value) (n : Nat), K.lookup a = some o ∧ o.cls = .type "tuple" ∧ o.data = .seq its n ∧ its.size ≤ sizeLine ∧ Vals vs its.toList
def isStrs : List Value → List M.Sx → Bool
  | [], [] => true
  | .str x _ :: us, s :: ss => decide (x = sV s) && isStrs us ss
  | _, _ => false
def tupB (K : PySem.W.Frag) (a : Addr) (ss : List M.Sx) : Bool := match K.lookup a with
  | some o => decide (o.cls = .type "tuple") && (decide (ss.length < 100) && (match o.data with
    | .seq its _ => isStrs its.toList ss
    | _ => false))
  | none => false
theorem isStrs_ok : ∀ {us : List Value} {ss : List M.Sx}, isStrs us ss = true → us.length = ss.length ∧ Vals (ss.map fun s => V.str (sV s)) us
  | [], [], _ => ⟨rfl, .nil⟩
  | [], _ :: _, h => by simp [isStrs] at h
  | u :: us, [], h => by cases u <;> simp [isStrs] at h
  | u :: us, s :: ss, h => by
    cases u with
    | str x t =>
      simp only [isStrs] at h
      obtain ⟨h1, h2⟩ := ba h
      have e := of_decide_eq_true h1
      subst e
      obtain ⟨l, v⟩ := isStrs_ok h2
      exact ⟨by simp [l], .cons ⟨t, rfl⟩ v⟩
    | _ => simp [isStrs] at h
theorem reps_txts {X : Fr} {H : Hp} : ∀ {ss : List M.Sx}, (∀ s ∈ ss, sOk s) → Reps X H (ss.map M.D.str) (ss.map fun s => V.str (sV s))
  | [], _ => rfl
  | s :: ss, h => ⟨_, _, rfl, ⟨rfl, h s List.mem_cons_self⟩, reps_txts fun t ht => h t (List.mem_cons_of_mem _ ht)⟩
theorem tupB_ok {K : PySem.W.Frag} {a : Addr} {ss : List M.Sx} (h : tupB K a ss = true) : KTupF K a (ss.map fun s => V.str (sV s)) := by
  unfold tupB at h
  split at h
  · rename_i o e
    obtain ⟨h1, h2⟩ := ba h
    obtain ⟨h2, h3⟩ := ba h2
    split at h3
    · rename_i its n ed
      obtain ⟨l, v⟩ := isStrs_ok h3
      refine ⟨o, its, n, e, of_decide_eq_true h1, ed, ?_, v⟩
      have : its.size = its.toList.length := by simp
      rw [this, l]
      have := of_decide_eq_true h2
      have z : (100 : Nat) ≤ sizeLine := by decide
      omega
    · cases h3
  · cases h
/-- what the module's heap says of its numbers and tables -/
structure GcOk (K : PySem.W.Frag) (w : World) (mg : Str → Option Value) (gc : Gc) : Prop where
  gi : ∀ p ∈ gc.gs, ∃ t, mg (sV p.1) = some (.int p.2 t)
  tb : ∀ p ∈ gc.ts, ∃ a, mg (sV p.1) = some (.ref a) ∧ ∀ s t, p.2.lookup s = some t → KDct K w a (sV s) (.str (sV t)) ∧ sOk t
  cs : ∀ c ∈ gc.cs, mg (sV c) = some (.ref (He.ga K (sV c))) ∧ PySem.W.keepIn K (.ref (He.ga K (sV c))) = true ∧ Cls K (He.ga K (sV c)) ∧ Mk K (He.ga K (sV c)) (He.ma K (He.ga K (sV c)) (sV M.sInit))
  ms : ∀ q ∈ gc.ms, mg (sV q.1) = some (.ref (He.ga K (sV q.1))) ∧ Cls K (He.ga K (sV q.1)) ∧ Meth K (He.ga K (sV q.1)) (sV q.2) (He.ma K (He.ga K (sV q.1)) (sV q.2))
  at_ : ∀ q ∈ gc.at_, mg (sV q.1) = some (.ref (He.ga K (sV q.1))) ∧ NoAttr K (He.ga K (sV q.1)) (sV q.2)
  wt : ∀ p ∈ gc.ws, ∃ a vs, mg (sV p.1) = some (.ref a) ∧ KTupF K a vs ∧ ∀ (X : Fr) H, Reps X H (p.2.map M.D.str) vs
theorem all_ok {tab : List Fn} {bn : List Str} {gc : Gc} (hgc : GcOk K w mg gc) (hnd : (tab.map (·.f)).Nodup) (hok : AllP (fun F => F.ok bn (glob tab) gc = true) tab) (hB : AllP Fn.BOk tab)
    (hT : gc.okT tab = true) (hf : ∀ F ∈ tab, ∃ fa fdc, FnAt K mg F fa ∧ FunD K F.nm (sV F.f) F.params F.body F.scope F.dv [] fa fdc) (hfree : ∀ x ∈ bn, mg x = none) :
    ∀ n, ∀ k, k ≤ n → ∀ F ∈ tab, ∀ fa fdc, FunD K F.nm (sV F.f) F.params F.body F.scope F.dv [] fa fdc → FnOk P w K mg base CX0 k fa fdc F.ps (spC ⟨K, P, w, mg⟩ (tabP tab) k F.f) := by
  intro n
  induction n with
  | zero =>
    intro k hk0 F hF fa fdc D
    obtain rfl : k = 0 := by omega
    refine ⟨fun vs H Q E h => ?_, fun A outer s H args us vs Q E hr e0 hb r h => ?_⟩
    · obtain ⟨ds, h, Qa, xx, _, _, q, _⟩ := h
      simp only [M.run] at q
    · obtain ⟨ds, h, Qa, xx, _, _, q, _⟩ := h
      simp only [M.run] at q
  | succ n ih =>
    intro k hkn F hF fa fdc D
    by_cases hle : k ≤ n
    · exact ih k hle F hF fa fdc D
    obtain rfl : k = n + 1 := by omega
    have hk := hok.get F hF
    have hP := tabP_of hnd F hF
    unfold Fn.ok at hk
    obtain ⟨hk, k4⟩ := ba hk
    obtain ⟨hk, k3⟩ := ba hk
    obtain ⟨k1, k2⟩ := ba hk
    have k2 := of_decide_eq_true k2
    have k3 := of_decide_eq_true k3
    have S := fnScope_of k1
    have runE : ∀ {ds : List SD} {h : M.AH} {Qa : M.VQ} {xx : M.XP}, M.run (tabP tab) (n + 1) F.f ds h Qa xx → ds.length = F.fd.ps ∧ M.wSs (C (tabP tab) n xx) F.fd.body { nx := fun _ h' => Qa .non h', rt := Qa, bk := fun _ _ => False, ct := fun _ _ => False } (M.start F.fd ds) h := by
      intro ds h Qa xx q
      simp only [M.run] at q
      rw [hP] at q
      exact q
    refine D.ok S (fun vs H Q E h => ?_) (fun cdv A outer s H vs Q E hr h => ?_)
    · obtain ⟨ds, h, Qa, xx, r, _, q, _⟩ := h
      rw [r.length, (runE q).1, k2]
    · obtain ⟨ds, h, Qa, xx, r, rh, q, k⟩ := h
      obtain ⟨q1, q2⟩ := runE q
      have ok : XOk (tabP tab) n ⟨F.N, bn, glob tab, gc.gs, gc.ts, gc.cs, gc.ms, gc.at_, gc.ds, gc.ws⟩ F.scope F.scope (cxOf CX0 P w K mg base F.N (sV F.f) F.scope fa cdv A outer s H E).nox := by
        refine ⟨rfl, S.nd, rfl, fun x hx => ?_, rfl, hr, rfl, hfree, fun f hf2 => ?_, hgc.gi, hgc.tb, fun c hc => ?_, fun q hq => ?_, fun q hq => ⟨_, hgc.at_ q hq⟩, fun q hq => ?_, fun p hp => let ⟨a, vs, e1, e2, e3⟩ := hgc.wt p hp; ⟨a, vs, e1, e2, e3 _⟩⟩
        · unfold locB at hx
          split at hx
          · exact ⟨.inl (by assumption), .inl rfl⟩
          · exact ⟨.inr (by assumption), .inl rfl⟩
          · cases hx
        · obtain ⟨G, hG, rfl⟩ := List.mem_map.mp hf2
          obtain ⟨hG, hn⟩ := List.mem_filter.mp hG
          obtain ⟨ga, gdc, e1, e2⟩ := hf G hG
          have e3 : mg (sV G.f) = some (.ref ga) := by
            unfold FnAt at e1
            split at e1
            · exact e1
            · rename_i z; rw [z] at hn; cases hn
          exact ⟨ga, gdc, G.ps, e3, e2.kp, ih n (Nat.le_refl n) G hG ga gdc e2, binds_full (hB.get G hG) e2⟩
        · obtain ⟨e1, e2, e3, e4⟩ := hgc.cs c hc
          obtain ⟨t1, t2⟩ := ba hT
          obtain ⟨u1, u2⟩ := ba (List.all_eq_true.mp t1 c hc)
          obtain ⟨G, hG, g⟩ := List.any_eq_true.mp u1
          obtain ⟨g1, g2⟩ := ba g
          have g1 := of_decide_eq_true g1
          have g2 := of_decide_eq_true g2
          obtain ⟨ga, gdc, a1, a2⟩ := hf G hG
          refine ⟨tabP_none (by simpa using u2), _, e1, e2, e3, fun m hm => ⟨ga, gdc, G.ps, ?_, ?_, binds_full (hB.get G hG) a2⟩⟩
          · unfold FnAt at a1
            rw [g1] at a1
            rw [show ga = _ from a1]
            exact e4
          · have := ih m (by omega) G hG ga gdc a2
            rw [g2] at this
            exact this
        · obtain ⟨e1, e2, e3⟩ := hgc.ms q hq
          obtain ⟨t1, t2⟩ := ba hT
          obtain ⟨t2, t3⟩ := ba t2
          obtain ⟨G, hG, g⟩ := List.any_eq_true.mp (List.all_eq_true.mp t2 q hq)
          obtain ⟨g1, g2⟩ := ba g
          have g1 := of_decide_eq_true g1
          have g2 := of_decide_eq_true g2
          obtain ⟨ga, gdc, a1, a2⟩ := hf G hG
          refine ⟨_, ga, gdc, G.ps, e1, e2, ?_, ?_, binds_full (hB.get G hG) a2⟩
          · unfold FnAt at a1
            rw [g1] at a1
            rw [show ga = _ from a1]
            exact e3
          · have := ih n (Nat.le_refl n) G hG ga gdc a2
            rw [g2] at this
            exact this
        · obtain ⟨t1, t2⟩ := ba hT
          obtain ⟨t2, t3⟩ := ba t2
          obtain ⟨G, hG, g⟩ := List.any_eq_true.mp (List.all_eq_true.mp t3 q hq)
          obtain ⟨g, g3⟩ := ba g
          obtain ⟨g1, g2⟩ := ba g
          have g1 := of_decide_eq_true g1
          have g2 := of_decide_eq_true g2
          have g3 := of_decide_eq_true g3
          obtain ⟨ga, gdc, a1, a2⟩ := hf G hG
          obtain ⟨us, v, b⟩ := binds_ok (hB.get G hG) a2 g3
          refine ⟨ga, gdc, G.ps, us, ?_, a2.kp, ?_, v, b⟩
          · unfold FnAt at a1
            rw [g1] at a1
            rw [← g2]
            exact a1
          · have := ih n (Nat.le_refl n) G hG ga gdc a2
            rw [g2] at this
            exact this
      refine ⟨_, (sndSs (xx := xx) F.fd.body F.body _ F.scope ok k4).nox, ?_⟩
      refine ⟨M.start F.fd ds, h, _, rs_start r F.N F.fd k3 q1.symm, rh, q2, ⟨fun σa h' σ H' z f rs' rh' => ?_, k, fun _ _ _ _ z _ _ _ => z.elim, fun _ _ _ _ z _ _ _ => z.elim⟩⟩
      exact k _ _ _ _ z f rfl rh'

/-- what a law is asked, in the IR -/
def LawOk (prog : M.Prog) (n : Nat) (law : M.Sx) : Prop := ∀ ns : List Int, ns.length ≤ 63 → M.run prog n law [.rol (ns.map .int)] (fun _ => none) (fun d _ => d = .bl true) (fun _ _ _ => False)
theorem reps_ints {K : Fr} {H : Hp} : ∀ ns : List Int, Reps K H (ns.map .int) (ns.map V.int)
  | [] => rfl
  | n :: ns => ⟨_, _, rfl, rfl, reps_ints ns⟩
theorem law_sp {prog : M.Prog} {n : Nat} {law : M.Sx} (h : LawOk prog n law) (H : Hp) (a : Addr) (ns : List Int) (hl : ns.length ≤ 63) (hO : Only H) (hS : SqL K H a (ns.map V.int)) : spC ⟨K, P, w, mg⟩ prog n law [.ref a] H (fun v _ => v = .bl true) fun _ _ _ => False := by
  refine ⟨[.rol (ns.map .int)], fun _ => none, _, _, Reps.one ⟨a, ns.map V.int, rfl, ?_, reps_ints ns⟩, (fun _ _ e => by cases e), h ns hl, fun d h' v H' q f r rh => ?_⟩
  · rcases hS with (e | ⟨o, e⟩) | e
    · rcases hO a with z | ⟨o, xs, z⟩
      · rw [z] at e; cases e
      · rw [z] at e; cases e
    · exact .inl ⟨o, e⟩
    · exact .inr e
  · subst q
    exact r
end
/-! ### the head's data -/
def Fn.dd (F : Fn) : He.DefD := ⟨(match F.cl with | none => (sV F.f, none) | some (c, m) => (sV c, some (sV m))), F.nm, sV F.f, F.params, F.body, F.scope, List.replicate F.df .non, []⟩
def headFa (tab : List Fn) (bn : List Str) (gc : Gc) : List He.Fa := (tab.map fun F => match F.cl with | none => He.Fa.glo (sV F.f) | some (c, _) => He.Fa.glo (sV c)) ++ ((bn.map fun x => He.Fa.free x) ++ ((gc.gs.map fun p => He.Fa.int (sV p.1) p.2) ++ ((gc.ts.map fun p => He.Fa.glo (sV p.1)) ++
  ((gc.cs.flatMap fun c => [He.Fa.glo (sV c), .keep (sV c), .cls (sV c), .mkr (sV c)]) ++ ((gc.ms.flatMap fun q => [He.Fa.glo (sV q.1), .cls (sV q.1), .meth (sV q.1) (sV q.2)]) ++ (gc.at_.flatMap fun q => [He.Fa.glo (sV q.1), .noat (sV q.1) (sV q.2)]) ++ gc.ws.map fun p => He.Fa.glo (sV p.1))))))
/-- the tables: where they lie, their keys; and their values -/
def headTs (gc : Gc) : List He.Tab := gc.ts.map fun p => (fun K => He.ga K (sV p.1), p.2.map fun q => sV q.1)
def headEx (gc : Gc) (K : PySem.W.Frag) : Bool := (gc.ws.all fun p => tupB K (He.ga K (sV p.1)) p.2) && gc.ts.all fun p => He.valsB K (He.ga K (sV p.1)) (p.2.map fun q => (sV q.1, He.Dv.str (sV q.2)))
def Gc.chr (gc : Gc) : Bool := (gc.ws.all fun p => p.2.all chrB) && gc.ts.all fun p => p.2.all fun q => chrB q.2
def headFn (tab : List Fn) : List He.DefD := tab.map Fn.dd
theorem fact_mem {fa : List He.Fa} {fn : List He.DefD} {K : PySem.W.Frag} (c : He.SaysD fa fn K) {f : He.Fa} (h : f ∈ fa) : f.ok K = true := by
  obtain ⟨i, hi⟩ := List.getElem?_of_mem h
  exact He.SaysD.fact c i hi
theorem def_mem {fa : List He.Fa} {fn : List He.DefD} {K : PySem.W.Frag} (c : He.SaysD fa fn K) {d : He.DefD} (h : d ∈ fn) : ∃ fd, FunD K d.name d.qual d.params d.body d.scope (d.dvs K) (d.kws K) (He.fAd K d.at_) fd := by
  obtain ⟨i, hi⟩ := List.getElem?_of_mem h
  exact He.SaysD.def_ c i hi
theorem lookup_in {α β : Type} [BEq α] [LawfulBEq α] {s : α} {t : β} : ∀ {l : List (α × β)}, l.lookup s = some t → (s, t) ∈ l
  | (a, b) :: l, h => by
    rw [List.lookup_cons] at h
    by_cases e : (s == a) = true
    · rw [e] at h
      have e2 : s = a := by simpa using e
      subst e2
      cases h
      exact List.mem_cons_self
    · rw [Bool.not_eq_true] at e
      rw [e] at h
      exact List.mem_cons_of_mem _ (lookup_in h)
theorem gc_ok {w : World} {K : PySem.W.Frag} {h : Heap} {mg : Str → Option Value} {tab : List Fn} {bn : List Str} {gc : Gc} (X : K.In h) (G : h.Ns mainGlobals mg) (hm : ∀ f ∈ headFa tab bn gc, f.ok K = true) (hch : gc.chr = true)
    (ht : ∀ t ∈ headTs gc, ∃ es n, KDict K w (t.1 K) es n) (hv : headEx gc K = true) : GcOk K w mg gc := by
  have tail : ∀ f, f ∈ ((gc.cs.flatMap fun c => [He.Fa.glo (sV c), .keep (sV c), .cls (sV c), .mkr (sV c)]) ++ ((gc.ms.flatMap fun q => [He.Fa.glo (sV q.1), .cls (sV q.1), .meth (sV q.1) (sV q.2)]) ++ (gc.at_.flatMap fun q => [He.Fa.glo (sV q.1), .noat (sV q.1) (sV q.2)]) ++ gc.ws.map fun p => He.Fa.glo (sV p.1))) → f.ok K = true := fun f hf => hm f (List.mem_append_right _ (List.mem_append_right _ (List.mem_append_right _ (List.mem_append_right _ hf))))
  have fc : ∀ c ∈ gc.cs, ∀ f ∈ [He.Fa.glo (sV c), .keep (sV c), .cls (sV c), .mkr (sV c)], f.ok K = true := fun c hc f hf => tail f (List.mem_append_left _ (List.mem_flatMap.mpr ⟨c, hc, hf⟩))
  have fm : ∀ q ∈ gc.ms, ∀ f ∈ [He.Fa.glo (sV q.1), .cls (sV q.1), .meth (sV q.1) (sV q.2)], f.ok K = true := fun q hq f hf => tail f (List.mem_append_right _ (List.mem_append_left _ (List.mem_append_left _ (List.mem_flatMap.mpr ⟨q, hq, hf⟩))))
  have fa : ∀ q ∈ gc.at_, ∀ f ∈ [He.Fa.glo (sV q.1), .noat (sV q.1) (sV q.2)], f.ok K = true := fun q hq f hf => tail f (List.mem_append_right _ (List.mem_append_left _ (List.mem_append_right _ (List.mem_flatMap.mpr ⟨q, hq, hf⟩))))
  have fw : ∀ p ∈ gc.ws, (He.Fa.glo (sV p.1)).ok K = true := fun p hp => tail _ (List.mem_append_right _ (List.mem_append_right _ (List.mem_map.mpr ⟨p, hp, rfl⟩)))
  refine ⟨fun p hp => ?_, fun p hp => ?_, fun c hc => ⟨He.glo_ok X G (fc c hc _ (by simp)), He.keep_ok (fc c hc (.keep (sV c)) (by simp)), He.cls_ok (fc c hc (.cls (sV c)) (by simp)), by rw [init_eq]; exact He.mkr_ok (fc c hc (.mkr (sV c)) (by simp))⟩,
    fun q hq => ⟨He.glo_ok X G (fm q hq _ (by simp)), He.cls_ok (fm q hq (.cls (sV q.1)) (by simp)), He.meth_ok (fm q hq (.meth (sV q.1) (sV q.2)) (by simp))⟩, fun q hq => ⟨He.glo_ok X G (fa q hq _ (by simp)), He.noat_ok (fa q hq (.noat (sV q.1) (sV q.2)) (by simp))⟩,
    fun p hp => ⟨_, _, He.glo_ok X G (fw p hp), tupB_ok (List.all_eq_true.mp (ba hv).1 p hp), fun X H => reps_txts fun s hs c hc2 => of_decide_eq_true (List.all_eq_true.mp (List.all_eq_true.mp (List.all_eq_true.mp (ba hch).1 p hp) s hs) c hc2)⟩⟩
  · exact He.int_ok X G (hm _ (List.mem_append_right _ (List.mem_append_right _ (List.mem_append_left _ (List.mem_map.mpr ⟨p, hp, rfl⟩)))))
  · refine ⟨_, He.glo_ok X G (hm _ (List.mem_append_right _ (List.mem_append_right _ (List.mem_append_right _ (List.mem_append_left _ (List.mem_map.mpr ⟨p, hp, rfl⟩)))))), fun s t e => ?_⟩
    have hq := lookup_in e
    obtain ⟨es, n, D⟩ := ht _ (List.mem_map.mpr ⟨p, hp, rfl⟩ : _ ∈ headTs gc)
    have hv2 := List.all_eq_true.mp (ba hv).2 p hp
    obtain ⟨u, e1, r⟩ := He.valsB_ok hv2 (List.mem_map.mpr ⟨(s, t), hq, rfl⟩)
    have hc := List.all_eq_true.mp (List.all_eq_true.mp (ba hch).2 p hp) (s, t) hq
    exact ⟨⟨es, n, u, D.at_, D.lit, e1, r⟩, fun c hc2 => of_decide_eq_true (List.all_eq_true.mp hc c hc2)⟩
theorem law_factsG {P : Program} {w : World} {K : PySem.W.Frag} {h : Heap} {mg : Str → Option Value} {f : Addr} {tab : List Fn} {bn : List Str} {gc : Gc} {L : Fn} (hcl : L.cl = none) (hdf : L.df = 0) (hL : L ∈ tab) (hps : L.ps = [("script" : Str)]) (X : K.In h) (G : h.Ns mainGlobals mg) (hfa : mg (sV L.f) = some (.ref f)) (c : He.SaysD (headFa tab bn gc) (headFn tab) K)
    (hgc : GcOk K w mg gc) (hnd : (tab.map (·.f)).Nodup) (hok : AllP (fun F => F.ok bn (glob tab) gc = true) tab) (hB : AllP Fn.BOk tab) (hT : gc.okT tab = true) (n : Nat) :
    ∃ fd : FuncData, (∀ (s : Shared) (v : Value), BindsTo s fd ⟨[v], []⟩ [(("script" : Str), v)]) ∧ ∀ base : Heap, K.In base → base.Ns mainGlobals mg → FnOk P w K mg base CX0 n f fd [("script" : Str)] (spC ⟨K, P, w, mg⟩ (tabP tab) n L.f) := by
  have hf : ∀ F ∈ tab, ∃ fa fdc, FnAt K mg F fa ∧ FunD K F.nm (sV F.f) F.params F.body F.scope F.dv [] fa fdc := fun F hF => by
    have e0 := fact_mem c (List.mem_append_left _ (List.mem_map.mpr ⟨F, hF, rfl⟩))
    obtain ⟨fd, D⟩ := def_mem c (List.mem_map.mpr ⟨F, hF, rfl⟩ : F.dd ∈ headFn tab)
    have D' : FunD K F.nm (sV F.f) F.params F.body F.scope F.dv [] (He.fAd K F.dd.at_) fd := by
      have e : F.dd.dvs K = F.dv := by simp [He.DefD.dvs, Fn.dd, Fn.dv, He.Dv.v]
      rw [← e]
      exact D
    refine ⟨_, fd, ?_, D'⟩
    unfold FnAt Fn.dd
    dsimp only
    split
    · rename_i z
      rw [z] at e0
      exact He.glo_ok X G e0
    · rfl
  have hfree : ∀ x ∈ bn, mg x = none := fun x hx => He.free_ok X G (fact_mem c (List.mem_append_right _ (List.mem_append_left _ (List.mem_map.mpr ⟨x, hx, rfl⟩))))
  obtain ⟨fa, fdc, e1, D⟩ := hf L hL
  unfold FnAt at e1
  rw [hcl] at e1
  dsimp only at e1
  rw [hfa] at e1
  cases e1
  refine ⟨fdc, fun s v => ?_, fun base _ _ => ?_⟩
  · have e : L.dv = [] := by unfold Fn.dv; rw [hdf]; rfl
    rw [e] at D
    have bb : L.Bnd := (hB.get L hL).elim (fun z => z.2) fun z => (z.1 hdf).elim
    have b := D.bindsA bb s [v] (by rw [hps]; rfl)
    rw [hps] at b
    exact b
  · have := all_ok (P := P) (w := w) (base := base) hgc hnd hok hB hT hf hfree n n (Nat.le_refl n) L hL f fdc D
    rw [hps] at this
    exact this
/-- without tables -/
theorem law_facts {P : Program} {w : World} {K : PySem.W.Frag} {h : Heap} {mg : Str → Option Value} {f : Addr} {tab : List Fn} {bn : List Str} {gc : Gc} {L : Fn} (h0 : gc.ts = [] ∧ gc.ws = []) (hcl : L.cl = none) (hdf : L.df = 0) (hL : L ∈ tab) (hps : L.ps = [("script" : Str)]) (X : K.In h) (G : h.Ns mainGlobals mg) (hfa : mg (sV L.f) = some (.ref f)) (c : He.SaysD (headFa tab bn gc) (headFn tab) K)
    (hnd : (tab.map (·.f)).Nodup) (hok : AllP (fun F => F.ok bn (glob tab) gc = true) tab) (hB : AllP Fn.BOk tab) (hT : gc.okT tab = true) (n : Nat) :
    ∃ fd : FuncData, (∀ (s : Shared) (v : Value), BindsTo s fd ⟨[v], []⟩ [(("script" : Str), v)]) ∧ ∀ base : Heap, K.In base → base.Ns mainGlobals mg → FnOk P w K mg base CX0 n f fd [("script" : Str)] (spC ⟨K, P, w, mg⟩ (tabP tab) n L.f) :=
  law_factsG hcl hdf hL hps X G hfa c (gc_ok X G (fun f hf => fact_mem c hf) (by unfold Gc.chr; rw [h0.1, h0.2]; rfl) (fun t ht => by unfold headTs at ht; rw [h0.1] at ht; cases ht) (by unfold headEx; rw [h0.1, h0.2]; rfl)) hnd hok hB hT n
/-- with tables -/
theorem law_factsX {P : Program} {w : World} {K : PySem.W.Frag} {h h' : Heap} {mg : Str → Option Value} {f : Addr} {tab : List Fn} {bn : List Str} {gc : Gc} {L : Fn} (h0 : gc.chr = true) (hcl : L.cl = none) (hdf : L.df = 0) (hL : L ∈ tab) (hps : L.ps = [("script" : Str)]) (X : K.In h) (G : h.Ns mainGlobals mg) (hfa : mg (sV L.f) = some (.ref f)) (c : He.SaysX (headFa tab bn gc) (headFn tab) (headTs gc) [] (headEx gc) w h' K)
    (hnd : (tab.map (·.f)).Nodup) (hok : AllP (fun F => F.ok bn (glob tab) gc = true) tab) (hB : AllP Fn.BOk tab) (hT : gc.okT tab = true) (n : Nat) :
    ∃ fd : FuncData, (∀ (s : Shared) (v : Value), BindsTo s fd ⟨[v], []⟩ [(("script" : Str), v)]) ∧ ∀ base : Heap, K.In base → base.Ns mainGlobals mg → FnOk P w K mg base CX0 n f fd [("script" : Str)] (spC ⟨K, P, w, mg⟩ (tabP tab) n L.f) :=
  law_factsG hcl hdf hL hps X G hfa c.t.d (gc_ok X G (fun f hf => fact_mem c.t.d hf) h0 (fun t ht => by
    obtain ⟨i, hi⟩ := List.getElem?_of_mem ht
    exact c.t.tab i hi) c.more) hnd hok hB hT n
end Snd
end
section
/-! Lib: heaps kept, calls, small rules for walking the IR. Pure Lean. -/
namespace M
/-- all that stood stands -/
def Ext (h h' : AH) : Prop := ∀ a o, h a = some o → h' a = some o
/-- .. but for p -/
def Ke (p : Nat) (h h' : AH) : Prop := ∀ a o, a ≠ p → h a = some o → h' a = some o
section
variable {h h1 h2 h' : AH} {p q a : Nat} {o : Ob}
theorem up_same : up h a o a = some o := by simp [up]
theorem up_ne {b : Nat} (e : b ≠ a) : up h a o b = h b := by simp [up, e]
theorem up_up {o' : Ob} : up (up h a o) a o' = up h a o' := by
  funext b; simp only [up]; split <;> rfl
theorem Ext.refl : Ext h h := fun _ _ e => e
theorem Ext.trans (x : Ext h h1) (y : Ext h1 h2) : Ext h h2 := fun a o e => y a o (x a o e)
theorem Ext.ke (x : Ext h h1) : Ke p h h1 := fun a o _ e => x a o e
theorem Ext.new (n : h p = none) : Ext h (up h p o) := fun a u e => by
  rw [up_ne (fun z => by subst z; rw [n] at e; cases e)]; exact e
theorem Ke.refl : Ke p h h := fun _ _ _ e => e
theorem Ke.trans (x : Ke p h h1) (y : Ke p h1 h2) : Ke p h h2 := fun a o n e => y a o n (x a o n e)
theorem Ke.put : Ke p h (up h p o) := fun a u n e => by rw [up_ne n]; exact e
/-- changed at p, which h does not know -/
theorem Ext.mut (x : Ext h h1) (n : h p = none) (y : Ke p h1 h2) : Ext h h2 := fun a u e => y a u (fun z => by subst z; rw [n] at e; cases e) (x a u e)
theorem fresh_back (x : Ext h h1) (n : h1 p = none) : h p = none := by
  cases e : h p with
  | none => rfl
  | some o => rw [x p o e] at n; cases n
theorem ne_new (e : h a = some o) (n : h p = none) : a ≠ p := fun z => by subst z; rw [n] at e; cases e
end
/-- behind a def's body -/
def RT (Q : VQ) : Ends := { nx := fun _ h' => Q .non h', rt := Q, bk := fun _ _ => False, ct := fun _ _ => False }
@[simp] theorem RT_nx {Q : VQ} : (RT Q).nx = fun _ h' => Q .non h' := rfl
@[simp] theorem RT_rt {Q : VQ} : (RT Q).rt = Q := rfl
@[simp] theorem RT_bk {Q : VQ} : (RT Q).bk = fun _ _ => False := rfl
@[simp] theorem RT_ct {Q : VQ} : (RT Q).ct = fun _ _ => False := rfl
theorem run_mk {P : Prog} {n : Nat} {c : Sx} {ds : List D} {h : AH} {Q : VQ} {X : XP} (hP : P (mkN c) = none) (q : ∀ r, h r = none → run P n (metN c sInit) (.ref r :: ds) (up h r (.ins c [])) (fun d h2 => d = .non ∧ Q (.ref r) h2) X) : run P (n + 1) (mkN c) ds h Q X := by
  simp only [run]
  rw [hP]
  exact q
theorem run_of {P : Prog} {n : Nat} {f : Sx} {fd : FD} {ds : List D} {h : AH} {Q : VQ} {X : XP} (hP : P f = some fd) (hl : ds.length = fd.ps)
    (hb : wSs ⟨run P n, X⟩ fd.body (RT Q) (start fd ds) h) : run P (n + 1) f ds h Q X := by
  unfold run
  simp only [hP]
  exact ⟨hl, hb⟩
/-! ### loops -/
/-- over a range -/
theorem loop_rng {lo hi : Int} {ok : AH → Prop} {body : D → St → AH → (St → AH → Prop) → Prop} {done : St → AH → Prop} {σ : St} {h : AH} (P : Nat → St → AH → Prop) (h0 : P 0 σ h) (hok : ∀ i σ h, P i σ h → ok h)
    (hs : ∀ (i : Nat) σ h, (i : Int) < hi - lo → P i σ h → body (.int (lo + i)) σ h (P (i + 1))) (hd : ∀ σ h, P (hi - lo).toNat σ h → done σ h) : loopW (rangeL lo hi) ok body done σ h := by
  have ln : (rangeL lo hi).length = (hi - lo).toNat := by simp [rangeL]
  refine ⟨P, h0, hok, fun i x σ h e p => ?_, fun σ h p => hd σ h (by rw [ln] at p; exact p)⟩
  have hlt : i < (rangeL lo hi).length := (List.getElem?_eq_some_iff.mp e).1
  rw [ln] at hlt
  simp only [rangeL, List.getElem?_map] at e
  rw [List.getElem?_range hlt] at e
  simp only [Option.map_some, Option.some.injEq] at e
  subst e
  exact hs i σ h (by omega) p
theorem comp_rng {lo hi : Int} {ok : AH → Prop} {body : D → AH → (D → AH → Prop) → (AH → Prop) → Prop} {done : List D → AH → Prop} {h : AH} (P : Nat → List D → AH → Prop) (h0 : P 0 [] h) (hok : ∀ i acc h, P i acc h → ok h ∧ acc.length ≤ i) (hz : (hi - lo).toNat ≤ LINE)
    (hs : ∀ (i : Nat) acc h, (i : Int) < hi - lo → P i acc h → body (.int (lo + i)) h (fun y h' => P (i + 1) (acc ++ [y]) h') (fun h' => P (i + 1) acc h')) (hd : ∀ acc h, P (hi - lo).toNat acc h → done acc h) : compW (rangeL lo hi) ok body done h := by
  have ln : (rangeL lo hi).length = (hi - lo).toNat := by simp [rangeL]
  refine ⟨P, h0, hok, by rw [ln]; exact hz, fun i x acc h e p => ?_, fun acc h p => hd acc h (by rw [ln] at p; exact p)⟩
  have hlt : i < (rangeL lo hi).length := (List.getElem?_eq_some_iff.mp e).1
  rw [ln] at hlt
  simp only [rangeL, List.getElem?_map] at e
  rw [List.getElem?_range hlt] at e
  simp only [Option.map_some, Option.some.injEq] at e
  subst e
  exact hs i acc h (by omega) p
/-- a while by an invariant and a measure -/
theorem whl_of {C : Cx} {c : E} {b : Ss} {R : Ends} {σ : St} {h : AH} (I : St → AH → Prop) (μ : St → AH → Nat) (h0 : I σ h)
    (hs : ∀ σ h, I σ h → wT C c σ h fun k h1 => match k with
      | true => wSs C b { nx := fun σ' h' => I σ' h' ∧ μ σ' h' < μ σ h, ct := fun σ' h' => I σ' h' ∧ μ σ' h' < μ σ h, bk := R.nx, rt := R.rt } σ h1
      | false => R.nx σ h1) (mono : ∀ (σ : St) (h : AH) (Q Q' : Bool → AH → Prop), (∀ b h1, Q b h1 → Q' b h1) → wT C c σ h Q → wT C c σ h Q')
    (bmono : ∀ (σ : St) (h : AH) (N N' : St → AH → Prop), (∀ s h, N s h → N' s h) → wSs C b { nx := N, ct := N, bk := R.nx, rt := R.rt } σ h → wSs C b { nx := N', ct := N', bk := R.nx, rt := R.rt } σ h) : wS C (.whl c b) R σ h := by
  simp only [wS]
  refine ⟨fun m σ h => m = μ σ h ∧ I σ h, ⟨_, rfl, h0⟩, ?_⟩
  rintro m σ h ⟨rfl, i⟩
  refine mono σ h _ _ (fun k h1 q => ?_) (hs σ h i)
  cases k with
  | true => exact bmono σ h1 _ _ (fun s h' ⟨a, b⟩ => ⟨_, b, rfl, a⟩) q
  | false => exact q

/-! ### one step at a time -/
section
variable {C : Cx} {σ : St} {h h1 : AH} {Q : VQ} {R : Ends}
@[simp] theorem wE_var {i : Nat} : wE C (.var i) σ h Q = match σ[i]? with
    | some (some d) => Q d h
    | _ => False := by simp only [wE] <;> rfl
@[simp] theorem wE_int {n : Int} : wE C (.int n) σ h Q = Q (.int n) h := by simp only [wE]
@[simp] theorem wE_str {s : Sx} : wE C (.str s) σ h Q = Q (.str s) h := by simp only [wE]
@[simp] theorem wE_bl {s : Bool} : wE C (.bl s) σ h Q = Q (.bl s) h := by simp only [wE]
@[simp] theorem wE_non : wE C .non σ h Q = Q .non h := by simp only [wE]
@[simp] theorem wE_tup {es : Es} : wE C (.tup es) σ h Q = wEs C es σ h fun ds h1 => ds.length ≤ LINE ∧ Q (.tup ds) h1 := by simp only [wE]
@[simp] theorem wE_lst {es : Es} : wE C (.lst es) σ h Q = wEs C es σ h fun ds h1 => ds.length ≤ LINE ∧ ∀ r, h1 r = none → Q (.ref r) (up h1 r (.lst ds)) := by simp only [wE]
@[simp] theorem wE_dsp {k : Nat} {e : E} {es : Es} : wE C (.dct k (.cons e es)) σ h Q = ∀ r, h r = none → wE C e σ (up h r (.dct k [])) fun d h1 => wEs C es σ h1 fun ds h2 => h2 r = some (.dct k []) ∧ aSome (pairUp (d :: ds)) fun kvs => keysOk k kvs = true ∧ Q (.ref r) (up h2 r (.dct k (mergeL [] kvs))) := by simp only [wE]
@[simp] theorem wE_lzip {es : Es} : wE C (.lzip es) σ h Q = wEs C es σ h fun ds h2 => arg2 ds fun x y => aTup x fun xs => aTup y fun ys => ∀ r, h2 r = none → Q (.ref r) (up h2 r (.lst (zipL xs ys))) := by simp only [wE]
@[simp] theorem wE_lrng {es : Es} : wE C (.lrng es) σ h Q = wEs C es σ h fun ds h1 => aRng ds fun lo hi => ∀ r, h1 r = none → Q (.ref r) (up h1 r (.lst (rangeL lo hi))) := by simp only [wE]
@[simp] theorem wE_rev {a : E} : wE C (.rev a) σ h Q = wE C a σ h fun x h1 => aLst x h1 fun _ xs => ∀ r, h1 r = none → Q (.ref r) (up h1 r (.lst xs.reverse)) := by simp only [wE]
@[simp] theorem wE_dct {k : Nat} : wE C (.dct k .nil) σ h Q = ∀ r, h r = none → Q (.ref r) (up h r (.dct k [])) := by simp only [wE]
@[simp] theorem wE_bin {o : Bop} {a b : E} : wE C (.bin o a b) σ h Q = wE C a σ h fun x h1 => wE C b σ h1 fun y h2 => opBin o x y h2 Q := by simp only [wE]
@[simp] theorem wE_neg {a : E} : wE C (.neg a) σ h Q = wE C a σ h fun x h1 => match x with
    | .int i => Q (.int (-i)) h1
    | _ => False := by simp only [wE] <;> rfl
@[simp] theorem wE_cmp {o : Cop} {a b : E} : wE C (.cmp o a b) σ h Q = wE C a σ h fun x h1 => wE C b σ h1 fun y h2 => opCmp o x y h2 fun c => Q (.bl c) h2 := by simp only [wE]
@[simp] theorem wE_chn {o o' : Cop} {a b c : E} : wE C (.chn o o' a b c) σ h Q = wE C a σ h fun x h1 => wE C b σ h1 fun y h2 => opCmp o x y h2 fun k => match k with
    | true => wE C c σ h2 fun z h3 => opCmp o' y z h3 fun k' => Q (.bl k') h3
    | false => Q (.bl false) h2 := by simp only [wE] <;> rfl
@[simp] theorem wE_bop {k : Bool} {es : Es} : wE C (.bop k es) σ h Q = wB C k es σ h Q := by simp only [wE]
@[simp] theorem wE_not {a : E} : wE C (.not a) σ h Q = wE C a σ h fun x h1 => match x with
    | .bl b => Q (.bl (!b)) h1
    | _ => False := by simp only [wE] <;> rfl
@[simp] theorem wE_ite {c a b : E} : wE C (.ite c a b) σ h Q = wE C c σ h fun x h1 => match x with
    | .bl true => wE C a σ h1 Q
    | .bl false => wE C b σ h1 Q
    | _ => False := by simp only [wE] <;> rfl
@[simp] theorem wE_ix {a i : E} : wE C (.ix a i) σ h Q = wE C a σ h fun x h1 => wE C i σ h1 fun y h2 => opIx x y h2 Q := by simp only [wE]
@[simp] theorem wE_sl {a : E} {lo hi : Es} : wE C (.sl a lo hi) σ h Q = wE C a σ h fun x h1 => wO C lo σ h1 fun l h2 => wO C hi σ h2 fun u h3 => opSl x l u h3 Q := by simp only [wE]
@[simp] theorem wE_callD {f : Sx} {k : Nat} {es : Es} : wE C (.callD f k es) σ h Q = wEs C es σ h fun ds h1 => C.call f (ds ++ List.replicate k .non) h1 Q C.ex := by simp only [wE]
@[simp] theorem wE_dcn : wE C .dcn σ h Q = ∀ r, h r = none → Q (.ref r) (up h r (.dcn [])) := by simp only [wE]
@[simp] theorem wE_smv {e : E} : wE C (.smv e) σ h Q = wE C e σ h fun x h1 => aVals x h1 fun kvs => aSome (intsOf (kvs.map (·.2))) fun ns => Q (.int ns.sum) h1 := by simp only [wE]
@[simp] theorem wE_fld {e : E} {f : Sx} : wE C (.fld e f) σ h Q = wE C e σ h fun x h1 => aIns x h1 fun _ _ fs => aSome (fs.lookup f) fun v => Q v h1 := by simp only [wE]
@[simp] theorem wE_newo {c : Sx} {es : Es} : wE C (.newo c es) σ h Q = wEs C es σ h fun ds h1 => C.call (mkN c) ds h1 Q C.ex := by simp only [wE]
@[simp] theorem wE_mcall {c m : Sx} {o : E} {es : Es} : wE C (.mcall c m o es) σ h Q = wE C o σ h fun x h1 => aIns x h1 fun p c' fs => c' = c ∧ fs.lookup m = none ∧ wEs C es σ h1 fun ds h2 => C.call (metN c m) (.ref p :: ds) h2 Q C.ex := by simp only [wE]
@[simp] theorem wE_call {f : Sx} {es : Es} : wE C (.call f es) σ h Q = wEs C es σ h fun ds h1 => C.call f ds h1 Q C.ex := by simp only [wE]
@[simp] theorem wE_blt {b : Blt} {es : Es} : wE C (.blt b es) σ h Q = wEs C es σ h fun ds h1 => opBlt b ds h1 Q := by simp only [wE]
@[simp] theorem wE_isi {a : E} {t : Ty} : wE C (.isi a t) σ h Q = wE C a σ h fun x h1 => match opIsi x t h1 with
    | some b => Q (.bl b) h1
    | none => False := by simp only [wE] <;> rfl
@[simp] theorem wE_mth {m : Mth} {o : E} {es : Es} : wE C (.mth m o es) σ h Q = wE C o σ h fun x h1 => recvOk m x h1 ∧ wEs C es σ h1 fun ds h2 => opMth m x ds h2 Q := by simp only [wE]
@[simp] theorem wE_lc {elt : E} {t : Tgt} {own : List Nat} {k : Itk} {src ifs : Es} : wE C (.lc elt t own k src ifs) σ h Q = wEs C src σ h fun ds h1 => walk k ds h1 fun xs ok =>
      compW xs ok (fun x h2 yes no => match setT t x (forget σ own) with
        | some σ' => wB C true ifs σ' h2 fun c h3 => match c with
          | .bl true => wE C elt σ' h3 yes
          | .bl false => no h3
          | _ => False
        | none => False) (fun acc h2 => ∀ r, h2 r = none → Q (.ref r) (up h2 r (.lst acc))) h1 := by simp only [wE] <;> rfl
@[simp] theorem wE_slw {a : E} {lo hi : Es} : wE C (.slw a lo hi) σ h Q = wE C a σ h fun x h1 => wO C lo σ h1 fun l h2 => wO C hi σ h2 fun u h3 => opSlW x l u h3 Q := by simp only [wE]
@[simp] theorem wE_tlr {a : E} : wE C (.tlr a) σ h Q = wE C a σ h fun x h1 => aTup x fun xs => Q (.tup xs.tail.reverse) h1 := by simp only [wE]
@[simp] theorem wE_gtp {x : Sx} {ss : List Sx} : wE C (.gtp x ss) σ h Q = Q (.tup (ss.map .str)) h := by simp only [wE]
@[simp] theorem wE_gint {x : Sx} {n : Int} : wE C (.gint x n) σ h Q = Q (.int n) h := by simp only [wE]
@[simp] theorem wE_mnd {es : Es} : wE C (.mnd es) σ h Q = wEs C es σ h fun ds h1 => minD ds h1 Q := by simp only [wE]
@[simp] theorem wE_orv {a b : E} : wE C (.orv a b) σ h Q = wE C a σ h fun x h1 => match x with
    | .non => wE C b σ h1 Q
    | .int i => (i ≠ 0 → Q (.int i) h1) ∧ (i = 0 → wE C b σ h1 Q)
    | _ => False := by simp only [wE] <;> rfl
@[simp] theorem wE_tix {x : Sx} {tab : List (Sx × Sx)} {a : E} : wE C (.tix x tab a) σ h Q = wE C a σ h fun x h1 => match x with
    | .str s => (match tab.lookup s with
      | some t => Q (.str t) h1
      | none => False)
    | _ => False := by simp only [wE] <;> rfl
@[simp] theorem wEs_nil {Q : List D → AH → Prop} : wEs C .nil σ h Q = Q [] h := by simp only [wEs]
@[simp] theorem wEs_cons {e : E} {es : Es} {Q : List D → AH → Prop} : wEs C (.cons e es) σ h Q = wE C e σ h fun d h1 => wEs C es σ h1 fun ds h2 => Q (d :: ds) h2 := by simp only [wEs]
@[simp] theorem wB_nil {k : Bool} : wB C k .nil σ h Q = Q (.bl k) h := by simp only [wB]
@[simp] theorem wB_and {e : E} {es : Es} : wB C true (.cons e es) σ h Q = wE C e σ h fun d h1 => match d with
    | .bl true => wB C true es σ h1 Q
    | .bl false => Q (.bl false) h1
    | _ => False := by
  simp only [wB]
  congr
  funext d h1
  cases d with
  | bl b => cases b <;> rfl
  | _ => rfl
@[simp] theorem wB_or {e : E} {es : Es} : wB C false (.cons e es) σ h Q = wE C e σ h fun d h1 => match d with
    | .bl false => wB C false es σ h1 Q
    | .bl true => Q (.bl true) h1
    | _ => False := by
  simp only [wB]
  congr
  funext d h1
  cases d with
  | bl b => cases b <;> rfl
  | _ => rfl
@[simp] theorem wO_nil {Q : Option Int → AH → Prop} : wO C .nil σ h Q = Q none h := by simp only [wO]
@[simp] theorem wO_cons {e : E} {Q : Option Int → AH → Prop} : wO C (.cons e .nil) σ h Q = wE C e σ h fun d h1 => match d with
    | .int n => Q (some n) h1
    | _ => False := by simp only [wO] <;> rfl
@[simp] theorem wT_eq {e : E} {Q : Bool → AH → Prop} : wT C e σ h Q = wE C e σ h fun d h1 => match d with
    | .bl b => Q b h1
    | _ => False := rfl
@[simp] theorem wS_asg {t : Tgt} {e : E} : wS C (.asg t e) R σ h = wE C e σ h fun d h1 => match setT t d σ with
    | some σ' => R.nx σ' h1
    | none => False := by simp only [wS] <;> rfl
@[simp] theorem wS_asgl {ts : List Nat} {e : E} : wS C (.asgl ts e) R σ h = wE C e σ h fun d h1 => aLst d h1 fun _ xs => match setT (.tp ts) (.tup xs) σ with
    | some σ' => R.nx σ' h1
    | none => False := by simp only [wS] <;> rfl
@[simp] theorem wS_sfld {c f : Sx} {o e : E} : wS C (.sfld c o f e) R σ h = wE C e σ h fun v h1 => wE C o σ h1 fun x h2 => aIns x h2 fun p c' fs => c' = c ∧ fs.length < 1000 ∧ R.nx σ (up h2 p (.ins c (putA f v fs))) := by simp only [wS]
@[simp] theorem wS_six {o i e : E} : wS C (.six o i e) R σ h = wE C e σ h fun v h1 => wE C o σ h1 fun x h2 => wE C i σ h2 fun y h3 => opSet x y v h3 fun h4 => R.nx σ h4 := by simp only [wS]
@[simp] theorem wS_aug {i : Nat} {o : Bop} {e : E} : wS C (.aug i o e) R σ h = match σ[i]? with
    | some (some x) => wE C e σ h fun y h1 => opAug o x y fun z => R.nx (σ.set i (some z)) h1
    | _ => False := by simp only [wS] <;> rfl
@[simp] theorem wS_ex {e : E} : wS C (.ex e) R σ h = wE C e σ h fun _ h1 => R.nx σ h1 := by simp only [wS]
@[simp] theorem wS_ret {e : E} : wS C (.ret e) R σ h = wE C e σ h R.rt := by simp only [wS]
@[simp] theorem wS_retN : wS C .retN R σ h = R.rt .non h := by simp only [wS]
@[simp] theorem wS_ife {c : E} {a b : Ss} : wS C (.ife c a b) R σ h = wE C c σ h fun d h1 => match d with
    | .bl true => wSs C a R σ h1
    | .bl false => wSs C b R σ h1
    | _ => False := by
  simp only [wS, wT]
  congr
  funext d h1
  cases d with
  | bl b => cases b <;> rfl
  | _ => rfl
@[simp] theorem wS_for {t : Tgt} {k : Itk} {src : Es} {b : Ss} : wS C (.for_ t k src b) R σ h = wEs C src σ h fun ds h1 => walk k ds h1 fun xs ok =>
      loopW xs ok (fun x σ h P => match setT t x σ with
        | some σ' => wSs C b { nx := P, ct := P, bk := R.nx, rt := R.rt } σ' h
        | none => False) R.nx σ h1 := by simp only [wS] <;> rfl
@[simp] theorem wS_pass : wS C .pass R σ h = R.nx σ h := by simp only [wS]
@[simp] theorem wS_brk : wS C .brk R σ h = R.bk σ h := by simp only [wS]
@[simp] theorem wS_cont : wS C .cont R σ h = R.ct σ h := by simp only [wS]
@[simp] theorem wSs_nil : wSs C .nil R σ h = R.nx σ h := by simp only [wSs]
@[simp] theorem wSs_cons {s : S} {ss : Ss} : wSs C (.cons s ss) R σ h = wS C s { R with nx := fun σ' h' => wSs C ss R σ' h' } σ h := by simp only [wSs]
@[simp] theorem setT_nm {i : Nat} {d : D} : setT (.nm i) d σ = some (σ.set i (some d)) := rfl
@[simp] theorem setT_tp {ts : List Nat} {ds : List D} : setT (.tp ts) (.tup ds) σ = setT.setTs ts ds σ := rfl
@[simp] theorem setTs_nil : setT.setTs [] [] σ = some σ := rfl
@[simp] theorem setTs_cons {i : Nat} {is : List Nat} {d : D} {ds : List D} : setT.setTs (i :: is) (d :: ds) σ = setT.setTs is ds (σ.set i (some d)) := rfl
@[simp] theorem forget_nil : forget σ [] = σ := rfl
@[simp] theorem forget_cons {v : Nat} {vs : List Nat} : forget σ (v :: vs) = (forget σ vs).set v none := rfl
end
section
variable {h : AH} {Q : VQ} {q : Bool → Prop} {a b : Int} {s t : Sx} {xs ys : List D} {x y d : D} {p r : Nat}
@[simp] theorem bin_add : opBin .add x y h Q = opAdd x y h Q := rfl
@[simp] theorem bin_mul : opBin .mul x y h Q = opMul x y h Q := rfl
@[simp] theorem bin_sub : opBin .sub (.int a) (.int b) h Q = Q (.int (a - b)) h := rfl
@[simp] theorem bin_mod : opBin .mod (.int a) (.int b) h Q = (0 < b ∧ Q (.int (a % b)) h) := rfl
@[simp] theorem bin_fdiv : opBin .fdiv (.int a) (.int b) h Q = (divOk b ∧ Q (.int (a / b)) h) := rfl
@[simp] theorem bin_pow : opBin .pow (.int a) (.int b) h Q = (powOk a b ∧ Q (.int (a ^ b.toNat)) h) := rfl
@[simp] theorem add_int : opAdd (.int a) (.int b) h Q = Q (.int (a + b)) h := rfl
@[simp] theorem add_str : opAdd (.str s) (.str t) h Q = (s.length + t.length ≤ LINE ∧ Q (.str (s ++ t)) h) := rfl
@[simp] theorem add_tup : opAdd (.tup xs) (.tup ys) h Q = (xs.length + ys.length ≤ LINE ∧ Q (.tup (xs ++ ys)) h) := rfl
@[simp] theorem add_ref : opAdd (.ref p) (.ref r) h Q = ∃ xs ys, h p = some (.lst xs) ∧ h r = some (.lst ys) ∧ xs.length + ys.length ≤ LINE ∧ ∀ r, h r = none → Q (.ref r) (up h r (.lst (xs ++ ys))) := rfl
@[simp] theorem mul_int : opMul (.int a) (.int b) h Q = (mulOk a b ∧ Q (.int (a * b)) h) := rfl
@[simp] theorem cmp_eq : opCmp .eq x y h q = eqOkX x y h q := rfl
@[simp] theorem cmp_ne : opCmp .ne x y h q = eqOk x y h fun c => q (!c) := rfl
@[simp] theorem cmp_lt : opCmp .lt (.int a) (.int b) h q = q (decide (a < b)) := rfl
@[simp] theorem cmp_ltS : opCmp .lt (.str s) (.str t) h q = q (decide (s < t)) := rfl
@[simp] theorem cmp_le : opCmp .le (.int a) (.int b) h q = q (decide (a ≤ b)) := rfl
@[simp] theorem cmp_gt : opCmp .gt (.int a) (.int b) h q = q (decide (b < a)) := rfl
@[simp] theorem cmp_ge : opCmp .ge (.int a) (.int b) h q = q (decide (b ≤ a)) := rfl
@[simp] theorem cmp_in : opCmp .isin x y h q = memOk x y h q := rfl
@[simp] theorem cmp_nin : opCmp .notin x y h q = memOk x y h fun c => q (!c) := rfl
@[simp] theorem cmp_is : opCmp .is_ x .non h q = q (decide (x = .non)) := rfl
@[simp] theorem cmp_isnt : opCmp .isnt x .non h q = q (!decide (x = .non)) := rfl
@[simp] theorem cmp_isB {a b : Bool} : opCmp .is_ (.bl a) (.bl b) h q = q (decide (a = b)) := rfl
@[simp] theorem cmp_isntB {a b : Bool} : opCmp .isnt (.bl a) (.bl b) h q = q (!decide (a = b)) := rfl
@[simp] theorem eq_int : eqOk (.int a) (.int b) h q = q (decide (a = b)) := by simp [eqOk, pureD, plain]
@[simp] theorem eq_str : eqOk (.str s) (.str t) h q = q (decide (s = t)) := by simp [eqOk, pureD, plain]
@[simp] theorem eq_bl {a b : Bool} : eqOk (.bl a) (.bl b) h q = q (decide (a = b)) := rfl
@[simp] theorem eqX_int : eqOkX (.int a) (.int b) h q = q (decide (a = b)) := by simp [eqOkX, EqS]
@[simp] theorem eqX_str : eqOkX (.str s) (.str t) h q = q (decide (s = t)) := by simp [eqOkX, EqS]
@[simp] theorem eqX_bl {a b : Bool} : eqOkX (.bl a) (.bl b) h q = q (decide (a = b)) := by simp [eqOkX, EqS]
@[simp] theorem eq_tup : eqOk (.tup xs) (.tup ys) h q = (pureDs xs = true ∧ pureDs ys = true ∧ (plain 190 (.tup xs) = true ∨ plain 190 (.tup ys) = true) ∧ q (decide (xs = ys))) := by simp [eqOk, pureD]
@[simp] theorem eq_ref : eqOk (.ref p) (.ref r) h q = ∃ xs ys, h p = some (.lst xs) ∧ h r = some (.lst ys) ∧ pureDs xs = true ∧ pureDs ys = true ∧ (plains 190 xs = true ∨ plains 190 ys = true) ∧ q (decide (xs = ys)) := rfl
@[simp] theorem ix_tup {i : Int} : opIx (.tup xs) (.int i) h Q = match atI xs i with
    | some d => Q d h
    | none => False := rfl
@[simp] theorem ix_rol {i : Int} : opIx (.rol xs) (.int i) h Q = match atI xs i with
    | some d => Q d h
    | none => False := rfl
@[simp] theorem ix_str {i : Int} : opIx (.str s) (.int i) h Q = (s.length ≤ LINE ∧ match atI s i with
    | some c => Q (.str [c]) h
    | none => False) := rfl
theorem ix_lst {i : Int} (e : h p = some (.lst xs)) : opIx (.ref p) (.int i) h Q = match atI xs i with
    | some d => Q d h
    | none => False := by simp only [opIx, e] <;> rfl
theorem ix_dct {k : Nat} {kvs : List (D × D)} (e : h p = some (.dct k kvs)) : opIx (.ref p) y h Q = (keyOk k y = true ∧ match kvGet kvs y with
    | some d => Q d h
    | none => False) := by simp only [opIx, e] <;> rfl
@[simp] theorem slw_tup {lo hi : Option Int} : opSlW (.tup xs) lo hi h Q = Q (.tup (cut xs lo hi)) h := rfl
@[simp] theorem sl_rol {lo hi : Option Int} : opSl (.rol xs) lo hi h Q = ∀ r, h r = none → Q (.ref r) (up h r (.lst (cut xs lo hi))) := rfl
@[simp] theorem sl_str {lo hi : Option Int} : opSl (.str s) lo hi h Q = (s.length ≤ LINE ∧ Q (.str (cut s lo hi)) h) := rfl
theorem sl_lst {lo hi : Option Int} (e : h p = some (.lst xs)) : opSl (.ref p) lo hi h Q = ∀ r, h r = none → Q (.ref r) (up h r (.lst (cut xs lo hi))) := by simp only [opSl, e]
@[simp] theorem arg1_eq {f : D → Prop} : arg1 [d] f = f d := rfl
@[simp] theorem arg2_eq {f : D → D → Prop} : arg2 [x, y] f = f x y := rfl
@[simp] theorem anInt_eq {f : Int → Prop} : anInt (.int a) f = f a := rfl
@[simp] theorem aSome_eq {α : Type} {z : α} {f : α → Prop} : aSome (some z) f = f z := rfl
theorem aLst_eq {f : Nat → List D → Prop} (e : h p = some (.lst xs)) : aLst (.ref p) h f = f p xs := by simp only [aLst, e]
theorem aDct_eq {k : Nat} {kvs : List (D × D)} {f : Nat → Nat → List (D × D) → Prop} (e : h p = some (.dct k kvs)) : aDct (.ref p) h f = f p k kvs := by simp only [aDct, e]
@[simp] theorem len_str {f : Nat → Prop} : lenOk (.str s) h f = (s.length ≤ LINE ∧ f s.length) := rfl
@[simp] theorem len_tup {f : Nat → Prop} : lenOk (.tup xs) h f = f xs.length := rfl
@[simp] theorem len_rol {f : Nat → Prop} : lenOk (.rol xs) h f = f xs.length := rfl
theorem len_lst {f : Nat → Prop} (e : h p = some (.lst xs)) : lenOk (.ref p) h f = f xs.length := by simp only [lenOk, e]
@[simp] theorem toInt_int {f : Int → Prop} : toInt (.int a) f = f a := rfl
@[simp] theorem toInt_bl {b : Bool} {f : Int → Prop} : toInt (.bl b) f = f (if b then 1 else 0) := rfl
@[simp] theorem blt_len {ds : List D} : opBlt .len ds h Q = arg1 ds fun d => lenOk d h fun n => Q (.int n) h := rfl
@[simp] theorem blt_min2 {ds : List D} : opBlt .min2 ds h Q = arg2 ds fun x y => anInt x fun a => anInt y fun b => Q (.int (if b < a then b else a)) h := rfl
@[simp] theorem blt_max2 {ds : List D} : opBlt .max2 ds h Q = arg2 ds fun x y => anInt x fun a => anInt y fun b => Q (.int (if b > a then b else a)) h := rfl
@[simp] theorem blt_int1 {ds : List D} : opBlt .int1 ds h Q = arg1 ds fun d => toInt d fun i => Q (.int i) h := rfl
@[simp] theorem blt_sum {ds : List D} : opBlt .sum ds h Q = arg1 ds fun d => aLst d h fun _ xs => aSome (intsOf xs) fun ns => Q (.int ns.sum) h := rfl
@[simp] theorem blt_all {ds : List D} : opBlt .all ds h Q = arg1 ds fun d => aLst d h fun _ xs => aSome (bls xs) fun bs => Q (.bl (bs.all id)) h := rfl
@[simp] theorem blt_any {ds : List D} : opBlt .any ds h Q = arg1 ds fun d => aLst d h fun _ xs => aSome (bls xs) fun bs => Q (.bl (bs.any id)) h := rfl
@[simp] theorem blt_klist {ds : List D} : opBlt .klist ds h Q = arg1 ds fun d => aDctR d h fun _ _ kvs => ∀ r, h r = none → Q (.ref r) (up h r (.lst (kvs.map (·.1)))) := rfl
@[simp] theorem blt_max1 {ds : List D} : opBlt .max1 ds h Q = arg1 ds fun d => aLst d h fun _ xs => aSome (intsOf xs) fun ns => ns ≠ [] ∧ ∀ m, m ∈ ns → (∀ y, y ∈ ns → y ≤ m) → Q (.int m) h := rfl
@[simp] theorem blt_sorted {ds : List D} : opBlt .sorted ds h Q = arg1 ds fun d => aDctR d h fun _ _ kvs => aSome (strsOf (kvs.map (·.1))) fun ss => ss.length < 64 ∧ ∀ ys : List Sx, ys.Perm ss → ∀ r, h r = none → Q (.ref r) (up h r (.lst (ys.map .str))) := rfl
@[simp] theorem blt_sortd {ds : List D} : opBlt .sortd ds h Q = arg1 ds fun d => sortP d h fun xs => ∀ ys : List D, ys.Perm xs → ys.Pairwise (fun a b => ltD b a = false) → ∀ r, h r = none → Q (.ref r) (up h r (.lst ys)) := rfl
theorem sortP_lst {f : List D → Prop} (e : h p = some (.lst xs)) : sortP (.ref p) h f = (sortOk xs ∧ f xs) := by simp only [sortP, e]
theorem sortP_dct {kvs : List (D × D)} {f : List D → Prop} (e : h p = some (.dct 0 kvs)) : sortP (.ref p) h f = ((∃ ss, strsOf (kvs.map (·.1)) = some ss ∧ ss.length < 64) ∧ f (kvs.map (·.1))) := by simp only [sortP, e]
theorem sortP_rdct {kvs : List (D × D)} {f : List D → Prop} (e : h p = some (.rdct 0 kvs)) : sortP (.ref p) h f = ((∃ ss, strsOf (kvs.map (·.1)) = some ss ∧ ss.length < 64) ∧ f (kvs.map (·.1))) := by simp only [sortP, e]
@[simp] theorem cmp_ltT {ys : List D} : opCmp .lt (.tup xs) (.tup ys) h q = (cmpbs xs ys = true ∧ pureDs xs = true ∧ pureDs ys = true ∧ (plains 190 xs = true ∨ plains 190 ys = true) ∧ q (ltDs xs ys)) := rfl
@[simp] theorem blt_list {ds : List D} : opBlt .list ds h Q = arg1 ds fun d => aSome (seqOf d h) fun xs => ∀ r, h r = none → Q (.ref r) (up h r (.lst xs)) := rfl
@[simp] theorem blt_tuple {ds : List D} : opBlt .tuple ds h Q = arg1 ds fun d => aSome (seqOf d h) fun xs => Q (.tup xs) h := rfl
@[simp] theorem seq_tup : seqOf (.tup xs) h = some xs := rfl
@[simp] theorem seq_rol : seqOf (.rol xs) h = some xs := rfl
theorem seq_lst (e : h p = some (.lst xs)) : seqOf (.ref p) h = some xs := by simp only [seqOf, e]
@[simp] theorem recv_lst {m : Mth} {ds : List D} : opMth .append x ds h Q = arg1 ds fun d => aLst x h fun p xs => xs.length < LINE ∧ Q .non (up h p (.lst (xs ++ [d]))) := rfl
@[simp] theorem mth_pop : opMth .pop x [] h Q = aLst x h fun p xs => aSome xs[xs.length - 1]? fun y => Q y (up h p (.lst xs.dropLast)) := by simp [opMth]
@[simp] theorem aTup_eq {f : List D → Prop} : aTup (.tup xs) f = f xs := rfl
@[simp] theorem aStr_eq {f : Sx → Prop} : aStr (.str s) f = f s := rfl
@[simp] theorem aRng1 {f : Int → Int → Prop} : aRng [.int a] f = ((-(2 ^ 62) ≤ a ∧ a ≤ LINE) ∧ f 0 a) := rfl
@[simp] theorem aRng2 {f : Int → Int → Prop} : aRng [.int a, .int b] f = (((-(2 ^ 62) ≤ a ∧ a ≤ LINE) ∧ -(2 ^ 62) ≤ b ∧ b ≤ LINE ∧ (b - a).toNat ≤ LINE) ∧ f a b) := rfl
theorem mth_popI : opMth .popAt x [.int a] h Q = aLst x h fun p xs => (0 ≤ a ∧ a < 2 ^ 62) ∧ aSome xs[a.toNat]? fun y => Q y (up h p (.lst (xs.eraseIdx a.toNat))) := rfl
@[simp] theorem mth_popAt : opMth .popAt x [.int 0] h Q = aLst x h fun p xs => aSome xs[0]? fun y => Q y (up h p (.lst xs.tail)) := by
  rw [mth_popI]
  unfold aLst
  split
  · split
    · rename_i xs _
      have : xs.eraseIdx 0 = xs.tail := by cases xs <;> rfl
      simp [this]
    · rfl
  · rfl
@[simp] theorem mth_update : opMth .update x [d] h Q = aDct x h fun p kd kvs => aDct d h fun r kd' more => p ≠ r ∧ kd = 0 ∧ kd' = 0 ∧ kvs.length + more.length ≤ LINE ∧ Q .non (up h p (.dct 0 (mergeL kvs more))) := rfl
@[simp] theorem mth_insert : opMth .insert x [.int a, d] h Q = aLst x h fun p xs => (0 ≤ a ∧ a < 2 ^ 62) ∧ xs.length < LINE ∧ Q .non (up h p (.lst (xs.take a.toNat ++ [d] ++ xs.drop a.toNat))) := rfl
@[simp] theorem mth_index : opMth .index x [.int a] h Q = aLst x h fun _ xs => aSome (intsOf xs) fun ns => a ∈ ns ∧ Q (.int (ns.idxOf a : Nat)) h := rfl
@[simp] theorem mth_dclear : opMth .dclear x [] h Q = aDct x h fun p kd kvs => kd = 0 ∧ Q .non (up h p (.dct 0 [])) := by simp [opMth]
@[simp] theorem mth_clear : opMth .clear x [] h Q = aLst x h fun p xs => Q .non (up h p (.lst [])) := by simp [opMth]
@[simp] theorem mth_sindex {t : Sx} : opMth .sindex (.str s) [.str t] h Q = ∃ c, t = [c] ∧ c ∈ s ∧ ∀ i : Nat, s[i]? = some c → Q (.int (i : Nat)) h := rfl
@[simp] theorem recv_sindex : recvOk .sindex (.str s) h := trivial
@[simp] theorem mth_join : opMth .join (.str s) [d] h Q = aSome (seqOf d h) fun xs => aSome (strsOf xs) fun ss => (ss.map (·.length)).sum + ss.length * s.length ≤ LINE ∧ Q (.str (joinS s ss)) h := rfl
@[simp] theorem recv_join : recvOk .join (.str s) h := trivial
@[simp] theorem blt_dict1 {ds : List D} : opBlt .dict1 ds h Q = arg1 ds fun d => aDctR d h fun _ k kvs => ∀ r, h r = none → Q (.ref r) (up h r (.dct k kvs)) := rfl
@[simp] theorem mth_append : opMth .append x [d] h Q = aLst x h fun p xs => xs.length < LINE ∧ Q .non (up h p (.lst (xs ++ [d]))) := rfl
@[simp] theorem mth_extend : opMth .extend x [d] h Q = aLst x h fun p xs => aLst d h fun q ys => xs.length + ys.length ≤ LINE ∧ Q .non (up h p (.lst (xs ++ ys))) := rfl
@[simp] theorem mth_extendT : opMth .extendT x [d] h Q = aLst x h fun p xs => aTup d fun ys => xs.length + ys.length ≤ LINE ∧ Q .non (up h p (.lst (xs ++ ys))) := rfl
@[simp] theorem mth_reverse : opMth .reverse x [] h Q = aLst x h fun p xs => Q .non (up h p (.lst xs.reverse)) := by simp [opMth]
@[simp] theorem mth_get1 : opMth .get1 x [y] h Q = aDct x h fun p kd kvs => keyOk kd y = true ∧ Q ((kvGet kvs y).getD .non) h := rfl
@[simp] theorem mth_get2 : opMth .get2 x [y, d] h Q = aDct x h fun p kd kvs => keyOk kd y = true ∧ Q ((kvGet kvs y).getD d) h := rfl
def lstM : Mth → Bool
  | .append => true
  | .pop => true
  | .popAt => true
  | .extend => true
  | .extendT => true
  | .insert => true
  | .index => true
  | .reverse => true
  | .clear => true
  | _ => false
def dctM : Mth → Bool
  | .get1 => true
  | .get2 => true
  | .update => true
  | .dclear => true
  | _ => false
theorem recv_lstM {m : Mth} (hm : lstM m = true) (e : h p = some (.lst xs)) : recvOk m (.ref p) h := by
  cases m <;> first | exact absurd hm (by decide) | (simp only [recvOk, aLst, e])
theorem recv_ok {m : Mth} (hm : m ≠ .get1) (hm2 : m ≠ .get2) (e : h p = some (.lst xs)) (hm3 : lstM m = true := by rfl) : recvOk m (.ref p) h := recv_lstM hm3 e
theorem recv_dct {m : Mth} {k : Nat} {kvs : List (D × D)} (hm : dctM m = true) (e : h p = some (.dct k kvs)) : recvOk m (.ref p) h := by
  cases m <;> first | exact absurd hm (by decide) | (simp only [recvOk, aDct, e])
theorem set_lst {i : Int} {q : AH → Prop} (e : h p = some (.lst xs)) : opSet (.ref p) (.int i) d h q = ((0 ≤ i ∧ i < xs.length) ∧ q (up h p (.lst (xs.set i.toNat d)))) := by simp only [opSet, e, anInt]
theorem set_dct {k : Nat} {kvs : List (D × D)} {q : AH → Prop} (e : h p = some (.dct k kvs)) : opSet (.ref p) y d h q = (keyOk k y = true ∧ kvs.length < LINE ∧ q (up h p (.dct k (kvPut kvs y d)))) := by simp only [opSet, e]
@[simp] theorem walk_tup {q : List D → (AH → Prop) → Prop} : walk .seq [.tup xs] h q = q xs fun _ => True := rfl
@[simp] theorem walk_rol {q : List D → (AH → Prop) → Prop} : walk .seq [.rol xs] h q = q xs fun _ => True := rfl
@[simp] theorem walk_str {q : List D → (AH → Prop) → Prop} : walk .seq [.str s] h q = q (s.map fun c => .str [c]) fun _ => True := rfl
theorem walk_lst {q : List D → (AH → Prop) → Prop} (e : h p = some (.lst xs)) : walk .seq [.ref p] h q = q xs fun h' => h' p = some (.lst xs) := by simp only [walk, e]
@[simp] theorem walk_rng {q : List D → (AH → Prop) → Prop} : walk .rng [.int a] h q = (-(2 ^ 62) ≤ a ∧ a < 2 ^ 62 ∧ q (rangeL 0 a) fun _ => True) := rfl
@[simp] theorem walk_rrng {q : List D → (AH → Prop) → Prop} : walk .rrng [.int a] h q = (-(2 ^ 62) ≤ a ∧ a < 2 ^ 62 ∧ q (rangeL 0 a).reverse fun _ => True) := rfl
@[simp] theorem walk_rng3 {q : List D → (AH → Prop) → Prop} : walk .rng [.int a, .int b, .int (-1)] h q = ((-(2 ^ 62) ≤ a ∧ a < 2 ^ 62 ∧ -(2 ^ 62) ≤ b ∧ b < 2 ^ 62) ∧ q (rangeL (b + 1) (a + 1)).reverse fun _ => True) := by
  show (((-1 : Int) = -1 ∧ -(2 ^ 62) ≤ a ∧ a < 2 ^ 62 ∧ -(2 ^ 62) ≤ b ∧ b < 2 ^ 62) ∧ q (rangeL (b + 1) (a + 1)).reverse fun _ => True) = _
  simp only [true_and]
@[simp] theorem walk_rng2 {q : List D → (AH → Prop) → Prop} : walk .rng [.int a, .int b] h q = ((-(2 ^ 62) ≤ a ∧ a < 2 ^ 62 ∧ -(2 ^ 62) ≤ b ∧ b < 2 ^ 62) ∧ q (rangeL a b) fun _ => True) := rfl
theorem walk_enum {q : List D → (AH → Prop) → Prop} (e : h p = some (.lst xs)) : walk .enum [.ref p] h q = q (enumL 0 xs) fun h' => h' p = some (.lst xs) := by simp only [walk, e]
@[simp] theorem isi_int {t : Ty} : opIsi (.int a) t h = match t with | .int => some true | _ => some false := by cases t <;> rfl
@[simp] theorem isi_bl {b : Bool} {t : Ty} : opIsi (.bl b) t h = match t with | .int => some true | .bool => some true | _ => some false := by cases t <;> rfl
@[simp] theorem isi_tup {t : Ty} : opIsi (.tup xs) t h = match t with | .tuple => some true | _ => some false := by cases t <;> rfl
theorem isi_lst {t : Ty} (e : h p = some (.lst xs)) : opIsi (.ref p) t h = some (match t with | .list => true | _ => false) := by unfold opIsi; simp only [e] <;> (cases t <;> rfl)
@[simp] theorem isi_str {t : Ty} : opIsi (.str s) t h = match t with | .str => some true | _ => some false := by cases t <;> rfl
@[simp] theorem aug_int : opAug .add (.int a) (.int b) (fun d => Q d h) = Q (.int (a + b)) h := rfl
@[simp] theorem aug_intP {q : D → Prop} : opAug .add (.int a) (.int b) q = q (.int (a + b)) := rfl
@[simp] theorem aug_subP {q : D → Prop} : opAug .sub (.int a) (.int b) q = q (.int (a - b)) := rfl
@[simp] theorem aug_strP {q : D → Prop} : opAug .add (.str s) (.str t) q = (s.length + t.length ≤ LINE ∧ q (.str (s ++ t))) := rfl
end
/-! ### dicts, pairs of places and items, plain data -/
theorem Ke.mut {p q : Nat} {h h1 h2 : AH} (x : Ke p h h1) (n : h q = none) (y : Ke q h1 h2) : Ke p h h2 := fun a u e z => y a u (fun w => by subst w; rw [n] at z; cases z) (x a u e z)
theorem Ke.new {p q : Nat} {h h1 : AH} {o : Ob} (x : Ke p h h1) (n : h1 q = none) : Ke p h (up h1 q o) := x.trans (Ext.new n).ke
theorem kvGet_nil {k : D} : kvGet [] k = none := rfl
theorem kvGet_cons {k k' v : D} {kvs : List (D × D)} : kvGet ((k, v) :: kvs) k' = if k = k' then some v else kvGet kvs k' := by
  unfold kvGet
  by_cases e : k = k' <;> simp [e]
theorem kvGet_put {k v k' : D} : ∀ {kvs : List (D × D)}, kvGet (kvPut kvs k v) k' = if k = k' then some v else kvGet kvs k'
  | [] => by
    unfold kvPut
    simp [kvGet_cons, kvGet_nil]
  | (a, w) :: r => by
    have ih := kvGet_put (k := k) (v := v) (k' := k') (kvs := r)
    unfold kvPut at ih ⊢
    by_cases e : a = k
    · subst e
      simp only [List.any_cons, decide_true, Bool.true_or, if_true, List.map_cons, kvGet_cons]
      by_cases e2 : a = k'
      · simp [e2]
      · simp only [if_neg e2]
        by_cases e3 : (r.any fun kv => decide (kv.1 = a)) = true
        · rw [if_pos e3] at ih
          rw [ih, if_neg e2]
        · have : r.map (fun kv => if kv.1 = a then (kv.1, v) else kv) = r := by
            conv => rhs; rw [← List.map_id r]
            refine List.map_congr_left fun kv hkv => ?_
            rw [if_neg (fun z => e3 (List.any_eq_true.mpr ⟨kv, hkv, decide_eq_true z⟩))]
            rfl
          rw [this]
    · simp only [List.any_cons, decide_eq_false e, Bool.false_or]
      by_cases e3 : (r.any fun kv => decide (kv.1 = k)) = true
      · rw [if_pos e3] at ih
        simp only [e3, if_true, List.map_cons, if_neg e, kvGet_cons]
        by_cases e2 : a = k'
        · simp only [if_pos e2]
          rw [if_neg (fun z => e (e2.trans z.symm))]
        · simp only [if_neg e2]; exact ih
      · rw [if_neg e3] at ih
        rw [if_neg e3, List.cons_append, kvGet_cons, kvGet_cons]
        by_cases e2 : a = k'
        · rw [if_pos e2, if_pos e2, if_neg (fun z => e (e2.trans z.symm))]
        · rw [if_neg e2, if_neg e2]; exact ih
theorem kvPut_len {k v : D} {kvs : List (D × D)} : (kvPut kvs k v).length ≤ kvs.length + 1 := by
  unfold kvPut
  split <;> simp
theorem enumL_at {xs : List D} : ∀ {n i : Nat} {x : D}, (enumL n xs)[i]? = some x → ∃ y, xs[i]? = some y ∧ x = .tup [.int ((n + i : Nat) : Int), y] := by
  induction xs with
  | nil => intro n i x e; simp [enumL] at e
  | cons a r ih =>
    intro n i x e
    cases i with
    | zero => simp [enumL] at e; exact ⟨a, rfl, by simp [e]⟩
    | succ i =>
      simp only [enumL, List.getElem?_cons_succ] at e ⊢
      obtain ⟨y, e1, e2⟩ := ih e
      exact ⟨y, e1, by rw [e2]; congr 3; omega⟩
theorem enumL_len {xs : List D} : ∀ {n : Nat}, (enumL n xs).length = xs.length := by
  induction xs with
  | nil => intro n; rfl
  | cons a r ih => intro n; simp only [enumL, List.length_cons, ih]
theorem map_at {α : Type} {f : α → D} {xs : List α} {i : Nat} {x : D} (e : (xs.map f)[i]? = some x) : ∃ y, xs[i]? = some y ∧ x = f y := by
  rw [List.getElem?_map] at e
  cases e2 : xs[i]? with
  | none => rw [e2] at e; cases e
  | some z => rw [e2] at e; exact ⟨z, rfl, (Option.some.inj e).symm⟩
theorem eq_pure {a b : D} {h : AH} {Q : Bool → Prop} (pa : pureD a = true) (pb : pureD b = true) (l : plain 190 a = true ∨ plain 190 b = true) (k : Q (decide (a = b))) : eqOk a b h Q := by
  cases a with
  | bl _ => simp [pureD] at pa
  | ref _ => simp [pureD] at pa
  | rol _ => simp [pureD] at pa
  | _ => exact ⟨pa, pb, l, k⟩
theorem eq_pureX {a b : D} {h : AH} {Q : Bool → Prop} (pa : pureD a = true) (pb : pureD b = true) (l : plain 190 a = true ∨ plain 190 b = true) (k : Q (decide (a = b))) : eqOkX a b h Q := .inl (eq_pure pa pb l k)
theorem cut_none {α : Type} {xs : List α} {v : Int} (h : 0 ≤ v) : cut xs none (some v) = xs.take v.toNat := by
  have : ¬ v < 0 := by omega
  simp [cut, clip, this]
theorem letters_at {i : Int} (h0 : 0 ≤ i) (h1 : i < 26) : atI [97, 98, 99, 100, 101, 102, 103, 104, 105, 106, 107, 108, 109, 110, 111, 112, 113, 114, 115, 116, 117, 118, 119, 120, 121, 122] i = some (97 + i.toNat) := by
  have key : ∀ n : Fin 26, atI [97, 98, 99, 100, 101, 102, 103, 104, 105, 106, 107, 108, 109, 110, 111, 112, 113, 114, 115, 116, 117, 118, 119, 120, 121, 122] ((n.val : Nat) : Int) = some (97 + n.val) := by decide
  have := key ⟨i.toNat, by omega⟩
  simp only at this
  rw [show ((i.toNat : Nat) : Int) = i by omega] at this
  exact this
theorem RT_mk {Q : VQ} : ({ nx := fun _ h' => Q .non h', rt := Q, bk := fun _ _ => False, ct := fun _ _ => False } : Ends) = RT Q := rfl
theorem nodup_inj {α : Type} {xs : List α} (nd : xs.Nodup) {i j : Nat} {x : α} (a : xs[i]? = some x) (b : xs[j]? = some x) : i = j := by
  obtain ⟨l1, e1⟩ := List.getElem?_eq_some_iff.mp a
  obtain ⟨l2, e2⟩ := List.getElem?_eq_some_iff.mp b
  have key := List.pairwise_iff_getElem.mp nd
  rcases Nat.lt_trichotomy i j with h | h | h
  · exact absurd (e1.trans e2.symm) (key i j l1 l2 h)
  · exact h
  · exact absurd (e2.trans e1.symm) (key j i l2 l1 h)
/-! ### locked dicts -/
section
variable {C : Cx} {σ : St} {h : AH} {Q : VQ} {R : Ends} {p : Nat} {kd : Nat} {kvs : List (D × D)} {xs ys : List D}
theorem lock_at {i : Nat} {f : Nat → Nat → List (D × D) → Prop} (e : σ[i]? = some (some (.ref p))) (e2 : h p = some (.dct kd kvs)) : lockAt σ i h f = f p kd kvs := by unfold lockAt; rw [e]; dsimp only; rw [e2]
@[simp] theorem wE_lock {i : Nat} {e : E} : wE C (.lock i e) σ h Q = lockAt σ i h fun p kd kvs => wE C e σ (up h p (.rdct kd kvs)) fun d h' => Q d (up h' p (.dct kd kvs)) := by simp only [wE]
@[simp] theorem wS_lock {i : Nat} {s : S} : wS C (.lock i s) R σ h = lockAt σ i h fun p kd kvs => wS C s { nx := fun σ' h' => R.nx σ' (up h' p (.dct kd kvs)), rt := fun d h' => R.rt d (up h' p (.dct kd kvs)), bk := fun σ' h' => R.bk σ' (up h' p (.dct kd kvs)), ct := fun σ' h' => R.ct σ' (up h' p (.dct kd kvs)) } σ (up h p (.rdct kd kvs)) := by simp only [wS]
@[simp] theorem wS_lock2 {i : Nat} {s : S} : wS C (.lock2 i s) R σ h = ((lockAt σ i h fun p kd kvs => wS C s { nx := fun σ' h' => R.nx σ' (up h' p (.dct kd kvs)), rt := fun d h' => R.rt d (up h' p (.dct kd kvs)), bk := fun σ' h' => R.bk σ' (up h' p (.dct kd kvs)), ct := fun σ' h' => R.ct σ' (up h' p (.dct kd kvs)) } σ (up h p (.rdct kd kvs))) ∨ wS C s R σ h) := by simp only [wS]
theorem walk_keys {q : List D → (AH → Prop) → Prop} (e : h p = some (.rdct kd kvs)) : walk .keys [.ref p] h q = q (kvs.map (·.1)) fun _ => True := by simp only [walk, e]
theorem walk_values {q : List D → (AH → Prop) → Prop} (e : h p = some (.rdct kd kvs)) : walk .values [.ref p] h q = q (kvs.map (·.2)) fun _ => True := by simp only [walk, e]
theorem walk_items {q : List D → (AH → Prop) → Prop} (e : h p = some (.rdct kd kvs)) : walk .items [.ref p] h q = q (kvs.map fun kv => .tup [kv.1, kv.2]) fun _ => True := by simp only [walk, e]
theorem walk_revL {q : List D → (AH → Prop) → Prop} (e : h p = some (.lst xs)) : walk .rev [.ref p] h q = q xs.reverse fun h' => h' p = some (.lst xs) := by simp only [walk, e]
@[simp] theorem walk_revS {q : List D → (AH → Prop) → Prop} : walk .rev [.str s] h q = (s.length ≤ LINE ∧ q (s.map fun c => .str [c]).reverse fun _ => True) := rfl
@[simp] theorem walk_revT {q : List D → (AH → Prop) → Prop} : walk .rev [.tup xs] h q = q xs.reverse fun _ => True := rfl
@[simp] theorem walk_zip {q : List D → (AH → Prop) → Prop} : walk .zip [.tup xs, .tup ys] h q = q (zipL xs ys) fun _ => True := rfl
theorem ix_rdct {y : D} {Q : VQ} (e : h p = some (.rdct kd kvs)) : opIx (.ref p) y h Q = (keyOk kd y = true ∧ match kvGet kvs y with
    | some d => Q d h
    | none => False) := by simp only [opIx, e] <;> rfl
theorem len_dct {f : Nat → Prop} (e : h p = some (.dct kd kvs)) : lenOk (.ref p) h f = f kvs.length := by simp only [lenOk, e]
theorem len_rdct {f : Nat → Prop} (e : h p = some (.rdct kd kvs)) : lenOk (.ref p) h f = f kvs.length := by simp only [lenOk, e]
theorem mem_tup {x : D} {q : Bool → Prop} : memOk x (.tup xs) h q = (flat x = true ∧ xs.all flat = true ∧ q (xs.any fun y => decide (y = x))) := rfl
theorem mem_dcn {x : D} {q : Bool → Prop} {kvs : List (D × D)} (e : h p = some (.dcn kvs)) : memOk x (.ref p) h q = (nkOk x = true ∧ q (kvGet kvs x).isSome) := by simp only [memOk, e]
theorem ix_dcn {y : D} {Q : VQ} {kvs : List (D × D)} (e : h p = some (.dcn kvs)) : opIx (.ref p) y h Q = (nkOk y = true ∧ match kvGet kvs y with
    | some d => Q d h
    | none => False) := by simp only [opIx, e] <;> rfl
theorem set_dcn {y d : D} {q : AH → Prop} {kvs : List (D × D)} (e : h p = some (.dcn kvs)) : opSet (.ref p) y d h q = (nkOk y = true ∧ kvs.length < LINE ∧ q (up h p (.dcn (kvPut kvs y d)))) := by simp only [opSet, e]
theorem aIns_eq {c : Sx} {fs : List (Sx × D)} {f : Nat → Sx → List (Sx × D) → Prop} (e : h p = some (.ins c fs)) : aIns (.ref p) h f = f p c fs := by simp only [aIns, e]
theorem aVals_eq {kvs : List (D × D)} {f : List (D × D) → Prop} (e : h p = some (.dct 0 kvs)) : aVals (.ref p) h f = f kvs := by simp only [aVals, e]
theorem walk_zipL {r : Nat} {xs ys : List D} {q : List D → (AH → Prop) → Prop} (e1 : h p = some (.lst xs)) (e2 : h r = some (.lst ys)) : walk .zip [.ref p, .ref r] h q = q (zipL xs ys) fun h' => h' p = some (.lst xs) ∧ h' r = some (.lst ys) := by simp only [walk, e1, e2]
theorem mem_dct {x : D} {q : Bool → Prop} (e : h p = some (.dct kd kvs)) : memOk x (.ref p) h q = (keyOk kd x = true ∧ q (kvGet kvs x).isSome) := by simp only [memOk, e]
theorem mem_rdct {x : D} {q : Bool → Prop} (e : h p = some (.rdct kd kvs)) : memOk x (.ref p) h q = (keyOk kd x = true ∧ q (kvGet kvs x).isSome) := by simp only [memOk, e]
theorem aDctR_eq {f : Nat → Nat → List (D × D) → Prop} (e : h p = some (.dct kd kvs)) : aDctR (.ref p) h f = f p kd kvs := by simp only [aDctR, e]
theorem aDctR_req {f : Nat → Nat → List (D × D) → Prop} (e : h p = some (.rdct kd kvs)) : aDctR (.ref p) h f = f p kd kvs := by simp only [aDctR, e]
theorem up_lock {o o' : Ob} (e : h p = some o) : up (up h p o') p o = h := by
  funext b; simp only [up]; split
  · rename_i z; rw [z, e]
  · rfl
end
/-! ### loops turn by turn -/
def compU (ok : AH → Prop) (body : D → AH → (D → AH → Prop) → (AH → Prop) → Prop) (done : List D → AH → Prop) : Nat → List D → List D → AH → Prop
  | i, [], acc, h => (ok h ∧ acc.length ≤ i) ∧ done acc h
  | i, x :: xs, acc, h => (ok h ∧ acc.length ≤ i) ∧ body x h (fun y h' => compU ok body done (i + 1) xs (acc ++ [y]) h') (fun h' => compU ok body done (i + 1) xs acc h')
theorem compU_ok {ok : AH → Prop} {body : D → AH → (D → AH → Prop) → (AH → Prop) → Prop} {done : List D → AH → Prop} {i : Nat} {xs acc : List D} {h : AH} (q : compU ok body done i xs acc h) : ok h ∧ acc.length ≤ i := by
  cases xs <;> exact q.1
theorem comp_unroll {xs : List D} {ok : AH → Prop} {body : D → AH → (D → AH → Prop) → (AH → Prop) → Prop} {done : List D → AH → Prop} {h : AH} (hz : xs.length ≤ LINE) (q : compU ok body done 0 xs [] h) : compW xs ok body done h := by
  refine ⟨fun i acc h => compU ok body done i (xs.drop i) acc h, q, fun i acc h q => compU_ok q, hz, fun i x acc h e q => ?_, fun acc h q => ?_⟩
  · have hl := (List.getElem?_eq_some_iff.mp e).1
    have ex := (List.getElem?_eq_some_iff.mp e).2
    dsimp only at q
    rw [List.drop_eq_getElem_cons hl, ex] at q
    exact q.2
  · dsimp only at q
    rw [List.drop_length] at q
    exact q.2
def loopU (ok : AH → Prop) (body : D → St → AH → (St → AH → Prop) → Prop) (done : St → AH → Prop) : List D → St → AH → Prop
  | [], σ, h => ok h ∧ done σ h
  | x :: xs, σ, h => ok h ∧ body x σ h (fun σ' h' => loopU ok body done xs σ' h')
theorem loopU_ok {ok : AH → Prop} {body : D → St → AH → (St → AH → Prop) → Prop} {done : St → AH → Prop} {xs : List D} {σ : St} {h : AH} (q : loopU ok body done xs σ h) : ok h := by
  cases xs <;> exact q.1
theorem loop_unroll {xs : List D} {ok : AH → Prop} {body : D → St → AH → (St → AH → Prop) → Prop} {done : St → AH → Prop} {σ : St} {h : AH} (q : loopU ok body done xs σ h) : loopW xs ok body done σ h := by
  refine ⟨fun i σ h => loopU ok body done (xs.drop i) σ h, q, fun i σ h q => loopU_ok q, fun i x σ h e q => ?_, fun σ h q => ?_⟩
  · have hl := (List.getElem?_eq_some_iff.mp e).1
    have ex := (List.getElem?_eq_some_iff.mp e).2
    dsimp only at q
    rw [List.drop_eq_getElem_cons hl, ex] at q
    exact q.2
  · dsimp only at q
    rw [List.drop_length] at q
    exact q.2
theorem loopU_nil {ok : AH → Prop} {body : D → St → AH → (St → AH → Prop) → Prop} {done : St → AH → Prop} {σ : St} {h : AH} : loopU ok body done [] σ h = (ok h ∧ done σ h) := rfl
theorem loopU_cons {ok : AH → Prop} {body : D → St → AH → (St → AH → Prop) → Prop} {done : St → AH → Prop} {x : D} {xs : List D} {σ : St} {h : AH} : loopU ok body done (x :: xs) σ h = (ok h ∧ body x σ h fun σ' h' => loopU ok body done xs σ' h') := rfl
theorem compU_nil {ok : AH → Prop} {body : D → AH → (D → AH → Prop) → (AH → Prop) → Prop} {done : List D → AH → Prop} {i : Nat} {acc : List D} {h : AH} : compU ok body done i [] acc h = ((ok h ∧ acc.length ≤ i) ∧ done acc h) := rfl
theorem compU_cons {ok : AH → Prop} {body : D → AH → (D → AH → Prop) → (AH → Prop) → Prop} {done : List D → AH → Prop} {i : Nat} {x : D} {xs acc : List D} {h : AH} : compU ok body done i (x :: xs) acc h = ((ok h ∧ acc.length ≤ i) ∧ body x h (fun y h' => compU ok body done (i + 1) xs (acc ++ [y]) h') (fun h' => compU ok body done (i + 1) xs acc h')) := rfl
@[simp] theorem sl_tup {xs : List D} {lo hi : Option Int} {h : AH} {Q : VQ} : opSl (.tup xs) lo hi h Q = (¬ (clip xs.length 0 lo = 0 ∧ clip xs.length xs.length hi = xs.length) ∧ Q (.tup (cut xs lo hi)) h) := rfl
theorem cut_1 {x : D} {xs : List D} : cut (x :: xs) (some 1) none = xs := by simp [cut, clip]
theorem cut_h1 {x : D} {xs : List D} : cut (x :: xs) none (some 1) = [x] := by simp [cut, clip]
/-- a comprehension that makes one item of each, and no more than new objects -/
theorem compU_go {body : D → AH → (D → AH → Prop) → (AH → Prop) → Prop} {done : List D → AH → Prop} {h0 : AH} (R : D → D → Prop) (hb : ∀ d e h2 yes no, Ext h0 h2 → R d e → (∀ h', Ext h2 h' → yes e h') → body d h2 yes no) :
    ∀ (ds es : List D) (i : Nat) (acc : List D) (h : AH), All2 R ds es → acc.length ≤ i → Ext h0 h → (∀ h', Ext h0 h' → done (acc ++ es) h') → compU (fun _ => True) body done i ds acc h
  | [], [], i, acc, h, _, l, x, k => ⟨⟨trivial, l⟩, by simpa using k h x⟩
  | [], _ :: _, _, _, _, q, _, _, _ => q.elim
  | _ :: _, [], _, _, _, q, _, _, _ => q.elim
  | d :: ds, e :: es, i, acc, h, ⟨q1, q2⟩, l, x, k => ⟨⟨trivial, l⟩, hb d e h _ _ x q1 fun h' x' => compU_go R hb ds es (i + 1) (acc ++ [e]) h' q2 (by simp; omega) (x.trans x') fun h2 x2 => by simpa using k h2 x2⟩
theorem All2.len {R : D → D → Prop} : ∀ {ds es : List D}, All2 R ds es → ds.length = es.length
  | [], [], _ => rfl
  | [], _ :: _, q => q.elim
  | _ :: _, [], q => q.elim
  | _ :: _, _ :: _, ⟨_, q⟩ => by simp [All2.len q]
/-! ### dicts of distinct keys -/
theorem kvPut_new {k v : D} {kvs : List (D × D)} (h : ∀ kv, kv ∈ kvs → kv.1 ≠ k) : kvPut kvs k v = kvs ++ [(k, v)] := by
  unfold kvPut
  rw [if_neg]
  intro z
  obtain ⟨kv, hm, e⟩ := List.any_eq_true.mp z
  exact h kv hm (of_decide_eq_true e)
theorem mergeL_new : ∀ {more acc : List (D × D)}, ((acc ++ more).map (·.1)).Nodup → mergeL acc more = acc ++ more
  | [], acc, _ => by simp [mergeL]
  | (k, v) :: more, acc, nd => by
    have h1 : ∀ kv, kv ∈ acc → kv.1 ≠ k := fun kv hm e => by
      rw [List.map_append, List.nodup_append] at nd
      exact nd.2.2 kv.1 (List.mem_map_of_mem hm) k (by simp) e
    show mergeL (kvPut acc k v) more = _
    rw [kvPut_new h1, mergeL_new (by simpa using nd)]
    simp
theorem kvGet_mem {kvs : List (D × D)} (nd : (kvs.map (·.1)).Nodup) {k v : D} (hm : (k, v) ∈ kvs) : kvGet kvs k = some v := by
  induction kvs with
  | nil => cases hm
  | cons kv r ih =>
    obtain ⟨k', v'⟩ := kv
    rw [kvGet_cons]
    rw [List.map_cons, List.nodup_cons] at nd
    rcases List.mem_cons.mp hm with e | hm
    · cases e; simp
    · rw [if_neg (fun z => nd.1 (by rw [z]; exact List.mem_map.mpr ⟨(k, v), hm, rfl⟩))]
      exact ih nd.2 hm
theorem loopU_go {ok : AH → Prop} {body : D → St → AH → (St → AH → Prop) → Prop} {done : St → AH → Prop} (I : List D → St → AH → Prop) (hok : ∀ xs σ h, I xs σ h → ok h) (hs : ∀ x xs σ h, I (x :: xs) σ h → body x σ h (fun σ' h' => loopU ok body done xs σ' h')) (hd : ∀ σ h, I [] σ h → done σ h) : ∀ {xs : List D} {σ : St} {h : AH}, I xs σ h → loopU ok body done xs σ h
  | [], σ, h, q => ⟨hok _ _ _ q, hd _ _ q⟩
  | x :: xs, σ, h, q => ⟨hok _ _ _ q, hs _ _ _ _ q⟩
theorem erase_map {α β : Type} (f : α → β) : ∀ (l : List α) (i : Nat), (l.map f).eraseIdx i = (l.eraseIdx i).map f
  | [], _ => rfl
  | _ :: _, 0 => rfl
  | x :: l, i + 1 => by
    show f x :: (l.map f).eraseIdx i = f x :: (l.eraseIdx i).map f
    rw [erase_map f l i]
theorem erase_perm {α : Type} : ∀ (l : List α) (i : Nat) (h : i < l.length), (l[i] :: l.eraseIdx i).Perm l
  | [], i, h => absurd h (Nat.not_lt_zero i)
  | x :: l, 0, h => .refl _
  | x :: l, i + 1, h => by
    have ih := erase_perm l i (Nat.lt_of_succ_lt_succ h)
    exact (List.Perm.swap x (l[i]'(Nat.lt_of_succ_lt_succ h)) (l.eraseIdx i)).trans (List.Perm.cons x ih)
theorem mul_ref {p : Nat} {k : Int} {h : AH} {Q : VQ} : opMul (.ref p) (.int k) h Q = ∃ xs, h p = some (.lst xs) ∧ -(2 ^ 63) ≤ k ∧ k < 2 ^ 63 ∧ xs.length * k.toNat ≤ LINE ∧ ∀ r, h r = none → Q (.ref r) (up h r (.lst (List.replicate k.toNat xs).flatten)) := rfl
/-! ### plain data; books that are the same -/
theorem pureDs_of : ∀ {ds : List D}, (∀ d, d ∈ ds → pureD d = true) → pureDs ds = true
  | [], _ => by simp [pureDs]
  | d :: ds, a => by
    have ih := pureDs_of (ds := ds) fun x hx => a x (List.mem_cons_of_mem _ hx)
    simp [pureDs, a d (by simp), ih]
theorem plains_of {n : Nat} : ∀ {ds : List D}, (∀ d, d ∈ ds → plain n d = true) → plains n ds = true
  | [], _ => by simp [plains]
  | d :: ds, a => by
    have ih := plains_of (n := n) (ds := ds) fun x hx => a x (List.mem_cons_of_mem _ hx)
    simp [plains, a d (by simp), ih]
mutual
theorem plain_mono : ∀ {n m : Nat} {d : D}, n ≤ m → plain n d = true → plain m d = true
  | _, _, .non, _, _ => by simp [plain]
  | _, _, .int _, _, _ => by simp [plain]
  | _, _, .str _, _, _ => by simp [plain]
  | 0, _, .tup _, _, p => by simp [plain] at p
  | n + 1, 0, .tup _, l, _ => by omega
  | n + 1, m + 1, .tup ds, l, p => by simp only [plain] at p ⊢; exact plains_mono (by omega) p
  | _, _, .bl _, _, p => by simp [plain] at p
  | _, _, .ref _, _, p => by simp [plain] at p
  | _, _, .rol _, _, p => by simp [plain] at p
theorem plains_mono : ∀ {n m : Nat} {ds : List D}, n ≤ m → plains n ds = true → plains m ds = true
  | _, _, [], _, _ => by simp [plains]
  | n, m, d :: ds, l, p => by
    simp only [plains, Bool.and_eq_true] at p ⊢
    exact ⟨plain_mono l p.1, plains_mono l p.2⟩
end
def PP (n : Nat) (d : D) : Prop := pureD d = true ∧ plain n d = true
theorem PP.mono {n m : Nat} {d : D} (l : n ≤ m) (p : PP n d) : PP m d := ⟨p.1, plain_mono l p.2⟩
theorem PP.tup {n : Nat} {ds : List D} (a : ∀ d, d ∈ ds → PP n d) : PP (n + 1) (.tup ds) := ⟨by simp only [pureD]; exact pureDs_of fun d hd => (a d hd).1, by simp only [plain]; exact plains_of fun d hd => (a d hd).2⟩
theorem PP.str {n : Nat} {s : Sx} : PP n (.str s) := ⟨by simp [pureD], by simp [plain]⟩
theorem PP.int {n : Nat} {s : Int} : PP n (.int s) := ⟨by simp [pureD], by simp [plain]⟩
theorem hits_same {R : D → D → Bool → Prop} {kws : List (D × D)} : ∀ {sub : List (D × D)}, (∀ kv, kv ∈ sub → kvGet kws kv.1 = some kv.2 ∧ R kv.2 kv.2 true) → HitsD R kws sub true
  | [], _ => rfl
  | kv :: sub, a => .inr ⟨kv.2, true, true, (a kv (by simp)).1, (a kv (by simp)).2, hits_same fun x hx => a x (by simp [hx]), rfl⟩
theorem dct_same {p q : Nat} {h : AH} {kvs : List (D × D)} {n : Nat} (ne : p ≠ q) (e1 : h p = some (.dct 0 kvs)) (e2 : h q = some (.dct 0 kvs)) (nd : (kvs.map (·.1)).Nodup) (al : ∀ kv, kv ∈ kvs → PP (170 + n) kv.2) : EqD (n + 2) h (.ref p) (.ref q) true := by
  refine .inr (.inr (.inr (.inr ⟨p, q, kvs, kvs, true, rfl, rfl, ne, e1, e2, fun _ => hits_same fun kv hkv => ⟨kvGet_mem nd hkv, ?_⟩, by simp⟩)))
  exact .inl ⟨(al kv hkv).1, (al kv hkv).1, .inl (al kv hkv).2, by simp⟩
theorem cut_some {α : Type} {xs : List α} {v : Int} (h : 0 ≤ v) (g : v ≤ xs.length) : cut xs (some v) none = xs.drop v.toNat := by
  have : ¬ v < 0 := by omega
  simp [cut, clip, this]
  rw [List.take_of_length_le (by simp <;> omega)]
  congr 1
  omega
end M
namespace M
/-! ### sorted -/
theorem sorted_uniq : ∀ {ys zs : List D}, ys.Pairwise (fun a b => ltD b a = false) → zs.Pairwise (fun a b => ltD b a = false) → ys.Perm zs → ys = zs
  | [], zs, _, _, p => (List.nil_perm.mp p).symm ▸ rfl
  | y :: ys, [], _, _, p => (List.cons_ne_nil _ _ (List.perm_nil.mp p)).elim
  | y :: ys, z :: zs, h1, h2, p => by
    obtain ⟨a1, a2⟩ := List.pairwise_cons.mp h1
    obtain ⟨b1, b2⟩ := List.pairwise_cons.mp h2
    have e : y = z := Classical.byContradiction fun ne => by
      have m1 : y ∈ zs := (List.mem_cons.mp (p.mem_iff.mp List.mem_cons_self)).resolve_left ne
      have m2 : z ∈ ys := (List.mem_cons.mp (p.mem_iff.mpr List.mem_cons_self)).resolve_left (fun w => ne w.symm)
      exact ne (ltD_tot y z (b1 y m1) (a1 z m2))
    subst e
    rw [sorted_uniq a2 b2 (List.Perm.cons_inv p)]
theorem perm_of_sub {α : Type} : ∀ {xs ys : List α}, xs.Nodup → (∀ x ∈ xs, x ∈ ys) → ys.length ≤ xs.length → xs.Perm ys
  | [], ys, _, _, l => by
    cases ys with
    | nil => exact .refl _
    | cons y ys => simp at l
  | x :: xs, ys, nd, s, l => by
    rw [List.nodup_cons] at nd
    obtain ⟨as, bs, e⟩ := List.append_of_mem (s x List.mem_cons_self)
    subst e
    have ih : xs.Perm (as ++ bs) := perm_of_sub nd.2 (fun y hy => by
      have := s y (List.mem_cons_of_mem _ hy)
      rcases List.mem_append.mp this with h | h
      · exact List.mem_append_left _ h
      · rcases List.mem_cons.mp h with h | h
        · subst h; exact absurd hy nd.1
        · exact List.mem_append_right _ h) (by simp at l ⊢; omega)
    exact (List.Perm.cons x ih).trans List.perm_middle.symm
theorem mem_lst' {p : Nat} {h : AH} {x : D} {xs : List D} {q : Bool → Prop} (e : h p = some (.lst xs)) : memOk x (.ref p) h q = (pureD x = true ∧ pureDs xs = true ∧ (plain 190 x = true ∨ plains 190 xs = true) ∧ q (xs.any fun y => decide (y = x))) := by simp only [memOk, e]
end M
end
section
/-! The IR of the defs of a linked text: printed by gen.py. -/
namespace K49
open M
abbrev s__law_about : Sx := [95, 108, 97, 119, 95, 97, 98, 111, 117, 116]
abbrev s__law_deal : Sx := [95, 108, 97, 119, 95, 100, 101, 97, 108]
abbrev s__law_digit : Sx := [95, 108, 97, 119, 95, 100, 105, 103, 105, 116]
abbrev s__law_down : Sx := [95, 108, 97, 119, 95, 100, 111, 119, 110]
abbrev s__law_draw : Sx := [95, 108, 97, 119, 95, 100, 114, 97, 119]
abbrev s__law_leaves : Sx := [95, 108, 97, 119, 95, 108, 101, 97, 118, 101, 115]
abbrev s__law_mixed : Sx := [95, 108, 97, 119, 95, 109, 105, 120, 101, 100]
abbrev s__law_number : Sx := [95, 108, 97, 119, 95, 110, 117, 109, 98, 101, 114]
abbrev s__law_off : Sx := [95, 108, 97, 119, 95, 111, 102, 102]
abbrev s__law_off_right : Sx := [95, 108, 97, 119, 95, 111, 102, 102, 95, 114, 105, 103, 104, 116]
abbrev s__law_sum_kind : Sx := [95, 108, 97, 119, 95, 115, 117, 109, 95, 107, 105, 110, 100]
abbrev s__law_tree : Sx := [95, 108, 97, 119, 95, 116, 114, 101, 101]
abbrev s__law_tree_right : Sx := [95, 108, 97, 119, 95, 116, 114, 101, 101, 95, 114, 105, 103, 104, 116]
abbrev s__law_turning : Sx := [95, 108, 97, 119, 95, 116, 117, 114, 110, 105, 110, 103]
abbrev s__law_words : Sx := [95, 108, 97, 119, 95, 119, 111, 114, 100, 115]
abbrev s_a : Sx := [97]
abbrev s_abcdefghijklmnopqrstuvwxyz : Sx := [97, 98, 99, 100, 101, 102, 103, 104, 105, 106, 107, 108, 109, 110, 111, 112, 113, 114, 115, 116, 117, 118, 119, 120, 121, 122]
abbrev s_b : Sx := [98]
abbrev s_back : Sx := [98, 97, 99, 107]
abbrev s_beside : Sx := [98, 101, 115, 105, 100, 101]
abbrev s_by_cases : Sx := [98, 121, 95, 99, 97, 115, 101, 115]
abbrev s_by_off : Sx := [98, 121, 95, 111, 102, 102]
abbrev s_by_two : Sx := [98, 121, 95, 116, 119, 111]
abbrev s_c : Sx := [99]
abbrev s_call : Sx := [99, 97, 108, 108]
abbrev s_cases : Sx := [99, 97, 115, 101, 115]
abbrev s_changed_about : Sx := [99, 104, 97, 110, 103, 101, 100, 95, 97, 98, 111, 117, 116]
abbrev s_copied : Sx := [99, 111, 112, 105, 101, 100]
abbrev s_d : Sx := [100]
abbrev s_emp : Sx := []
abbrev s_forth : Sx := [102, 111, 114, 116, 104]
abbrev s_heads_up : Sx := [104, 101, 97, 100, 115, 95, 117, 112]
abbrev s_is_even : Sx := [105, 115, 95, 101, 118, 101, 110]
abbrev s_l : Sx := [108]
abbrev s_laid_out : Sx := [108, 97, 105, 100, 95, 111, 117, 116]
abbrev s_law : Sx := [108, 97, 119]
abbrev s_led : Sx := [108, 101, 100]
abbrev s_led_back : Sx := [108, 101, 100, 95, 98, 97, 99, 107]
abbrev s_left : Sx := [108, 101, 102, 116]
abbrev s_left_of : Sx := [108, 101, 102, 116, 95, 111, 102]
abbrev s_n : Sx := [110]
abbrev s_name : Sx := [110, 97, 109, 101]
abbrev s_next_round : Sx := [110, 101, 120, 116, 95, 114, 111, 117, 110, 100]
abbrev s_node : Sx := [110, 111, 100, 101]
abbrev s_number : Sx := [110, 117, 109, 98, 101, 114]
abbrev s_off : Sx := [111, 102, 102]
abbrev s_one : Sx := [111, 110, 101]
abbrev s_others_home : Sx := [111, 116, 104, 101, 114, 115, 95, 104, 111, 109, 101]
abbrev s_p : Sx := [112]
abbrev s_pair : Sx := [112, 97, 105, 114]
abbrev s_parted : Sx := [112, 97, 114, 116, 101, 100]
abbrev s_placed : Sx := [112, 108, 97, 99, 101, 100]
abbrev s_put : Sx := [112, 117, 116]
abbrev s_r : Sx := [114]
abbrev s_renamed : Sx := [114, 101, 110, 97, 109, 101, 100]
abbrev s_rounds_of : Sx := [114, 111, 117, 110, 100, 115, 95, 111, 102]
abbrev s_rule : Sx := [114, 117, 108, 101]
abbrev s_same : Sx := [115, 97, 109, 101]
abbrev s_seed : Sx := [115, 101, 101, 100]
abbrev s_sent_by : Sx := [115, 101, 110, 116, 95, 98, 121]
abbrev s_size : Sx := [115, 105, 122, 101]
abbrev s_string : Sx := [115, 116, 114, 105, 110, 103]
abbrev s_sum : Sx := [115, 117, 109]
abbrev s_taken : Sx := [116, 97, 107, 101, 110]
abbrev s_then : Sx := [116, 104, 101, 110]
abbrev s_turned : Sx := [116, 117, 114, 110, 101, 100]
abbrev s_ways_in : Sx := [119, 97, 121, 115, 95, 105, 110]
abbrev s_within : Sx := [119, 105, 116, 104, 105, 110]
abbrev s_x : Sx := [120]
abbrev s_y : Sx := [121]
def b9_taken : Ss := .cons (.ret (.var 2)) .nil
def b8_taken : Ss := .cons (.ex (.mth .extend (.var 3) (.cons (.lzip (.cons (.sl (.var 4) (.cons (.int 1) .nil) .nil) (.cons (.sl (.var 5) (.cons (.int 1) .nil) .nil) .nil))) .nil))) .nil
def b7_taken : Ss := .cons (.ret (.non)) .nil
def b6_taken : Ss := .cons (.ife (.bop false (.cons (.cmp .eq (.var 5) (.tup .nil)) (.cons (.cmp .ne (.ix (.var 5) (.int 0)) (.ix (.var 4) (.int 0))) .nil))) b7_taken b8_taken) .nil
def b5_taken : Ss := .cons (.ret (.non)) .nil
def b4_taken : Ss := .cons (.ife (.cmp .ne (.var 5) (.tup .nil)) b5_taken .nil) .nil
def b3_taken : Ss := .cons (.ife (.cmp .eq (.ix (.var 4) (.int 0)) (.str s_one)) b4_taken b6_taken) .nil
def b2_taken : Ss := .cons (.six (.var 2) (.ix (.var 4) (.int 1)) (.var 5)) .nil
def b1_taken : Ss := .cons (.asg (.tp [4, 5]) (.mth .pop (.var 3) .nil)) (.cons (.ife (.cmp .eq (.ix (.var 4) (.int 0)) (.str s_x)) b2_taken b3_taken) .nil)
def b0_taken : Ss := .cons (.asg (.nm 2) (.dct 0 .nil)) (.cons (.asg (.nm 3) (.lst (.cons (.tup (.cons (.var 0) (.cons (.var 1) .nil))) .nil))) (.cons (.whl (.cmp .gt (.blt .len (.cons (.var 3) .nil)) (.int 0)) b1_taken) b9_taken))
def fd_taken : FD := ⟨2, 6, b0_taken⟩  -- 0:pattern 1:thing 2:found 3:todo 4:one 5:part
def b4_put : Ss := .cons (.ret (.bin .add (.sl (.var 0) .nil (.cons (.int 1) .nil)) (.blt .tuple (.cons (.lc (.call s_put (.cons (.var 2) (.cons (.var 1) .nil))) (.nm 2) [2] .seq (.cons (.sl (.var 0) (.cons (.int 1) .nil) .nil) .nil) .nil) .nil)))) .nil
def b3_put : Ss := .cons (.ret (.tup .nil)) .nil
def b2_put : Ss := .cons (.ife (.cmp .eq (.ix (.var 0) (.int 0)) (.str s_one)) b3_put .nil) b4_put
def b1_put : Ss := .cons (.ret (.ix (.var 1) (.ix (.var 0) (.int 1)))) .nil
def b0_put : Ss := .cons (.ife (.cmp .eq (.ix (.var 0) (.int 0)) (.str s_x)) b1_put .nil) b2_put
def fd_put : FD := ⟨2, 3, b0_put⟩  -- 0:pattern 1:parts 2:inner
def b2_left_of : Ss := .cons (.ret (.bin .add (.tup (.cons (.ix (.var 0) (.int 0)) .nil)) (.blt .tuple (.cons (.lc (.call s_left_of (.cons (.var 1) .nil)) (.nm 1) [1] .seq (.cons (.sl (.var 0) (.cons (.int 1) .nil) .nil) .nil) .nil) .nil)))) .nil
def b1_left_of : Ss := .cons (.ret (.tup (.cons (.str s_x) (.cons (.ix (.var 0) (.int 1)) .nil)))) .nil
def b0_left_of : Ss := .cons (.ife (.cmp .eq (.ix (.var 0) (.int 0)) (.str s_x)) b1_left_of .nil) b2_left_of
def fd_left_of : FD := ⟨1, 2, b0_left_of⟩  -- 0:pattern 1:part
def b4_ways_in : Ss := .cons (.ret (.var 1)) .nil
def b3_ways_in : Ss := .cons (.ex (.mth .update (.var 1) (.cons (.call s_ways_in (.cons (.var 2) .nil)) .nil))) .nil
def b2_ways_in : Ss := .cons (.asg (.nm 1) (.dct 0 .nil)) (.cons (.for_ (.nm 2) .seq (.cons (.sl (.var 0) (.cons (.int 1) .nil) .nil) .nil) b3_ways_in) b4_ways_in)
def b1_ways_in : Ss := .cons (.ret (.dct 0 (.cons (.ix (.var 0) (.int 1)) (.cons (.ix (.var 0) (.int 2)) .nil)))) .nil
def b0_ways_in : Ss := .cons (.ife (.cmp .eq (.ix (.var 0) (.int 0)) (.str s_x)) b1_ways_in .nil) b2_ways_in
def fd_ways_in : FD := ⟨1, 3, b0_ways_in⟩  -- 0:pattern 1:found 2:part
def b9_by_cases : Ss := .cons (.ret (.var 2)) .nil
def b8_by_cases : Ss := .cons (.ret (.call s_put (.cons (.var 6) (.cons (.var 9) .nil)))) .nil
def b7_by_cases : Ss := .cons (.ret (.call s_put (.cons (.var 4) (.cons (.var 9) .nil)))) .nil
def b6_by_cases : Ss := .cons (.ife (.var 3) b7_by_cases .nil) b8_by_cases
def b5_by_cases : Ss := .cons (.six (.var 9) (.var 10) (.call s_sent_by (.cons (.var 0) (.cons (.ix (.var 8) (.var 10)) (.cons (.ix (.var 7) (.var 10)) (.cons (.var 3) .nil)))))) .nil
def b4_by_cases : Ss := .cons (.asg (.nm 8) (.call s_ways_in (.cons (.var 5) .nil))) (.cons (.asg (.nm 9) (.dct 0 .nil)) (.cons (.lock 7 (.for_ (.nm 10) .keys (.cons (.var 7) .nil) b5_by_cases)) b6_by_cases))
def b3_by_cases : Ss := .cons (.ife (.cmp .isnt (.var 7) (.non)) b4_by_cases .nil) .nil
def b2_by_cases : Ss := .cons (.asg (.nm 7) (.call s_taken (.cons (.var 6) (.cons (.var 2) .nil)))) .nil
def b1_by_cases : Ss := .cons (.asg (.nm 6) (.call s_left_of (.cons (.var 5) .nil))) (.cons (.asg (.nm 7) (.call s_taken (.cons (.var 4) (.cons (.var 2) .nil)))) (.cons (.ife (.var 3) b2_by_cases .nil) b3_by_cases))
def b0_by_cases : Ss := .cons (.for_ (.tp [4, 5]) .seq (.cons (.var 1) .nil) b1_by_cases) b9_by_cases
def fd_by_cases : FD := ⟨4, 11, b0_by_cases⟩  -- 0:book 1:rows 2:thing 3:turned 4:one 5:other 6:plain 7:parts 8:ways 9:made 10:name
def b2_by_off : Ss := .cons (.ret (.ix (.var 4) (.int 1))) .nil
def b1_by_off : Ss := .cons (.asg (.nm 5) (.call s_sent_by (.cons (.var 0) (.cons (.ix (.var 1) (.int 4)) (.cons (.ix (.var 4) (.int 1)) (.cons (.not (.var 3)) .nil)))))) (.cons (.asg (.nm 4) (.call s_sent_by (.cons (.var 0) (.cons (.ix (.var 1) (.int 3)) (.cons (.tup (.cons (.str s_r) (.cons (.var 5) .nil))) (.cons (.var 3) .nil)))))) .nil)
def b0_by_off : Ss := .cons (.asg (.nm 4) (.call s_sent_by (.cons (.var 0) (.cons (.ix (.var 1) (.int 3)) (.cons (.tup (.cons (.str s_l) (.cons (.var 2) .nil))) (.cons (.var 3) .nil)))))) (.cons (.whl (.cmp .eq (.ix (.var 4) (.int 0)) (.str s_r)) b1_by_off) b2_by_off)
def fd_by_off : FD := ⟨4, 6, b0_by_off⟩  -- 0:book 1:way 2:thing 3:turned 4:here 5:again
def b8_by_two : Ss := .cons (.ret (.tup (.cons (.str s_r) (.cons (.call s_sent_by (.cons (.var 0) (.cons (.ix (.var 1) (.int 2)) (.cons (.ix (.var 2) (.int 1)) (.cons (.var 3) .nil))))) .nil)))) .nil
def b7_by_two : Ss := .cons (.ret (.tup (.cons (.str s_l) (.cons (.call s_sent_by (.cons (.var 0) (.cons (.ix (.var 1) (.int 1)) (.cons (.ix (.var 2) (.int 1)) (.cons (.var 3) .nil))))) .nil)))) .nil
def b6_by_two : Ss := .cons (.ife (.cmp .eq (.ix (.var 2) (.int 0)) (.str s_l)) b7_by_two .nil) b8_by_two
def b5_by_two : Ss := .cons (.ret (.tup (.cons (.str s_p) (.cons (.call s_sent_by (.cons (.var 0) (.cons (.ix (.var 1) (.int 1)) (.cons (.ix (.var 2) (.int 1)) (.cons (.var 3) .nil))))) (.cons (.call s_sent_by (.cons (.var 0) (.cons (.ix (.var 1) (.int 2)) (.cons (.ix (.var 2) (.int 2)) (.cons (.var 3) .nil))))) .nil))))) .nil
def b4_by_two : Ss := .cons (.ife (.cmp .eq (.var 4) (.str s_beside)) b5_by_two .nil) b6_by_two
def b3_by_two : Ss := .cons (.ret (.call s_sent_by (.cons (.var 0) (.cons (.ix (.var 1) (.int 3)) (.cons (.call s_sent_by (.cons (.var 0) (.cons (.ix (.var 1) (.int 1)) (.cons (.var 2) (.cons (.bl false) .nil))))) (.cons (.bl false) .nil)))))) .nil
def b2_by_two : Ss := .cons (.ret (.call s_sent_by (.cons (.var 0) (.cons (.ix (.var 1) (.int 1)) (.cons (.call s_sent_by (.cons (.var 0) (.cons (.ix (.var 1) (.int 3)) (.cons (.var 2) (.cons (.bl true) .nil))))) (.cons (.bl true) .nil)))))) .nil
def b1_by_two : Ss := .cons (.ife (.var 3) b2_by_two .nil) b3_by_two
def b0_by_two : Ss := .cons (.asg (.nm 4) (.ix (.var 1) (.int 0))) (.cons (.ife (.cmp .eq (.var 4) (.str s_then)) b1_by_two .nil) b4_by_two)
def fd_by_two : FD := ⟨4, 5, b0_by_two⟩  -- 0:book 1:way 2:thing 3:turned 4:word
def b14_sent_by : Ss := .cons (.ret (.call s_by_two (.cons (.var 0) (.cons (.var 1) (.cons (.var 2) (.cons (.var 3) .nil)))))) .nil
def b13_sent_by : Ss := .cons (.ret (.bad)) .nil
def b12_sent_by : Ss := .cons (.ife (.cmp .eq (.var 4) (.str s_parted)) b13_sent_by .nil) b14_sent_by
def b11_sent_by : Ss := .cons (.ret (.call s_by_off (.cons (.var 0) (.cons (.var 1) (.cons (.var 2) (.cons (.var 3) .nil)))))) .nil
def b10_sent_by : Ss := .cons (.ife (.cmp .eq (.var 4) (.str s_off)) b11_sent_by .nil) b12_sent_by
def b9_sent_by : Ss := .cons (.ret (.call s_by_cases (.cons (.var 0) (.cons (.ix (.var 1) (.int 1)) (.cons (.var 2) (.cons (.var 3) .nil)))))) .nil
def b8_sent_by : Ss := .cons (.ife (.cmp .eq (.var 4) (.str s_cases)) b9_sent_by .nil) b10_sent_by
def b7_sent_by : Ss := .cons (.ret (.tup (.cons (.str s_n) (.cons (.call s_sent_by (.cons (.var 0) (.cons (.ix (.var 1) (.int 1)) (.cons (.ix (.var 2) (.int 1)) (.cons (.var 3) .nil))))) .nil)))) .nil
def b6_sent_by : Ss := .cons (.ife (.cmp .eq (.var 4) (.str s_within)) b7_sent_by .nil) b8_sent_by
def b5_sent_by : Ss := .cons (.ret (.call s_sent_by (.cons (.var 0) (.cons (.ix (.var 1) (.int 1)) (.cons (.var 2) (.cons (.not (.var 3)) .nil)))))) .nil
def b4_sent_by : Ss := .cons (.ife (.cmp .eq (.var 4) (.str s_turned)) b5_sent_by .nil) b6_sent_by
def b3_sent_by : Ss := .cons (.ret (.call s_sent_by (.cons (.var 0) (.cons (.ix (.ix (.ix (.var 0) (.int 1)) (.ix (.var 1) (.int 1))) (.int 2)) (.cons (.var 2) (.cons (.var 3) .nil)))))) .nil
def b2_sent_by : Ss := .cons (.ife (.cmp .eq (.var 4) (.str s_call)) b3_sent_by .nil) b4_sent_by
def b1_sent_by : Ss := .cons (.ret (.var 2)) .nil
def b0_sent_by : Ss := .cons (.asg (.nm 4) (.ix (.var 1) (.int 0))) (.cons (.ife (.cmp .eq (.var 4) (.str s_same)) b1_sent_by .nil) b2_sent_by)
def fd_sent_by : FD := ⟨4, 5, b0_sent_by⟩  -- 0:book 1:way 2:thing 3:turned 4:word
def b0_forth : Ss := .cons (.ret (.call s_sent_by (.cons (.var 0) (.cons (.var 1) (.cons (.var 2) (.cons (.bl false) .nil)))))) .nil
def fd_forth : FD := ⟨3, 3, b0_forth⟩  -- 0:book 1:way 2:thing
def b0_back : Ss := .cons (.ret (.call s_sent_by (.cons (.var 0) (.cons (.var 1) (.cons (.var 2) (.cons (.bl true) .nil)))))) .nil
def fd_back : FD := ⟨3, 3, b0_back⟩  -- 0:book 1:way 2:thing
def b2_string : Ss := .cons (.ex (.mth .append (.var 3) (.cons (.tup (.cons (.str s_b) (.cons (.ix (.var 4) (.int 1)) .nil))) .nil))) (.cons (.ret (.var 3)) .nil)
def b1_string : Ss := .cons (.ex (.mth .append (.var 3) (.cons (.tup (.cons (.str s_d) (.cons (.ix (.var 4) (.int 1)) .nil))) .nil))) (.cons (.asg (.nm 5) (.call s_back (.cons (.var 0) (.cons (.ix (.var 1) (.int 4)) (.cons (.ix (.var 4) (.int 1)) .nil))))) (.cons (.ex (.mth .append (.var 3) (.cons (.tup (.cons (.str s_c) (.cons (.var 5) .nil))) .nil))) (.cons (.asg (.nm 4) (.call s_forth (.cons (.var 0) (.cons (.ix (.var 1) (.int 3)) (.cons (.tup (.cons (.str s_r) (.cons (.var 5) .nil))) .nil))))) .nil)))
def b0_string : Ss := .cons (.asg (.nm 3) (.lst (.cons (.tup (.cons (.str s_a) (.cons (.var 2) .nil))) .nil))) (.cons (.asg (.nm 4) (.call s_forth (.cons (.var 0) (.cons (.ix (.var 1) (.int 3)) (.cons (.tup (.cons (.str s_l) (.cons (.var 2) .nil))) .nil))))) (.cons (.whl (.cmp .eq (.ix (.var 4) (.int 0)) (.str s_r)) b1_string) b2_string))
def fd_string : FD := ⟨3, 6, b0_string⟩  -- 0:book 1:off 2:thing 3:beads 4:here 5:again
def b5_size : Ss := .cons (.ret (.var 1)) .nil
def b4_size : Ss := .cons (.ex (.mth .extendT (.var 2) (.cons (.sl (.var 3) (.cons (.int 1) .nil) .nil) .nil))) .nil
def b3_size : Ss := .cons (.ife (.bop true (.cons (.cmp .ne (.var 3) (.tup .nil)) (.cons (.cmp .ne (.ix (.var 3) (.int 0)) (.str s_a)) .nil))) b4_size .nil) .nil
def b2_size : Ss := .cons (.aug 1 .add (.int 1)) .nil
def b1_size : Ss := .cons (.asg (.nm 3) (.mth .pop (.var 2) .nil)) (.cons (.ife (.bop true (.cons (.cmp .ne (.var 3) (.tup .nil)) (.cons (.cmp .isin (.ix (.var 3) (.int 0)) (.tup (.cons (.str s_a) (.cons (.str s_n) .nil)))) .nil))) b2_size .nil) b3_size)
def b0_size : Ss := .cons (.asg (.nm 1) (.int 0)) (.cons (.asg (.nm 2) (.lst (.cons (.var 0) .nil))) (.cons (.whl (.cmp .gt (.blt .len (.cons (.var 2) .nil)) (.int 0)) b1_size) b5_size))
def fd_size : FD := ⟨1, 4, b0_size⟩  -- 0:thing 1:many 2:todo 3:one
def b4_renamed : Ss := .cons (.ret (.bin .add (.sl (.var 0) .nil (.cons (.int 1) .nil)) (.blt .tuple (.cons (.lc (.call s_renamed (.cons (.var 2) (.cons (.var 1) .nil))) (.nm 2) [2] .seq (.cons (.sl (.var 0) (.cons (.int 1) .nil) .nil) .nil) .nil) .nil)))) .nil
def b3_renamed : Ss := .cons (.ret (.tup (.cons (.str s_a) (.cons (.mth .get2 (.var 1) (.cons (.ix (.var 0) (.int 1)) (.cons (.ix (.var 0) (.int 1)) .nil))) .nil)))) .nil
def b2_renamed : Ss := .cons (.ife (.cmp .eq (.ix (.var 0) (.int 0)) (.str s_a)) b3_renamed .nil) b4_renamed
def b1_renamed : Ss := .cons (.ret (.var 0)) .nil
def b0_renamed : Ss := .cons (.ife (.cmp .eq (.var 0) (.tup .nil)) b1_renamed .nil) b2_renamed
def fd_renamed : FD := ⟨2, 3, b0_renamed⟩  -- 0:thing 1:names 2:part
def b2_law_deal : Ss := .cons (.ret (.dct 0 (.cons (.str s_seed) (.cons (.var 3) (.cons (.str s_number) (.cons (.int 0) (.cons (.str s_left) (.cons (.rev (.lc (.var 4) (.nm 4) [4] .seq (.cons (.var 2) .nil) (.cons (.cmp .ge (.var 4) (.bin .pow (.int 10) (.int 18))) .nil))) .nil)))))))) .nil
def b1_law_deal : Ss := .cons (.asg (.nm 3) (.bin .mod (.bin .add (.bin .mul (.var 3) (.int 48271)) (.bin .mod (.var 4) (.int 2147483629))) (.int 2147483647))) .nil
def b0_law_deal : Ss := .cons (.asg (.nm 2) (.lc (.blt .max2 (.cons (.var 4) (.cons (.bin .sub (.int 0) (.var 4)) .nil))) (.nm 4) [4] .seq (.cons (.sl (.var 0) (.cons (.var 1) .nil) (.cons (.int 63) .nil)) .nil) .nil)) (.cons (.asg (.nm 3) (.bin .add (.int 7919) (.var 1))) (.cons (.for_ (.nm 4) .seq (.cons (.var 2) .nil) b1_law_deal) b2_law_deal))
def fd_law_deal : FD := ⟨2, 5, b0_law_deal⟩  -- 0:script 1:base 2:some 3:number 4:one
def b4_law_draw : Ss := .cons (.asg (.nm 3) (.bin .mod (.bin .add (.bin .mul (.ix (.var 0) (.str s_seed)) (.int 48271)) (.int 7919)) (.int 2147483647))) (.cons (.six (.var 0) (.str s_seed) (.bin .mod (.bin .add (.bin .mul (.var 3) (.int 40692)) (.int 104729)) (.int 2147483399))) (.cons (.asg (.nm 4) (.bin .mod (.bin .mul (.ix (.var 0) (.str s_seed)) (.ix (.var 0) (.str s_seed))) (.int 2147483563))) (.cons (.ret (.bin .mod (.bin .add (.bin .mul (.bin .mod (.bin .mul (.var 3) (.var 3)) (.int 2147483629)) (.int 2147483563)) (.var 4)) (.var 1))) .nil)))
def b3_law_draw : Ss := .cons (.six (.var 0) (.str s_number) (.bin .fdiv (.var 2) (.var 1))) (.cons (.ret (.bin .mod (.var 2) (.var 1))) .nil)
def b2_law_draw : Ss := .cons (.asg (.nm 2) (.ix (.var 0) (.str s_number))) (.cons (.ife (.cmp .gt (.var 2) (.int 0)) b3_law_draw .nil) b4_law_draw)
def b1_law_draw : Ss := .cons (.six (.var 0) (.str s_number) (.mth .pop (.ix (.var 0) (.str s_left)) .nil)) .nil
def b0_law_draw : Ss := .cons (.whl (.bop true (.cons (.cmp .eq (.ix (.var 0) (.str s_number)) (.int 0)) (.cons (.cmp .gt (.blt .len (.cons (.ix (.var 0) (.str s_left)) .nil)) (.int 0)) .nil))) b1_law_draw) b2_law_draw
def fd_law_draw : FD := ⟨2, 5, b0_law_draw⟩  -- 0:feed 1:many 2:number 3:one 4:other
def b4_law_words : Ss := .cons (.ret (.var 3)) .nil
def b3_law_words : Ss := .cons (.ex (.mth .append (.var 3) (.cons (.var 4) .nil))) .nil
def b2_law_words : Ss := .cons (.asg (.nm 4) (.bin .add (.ix (.var 2) (.bin .mod (.bin .add (.mth .sindex (.var 2) (.cons (.ix (.var 4) (.int 0)) .nil)) (.int 1)) (.int 26))) (.sl (.var 4) (.cons (.int 1) .nil) .nil))) .nil
def b1_law_words : Ss := .cons (.asg (.nm 4) (.mth .join (.str s_emp) (.cons (.lc (.ix (.var 2) (.call s__law_draw (.cons (.var 0) (.cons (.int 26) .nil)))) (.nm 5) [5] .rng (.cons (.bin .add (.int 1) (.call s__law_draw (.cons (.var 0) (.cons (.int 8) .nil)))) .nil) .nil) .nil))) (.cons (.whl (.cmp .isin (.var 4) (.var 3)) b2_law_words) b3_law_words)
def b0_law_words : Ss := .cons (.asg (.nm 2) (.str s_abcdefghijklmnopqrstuvwxyz)) (.cons (.asg (.nm 3) (.lst .nil)) (.cons (.whl (.cmp .lt (.blt .len (.cons (.var 3) .nil)) (.var 1)) b1_law_words) b4_law_words))
def fd_law_words : FD := ⟨2, 6, b0_law_words⟩  -- 0:feed 1:many 2:letters 3:found 4:word 5:k
def b2_law_leaves : Ss := .cons (.ret (.var 3)) .nil
def b1_law_leaves : Ss := .cons (.asg (.nm 4) (.lc (.var 5) (.nm 5) [5] .rng (.cons (.blt .len (.cons (.var 3) .nil)) .nil) (.cons (.cmp .lt (.blt .len (.cons (.ix (.var 3) (.var 5)) .nil)) (.var 2)) .nil))) (.cons (.asg (.nm 5) (.ix (.var 4) (.call s__law_draw (.cons (.var 0) (.cons (.blt .len (.cons (.var 4) .nil)) .nil))))) (.cons (.asg (.nm 3) (.bin .add (.bin .add (.sl (.var 3) .nil (.cons (.var 5) .nil)) (.lst (.cons (.bin .add (.ix (.var 3) (.var 5)) (.str s_l)) (.cons (.bin .add (.ix (.var 3) (.var 5)) (.str s_r)) .nil)))) (.sl (.var 3) (.cons (.bin .add (.var 5) (.int 1)) .nil) .nil))) .nil))
def b0_law_leaves : Ss := .cons (.asg (.nm 3) (.lst (.cons (.str s_emp) .nil))) (.cons (.whl (.cmp .lt (.blt .len (.cons (.var 3) .nil)) (.var 1)) b1_law_leaves) b2_law_leaves)
def fd_law_leaves : FD := ⟨3, 6, b0_law_leaves⟩  -- 0:feed 1:many 2:most 3:found 4:some 5:k
def b2_law_down : Ss := .cons (.ret (.var 1)) .nil
def b1_law_down : Ss := .cons (.asg (.nm 1) (.tup (.cons (.var 2) (.cons (.var 1) .nil)))) .nil
def b0_law_down : Ss := .cons (.for_ (.nm 2) .rev (.cons (.var 0) .nil) b1_law_down) b2_law_down
def fd_law_down : FD := ⟨2, 3, b0_law_down⟩  -- 0:path 1:inner 2:word
def b2_law_mixed : Ss := .cons (.ret (.var 3)) .nil
def b1_law_mixed : Ss := .cons (.ex (.mth .append (.var 3) (.cons (.mth .popAt (.var 2) (.cons (.call s__law_draw (.cons (.var 0) (.cons (.blt .len (.cons (.var 2) .nil)) .nil))) .nil)) .nil))) .nil
def b0_law_mixed : Ss := .cons (.asg (.tp [2, 3]) (.tup (.cons (.blt .list (.cons (.var 1) .nil)) (.cons (.lst .nil) .nil)))) (.cons (.whl (.cmp .gt (.blt .len (.cons (.var 2) .nil)) (.int 0)) b1_law_mixed) b2_law_mixed)
def fd_law_mixed : FD := ⟨2, 4, b0_law_mixed⟩  -- 0:feed 1:some 2:left 3:found
def b2_law_tree : Ss := .cons (.asg (.nm 2) (.bin .add (.int 1) (.call s__law_draw (.cons (.var 0) (.cons (.ix (.lst (.cons (.bin .sub (.var 1) (.int 1)) (.cons (.int 1) .nil))) (.call s__law_draw (.cons (.var 0) (.cons (.int 2) .nil)))) .nil))))) (.cons (.asg (.nm 3) (.call s__law_tree (.cons (.var 0) (.cons (.var 2) .nil)))) (.cons (.ret (.tup (.cons (.str s_r) (.cons (.tup (.cons (.str s_n) (.cons (.tup (.cons (.str s_p) (.cons (.var 3) (.cons (.call s__law_tree (.cons (.var 0) (.cons (.bin .sub (.var 1) (.var 2)) .nil))) .nil)))) .nil))) .nil)))) .nil))
def b1_law_tree : Ss := .cons (.ret (.tup (.cons (.str s_l) (.cons (.tup (.cons (.str s_a) (.cons (.call s__law_draw (.cons (.var 0) (.cons (.ix (.lst (.cons (.int 4) (.cons (.bin .add (.bin .pow (.int 10) (.int 9)) (.int 1)) .nil))) (.call s__law_draw (.cons (.var 0) (.cons (.int 2) .nil)))) .nil))) .nil))) .nil)))) .nil
def b0_law_tree : Ss := .cons (.ife (.cmp .eq (.var 1) (.int 1)) b1_law_tree .nil) b2_law_tree
def fd_law_tree : FD := ⟨2, 4, b0_law_tree⟩  -- 0:feed 1:many 2:one 3:left
def b2_law_about : Ss := .cons (.asg (.tp [1, 2]) (.sl (.ix (.ix (.var 0) (.int 1)) (.int 1)) (.cons (.int 1) .nil) .nil)) (.cons (.ret (.tup (.cons (.str s_r) (.cons (.tup (.cons (.str s_n) (.cons (.tup (.cons (.str s_p) (.cons (.call s__law_about (.cons (.var 2) .nil)) (.cons (.call s__law_about (.cons (.var 1) .nil)) .nil)))) .nil))) .nil)))) .nil)
def b1_law_about : Ss := .cons (.ret (.var 0)) .nil
def b0_law_about : Ss := .cons (.ife (.cmp .eq (.ix (.var 0) (.int 0)) (.str s_l)) b1_law_about .nil) b2_law_about
def fd_law_about : FD := ⟨1, 3, b0_law_about⟩  -- 0:tree 1:one 2:other
def b7_law_tree_right : Ss := .cons (.ret (.bl true)) .nil
def b6_law_tree_right : Ss := .cons (.ret (.bl false)) .nil
def b5_law_tree_right : Ss := .cons (.asg (.nm 13) (.dct 0 (.cons (.int 0) (.cons (.int 1) (.cons (.int 1) (.cons (.call s__law_draw (.cons (.var 0) (.cons (.bin .pow (.int 10) (.int 9)) .nil))) (.cons (.int 2) (.cons (.int 0) .nil)))))))) (.cons (.ife (.cmp .ne (.call s_forth (.cons (.var 6) (.cons (.var 7) (.cons (.call s_renamed (.cons (.var 16) (.cons (.var 13) .nil))) .nil)))) (.call s_renamed (.cons (.var 17) (.cons (.var 13) .nil)))) b6_law_tree_right .nil) .nil)
def b4_law_tree_right : Ss := .cons (.ret (.bl false)) .nil
def b3_law_tree_right : Ss := .cons (.ife (.cmp .ne (.call s_back (.cons (.var 6) (.cons (.var 7) (.cons (.var 17) .nil)))) (.var 16)) b4_law_tree_right .nil) b5_law_tree_right
def b2_law_tree_right : Ss := .cons (.ret (.bl false)) .nil
def b1_law_tree_right : Ss := .cons (.asg (.nm 11) (.ix (.lst (.cons (.int 20) (.cons (.bin .add (.int 1) (.call s__law_draw (.cons (.var 0) (.cons (.int 20) .nil)))) .nil))) (.var 8))) (.cons (.asg (.tp [14, 15]) (.tup (.cons (.call s__law_tree (.cons (.var 0) (.cons (.var 11) .nil))) (.cons (.tup (.cons (.str s_a) (.cons (.call s__law_draw (.cons (.var 0) (.cons (.int 99) .nil))) .nil))) .nil)))) (.cons (.asg (.tp [16, 17]) (.tup (.cons (.tup (.cons (.str s_p) (.cons (.var 14) (.cons (.var 15) .nil)))) (.cons (.tup (.cons (.str s_p) (.cons (.call s__law_about (.cons (.var 14) .nil)) (.cons (.var 15) .nil)))) .nil)))) (.cons (.asg (.nm 12) (.call s_forth (.cons (.var 6) (.cons (.var 7) (.cons (.var 16) .nil))))) (.cons (.ife (.bop false (.cons (.cmp .ne (.var 12) (.var 17)) (.cons (.cmp .ne (.call s_size (.cons (.var 12) .nil)) (.bin .mul (.int 2) (.var 11))) (.cons (.cmp .ne (.call s_forth (.cons (.var 6) (.cons (.var 7) (.cons (.var 17) .nil)))) (.var 16)) .nil)))) b2_law_tree_right .nil) b3_law_tree_right))))
def b0_law_tree_right : Ss := .cons (.asg (.tp [9, 10]) (.tup (.cons (.tup (.cons (.str s_rule) (.cons (.ix (.var 1) (.int 0)) .nil))) (.cons (.tup (.cons (.str s_call) (.cons (.ix (.var 1) (.int 1)) .nil))) .nil)))) (.cons (.asg (.nm 2) (.dct 0 (.cons (.ix (.var 1) (.int 0)) (.cons (.tup (.cons (.str s_sum) (.cons (.tup (.cons (.str s_name) .nil)) (.cons (.tup (.cons (.str s_node) (.cons (.tup (.cons (.str s_pair) (.cons (.var 9) (.cons (.var 9) .nil)))) .nil))) .nil)))) .nil)))) (.cons (.asg (.nm 3) (.tup (.cons (.tup (.cons (.str s_l) (.cons (.tup (.cons (.str s_x) (.cons (.str s_x) .nil))) .nil))) (.cons (.tup (.cons (.str s_l) (.cons (.tup (.cons (.str s_x) (.cons (.str s_x) (.cons (.tup (.cons (.str s_same) .nil)) .nil)))) .nil))) .nil)))) (.cons (.asg (.nm 4) (.tup (.cons (.str s_p) (.cons (.tup (.cons (.str s_x) (.cons (.str s_y) (.cons (.var 10) .nil)))) (.cons (.tup (.cons (.str s_x) (.cons (.str s_x) (.cons (.var 10) .nil)))) .nil))))) (.cons (.asg (.nm 5) (.tup (.cons (.tup (.cons (.str s_r) (.cons (.tup (.cons (.str s_n) (.cons (.tup (.cons (.str s_p) (.cons (.tup (.cons (.str s_x) (.cons (.str s_x) .nil))) (.cons (.tup (.cons (.str s_x) (.cons (.str s_y) .nil))) .nil)))) .nil))) .nil))) (.cons (.tup (.cons (.str s_r) (.cons (.tup (.cons (.str s_n) (.cons (.var 4) .nil))) .nil))) .nil)))) (.cons (.asg (.nm 6) (.tup (.cons (.var 2) (.cons (.dct 0 (.cons (.ix (.var 1) (.int 1)) (.cons (.tup (.cons (.var 9) (.cons (.var 9) (.cons (.tup (.cons (.str s_cases) (.cons (.tup (.cons (.var 3) (.cons (.var 5) .nil))) .nil))) .nil)))) .nil))) .nil)))) (.cons (.asg (.nm 7) (.tup (.cons (.str s_beside) (.cons (.var 10) (.cons (.tup (.cons (.str s_same) .nil)) .nil))))) (.cons (.for_ (.nm 8) .rng (.cons (.int 2) .nil) b1_law_tree_right) b7_law_tree_right)))))))
def fd_law_tree_right : FD := ⟨2, 18, b0_law_tree_right⟩  -- 0:feed 1:words 2:rules 3:end 4:both 5:node 6:book 7:way 8:turn 9:here 10:again 11:many 12:found 13:names 14:tree 15:name 16:thing 17:due
def b0_law_digit : Ss := .cons (.ret (.tup (.cons (.str s_p) (.cons (.var 2) (.cons (.call s__law_down (.cons (.ix (.var 0) (.var 1)) (.cons (.tup (.cons (.str s_one) .nil)) .nil))) .nil))))) .nil
def fd_law_digit : FD := ⟨3, 3, b0_law_digit⟩  -- 0:tree 1:k 2:inner
def b2_law_turning : Ss := .cons (.ret (.tup (.cons (.str s_cases) (.cons (.blt .tuple (.cons (.var 2) .nil)) .nil)))) .nil
def b1_law_turning : Ss := .cons (.ex (.mth .append (.var 2) (.cons (.tup (.cons (.call s__law_down (.cons (.ix (.var 0) (.var 3)) (.cons (.tup (.cons (.str s_one) .nil)) .nil))) (.cons (.call s__law_down (.cons (.ix (.var 0) (.ix (.var 1) (.var 3))) (.cons (.tup (.cons (.str s_one) .nil)) .nil))) .nil))) .nil))) .nil
def b0_law_turning : Ss := .cons (.asg (.nm 2) (.lst .nil)) (.cons (.for_ (.nm 3) .rng (.cons (.blt .len (.cons (.var 0) .nil)) .nil) b1_law_turning) b2_law_turning)
def fd_law_turning : FD := ⟨2, 4, b0_law_turning⟩  -- 0:tree 1:order 2:rows 3:k
def b0_law_number : Ss := .cons (.ret (.tup (.cons (.str s_p) (.cons (.call s__law_down (.cons (.ix (.ix (.var 0) (.int 0)) (.var 1)) (.cons (.tup .nil) .nil))) (.cons (.call s__law_down (.cons (.ix (.ix (.var 0) (.int 1)) (.var 2)) (.cons (.tup .nil) .nil))) .nil))))) .nil
def fd_law_number : FD := ⟨3, 3, b0_law_number⟩  -- 0:trees 1:one 2:other
def b2_law_sum_kind : Ss := .cons (.asg (.nm 1) (.blt .len (.cons (.lc (.var 3) (.nm 3) [3] .seq (.cons (.var 0) .nil) (.cons (.cmp .eq (.ix (.var 3) (.int 0)) (.str s_l)) .nil)) .nil))) (.cons (.asg (.nm 2) (.lc (.sl (.var 3) (.cons (.int 1) .nil) .nil) (.nm 3) [3] .seq (.cons (.var 0) .nil) .nil)) (.cons (.ret (.tup (.cons (.str s_sum) (.cons (.call s__law_sum_kind (.cons (.sl (.var 2) .nil (.cons (.var 1) .nil)) .nil)) (.cons (.call s__law_sum_kind (.cons (.sl (.var 2) (.cons (.var 1) .nil) .nil) .nil)) .nil))))) .nil))
def b1_law_sum_kind : Ss := .cons (.ret (.tup (.cons (.str s_one) .nil))) .nil
def b0_law_sum_kind : Ss := .cons (.ife (.cmp .eq (.var 0) (.lst (.cons (.str s_emp) .nil))) b1_law_sum_kind .nil) b2_law_sum_kind
def fd_law_sum_kind : FD := ⟨1, 4, b0_law_sum_kind⟩  -- 0:paths 1:many 2:rest 3:path
def b9_law_off : Ss := .cons (.asg (.nm 12) (.tup (.cons (.str s_off) (.cons (.var 9) (.cons (.var 9) (.cons (.tup (.cons (.str s_cases) (.cons (.blt .tuple (.cons (.var 6) .nil)) .nil))) (.cons (.tup (.cons (.str s_beside) (.cons (.ix (.var 3) (.int 0)) (.cons (.ix (.var 3) (.int 1)) .nil)))) .nil))))))) (.cons (.ret (.tup (.cons (.var 12) (.cons (.bin .add (.var 10) (.lst (.cons (.tup (.cons (.str s_b) (.cons (.tup .nil) .nil))) .nil))) .nil)))) .nil)
def b8_law_off : Ss := .cons (.ex (.mth .append (.var 10) (.cons (.tup (.cons (.str s_d) (.cons (.call s__law_number (.cons (.var 0) (.cons (.var 11) (.cons (.var 15) .nil)))) .nil))) .nil))) (.cons (.ex (.mth .append (.var 10) (.cons (.tup (.cons (.str s_c) (.cons (.call s__law_number (.cons (.var 0) (.cons (.ix (.ix (.var 4) (.int 0)) (.var 11)) (.cons (.ix (.ix (.var 4) (.int 1)) (.var 15)) .nil)))) .nil))) .nil))) .nil)
def b7_law_off : Ss := .cons (.for_ (.nm 15) .seq (.cons (.ix (.var 1) (.int 1)) .nil) b8_law_off) .nil
def b6_law_off : Ss := .cons (.asg (.nm 9) (.tup (.cons (.str s_pair) (.cons (.call s__law_sum_kind (.cons (.var 13) .nil)) (.cons (.call s__law_sum_kind (.cons (.var 14) .nil)) .nil))))) (.cons (.asg (.nm 10) (.lst (.cons (.tup (.cons (.str s_a) (.cons (.tup .nil) .nil))) .nil))) (.cons (.for_ (.nm 11) .seq (.cons (.ix (.var 1) (.int 0)) .nil) b7_law_off) b9_law_off))
def b5_law_off : Ss := .cons (.asg (.nm 19) (.call s__law_down (.cons (.ix (.var 13) (.ix (.ix (.var 1) (.int 0)) (.bin .add (.var 7) (.int 1)))) (.cons (.tup (.cons (.str s_one) .nil)) .nil)))) (.cons (.ex (.mth .append (.var 6) (.cons (.tup (.cons (.var 11) (.cons (.tup (.cons (.str s_r) (.cons (.call s__law_digit (.cons (.var 14) (.cons (.ix (.ix (.var 1) (.int 1)) (.int 0)) (.cons (.var 19) .nil)))) .nil))) .nil))) .nil))) .nil)
def b4_law_off : Ss := .cons (.ex (.mth .append (.var 6) (.cons (.tup (.cons (.var 11) (.cons (.tup (.cons (.str s_l) (.cons (.tup (.cons (.str s_one) .nil)) .nil))) .nil))) .nil))) .nil
def b3_law_off : Ss := .cons (.asg (.nm 11) (.tup (.cons (.str s_r) (.cons (.call s__law_digit (.cons (.var 14) (.cons (.var 8) (.cons (.call s__law_down (.cons (.ix (.var 13) (.ix (.ix (.var 4) (.int 0)) (.ix (.ix (.var 1) (.int 0)) (.var 7)))) (.cons (.tup (.cons (.str s_one) .nil)) .nil))) .nil)))) .nil)))) (.cons (.ife (.cmp .eq (.bin .add (.var 7) (.int 1)) (.blt .len (.cons (.var 13) .nil))) b4_law_off b5_law_off) .nil)
def b2_law_off : Ss := .cons (.asg (.nm 8) (.ix (.ix (.var 4) (.int 1)) (.ix (.ix (.var 1) (.int 1)) (.neg (.int 1))))) (.cons (.for_ (.nm 7) .rng (.cons (.blt .len (.cons (.var 13) .nil)) .nil) b3_law_off) b6_law_off)
def b1_law_off : Ss := .cons (.asg (.tp [17, 18]) (.tup (.cons (.ix (.ix (.var 4) (.int 1)) (.ix (.ix (.var 1) (.int 1)) (.var 7))) (.cons (.ix (.ix (.var 1) (.int 1)) (.bin .add (.var 7) (.int 1))) .nil)))) (.cons (.asg (.nm 11) (.tup (.cons (.str s_r) (.cons (.call s__law_digit (.cons (.var 14) (.cons (.var 17) (.cons (.tup (.cons (.str s_x) (.cons (.str s_d) .nil))) .nil)))) .nil)))) (.cons (.ex (.mth .append (.var 6) (.cons (.tup (.cons (.var 11) (.cons (.tup (.cons (.str s_r) (.cons (.call s__law_digit (.cons (.var 14) (.cons (.var 18) (.cons (.tup (.cons (.str s_x) (.cons (.str s_d) (.cons (.ix (.var 3) (.int 0)) .nil)))) .nil)))) .nil))) .nil))) .nil))) .nil))
def b0_law_off : Ss := .cons (.asgl [13, 14] (.var 0)) (.cons (.asg (.nm 3) (.lst (.cons (.call s__law_turning (.cons (.var 13) (.cons (.ix (.var 2) (.int 0)) .nil))) (.cons (.call s__law_turning (.cons (.var 14) (.cons (.ix (.var 2) (.int 1)) .nil))) .nil)))) (.cons (.asg (.nm 4) (.lc (.lc (.mth .index (.var 16) (.cons (.var 7) .nil)) (.nm 7) [7] .rng (.cons (.blt .len (.cons (.var 16) .nil)) .nil) .nil) (.nm 16) [16] .seq (.cons (.var 2) .nil) .nil)) (.cons (.asg (.nm 5) (.call s__law_down (.cons (.ix (.var 13) (.ix (.ix (.var 1) (.int 0)) (.int 0))) (.cons (.tup (.cons (.str s_one) .nil)) .nil)))) (.cons (.asg (.nm 6) (.lst (.cons (.tup (.cons (.tup (.cons (.str s_l) (.cons (.tup (.cons (.str s_one) .nil)) .nil))) (.cons (.tup (.cons (.str s_r) (.cons (.call s__law_digit (.cons (.var 14) (.cons (.ix (.ix (.var 1) (.int 1)) (.int 0)) (.cons (.var 5) .nil)))) .nil))) .nil))) .nil))) (.cons (.for_ (.nm 7) .rng (.cons (.bin .sub (.blt .len (.cons (.var 14) .nil)) (.int 1)) .nil) b1_law_off) b2_law_off)))))
def fd_law_off : FD := ⟨3, 20, b0_law_off⟩  -- 0:trees 1:orders 2:turns 3:steps 4:back_to 5:begin 6:rows 7:k 8:last 9:kind 10:beads 11:one 12:off 13:first 14:second 15:other 16:some 17:here 18:there 19:inner
def b6_law_off_right : Ss := .cons (.ret (.cmp .eq (.call s_forth (.cons (.tup (.cons (.dct 0 .nil) (.cons (.dct 0 .nil) .nil))) (.cons (.tup (.cons (.str s_turned) (.cons (.var 6) .nil))) (.cons (.tup .nil) .nil)))) (.tup .nil))) .nil
def b5_law_off_right : Ss := .cons (.ret (.bl false)) .nil
def b4_law_off_right : Ss := .cons (.ife (.bop false (.cons (.cmp .ne (.call s_forth (.cons (.tup (.cons (.dct 0 .nil) (.cons (.dct 0 .nil) .nil))) (.cons (.var 6) (.cons (.tup .nil) .nil)))) (.tup .nil)) (.cons (.cmp .ne (.call s_back (.cons (.tup (.cons (.dct 0 .nil) (.cons (.dct 0 .nil) .nil))) (.cons (.var 6) (.cons (.tup .nil) .nil)))) (.tup .nil)) .nil))) b5_law_off_right .nil) b6_law_off_right
def b3_law_off_right : Ss := .cons (.ex (.mth .append (.var 8) (.cons (.tup (.cons (.str s_a) (.cons (.tup .nil) .nil))) .nil))) .nil
def b2_law_off_right : Ss := .cons (.ret (.bl false)) .nil
def b1_law_off_right : Ss := .cons (.asg (.nm 8) (.call s_string (.cons (.tup (.cons (.dct 0 .nil) (.cons (.dct 0 .nil) .nil))) (.cons (.var 6) (.cons (.tup .nil) .nil))))) (.cons (.ife (.bop false (.cons (.not (.isi (.var 8) .list)) (.cons (.cmp .ne (.var 8) (.var 7)) .nil))) b2_law_off_right .nil) b3_law_off_right)
def b0_law_off_right : Ss := .cons (.asg (.nm 1) (.ix (.lst (.cons (.tup (.cons (.int 4) (.cons (.int 7) .nil))) (.cons (.tup (.cons (.int 7) (.cons (.int 4) .nil))) (.cons (.tup (.cons (.int 2) (.cons (.int 14) .nil))) (.cons (.tup (.cons (.int 5) (.cons (.int 5) .nil))) (.cons (.tup (.cons (.int 3) (.cons (.int 9) .nil))) (.cons (.tup (.cons (.int 2) (.cons (.int 2) .nil))) (.cons (.tup (.cons (.int 6) (.cons (.int 4) .nil))) .nil)))))))) (.call s__law_draw (.cons (.var 0) (.cons (.int 7) .nil))))) (.cons (.asg (.nm 2) (.lc (.call s__law_leaves (.cons (.var 0) (.cons (.var 9) (.cons (.int 10) .nil)))) (.nm 9) [9] .seq (.cons (.var 1) .nil) .nil)) (.cons (.asg (.nm 3) (.lc (.call s__law_mixed (.cons (.var 0) (.cons (.lrng (.cons (.var 9) .nil)) .nil))) (.nm 9) [9] .seq (.cons (.var 1) .nil) .nil)) (.cons (.asg (.nm 4) (.lc (.call s__law_mixed (.cons (.var 0) (.cons (.lrng (.cons (.var 9) .nil)) .nil))) (.nm 9) [9] .seq (.cons (.var 1) .nil) .nil)) (.cons (.asg (.tp [6, 7]) (.call s__law_off (.cons (.var 2) (.cons (.var 3) (.cons (.var 4) .nil))))) (.cons (.for_ (.nm 5) .rng (.cons (.int 2) .nil) b1_law_off_right) b4_law_off_right)))))
def fd_law_off_right : FD := ⟨1, 10, b0_law_off_right⟩  -- 0:feed 1:sizes 2:trees 3:orders 4:turns 5:turn 6:off 7:beads 8:found 9:many
def b0_law : Ss := .cons (.asg (.nm 1) (.call s__law_deal (.cons (.var 0) (.cons (.int 0) .nil)))) (.cons (.asg (.nm 2) (.call s__law_words (.cons (.var 1) (.cons (.int 2) .nil)))) (.cons (.ret (.bop true (.cons (.call s__law_tree_right (.cons (.var 1) (.cons (.var 2) .nil))) (.cons (.call s__law_off_right (.cons (.var 1) .nil)) .nil)))) .nil))
def fd_law : FD := ⟨1, 3, b0_law⟩  -- 0:script 1:feed 2:words
def prog : List (Sx × FD) := [(s_taken, fd_taken), (s_put, fd_put), (s_left_of, fd_left_of), (s_ways_in, fd_ways_in), (s_by_cases, fd_by_cases), (s_by_off, fd_by_off), (s_by_two, fd_by_two), (s_sent_by, fd_sent_by), (s_forth, fd_forth), (s_back, fd_back), (s_string, fd_string), (s_size, fd_size), (s_renamed, fd_renamed), (s__law_deal, fd_law_deal), (s__law_draw, fd_law_draw), (s__law_words, fd_law_words), (s__law_leaves, fd_law_leaves), (s__law_down, fd_law_down), (s__law_mixed, fd_law_mixed), (s__law_tree, fd_law_tree), (s__law_about, fd_law_about), (s__law_tree_right, fd_law_tree_right), (s__law_digit, fd_law_digit), (s__law_turning, fd_law_turning), (s__law_number, fd_law_number), (s__law_sum_kind, fd_law_sum_kind), (s__law_off, fd_law_off), (s__law_off_right, fd_law_off_right), (s_law, fd_law)]
end K49
end
section
namespace K49
open M
abbrev P := pOf prog
/-! ### patterns and things -/
/-- a pattern; at an open place its name, and the way that stands there on the right -/
inductive Pat where
  | hole (nm : Sx) (w : D) | one | n (a : Pat) | l (a : Pat) | r (a : Pat) | p (a b : Pat)
inductive Th where
  | one | a (i : Int) | n (t : Th) | l (t : Th) | r (t : Th) | p (t u : Th)
abbrev qx : Sx := [120]
abbrev qone : Sx := [111, 110, 101]
abbrev qa : Sx := [97]
abbrev qn : Sx := [110]
abbrev ql : Sx := [108]
abbrev qr : Sx := [114]
abbrev qp : Sx := [112]
def encL : Pat → D
  | .hole nm _ => .tup [.str qx, .str nm]
  | .one => .tup [.str qone]
  | .n a => .tup [.str qn, encL a]
  | .l a => .tup [.str ql, encL a]
  | .r a => .tup [.str qr, encL a]
  | .p a b => .tup [.str qp, encL a, encL b]
def encR : Pat → D
  | .hole nm w => .tup [.str qx, .str nm, w]
  | .one => .tup [.str qone]
  | .n a => .tup [.str qn, encR a]
  | .l a => .tup [.str ql, encR a]
  | .r a => .tup [.str qr, encR a]
  | .p a b => .tup [.str qp, encR a, encR b]
def encT : Th → D
  | .one => .tup []
  | .a i => .tup [.str qa, .int i]
  | .n t => .tup [.str qn, encT t]
  | .l t => .tup [.str ql, encT t]
  | .r t => .tup [.str qr, encT t]
  | .p t u => .tup [.str qp, encT t, encT u]
def Pat.dp : Pat → Nat
  | .hole _ _ => 0
  | .one => 0
  | .n a => a.dp + 1
  | .l a => a.dp + 1
  | .r a => a.dp + 1
  | .p a b => max a.dp b.dp + 1
/-- what stands at the open places -/
def holes : Pat → List (Sx × D)
  | .hole nm w => [(nm, w)]
  | .one => []
  | .n a => holes a
  | .l a => holes a
  | .r a => holes a
  | .p a b => holes a ++ holes b
/-- whether a thing has a pattern's forms, and what stands at its open places -/
def tk : Pat → Th → Option (List (Sx × Th))
  | .hole nm _, t => some [(nm, t)]
  | .one, .one => some []
  | .n a, .n t => tk a t
  | .l a, .l t => tk a t
  | .r a, .r t => tk a t
  | .p a b, .p t u => (tk a t).bind fun x => (tk b u).map fun y => x ++ y
  | _, _ => none
def pt : Pat → (Sx → Th) → Th
  | .hole nm _, f => f nm
  | .one, _ => .one
  | .n a, f => .n (pt a f)
  | .l a, f => .l (pt a f)
  | .r a, f => .r (pt a f)
  | .p a b, f => .p (pt a f) (pt b f)
theorem at0 {x : D} {xs : List D} : atI (x :: xs) 0 = some x := rfl
theorem at1 {x y : D} {xs : List D} : atI (x :: y :: xs) 1 = some y := rfl
theorem at2' {x y z : D} {xs : List D} : atI (x :: y :: z :: xs) 2 = some z := rfl
theorem clipT {x : D} {xs : List D} : ¬ (clip (x :: xs).length 0 (some 1) = 0 ∧ clip (x :: xs).length (x :: xs).length none = (x :: xs).length) := by
  simp [clip]
theorem left_step {n : Nat} {X : XP} {s : Sx} (ns : s ≠ qx) {ds es : List D} (hl : ds.length ≤ 2) (al : All2 (fun d e => ∀ (h : AH) (Q : VQ), (∀ h', Ext h h' → Q e h') → run P n s_left_of [d] h Q X) ds es) {h : AH} {Q : VQ} (k : ∀ h', Ext h h' → Q (.tup (.str s :: es)) h') :
    run P (n + 1) s_left_of [.tup (.str s :: ds)] h Q X := by
  have ns2 : ¬ s = [120] := ns
  refine run_of (fd := fd_left_of) rfl rfl ?_
  simp [fd_left_of, start, b0_left_of, at0, ns2, b2_left_of, cut_1]
  refine ⟨by simp [LINE], by simp [clip], comp_unroll (by simp only [LINE]; omega) ?_⟩
  refine compU_go (h0 := h) _ (fun d e h2 yes no x R k => ?_) ds es 0 [] h al (Nat.le_refl _) .refl fun h' x r hr => ?_
  · exact R h2 _ k
  · rw [seq_lst up_same]
    have l := al.len
    refine ⟨by simp [LINE]; omega, ?_⟩
    exact k _ (x.trans (Ext.new hr))
theorem left_of_ok : ∀ (q : Pat) {m n : Nat} {h : AH} {Q : VQ} {X : XP}, q.dp < n → (∀ h', Ext h h' → Q (encL q) h') → run P n s_left_of [encR q] h Q X := by
  intro q
  induction q with
  | hole nm w =>
    intro m n h Q X hn k
    obtain ⟨n, rfl⟩ : ∃ j, n = j + 1 := ⟨n - 1, by omega⟩
    refine run_of (fd := fd_left_of) rfl rfl ?_
    simp [fd_left_of, start, b0_left_of, encR, at0, at1, b1_left_of]
    exact ⟨by simp [LINE], k h .refl⟩
  | one =>
    intro m n h Q X hn k
    obtain ⟨n, rfl⟩ : ∃ j, n = j + 1 := ⟨n - 1, by omega⟩
    exact left_step (by decide) (by simp) (ds := []) (es := []) trivial k
  | n a ih =>
    intro m n h Q X hn k
    obtain ⟨n, rfl⟩ : ∃ j, n = j + 1 := ⟨n - 1, by omega⟩
    exact left_step (by decide) (by simp) (ds := [encR a]) (es := [encL a]) ⟨fun h Q k => ih (m := 0) (by simp only [Pat.dp] at hn; omega) k, trivial⟩ k
  | l a ih =>
    intro m n h Q X hn k
    obtain ⟨n, rfl⟩ : ∃ j, n = j + 1 := ⟨n - 1, by omega⟩
    exact left_step (by decide) (by simp) (ds := [encR a]) (es := [encL a]) ⟨fun h Q k => ih (m := 0) (by simp only [Pat.dp] at hn; omega) k, trivial⟩ k
  | r a ih =>
    intro m n h Q X hn k
    obtain ⟨n, rfl⟩ : ∃ j, n = j + 1 := ⟨n - 1, by omega⟩
    exact left_step (by decide) (by simp) (ds := [encR a]) (es := [encL a]) ⟨fun h Q k => ih (m := 0) (by simp only [Pat.dp] at hn; omega) k, trivial⟩ k
  | p a b iha ihb =>
    intro m n h Q X hn k
    obtain ⟨n, rfl⟩ : ∃ j, n = j + 1 := ⟨n - 1, by omega⟩
    exact left_step (by decide) (by simp) (ds := [encR a, encR b]) (es := [encL a, encL b]) ⟨fun h Q k => iha (m := 0) (by simp only [Pat.dp] at hn; omega) k, fun h Q k => ihb (m := 0) (by simp only [Pat.dp] at hn; omega) k, trivial⟩ k
theorem put_step {n : Nat} {X : XP} {s : Sx} (ns : s ≠ qx) (no : s ≠ qone) {ds es : List D} {q : Nat} {o : Ob} (hl : ds.length ≤ 2) (h0 : ds ≠ []) (al : All2 (fun d e => ∀ (h : AH) (Q : VQ), h q = some o → (∀ h', Ext h h' → Q e h') → run P n s_put [d, .ref q] h Q X) ds es) {h : AH} {Q : VQ} (hq : h q = some o) (k : ∀ h', Ext h h' → Q (.tup (.str s :: es)) h') :
    run P (n + 1) s_put [.tup (.str s :: ds), .ref q] h Q X := by
  have ns2 : ¬ s = [120] := ns
  have no2 : ¬ s = [111, 110, 101] := no
  have hl0 : 0 < ds.length := List.length_pos_iff.mpr h0
  refine run_of (fd := fd_put) rfl rfl ?_
  simp [fd_put, start, b0_put, at0, ns2, b2_put, no2, b4_put, cut_1, cut_h1]
  refine ⟨by simp [clip]; omega, by simp [clip], comp_unroll (by simp only [LINE]; omega) ?_⟩
  refine compU_go (h0 := h) _ (fun d e h2 yes no x R k => ?_) ds es 0 [] h al (Nat.le_refl _) .refl fun h' x r hr => ?_
  · exact R h2 _ (x _ _ hq) k
  · rw [seq_lst up_same]
    have l := al.len
    refine ⟨by simp [LINE]; omega, ?_⟩
    exact k _ (x.trans (Ext.new hr))
theorem put_ok {kvs : List (D × D)} {f : Sx → Th} {r : Nat} : ∀ (q : Pat) {n : Nat} {h : AH} {Q : VQ} {X : XP}, q.dp < n → h r = some (.dct 0 kvs) → (∀ nm w, (nm, w) ∈ holes q → kvGet kvs (.str nm) = some (encT (f nm))) → (∀ h', Ext h h' → Q (encT (pt q f)) h') → run P n s_put [encL q, .ref r] h Q X := by
  intro q
  induction q with
  | hole nm w =>
    intro n h Q X hn hr hkW k
    obtain ⟨n, rfl⟩ : ∃ j, n = j + 1 := ⟨n - 1, by omega⟩
    refine run_of (fd := fd_put) rfl rfl ?_
    simp [fd_put, start, b0_put, encL, at0, at1, b1_put]
    rw [ix_dct hr, hkW nm w (by simp [holes])]
    exact ⟨rfl, k h .refl⟩
  | one =>
    intro n h Q X hn hr hkW k
    obtain ⟨n, rfl⟩ : ∃ j, n = j + 1 := ⟨n - 1, by omega⟩
    refine run_of (fd := fd_put) rfl rfl ?_
    simp [fd_put, start, b0_put, encL, at0, at1, b2_put, b3_put]
    exact k h .refl
  | n a ih =>
    intro n h Q X hn hr hkW k
    obtain ⟨n, rfl⟩ : ∃ j, n = j + 1 := ⟨n - 1, by omega⟩
    exact put_step (by decide) (by decide) (ds := [encL a]) (es := [encT (pt a f)]) (by simp) (by simp) ⟨fun h Q hr k => ih (by simp only [Pat.dp] at hn; omega) hr (fun nm w z => hkW nm w (by simpa only [holes] using z)) k, trivial⟩ hr k
  | l a ih =>
    intro n h Q X hn hr hkW k
    obtain ⟨n, rfl⟩ : ∃ j, n = j + 1 := ⟨n - 1, by omega⟩
    exact put_step (by decide) (by decide) (ds := [encL a]) (es := [encT (pt a f)]) (by simp) (by simp) ⟨fun h Q hr k => ih (by simp only [Pat.dp] at hn; omega) hr (fun nm w z => hkW nm w (by simpa only [holes] using z)) k, trivial⟩ hr k
  | r a ih =>
    intro n h Q X hn hr hkW k
    obtain ⟨n, rfl⟩ : ∃ j, n = j + 1 := ⟨n - 1, by omega⟩
    exact put_step (by decide) (by decide) (ds := [encL a]) (es := [encT (pt a f)]) (by simp) (by simp) ⟨fun h Q hr k => ih (by simp only [Pat.dp] at hn; omega) hr (fun nm w z => hkW nm w (by simpa only [holes] using z)) k, trivial⟩ hr k
  | p a b iha ihb =>
    intro n h Q X hn hr hkW k
    obtain ⟨n, rfl⟩ : ∃ j, n = j + 1 := ⟨n - 1, by omega⟩
    exact put_step (by decide) (by decide) (ds := [encL a, encL b]) (es := [encT (pt a f), encT (pt b f)]) (by simp) (by simp) ⟨fun h Q hr k => iha (by simp only [Pat.dp] at hn; omega) hr (fun nm w z => hkW nm w (by simp only [holes, List.mem_append]; exact .inl z)) k, fun h Q hr k => ihb (by simp only [Pat.dp] at hn; omega) hr (fun nm w z => hkW nm w (by simp only [holes, List.mem_append]; exact .inr z)) k, trivial⟩ hr k
/-! ### the ways of a pattern -/
def hkW (l : List (Sx × D)) : List (D × D) := l.map fun x => (.str x.1, x.2)
theorem hkW_nodup {l : List (Sx × D)} (nd : (l.map (·.1)).Nodup) : ((hkW l).map (·.1)).Nodup := by
  unfold hkW
  rw [List.map_map, show ((fun x : D × D => x.1) ∘ fun x : Sx × D => (D.str x.1, x.2)) = (D.str ∘ fun x : Sx × D => x.1) from rfl, ← List.map_map]
  exact List.pairwise_map.mpr (List.Pairwise.imp (fun {a b} h e => h (by injection e)) nd)
def WaysSpec (n : Nat) (q : Pat) : Prop := ∀ ⦃h : AH⦄ ⦃Q : VQ⦄ ⦃X : XP⦄, (∀ r h', h r = none → Ext h h' → h' r = some (.dct 0 (hkW (holes q))) → Q (.ref r) h') → run P n s_ways_in [encR q] h Q X
theorem ways_step {n : Nat} {s : Sx} (ns : s ≠ qx) {qs : List Pat} (al : ∀ q, q ∈ qs → WaysSpec n q) (nd : ((qs.flatMap holes).map (·.1)).Nodup) (hz : (qs.flatMap holes).length ≤ 1000) {h : AH} {Q : VQ} {X : XP}
    (k : ∀ r h', h r = none → Ext h h' → h' r = some (.dct 0 (hkW (qs.flatMap holes))) → Q (.ref r) h') : run P (n + 1) s_ways_in [.tup (.str s :: qs.map encR)] h Q X := by
  have ns2 : ¬ s = [120] := ns
  refine run_of (fd := fd_ways_in) rfl rfl ?_
  simp [fd_ways_in, start, b0_ways_in, at0, ns2, b2_ways_in, cut_1]
  intro r hr
  refine ⟨by simp [clip], loop_unroll ?_⟩
  have stepL : ∀ (N B : St → AH → Prop) (done rest : List Pat) (q : Pat) (x : Option D) (h' : AH), done ++ q :: rest = qs → Ext h h' → h' r = some (.dct 0 (hkW (done.flatMap holes))) →
      (∀ h2, Ext h h2 → h2 r = some (.dct 0 (hkW ((done ++ [q]).flatMap holes))) → N [some (.tup (.str s :: qs.map encR)), some (.ref r), some (encR q)] h2) →
      wSs ⟨run P n, X⟩ b3_ways_in { nx := N, rt := Q, bk := B, ct := N } [some (.tup (.str s :: qs.map encR)), some (.ref r), some (encR q)] h' := by
    intro N B done rest q x h' e ex hr' kN
    simp [b3_ways_in]
    refine ⟨recv_dct rfl hr', al q (by rw [← e]; simp) fun r2 h2 hn2 ex2 hr2 => ?_⟩
    have hr3 := ex2 _ _ hr'
    rw [aDct_eq hr3, aDct_eq hr2]
    have sub : ((done ++ [q]).flatMap holes).Sublist (qs.flatMap holes) := by
      rw [← e]
      simp
    have nd2 : (((done ++ [q]).flatMap holes).map (·.1)).Nodup := List.Nodup.sublist (sub.map _) nd
    have eq : mergeL (hkW (done.flatMap holes)) (hkW (holes q)) = hkW ((done ++ [q]).flatMap holes) := by
      rw [mergeL_new]
      · simp [hkW]
      · have := hkW_nodup nd2
        simpa [hkW] using this
    have l2 : ((done ++ [q]).flatMap holes).length ≤ 1000 := Nat.le_trans sub.length_le hz
    refine ⟨ne_new hr' hn2, rfl, rfl, by simp [hkW, LINE] at l2 ⊢; omega, ?_⟩
    rw [eq]
    exact kN _ ((ex.trans ex2).mut hr Ke.put) up_same
  have key : ∀ (rest done : List Pat) (x : Option D) (h' : AH), done ++ rest = qs → Ext h h' → h' r = some (.dct 0 (hkW (done.flatMap holes))) →
      loopU (fun _ => True) (fun x σ h P' => wSs ⟨run P n, X⟩ b3_ways_in { nx := P', rt := Q, bk := fun σ' h' => wSs ⟨run P n, X⟩ b4_ways_in (RT Q) σ' h', ct := P' } (σ.set 2 (some x)) h) (fun σ' h' => wSs ⟨run P n, X⟩ b4_ways_in (RT Q) σ' h') (rest.map encR) [some (.tup (.str s :: qs.map encR)), some (.ref r), x] h' := by
    intro rest
    induction rest with
    | nil =>
      intro done x h' e ex hr'
      refine ⟨trivial, ?_⟩
      simp [b4_ways_in]
      rw [List.append_nil] at e
      subst e
      exact k r h' hr ex hr'
    | cons q rest ih =>
      intro done x h' e ex hr'
      exact ⟨trivial, stepL _ _ done rest q x h' e ex hr' fun h2 ex2 hr2 => ih (done ++ [q]) _ h2 (by rw [← e]; simp) ex2 hr2⟩
  exact key qs [] none _ rfl (Ext.new hr) up_same
theorem ways_ok : ∀ (q : Pat) {n : Nat}, q.dp < n → ((holes q).map (·.1)).Nodup → (holes q).length ≤ 1000 → WaysSpec n q := by
  intro q
  induction q with
  | hole nm w =>
    intro n hn nd hz h Q X k
    obtain ⟨n, rfl⟩ : ∃ j, n = j + 1 := ⟨n - 1, by omega⟩
    refine run_of (fd := fd_ways_in) rfl rfl ?_
    simp [fd_ways_in, start, b0_ways_in, encR, at0, at1, at2', b1_ways_in]
    intro r hr
    refine ⟨up_same, ?_⟩
    simp [pairUp, keysOk, keyOk, mergeL, up_up]
    exact k r _ hr (Ext.new hr) (by rw [up_same]; rfl)
  | one =>
    intro n hn nd hz h Q X k
    obtain ⟨n, rfl⟩ : ∃ j, n = j + 1 := ⟨n - 1, by omega⟩
    exact ways_step (s := qone) (by decide) (qs := []) (fun q hq => nomatch hq) nd hz k
  | n a ih =>
    intro n hn nd hz h Q X k
    obtain ⟨n, rfl⟩ : ∃ j, n = j + 1 := ⟨n - 1, by omega⟩
    have e : [a].flatMap holes = holes a := by simp
    exact ways_step (s := qn) (by decide) (qs := [a]) (fun q hq => by simp at hq; subst hq; exact ih (by simp only [Pat.dp] at hn; omega) nd hz) (by rw [e]; exact nd) (by rw [e]; exact hz) (by rw [e]; exact k)
  | l a ih =>
    intro n hn nd hz h Q X k
    obtain ⟨n, rfl⟩ : ∃ j, n = j + 1 := ⟨n - 1, by omega⟩
    have e : [a].flatMap holes = holes a := by simp
    exact ways_step (s := ql) (by decide) (qs := [a]) (fun q hq => by simp at hq; subst hq; exact ih (by simp only [Pat.dp] at hn; omega) nd hz) (by rw [e]; exact nd) (by rw [e]; exact hz) (by rw [e]; exact k)
  | r a ih =>
    intro n hn nd hz h Q X k
    obtain ⟨n, rfl⟩ : ∃ j, n = j + 1 := ⟨n - 1, by omega⟩
    have e : [a].flatMap holes = holes a := by simp
    exact ways_step (s := qr) (by decide) (qs := [a]) (fun q hq => by simp at hq; subst hq; exact ih (by simp only [Pat.dp] at hn; omega) nd hz) (by rw [e]; exact nd) (by rw [e]; exact hz) (by rw [e]; exact k)
  | p a b iha ihb =>
    intro n hn nd hz h Q X k
    obtain ⟨n, rfl⟩ : ∃ j, n = j + 1 := ⟨n - 1, by omega⟩
    have e : [a, b].flatMap holes = holes a ++ holes b := by simp
    have nd1 : ((holes a ++ holes b).map (·.1)).Nodup := nd
    have nda := List.Nodup.sublist ((List.sublist_append_left (holes a) (holes b)).map _) nd1
    have ndb := List.Nodup.sublist ((List.sublist_append_right (holes a) (holes b)).map _) nd1
    have hz1 : (holes a ++ holes b).length ≤ 1000 := hz
    simp only [List.length_append] at hz1
    refine ways_step (s := qp) (by decide) (qs := [a, b]) (fun q hq => ?_) (by rw [e]; exact nd) (by rw [e]; exact hz) (by rw [e]; exact k)
    simp only [List.mem_cons, List.not_mem_nil, or_false] at hq
    rcases hq with rfl | rfl
    · exact iha (by simp only [Pat.dp] at hn; omega) nda (by omega)
    · exact ihb (by simp only [Pat.dp] at hn; omega) ndb (by omega)
/-! ### a thing taken by a pattern -/
def tkB : Pat → Th → Option (List (Sx × Th))
  | .hole nm _, t => some [(nm, t)]
  | .one, .one => some []
  | .n a, .n t => tkB a t
  | .l a, .l t => tkB a t
  | .r a, .r t => tkB a t
  | .p a b, .p t u => (tkB b u).bind fun y => (tkB a t).bind fun x => some (y ++ x)
  | _, _ => none
def tkL : List (Pat × Th) → List (Sx × Th) → Option (List (Sx × Th))
  | [], acc => some acc
  | (q, t) :: s, acc => (tkB q t).bind fun l => tkL s (acc ++ l)
def szP : Pat → Nat
  | .hole _ _ => 1
  | .one => 1
  | .n a => szP a + 1
  | .l a => szP a + 1
  | .r a => szP a + 1
  | .p a b => szP a + szP b + 1
theorem szP_pos (q : Pat) : 0 < szP q := by cases q <;> simp [szP]
theorem encT_pure : ∀ t : Th, pureD (encT t) = true
  | .one => by simp [encT, pureD, pureDs]
  | .a i => by simp [encT, pureD, pureDs]
  | .n t => by simp [encT, pureD, pureDs, encT_pure t]
  | .l t => by simp [encT, pureD, pureDs, encT_pure t]
  | .r t => by simp [encT, pureD, pureDs, encT_pure t]
  | .p t u => by simp [encT, pureD, pureDs, encT_pure t, encT_pure u]
def hkT (l : List (Sx × Th)) : List (D × D) := l.map fun x => (.str x.1, encT x.2)
def prD (x : Pat × Th) : D := .tup [encL x.1, encT x.2]
def stkSz (s : List (Pat × Th)) : Nat := (s.map fun x => szP x.1).sum
theorem stkSz_len (s : List (Pat × Th)) : s.length ≤ stkSz s := by
  induction s with
  | nil => exact Nat.le_refl _
  | cons x s ih =>
    have := szP_pos x.1
    simp only [stkSz, List.map_cons, List.sum_cons, List.length_cons] at ih ⊢
    omega
def stkNm (s : List (Pat × Th)) : List Sx := s.flatMap fun x => (holes x.1).map (·.1)
structure TkI (h0 : AH) (f p : Nat) (res : Option (List (Sx × Th))) (stk : List (Pat × Th)) (acc : List (Sx × Th)) (h : AH) : Prop where
  fd : h f = some (.dct 0 (hkT acc))
  pd : h p = some (.lst (stk.reverse.map prD))
  ne : f ≠ p
  sz : acc.length + stkSz stk ≤ 1000
  rs : tkL stk acc = res
  nd : (acc.map (·.1) ++ stkNm stk).Nodup
  ex : Ext h0 h
  f0 : h0 f = none
  p0 : h0 p = none
def TkW (h0 : AH) (f p : Nat) (q0 t0 : D) (res : Option (List (Sx × Th))) (m : Nat) : St → AH → Prop := fun σ h => ∃ stk acc x y, σ = [some q0, some t0, some (.ref f), some (.ref p), x, y] ∧ m = stkSz stk ∧ TkI h0 f p res stk acc h
theorem TkI.push {h0 : AH} {f p : Nat} {res : Option (List (Sx × Th))} {q : Pat} {t : Th} {s new : List (Pat × Th)} {acc : List (Sx × Th)} {h h2 : AH} (i : TkI h0 f p res ((q, t) :: s) acc h) (e : tkL (new ++ s) acc = tkL ((q, t) :: s) acc) (z : stkSz new + 1 ≤ szP q) (pm : (stkNm new).Perm ((holes q).map (·.1)))
    (h2f : h2 f = some (.dct 0 (hkT acc))) (h2p : h2 p = some (.lst ((new ++ s).reverse.map prD))) (ex : Ext h0 h2) : TkI h0 f p res (new ++ s) acc h2 ∧ stkSz (new ++ s) < stkSz ((q, t) :: s) := by
  have s1 : stkSz (new ++ s) = stkSz new + stkSz s := by simp [stkSz]
  have s2 : stkSz ((q, t) :: s) = szP q + stkSz s := by simp [stkSz]
  have sz := i.sz
  refine ⟨⟨h2f, h2p, i.ne, by omega, e.trans i.rs, ?_, ex, i.f0, i.p0⟩, by omega⟩
  have nd := i.nd
  have e1 : stkNm ((q, t) :: s) = (holes q).map (·.1) ++ stkNm s := by simp [stkNm]
  have e2 : stkNm (new ++ s) = stkNm new ++ stkNm s := by simp [stkNm]
  rw [e1] at nd
  rw [e2]
  exact (List.Perm.nodup_iff (List.Perm.append_left _ (List.Perm.append_right _ pm))).mpr nd
theorem TkI.drop {h0 : AH} {f p : Nat} {res : Option (List (Sx × Th))} {q : Pat} {t : Th} {s : List (Pat × Th)} {acc : List (Sx × Th)} {h : AH} (i : TkI h0 f p res ((q, t) :: s) acc h) : Ext h0 (up h p (.lst (s.reverse.map prD))) := i.ex.mut i.p0 Ke.put
/-- a form of a pattern against a thing -/
theorem taken_form {n : Nat} {X : XP} {h0 : AH} {f p : Nat} {res : Option (List (Sx × Th))} {q : Pat} {t : Th} {s : List (Pat × Th)} {acc : List (Sx × Th)} {h1 : AH} {Q : VQ} {N B : St → AH → Prop} {q0 t0 : D} (i : TkI h0 f p res ((q, t) :: s) acc h1)
    (kn : res = none → ∀ h', Ext h0 h' → Q .non h') (k : ∀ stk acc x y h2, TkI h0 f p res stk acc h2 → stkSz stk < stkSz ((q, t) :: s) → N [some q0, some t0, some (.ref f), some (.ref p), x, y] h2)
    {g : Sx} {ds : List D} (eq : encL q = .tup (.str g :: ds)) (gx : g ≠ qx) (go : g ≠ qone)
    (no : (t = .one ∨ ∃ g' es, encT t = .tup (.str g' :: es) ∧ g' ≠ g) ∧ tkB q t = none ∨ ∃ es new, encT t = .tup (.str g :: es) ∧ zipL ds es = new.reverse.map prD ∧ new.length ≤ 2 ∧ tkL (new ++ s) acc = tkL ((q, t) :: s) acc ∧ stkSz new + 1 ≤ szP q ∧ (stkNm new).Perm ((holes q).map (·.1))) :
    wSs ⟨run P n, X⟩ b3_taken { nx := N, ct := N, bk := B, rt := Q } [some q0, some t0, some (.ref f), some (.ref p), some (encL q), some (encT t)] (up h1 p (.lst (s.reverse.map prD))) := by
  have go2 : ¬ g = [111, 110, 101] := go
  have pu := encT_pure t
  rw [eq]
  simp [b3_taken, at0, go2, b6_taken]
  have nil : pureD (.tup []) = true ∧ plain 190 (.tup []) = true := ⟨by simp [pureD, pureDs], by simp [plain, plains]⟩
  refine eq_pureX pu nil.1 (.inr nil.2) ?_
  rcases no with ⟨no, tn⟩ | ⟨es, new, e1, e2, e3, e4, e5, e6⟩
  · have rn : res = none := by rw [← i.rs]; simp [tkL, tn]
    rcases no with rfl | ⟨g', es, e1, ne⟩
    · simp [encT, b7_taken]
      exact kn rn _ (by simpa using i.drop)
    · rw [e1]
      simp [at0, ne, b7_taken]
      exact kn rn _ (by simpa using i.drop)
  · rw [e1]
    simp [at0, b8_taken]
    have rc : recvOk .extend (.ref p) (up h1 p (.lst (s.reverse.map prD))) := recv_lstM rfl up_same
    simp only [List.map_reverse] at rc
    refine ⟨rc, by simp [clip], by simp [clip], fun z hz => ?_⟩
    rw [cut_1, cut_1, e2]
    have zp : p ≠ z := ne_new up_same hz
    rw [aLst_eq (by rw [up_ne zp]; exact up_same), aLst_eq up_same]
    have sz := i.sz
    have sl := stkSz_len ((q, t) :: s)
    simp only [List.length_cons] at sl
    refine ⟨by simp [LINE]; omega, ?_⟩
    have zf : f ≠ z := by
      refine ne_new (h := up h1 p (.lst (s.reverse.map prD))) (o := .dct 0 (hkT acc)) ?_ (by simpa using hz)
      rw [up_ne i.ne]; exact i.fd
    have fin := i.push (new := new) (h2 := up (up (up h1 p (.lst (s.reverse.map prD))) z (.lst (new.reverse.map prD))) p (.lst (s.reverse.map prD ++ new.reverse.map prD))) e4 e5 e6 (by rw [up_ne i.ne, up_ne zf, up_ne i.ne]; exact i.fd) (by rw [up_same]; simp) ((i.drop.trans (Ext.new (by simpa using hz))).mut i.p0 Ke.put)
    have := k _ _ (some (.tup (.str g :: ds))) (some (.tup (.str g :: es))) _ fin.1 fin.2
    simpa using this
theorem taken_body {n : Nat} {X : XP} {h0 : AH} {f p : Nat} {res : Option (List (Sx × Th))} {q : Pat} {t : Th} {s : List (Pat × Th)} {acc : List (Sx × Th)} {h1 : AH} {Q : VQ} {N B : St → AH → Prop} {q0 t0 : D} {x y : Option D} (i : TkI h0 f p res ((q, t) :: s) acc h1)
    (kn : res = none → ∀ h', Ext h0 h' → Q .non h') (k : ∀ stk acc x y h2, TkI h0 f p res stk acc h2 → stkSz stk < stkSz ((q, t) :: s) → N [some q0, some t0, some (.ref f), some (.ref p), x, y] h2) :
    wSs ⟨run P n, X⟩ b1_taken { nx := N, ct := N, bk := B, rt := Q } [some q0, some t0, some (.ref f), some (.ref p), x, y] h1 := by
  have xs : ((q, t) :: s).reverse.map prD = s.reverse.map prD ++ [prD (q, t)] := by simp
  have pd : h1 p = some (.lst (s.reverse.map prD ++ [prD (q, t)])) := by rw [← xs]; exact i.pd
  have last : (s.reverse.map prD ++ [prD (q, t)])[(s.reverse.map prD ++ [prD (q, t)]).length - 1]? = some (prD (q, t)) := by simp
  have dl : (s.reverse.map prD ++ [prD (q, t)]).dropLast = s.reverse.map prD := by simp
  have szd : stkSz ((q, t) :: s) = szP q + stkSz s := by simp [stkSz]
  have qpos := szP_pos q
  have fdp : up h1 p (.lst (s.reverse.map prD)) f = some (.dct 0 (hkT acc)) := by rw [up_ne i.ne]; exact i.fd
  have form : ∀ {g : Sx} {ds : List D}, encL q = .tup (.str g :: ds) → g ≠ qx → wSs ⟨run P n, X⟩ b3_taken { nx := N, ct := N, bk := B, rt := Q } [some q0, some t0, some (.ref f), some (.ref p), some (encL q), some (encT t)] (up h1 p (.lst (s.reverse.map prD))) → wSs ⟨run P n, X⟩ b1_taken { nx := N, ct := N, bk := B, rt := Q } [some q0, some t0, some (.ref f), some (.ref p), x, y] h1 := by
    intro g ds eq gx kk
    have gx2 : ¬ g = [120] := gx
    simp only [b1_taken, wSs_cons, wS_asg, wE_mth, wE_var, wEs_nil, mth_pop, List.getElem?_cons_succ, List.getElem?_cons_zero]
    refine ⟨recv_lstM rfl pd, ?_⟩
    rw [aLst_eq pd, last, dl]
    simp only [aSome_eq, prD, setT_tp, setTs_cons, setTs_nil, List.set_cons_succ, List.set_cons_zero]
    rw [eq] at kk ⊢
    simp only [wS_ife, wE_cmp, wE_ix, wE_var, wE_int, wE_str, List.getElem?_cons_succ, List.getElem?_cons_zero, ix_tup, at0, cmp_eq, eqX_str]
    rw [decide_eq_false gx]
    exact kk
  have pick : ∀ {new : List (Pat × Th)}, tkL (new ++ s) acc = tkL ((q, t) :: s) acc → stkSz new + 1 ≤ szP q → (stkNm new).Perm ((holes q).map (·.1)) → True := fun _ _ _ => trivial
  cases q with
  | hole nm w =>
    simp only [b1_taken, wSs_cons, wS_asg, wE_mth, wE_var, wEs_nil, mth_pop, List.getElem?_cons_succ, List.getElem?_cons_zero]
    refine ⟨recv_lstM rfl pd, ?_⟩
    rw [aLst_eq pd, last, dl]
    simp only [aSome_eq, prD, setT_tp, setTs_cons, setTs_nil, List.set_cons_succ, List.set_cons_zero, encL]
    simp only [wS_ife, wE_cmp, wE_ix, wE_var, wE_int, wE_str, List.getElem?_cons_succ, List.getElem?_cons_zero, ix_tup, at0, cmp_eq, eqX_str]
    rw [decide_eq_true trivial]
    simp only [b2_taken, wSs_cons, wS_six, wE_var, wE_ix, wE_int, List.getElem?_cons_succ, List.getElem?_cons_zero, ix_tup, at1, wSs_nil]
    rw [set_dct fdp]
    have sz := i.sz
    have nd := i.nd
    have e1 : stkNm ((Pat.hole nm w, t) :: s) = nm :: stkNm s := by simp [stkNm, holes]
    rw [e1] at nd
    have new : ∀ kv, kv ∈ hkT acc → kv.1 ≠ .str nm := by
      intro kv hm e
      obtain ⟨⟨a, b⟩, hm2, rfl⟩ := List.mem_map.mp hm
      have ea : a = nm := by injection e
      rw [List.nodup_append] at nd
      exact nd.2.2 a (List.mem_map.mpr ⟨(a, b), hm2, rfl⟩) nm (by simp) ea
    rw [szd] at sz
    simp only [szP] at sz szd
    refine ⟨rfl, by simp [hkT, LINE]; omega, ?_⟩
    rw [kvPut_new new]
    refine k s (acc ++ [(nm, t)]) _ _ _ ⟨by rw [up_same]; simp [hkT], by rw [up_ne i.ne.symm, up_same], i.ne, by simp; omega, ?_, ?_, i.drop.mut i.f0 Ke.put, i.f0, i.p0⟩ (by rw [szd]; omega)
    · rw [← i.rs]; simp [tkL, tkB]
    · simpa using nd
  | one =>
    refine form rfl (by decide) ?_
    simp [b3_taken, encL, at0, b4_taken]
    refine eq_pure (encT_pure t) (by simp [pureD, pureDs]) (.inr (by simp [plain, plains])) ?_
    cases t with
    | one =>
      simp [encT]
      have fin := i.push (new := []) (h2 := up h1 p (.lst (s.reverse.map prD))) (by simp [tkL, tkB]) (by simp [stkSz, szP]) (by simp [stkNm, holes]) fdp (by rw [up_same]; simp) i.drop
      simpa using k _ _ _ _ _ fin.1 fin.2
    | _ =>
      simp [encT, b5_taken]
      exact kn (by rw [← i.rs]; simp [tkL, tkB]) _ (by simpa using i.drop)
  | n a =>
    refine form rfl (by decide) (taken_form i kn k rfl (by decide) (by decide) ?_)
    cases t with
    | n t => exact .inr ⟨_, [(a, t)], rfl, rfl, by simp, by simp [tkL, tkB], by simp [stkSz, szP], by simp [stkNm, holes]⟩
    | one => exact .inl ⟨.inl rfl, rfl⟩
    | _ => exact .inl ⟨.inr ⟨_, _, rfl, by decide⟩, rfl⟩
  | l a =>
    refine form rfl (by decide) (taken_form i kn k rfl (by decide) (by decide) ?_)
    cases t with
    | l t => exact .inr ⟨_, [(a, t)], rfl, rfl, by simp, by simp [tkL, tkB], by simp [stkSz, szP], by simp [stkNm, holes]⟩
    | one => exact .inl ⟨.inl rfl, rfl⟩
    | _ => exact .inl ⟨.inr ⟨_, _, rfl, by decide⟩, rfl⟩
  | r a =>
    refine form rfl (by decide) (taken_form i kn k rfl (by decide) (by decide) ?_)
    cases t with
    | r t => exact .inr ⟨_, [(a, t)], rfl, rfl, by simp, by simp [tkL, tkB], by simp [stkSz, szP], by simp [stkNm, holes]⟩
    | one => exact .inl ⟨.inl rfl, rfl⟩
    | _ => exact .inl ⟨.inr ⟨_, _, rfl, by decide⟩, rfl⟩
  | p a b =>
    refine form rfl (by decide) (taken_form i kn k rfl (by decide) (by decide) ?_)
    cases t with
    | p t u =>
      refine .inr ⟨_, [(b, u), (a, t)], rfl, rfl, by simp, ?_, by simp [stkSz, szP]; omega, ?_⟩
      · simp [tkL, tkB, Option.bind_assoc]
      · simp only [stkNm, holes, List.flatMap_cons, List.flatMap_nil, List.append_nil, List.map_append]
        exact List.perm_append_comm
    | one => exact .inl ⟨.inl rfl, rfl⟩
    | _ => exact .inl ⟨.inr ⟨_, _, rfl, by decide⟩, rfl⟩
theorem taken_ok {n : Nat} {q : Pat} {t : Th} {h : AH} {Q : VQ} {X : XP} (nd : ((holes q).map (·.1)).Nodup) (hz : szP q ≤ 1000) (kn : tkB q t = none → ∀ h', Ext h h' → Q .non h') (ks : ∀ l, tkB q t = some l → ∀ r h', h r = none → Ext h h' → h' r = some (.dct 0 (hkT l)) → Q (.ref r) h') :
    run P (n + 1) s_taken [encL q, encT t] h Q X := by
  refine run_of (fd := fd_taken) rfl rfl ?_
  simp [fd_taken, start, b0_taken]
  intro f hf
  refine ⟨by simp [LINE], by simp [LINE], fun p hp => ?_⟩
  have hf0 : h f = none := hf
  have hp0 : h p = none := by
    have fp : f ≠ p := ne_new up_same hp
    rw [up_ne fp.symm] at hp
    exact hp
  have fp : f ≠ p := ne_new up_same hp
  simp only [wS]
  refine ⟨TkW h f p (encL q) (encT t) (tkB q t), ⟨_, [(q, t)], [], none, none, rfl, rfl, ⟨by rw [up_ne fp, up_same]; rfl, by rw [up_same]; rfl, fp, by simp [stkSz]; exact hz, by simp [tkL], by simpa [stkNm] using nd, (Ext.new hf).trans (Ext.new hp), hf0, hp0⟩⟩, ?_⟩
  rintro m σ h1 ⟨stk, acc, x, y, rfl, rfl, i⟩
  simp
  rw [len_lst i.pd]
  cases stk with
  | nil =>
    simp [b9_taken]
    have e := i.rs
    simp only [tkL] at e
    exact ks acc e.symm f h1 hf0 i.ex i.fd
  | cons qt s =>
    obtain ⟨q1, t1⟩ := qt
    have hpos : 0 < (((q1, t1) :: s).reverse.map prD).length := by simp
    rw [decide_eq_true hpos]
    refine taken_body i kn fun stk acc x y h2 i2 lt => ⟨stkSz stk, lt, stk, acc, x, y, rfl, rfl, i2⟩
/-! ### rows -/
def rowD (x : Pat × Pat) : D := .tup [encL x.1, encR x.2]
def sideP (b : Bool) (x : Pat × Pat) : Pat := if b then x.2 else x.1
def otherP (b : Bool) (x : Pat × Pat) : Pat := if b then x.1 else x.2
structure RowOk (m : Nat) (x : Pat × Pat) : Prop where
  n1 : ((holes x.1).map (·.1)).Nodup
  n2 : ((holes x.2).map (·.1)).Nodup
  z1 : szP x.1 ≤ 1000
  z2 : szP x.2 ≤ 1000
  d1 : x.1.dp < m
  d2 : x.2.dp < m
  nm : ∀ a, a ∈ (holes x.1).map (·.1) ↔ a ∈ (holes x.2).map (·.1)
/-- the row that takes a thing, and what it makes of it -/
def Rw (R : D → Bool → Th → Th → Prop) (m : Nat) : List (Pat × Pat) → Bool → Th → Th → Prop
  | [], _, t, u => u = t
  | x :: rows, b, t, u => RowOk m x ∧ ((tkB (sideP b x) t = none ∧ Rw R m rows b t u) ∨ ∃ (l : List (Sx × Th)) (f : Sx → Th) (g : Sx → D), tkB (sideP b x) t = some l ∧ u = pt (otherP b x) f ∧ ∀ nm t', (nm, t') ∈ l → (nm, g nm) ∈ holes x.2 ∧ R (g nm) b t' (f nm))
theorem holes_len (q : Pat) : (holes q).length ≤ szP q := by
  induction q with
  | hole nm w => simp [holes, szP]
  | one => simp [holes]
  | n a ih => simp only [holes, szP]; omega
  | l a ih => simp only [holes, szP]; omega
  | r a ih => simp only [holes, szP]; omega
  | p a b iha ihb => simp only [holes, szP, List.length_append]; omega
theorem tkB_names : ∀ {q : Pat} {t : Th} {l : List (Sx × Th)}, tkB q t = some l → (l.map (·.1)).Perm ((holes q).map (·.1)) := by
  intro q
  induction q with
  | hole nm w => intro t l e; simp [tkB] at e; subst e; simp [holes]
  | one => intro t l e; cases t <;> simp [tkB] at e; subst e; simp [holes]
  | n a ih => intro t l e; cases t <;> simp [tkB] at e; exact ih e
  | l a ih => intro t l e; cases t <;> simp [tkB] at e; exact ih e
  | r a ih => intro t l e; cases t <;> simp [tkB] at e; exact ih e
  | p a b iha ihb =>
    intro t l e
    cases t with
    | p t u =>
      simp only [tkB, Option.bind_eq_some_iff] at e
      obtain ⟨y, hy, x, hx, e⟩ := e
      cases e
      simp only [holes, List.map_append]
      exact (List.Perm.append (ihb hy) (iha hx)).trans List.perm_append_comm
    | _ => simp [tkB] at e
def mkD (f : Sx → Th) (l : List (Sx × Th)) : List (D × D) := l.map fun x => (.str x.1, encT (f x.1))
theorem keys_nodup {l : List (Sx × Th)} {g : Sx × Th → D} (nd : (l.map (·.1)).Nodup) : ((l.map fun x => (D.str x.1, g x)).map (·.1)).Nodup := by
  rw [List.map_map, show ((fun x : D × D => x.1) ∘ fun x : Sx × Th => (D.str x.1, g x)) = (D.str ∘ fun x : Sx × Th => x.1) from rfl, ← List.map_map]
  exact List.pairwise_map.mpr (List.Pairwise.imp (fun {a b} h e => h (by injection e)) nd)
structure MdI (h0 : AH) (q wq mq : Nat) (l l1 : List (Sx × Th)) (hs : List (Sx × D)) (f : Sx → Th) (h : AH) : Prop where
  pq : h q = some (.rdct 0 (hkT l))
  pw : h wq = some (.dct 0 (hkW hs))
  pm : h mq = some (.dct 0 (mkD f l1))
  ex : Ext h0 h
  ne1 : q ≠ wq
  ne2 : q ≠ mq
  ne3 : wq ≠ mq
theorem made_ok {m : Nat} {X : XP} {book w1 w2 w4 w5 w6 : D} {b : Bool} {h0 : AH} {q wq mq : Nat} {l : List (Sx × Th)} {hs : List (Sx × D)} {f : Sx → Th} {g : Sx → D} {N : St → AH → Prop} {R0 : Ends}
    (hR : ∀ nm t', (nm, t') ∈ l → (nm, g nm) ∈ hs ∧ ∀ (h : AH) (Q : VQ), Ext h0 h → (∀ h', Ext h h' → Q (encT (f nm)) h') → run P m s_sent_by [book, g nm, encT t', .bl b] h Q X)
    (nl : (l.map (·.1)).Nodup) (nh : (hs.map (·.1)).Nodup) (hz : l.length ≤ 1000) (hm0 : h0 mq = none) (hN : R0.nx = N) :
    ∀ (rest done : List (Sx × Th)) (x : Option D) (h : AH), done ++ rest = l → MdI h0 q wq mq l done hs f h → (∀ x h', MdI h0 q wq mq l l hs f h' → N [some book, some w1, some w2, some (.bl b), some w4, some w5, some w6, some (.ref q), some (.ref wq), some (.ref mq), x] h') →
      loopU (fun _ => True) (fun x σ h P' => match setT (.nm 10) x σ with
        | some σ' => wSs ⟨run P m, X⟩ b5_by_cases { nx := P', rt := R0.rt, bk := R0.nx, ct := P' } σ' h
        | none => False) R0.nx (rest.map fun x => .str x.1) [some book, some w1, some w2, some (.bl b), some w4, some w5, some w6, some (.ref q), some (.ref wq), some (.ref mq), x] h := by
  intro rest
  induction rest with
  | nil =>
    intro done x h e i k
    rw [List.append_nil] at e
    subst e
    exact ⟨trivial, by rw [hN]; exact k x h i⟩
  | cons kv rest ih =>
    intro done x h e i k
    obtain ⟨nm, t'⟩ := kv
    have hm : (nm, t') ∈ l := by rw [← e]; simp
    obtain ⟨hh, run1⟩ := hR nm t' hm
    refine ⟨trivial, ?_⟩
    have step : ∀ P' : St → AH → Prop, (∀ h', MdI h0 q wq mq l (done ++ [(nm, t')]) hs f h' → P' [some book, some w1, some w2, some (.bl b), some w4, some w5, some w6, some (.ref q), some (.ref wq), some (.ref mq), some (.str nm)] h') →
        wSs ⟨run P m, X⟩ b5_by_cases { nx := P', rt := R0.rt, bk := R0.nx, ct := P' } [some book, some w1, some w2, some (.bl b), some w4, some w5, some w6, some (.ref q), some (.ref wq), some (.ref mq), some (.str nm)] h := by
      intro P' kP
      simp [b5_by_cases]
      rw [ix_dct i.pw, kvGet_mem (hkW_nodup nh) (v := g nm) (List.mem_map.mpr ⟨(nm, g nm), hh, rfl⟩)]
      refine ⟨rfl, ?_⟩
      simp only
      have pk : kvGet (hkT l) (.str nm) = some (encT t') := kvGet_mem (keys_nodup (g := fun x => encT x.2) nl) (List.mem_map.mpr ⟨(nm, t'), hm, rfl⟩)
      rw [ix_rdct i.pq, pk]
      refine ⟨rfl, run1 h _ i.ex fun h' x => ?_⟩
      have pm := x _ _ i.pm
      rw [set_dct pm]
      have ld : (done ++ [(nm, t')]).length ≤ l.length := by rw [← e]; simp
      have nd2 : ((mkD f done ++ [(D.str nm, encT (f nm))]).map (·.1)).Nodup := by
        have s : (done ++ [(nm, t')]).Sublist l := by rw [← e]; simp
        have := keys_nodup (g := fun x => encT (f x.1)) (List.Nodup.sublist (s.map (fun x : Sx × Th => x.1)) nl)
        simpa [mkD] using this
      have new : ∀ kv, kv ∈ mkD f done → kv.1 ≠ .str nm := fun kv hkv e => by
        rw [List.map_append, List.nodup_append] at nd2
        exact nd2.2.2 kv.1 (List.mem_map_of_mem hkv) (.str nm) (by simp) e
      refine ⟨rfl, by simp at ld; simp [mkD, LINE]; omega, ?_⟩
      rw [kvPut_new new]
      exact kP _ ⟨by rw [up_ne i.ne2]; exact x _ _ i.pq, by rw [up_ne i.ne3]; exact x _ _ i.pw, by rw [up_same]; simp [mkD], (i.ex.trans x).mut hm0 Ke.put, i.ne1, i.ne2, i.ne3⟩
    exact step _ fun h' i' => ih (done ++ [(nm, t')]) _ h' (by rw [← e]; simp) i' k
theorem cases_row {m : Nat} {X : XP} {book : D} {b : Bool} {rowsD : D} {x : Pat × Pat} {t : Th} {h0 h : AH} {Q : VQ} {N B : St → AH → Prop} {w6 w7 w8 w9 w10 : Option D} (ok : RowOk m x) (ex : Ext h0 h)
    (hN : tkB (sideP b x) t = none → ∀ p7 p6 h', Ext h0 h' → N [some book, some rowsD, some (encT t), some (.bl b), some (encL x.1), some (encR x.2), p6, p7, w8, w9, w10] h')
    (hS : ∀ l, tkB (sideP b x) t = some l → ∃ (f : Sx → Th) (g : Sx → D), (∀ nm t', (nm, t') ∈ l → (nm, g nm) ∈ holes x.2 ∧ ∀ (h : AH) (Q : VQ), Ext h0 h → (∀ h', Ext h h' → Q (encT (f nm)) h') → run P m s_sent_by [book, g nm, encT t', .bl b] h Q X) ∧ ∀ h', Ext h0 h' → Q (encT (pt (otherP b x) f)) h') :
    wSs ⟨run P m, X⟩ b1_by_cases { nx := N, ct := N, bk := B, rt := Q } [some book, some rowsD, some (encT t), some (.bl b), some (encL x.1), some (encR x.2), w6, w7, w8, w9, w10] h := by
  obtain ⟨m, rfl⟩ : ∃ j, m = j + 1 := ⟨m - 1, by have := ok.d1; omega⟩
  -- behind the taking
  have none_ : ∀ h', Ext h0 h' → tkB (sideP b x) t = none → wSs ⟨run P (m + 1), X⟩ b3_by_cases { nx := N, ct := N, bk := B, rt := Q } [some book, some rowsD, some (encT t), some (.bl b), some (encL x.1), some (encR x.2), some (encL x.2), some .non, w8, w9, w10] h' := by
    intro h' ex' e
    simp [b3_by_cases]
    exact hN e _ _ h' ex'
  have some_ : ∀ l r h', tkB (sideP b x) t = some l → h0 r = none → Ext h0 h' → h' r = some (.dct 0 (hkT l)) → wSs ⟨run P (m + 1), X⟩ b3_by_cases { nx := N, ct := N, bk := B, rt := Q } [some book, some rowsD, some (encT t), some (.bl b), some (encL x.1), some (encR x.2), some (encL x.2), some (.ref r), w8, w9, w10] h' := by
    intro l r h' e hr0 ex' hr
    obtain ⟨f, g, hR, hQ⟩ := hS l e
    have hl := tkB_names e
    have nl : (l.map (·.1)).Nodup := by
      refine (List.Perm.nodup_iff hl).mpr ?_
      unfold sideP
      split
      · exact ok.n2
      · exact ok.n1
    have zl : l.length ≤ 1000 := by
      have := hl.length_eq
      simp only [List.length_map] at this
      rw [this]
      unfold sideP
      split
      · exact Nat.le_trans (holes_len _) ok.z2
      · exact Nat.le_trans (holes_len _) ok.z1
    simp [b3_by_cases, b4_by_cases]
    refine ways_ok x.2 ok.d2 ok.n2 (Nat.le_trans (holes_len _) ok.z2) fun wq h2 hw0 ex2 hw => ?_
    intro mq hm
    have r2 := ex2 _ _ hr
    have rw_ : r ≠ wq := ne_new hr hw0
    have rm : r ≠ mq := ne_new r2 hm
    have wm : wq ≠ mq := ne_new hw hm
    have ex3 : Ext h0 h2 := ex'.trans ex2
    have hm0 : h0 mq = none := fresh_back ex3 hm
    have r3 : up h2 mq (.dct 0 []) r = some (.dct 0 (hkT l)) := by rw [up_ne rm]; exact r2
    rw [lock_at (by rfl) r3]
    rw [walk_keys up_same]
    refine loop_unroll ?_
    have i0 : MdI h0 r wq mq l [] (holes x.2) f (up (up h2 mq (.dct 0 [])) r (.rdct 0 (hkT l))) := ⟨up_same, by rw [up_ne rw_.symm, up_ne wm]; exact hw, by rw [up_ne rm.symm, up_same]; rfl, (ex3.trans (Ext.new hm)).mut hr0 Ke.put, rw_, rm, wm⟩
    have keys : (hkT l).map (·.1) = l.map fun x => D.str x.1 := by simp [hkT]
    rw [keys]
    refine made_ok (R0 := { nx := fun σ' h' => wSs ⟨run P (m + 1), X⟩ b6_by_cases { nx := N, rt := Q, bk := B, ct := N } σ' (up h' r (.dct 0 (hkT l))), rt := fun d h' => Q d (up h' r (.dct 0 (hkT l))), bk := B, ct := N }) (book := book) hR nl ok.n2 zl hm0 rfl l [] w10 _ rfl i0 fun x' h4 i4 => ?_
    have ex5 : Ext h0 (up h4 r (.dct 0 (hkT l))) := i4.ex.mut hr0 Ke.put
    have pm5 : up h4 r (.dct 0 (hkT l)) mq = some (.dct 0 (mkD f l)) := by rw [up_ne rm.symm]; exact i4.pm
    have got : ∀ a, a ∈ l.map (·.1) → kvGet (mkD f l) (.str a) = some (encT (f a)) := by
      intro a ha
      obtain ⟨⟨a', t'⟩, hm, rfl⟩ := List.mem_map.mp ha
      exact kvGet_mem (keys_nodup (g := fun x => encT (f x.1)) nl) (List.mem_map.mpr ⟨(a', t'), hm, rfl⟩)
    have got2 : ∀ y : Pat, (y = x.1 ∨ y = x.2) → ∀ nm w, (nm, w) ∈ holes y → kvGet (mkD f l) (.str nm) = some (encT (f nm)) := by
      intro y hy nm w hw'
      refine got nm ?_
      have mem : nm ∈ (holes y).map (·.1) := List.mem_map.mpr ⟨(nm, w), hw', rfl⟩
      have both : nm ∈ (holes (sideP b x)).map (·.1) := by
        unfold sideP
        rcases hy with rfl | rfl
        · split
          · exact (ok.nm nm).mp mem
          · exact mem
        · split
          · exact mem
          · exact (ok.nm nm).mpr mem
      exact (List.Perm.mem_iff hl).mpr both
    cases b with
    | true =>
      simp [b6_by_cases, b7_by_cases]
      exact put_ok x.1 (f := f) (by have := ok.d1; omega) pm5 (got2 _ (.inl rfl)) fun h6 ex6 => hQ h6 (ex5.trans ex6)
    | false =>
      simp [b6_by_cases, b8_by_cases]
      exact put_ok x.2 (f := f) (by have := ok.d2; omega) pm5 (got2 _ (.inr rfl)) fun h6 ex6 => hQ h6 (ex5.trans ex6)
  simp only [b1_by_cases, wSs_cons, wS_asg, wE_call, wEs_cons, wEs_nil, wE_var, List.getElem?_cons_succ, List.getElem?_cons_zero, setT_nm, List.set_cons_succ, List.set_cons_zero]
  refine left_of_ok x.2 (m := 0) ok.d2 fun h1 ex1 => ?_
  have ex01 := ex.trans ex1
  cases b with
  | false =>
    refine taken_ok ok.n1 ok.z1 (fun e h2 ex2 => ?_) (fun l e r h2 hr ex2 hr2 => ?_)
    · simp
      exact none_ h2 (ex01.trans ex2) e
    · simp
      exact some_ l r h2 e (fresh_back ex01 hr) (ex01.trans ex2) hr2
  | true =>
    have second : ∀ h2 (w7 : Option D), Ext h0 h2 → wSs ⟨run P (m + 1), X⟩ b2_by_cases { nx := fun σ' h' => wSs ⟨run P (m + 1), X⟩ b3_by_cases { nx := N, ct := N, bk := B, rt := Q } σ' h', ct := N, bk := B, rt := Q } [some book, some rowsD, some (encT t), some (.bl true), some (encL x.1), some (encR x.2), some (encL x.2), w7, w8, w9, w10] h2 := by
      intro h2 w7 ex2
      simp [b2_by_cases]
      refine taken_ok ok.n2 ok.z2 (fun e h3 ex3 => ?_) (fun l e r h3 hr ex3 hr3 => ?_)
      · exact none_ h3 (ex2.trans ex3) e
      · exact some_ l r h3 e (fresh_back ex2 hr) (ex2.trans ex3) hr3
    refine taken_ok ok.n1 ok.z1 (fun e h2 ex2 => ?_) (fun l e r h2 hr ex2 hr2 => ?_)
    · simp
      exact second h2 _ (ex01.trans ex2)
    · simp
      exact second h2 _ (ex01.trans ex2)
theorem cases_ok {m : Nat} {X : XP} {book : D} {b : Bool} {R : D → Bool → Th → Th → Prop} {rows : List (Pat × Pat)} {t u : Th} {h0 : AH} {Q : VQ}
    (hR : ∀ w t' u', R w b t' u' → ∀ (h : AH) (Q : VQ), Ext h0 h → (∀ h', Ext h h' → Q (encT u') h') → run P m s_sent_by [book, w, encT t', .bl b] h Q X) (rw_ : Rw R m rows b t u) (k : ∀ h', Ext h0 h' → Q (encT u) h') :
    run P (m + 1) s_by_cases [book, .tup (rows.map rowD), encT t, .bl b] h0 Q X := by
  refine run_of (fd := fd_by_cases) rfl rfl ?_
  simp only [fd_by_cases, start, b0_by_cases, wSs_cons, wS_for, wEs_cons, wEs_nil, wE_var]
  simp only [List.map_cons, List.map_nil, List.replicate, List.cons_append, List.nil_append, List.getElem?_cons_succ, List.getElem?_cons_zero, walk_tup]
  refine loop_unroll ?_
  have key : ∀ (rest : List (Pat × Pat)) (w4 w5 w6 w7 w8 w9 w10 : Option D) (h : AH), Rw R m rest b t u → Ext h0 h →
      loopU (fun _ => True) (fun x σ h P' => match setT (.tp [4, 5]) x σ with
        | some σ' => wSs ⟨run P m, X⟩ b1_by_cases { nx := P', ct := P', bk := fun σ' h' => wSs ⟨run P m, X⟩ b9_by_cases (RT Q) σ' h', rt := Q } σ' h
        | none => False) (fun σ' h' => wSs ⟨run P m, X⟩ b9_by_cases (RT Q) σ' h') (rest.map rowD) [some book, some (.tup (rows.map rowD)), some (encT t), some (.bl b), w4, w5, w6, w7, w8, w9, w10] h := by
    intro rest
    induction rest with
    | nil =>
      intro w4 w5 w6 w7 w8 w9 w10 h r ex
      refine ⟨trivial, ?_⟩
      simp [b9_by_cases]
      rw [← show u = t from r]
      exact k h ex
    | cons x rest ih =>
      intro w4 w5 w6 w7 w8 w9 w10 h r ex
      obtain ⟨ok, r⟩ := r
      refine ⟨trivial, ?_⟩
      refine cases_row (rowsD := .tup (rows.map rowD)) ok ex (fun e p7 p6 h' ex' => ?_) (fun l e => ?_)
      · rcases r with ⟨_, r⟩ | ⟨l, f, g, e2, _⟩
        · exact ih _ _ _ _ _ _ _ h' r ex'
        · rw [e] at e2; cases e2
      · rcases r with ⟨e2, r⟩ | ⟨l2, f, g, e2, rfl, hl⟩
        · rw [e] at e2; cases e2
        · rw [e] at e2; cases e2
          exact ⟨f, g, fun nm t' hm => ⟨(hl nm t' hm).1, fun h Q ex kk => hR _ _ _ (hl nm t' hm).2 h Q ex kk⟩, fun h' ex' => k h' ex'⟩
  exact key rows none none none none none none none h0 rw_ .refl
/-! ### ways run -/
abbrev qsame : Sx := [115, 97, 109, 101]
abbrev qcall : Sx := [99, 97, 108, 108]
abbrev qturned : Sx := [116, 117, 114, 110, 101, 100]
abbrev qwithin : Sx := [119, 105, 116, 104, 105, 110]
abbrev qcases : Sx := [99, 97, 115, 101, 115]
abbrev qthen : Sx := [116, 104, 101, 110]
abbrev qbeside : Sx := [98, 101, 115, 105, 100, 101]
abbrev qeither : Sx := [101, 105, 116, 104, 101, 114]
abbrev qoff : Sx := [111, 102, 102]
/-- then, beside, either -/
def SnTwo (R : D → Bool → Th → Th → Prop) (w : D) (b : Bool) (t u : Th) : Prop :=
  (∃ w1 k w3 v, w = .tup [.str qthen, w1, k, w3] ∧ ((b = false ∧ R w1 false t v ∧ R w3 false v u) ∨ (b = true ∧ R w3 true t v ∧ R w1 true v u))) ∨
  (∃ w1 w2 t1 t2 u1 u2, w = .tup [.str qbeside, w1, w2] ∧ t = .p t1 t2 ∧ u = .p u1 u2 ∧ R w1 b t1 u1 ∧ R w2 b t2 u2) ∨
  ∃ w1 w2 t' u', w = .tup [.str qeither, w1, w2] ∧ ((t = .l t' ∧ u = .l u' ∧ R w1 b t' u') ∨ (t = .r t' ∧ u = .r u' ∧ R w2 b t' u'))
/-- to and fro until it lands on the left -/
def OffR (R : D → Bool → Th → Th → Prop) (w3 w4 : D) (b : Bool) : Nat → Th → Th → Prop
  | 0, here, u => here = .l u
  | j + 1, here, u => ∃ x y here', here = .r x ∧ R w4 (!b) x y ∧ R w3 b (.r y) here' ∧ OffR R w3 w4 b j here' u
def SnOff (R : D → Bool → Th → Th → Prop) (w : D) (b : Bool) (t u : Th) : Prop :=
  ∃ k1 k2 w3 w4 j here, w = .tup [.str qoff, k1, k2, w3, w4] ∧ R w3 b (.l t) here ∧ OffR R w3 w4 b j here u
/-- a way sends t to u: n bounds how deep it is -/
def Sn (wk : List (D × D)) : Nat → D → Bool → Th → Th → Prop
  | 0, _, _, _, _ => False
  | n + 1, w, b, t, u => (w = .tup [.str qsame] ∧ u = t) ∨
    (∃ nm k1 k2 w', w = .tup [.str qcall, .str nm] ∧ kvGet wk (.str nm) = some (.tup [k1, k2, w']) ∧ Sn wk n w' b t u) ∨
    (∃ w', w = .tup [.str qturned, w'] ∧ Sn wk n w' (!b) t u) ∨
    (∃ w' t' u', w = .tup [.str qwithin, w'] ∧ t = .n t' ∧ u = .n u' ∧ Sn wk n w' b t' u') ∨
    (∃ rows, w = .tup [.str qcases, .tup (rows.map rowD)] ∧ Rw (Sn wk n) (2 * n) rows b t u) ∨
    SnTwo (Sn wk n) w b t u ∨ SnOff (Sn wk n) w b t u
section
variable {wk : List (D × D)} {n : Nat} {b : Bool} {t u : Th}
theorem Sn.same : Sn wk (n + 1) (.tup [.str qsame]) b t t := .inl ⟨rfl, rfl⟩
theorem Sn.call {nm : Sx} {k1 k2 w' : D} (e : kvGet wk (.str nm) = some (.tup [k1, k2, w'])) (s : Sn wk n w' b t u) : Sn wk (n + 1) (.tup [.str qcall, .str nm]) b t u := .inr (.inl ⟨nm, k1, k2, w', rfl, e, s⟩)
theorem Sn.turned {w' : D} (s : Sn wk n w' (!b) t u) : Sn wk (n + 1) (.tup [.str qturned, w']) b t u := .inr (.inr (.inl ⟨w', rfl, s⟩))
theorem Sn.within {w' : D} (s : Sn wk n w' b t u) : Sn wk (n + 1) (.tup [.str qwithin, w']) b (.n t) (.n u) := .inr (.inr (.inr (.inl ⟨w', t, u, rfl, rfl, rfl, s⟩)))
theorem Sn.cases_ {rows : List (Pat × Pat)} (s : Rw (Sn wk n) (2 * n) rows b t u) : Sn wk (n + 1) (.tup [.str qcases, .tup (rows.map rowD)]) b t u := .inr (.inr (.inr (.inr (.inl ⟨rows, rfl, s⟩))))
theorem Sn.two {w : D} (s : SnTwo (Sn wk n) w b t u) : Sn wk (n + 1) w b t u := .inr (.inr (.inr (.inr (.inr (.inl s)))))
theorem Sn.off {w : D} (s : SnOff (Sn wk n) w b t u) : Sn wk (n + 1) w b t u := .inr (.inr (.inr (.inr (.inr (.inr s)))))
theorem Sn.thenF {w1 k w3 : D} {v : Th} (a : Sn wk n w1 false t v) (c : Sn wk n w3 false v u) : Sn wk (n + 1) (.tup [.str qthen, w1, k, w3]) false t u := .two (.inl ⟨w1, k, w3, v, rfl, .inl ⟨rfl, a, c⟩⟩)
theorem Sn.thenT {w1 k w3 : D} {v : Th} (a : Sn wk n w3 true t v) (c : Sn wk n w1 true v u) : Sn wk (n + 1) (.tup [.str qthen, w1, k, w3]) true t u := .two (.inl ⟨w1, k, w3, v, rfl, .inr ⟨rfl, a, c⟩⟩)
theorem Sn.beside {w1 w2 : D} {t1 t2 u1 u2 : Th} (a : Sn wk n w1 b t1 u1) (c : Sn wk n w2 b t2 u2) : Sn wk (n + 1) (.tup [.str qbeside, w1, w2]) b (.p t1 t2) (.p u1 u2) := .two (.inr (.inl ⟨w1, w2, t1, t2, u1, u2, rfl, rfl, rfl, a, c⟩))
theorem Sn.eitherL {w1 w2 : D} (a : Sn wk n w1 b t u) : Sn wk (n + 1) (.tup [.str qeither, w1, w2]) b (.l t) (.l u) := .two (.inr (.inr ⟨w1, w2, t, u, rfl, .inl ⟨rfl, rfl, a⟩⟩))
theorem Sn.eitherR {w1 w2 : D} (a : Sn wk n w2 b t u) : Sn wk (n + 1) (.tup [.str qeither, w1, w2]) b (.r t) (.r u) := .two (.inr (.inr ⟨w1, w2, t, u, rfl, .inr ⟨rfl, rfl, a⟩⟩))
end
theorem Rw.mono {R : D → Bool → Th → Th → Prop} {m m' : Nat} (hm : m ≤ m') : ∀ {rows : List (Pat × Pat)} {b : Bool} {t u : Th}, Rw R m rows b t u → Rw R m' rows b t u
  | [], _, _, _, r => r
  | x :: rows, b, t, u, ⟨ok, r⟩ => ⟨⟨ok.n1, ok.n2, ok.z1, ok.z2, Nat.lt_of_lt_of_le ok.d1 hm, Nat.lt_of_lt_of_le ok.d2 hm, ok.nm⟩, r.imp (fun ⟨e, r⟩ => ⟨e, Rw.mono hm r⟩) id⟩
theorem Rw.imp {R R' : D → Bool → Th → Th → Prop} (m : ∀ w b t u, R w b t u → R' w b t u) {k : Nat} : ∀ {rows : List (Pat × Pat)} {b : Bool} {t u : Th}, Rw R k rows b t u → Rw R' k rows b t u
  | [], _, _, _, r => r
  | x :: rows, b, t, u, ⟨ok, r⟩ => ⟨ok, r.imp (fun ⟨e, r⟩ => ⟨e, Rw.imp m r⟩) fun ⟨l, f, g, a, c, d⟩ => ⟨l, f, g, a, c, fun nm t' h => ⟨(d nm t' h).1, m _ _ _ _ (d nm t' h).2⟩⟩⟩
theorem OffR.imp {R R' : D → Bool → Th → Th → Prop} (m : ∀ w b t u, R w b t u → R' w b t u) {w3 w4 : D} {b : Bool} : ∀ {j : Nat} {here u : Th}, OffR R w3 w4 b j here u → OffR R' w3 w4 b j here u
  | 0, _, _, r => r
  | _ + 1, _, _, ⟨x, y, h, a, c, d, e⟩ => ⟨x, y, h, a, m _ _ _ _ c, m _ _ _ _ d, OffR.imp m e⟩
theorem SnTwo.imp {R R' : D → Bool → Th → Th → Prop} (m : ∀ w b t u, R w b t u → R' w b t u) {w : D} {b : Bool} {t u : Th} (s : SnTwo R w b t u) : SnTwo R' w b t u := by
  rcases s with ⟨w1, k, w3, v, e, ⟨b0, x, y⟩ | ⟨b0, x, y⟩⟩ | ⟨w1, w2, t1, t2, u1, u2, e, et, eu, x, y⟩ | ⟨w1, w2, t', u', e, ⟨et, eu, x⟩ | ⟨et, eu, x⟩⟩
  · exact .inl ⟨w1, k, w3, v, e, .inl ⟨b0, m _ _ _ _ x, m _ _ _ _ y⟩⟩
  · exact .inl ⟨w1, k, w3, v, e, .inr ⟨b0, m _ _ _ _ x, m _ _ _ _ y⟩⟩
  · exact .inr (.inl ⟨w1, w2, t1, t2, u1, u2, e, et, eu, m _ _ _ _ x, m _ _ _ _ y⟩)
  · exact .inr (.inr ⟨w1, w2, t', u', e, .inl ⟨et, eu, m _ _ _ _ x⟩⟩)
  · exact .inr (.inr ⟨w1, w2, t', u', e, .inr ⟨et, eu, m _ _ _ _ x⟩⟩)
theorem Sn.up1 {wk : List (D × D)} : ∀ {n : Nat} {w : D} {b : Bool} {t u : Th}, Sn wk n w b t u → Sn wk (n + 1) w b t u := by
  intro n
  induction n with
  | zero => intro w b t u s; exact s.elim
  | succ n ih =>
    intro w b t u s
    rcases s with s | ⟨nm, k1, k2, w', e, e2, s⟩ | ⟨w', e, s⟩ | ⟨w', t', u', e, e2, e3, s⟩ | ⟨rows, e, s⟩ | s | ⟨k1, k2, w3, w4, j, here, e, a, c⟩
    · exact .inl s
    · exact .inr (.inl ⟨nm, k1, k2, w', e, e2, ih s⟩)
    · exact .inr (.inr (.inl ⟨w', e, ih s⟩))
    · exact .inr (.inr (.inr (.inl ⟨w', t', u', e, e2, e3, ih s⟩)))
    · exact .inr (.inr (.inr (.inr (.inl ⟨rows, e, (s.imp fun _ _ _ _ => ih).mono (by omega)⟩))))
    · exact .two (s.imp fun _ _ _ _ => ih)
    · exact .off ⟨k1, k2, w3, w4, j, here, e, ih a, c.imp fun _ _ _ _ => ih⟩
theorem Sn.up {wk : List (D × D)} {n m : Nat} (h : n ≤ m) {w : D} {b : Bool} {t u : Th} (s : Sn wk n w b t u) : Sn wk m w b t u := by
  obtain ⟨k, rfl⟩ := Nat.exists_eq_add_of_le h
  clear h
  induction k with
  | zero => exact s
  | succ k ih => exact ih.up1
theorem at3' {x y z v : D} {xs : List D} : atI (x :: y :: z :: v :: xs) 3 = some v := rfl
theorem at4' {x y z v a : D} {xs : List D} : atI (x :: y :: z :: v :: a :: xs) 4 = some a := rfl
/-- what R says, sent_by does -/
def Does (m wr : Nat) (bk : D) (wk : List (D × D)) (R : D → Bool → Th → Th → Prop) : Prop := ∀ {w : D} {b : Bool} {t u : Th} {h : AH} {Q : VQ} {X : XP}, R w b t u → h wr = some (.dct 0 wk) → (∀ h', Ext h h' → Q (encT u) h') → run P m s_sent_by [bk, w, encT t, .bl b] h Q X
theorem two_ok {m wr : Nat} {bk : D} {wk : List (D × D)} {R : D → Bool → Th → Th → Prop} (dR : Does m wr bk wk R) {w : D} {b : Bool} {t u : Th} {h : AH} {Q : VQ} {X : XP} (s : SnTwo R w b t u) (hw : h wr = some (.dct 0 wk)) (k : ∀ h', Ext h h' → Q (encT u) h') : run P (m + 1) s_by_two [bk, w, encT t, .bl b] h Q X := by
  refine run_of (fd := fd_by_two) rfl rfl ?_
  rcases s with ⟨w1, k0, w3, v, rfl, ⟨rfl, x, y⟩ | ⟨rfl, x, y⟩⟩ | ⟨w1, w2, t1, t2, u1, u2, rfl, rfl, rfl, x, y⟩ | ⟨w1, w2, t', u', rfl, ⟨rfl, rfl, x⟩ | ⟨rfl, rfl, x⟩⟩
  · simp [fd_by_two, start, b0_by_two, at0, b1_by_two, b3_by_two, at1, at3']
    exact dR x hw fun h1 e1 => dR y (e1 _ _ hw) fun h2 e2 => k h2 (e1.trans e2)
  · simp [fd_by_two, start, b0_by_two, at0, b1_by_two, b2_by_two, at1, at3']
    exact dR x hw fun h1 e1 => dR y (e1 _ _ hw) fun h2 e2 => k h2 (e1.trans e2)
  · simp [fd_by_two, start, b0_by_two, at0, b4_by_two, b5_by_two, at1, at2', encT]
    exact dR x hw fun h1 e1 => dR y (e1 _ _ hw) fun h2 e2 => ⟨by simp [LINE], k h2 (e1.trans e2)⟩
  · simp [fd_by_two, start, b0_by_two, at0, b4_by_two, b6_by_two, b7_by_two, at1, encT]
    exact dR x hw fun h1 e1 => ⟨by simp [LINE], k h1 e1⟩
  · simp [fd_by_two, start, b0_by_two, at0, b4_by_two, b6_by_two, b8_by_two, at1, at2', encT]
    exact dR x hw fun h1 e1 => ⟨by simp [LINE], k h1 e1⟩
def OfI (wr : Nat) (bk w t0 b0 : D) (wk : List (D × D)) (R : D → Bool → Th → Th → Prop) (w3 w4 : D) (b : Bool) (u : Th) (h0 : AH) (j : Nat) : St → AH → Prop := fun σ h => ∃ here x, σ = [some bk, some w, some t0, some b0, some (encT here), x] ∧ OffR R w3 w4 b j here u ∧ Ext h0 h ∧ h wr = some (.dct 0 wk)
theorem off_ok {m wr : Nat} {bk : D} {wk : List (D × D)} {R : D → Bool → Th → Th → Prop} (dR : Does m wr bk wk R) {w : D} {b : Bool} {t u : Th} {h : AH} {Q : VQ} {X : XP} (s : SnOff R w b t u) (hw : h wr = some (.dct 0 wk)) (k : ∀ h', Ext h h' → Q (encT u) h') : run P (m + 1) s_by_off [bk, w, encT t, .bl b] h Q X := by
  refine run_of (fd := fd_by_off) rfl rfl ?_
  obtain ⟨k1, k2, w3, w4, j, here, rfl, a, c⟩ := s
  simp only [fd_by_off, start, b0_by_off, wSs_cons, wS_asg, wE_call, wE_ix, wE_tup, wE_str, wE_int, wEs_cons, wEs_nil, wE_var, List.map_cons, List.map_nil, List.replicate, List.cons_append, List.nil_append, List.getElem?_cons_succ, List.getElem?_cons_zero, ix_tup, at3', setT_nm, List.set_cons_succ, List.set_cons_zero]
  refine ⟨by simp [LINE], ?_⟩
  refine dR a hw fun h1 e1 => ?_
  simp only [wS]
  refine ⟨OfI wr bk (.tup [.str qoff, k1, k2, w3, w4]) (encT t) (.bl b) wk R w3 w4 b u h, ⟨j, here, none, rfl, c, e1, e1 _ _ hw⟩, ?_⟩
  rintro j σ h2 ⟨here, x, rfl, c, ex, hw2⟩
  simp only [wT_eq, wE_cmp, wE_ix, wE_var, wE_int, wE_str, List.getElem?_cons_succ, List.getElem?_cons_zero, cmp_eq]
  cases j with
  | zero =>
    obtain rfl : here = .l u := c
    simp only [encT, ix_tup, at0]
    refine eq_pureX (by simp [pureD]) (by simp [pureD]) (.inl (by simp [plain])) ?_
    rw [decide_eq_false (by simp)]
    simp only [b2_by_off, wSs_cons, wS_ret, wE_ix, wE_var, wE_int, List.getElem?_cons_succ, List.getElem?_cons_zero, ix_tup, at1, RT_rt]
    exact k h2 ex
  | succ j =>
    obtain ⟨y, z, here', rfl, r4, r3, c⟩ := c
    simp only [encT, ix_tup, at0]
    refine eq_pureX (by simp [pureD]) (by simp [pureD]) (.inl (by simp [plain])) ?_
    rw [decide_eq_true (by simp)]
    simp only [b1_by_off, wSs_cons, wSs_nil, wS_asg, wE_call, wE_ix, wE_tup, wE_str, wE_int, wE_not, wEs_cons, wEs_nil, wE_var, List.getElem?_cons_succ, List.getElem?_cons_zero, ix_tup, at1, at3', at4', setT_nm, List.set_cons_succ, List.set_cons_zero]
    refine dR r4 hw2 fun h3 e3 => ?_
    refine ⟨by simp [LINE], ?_⟩
    refine dR r3 (e3 _ _ hw2) fun h4 e4 => ?_
    exact ⟨j, by omega, here', _, rfl, c, ex.trans (e3.trans e4), e4 _ _ (e3 _ _ hw2)⟩
theorem sent_ok {wk : List (D × D)} {rr wr : Nat} : ∀ (n : Nat) {m : Nat} {w : D} {b : Bool} {t u : Th} {h : AH} {Q : VQ} {X : XP}, 2 * n ≤ m → Sn wk n w b t u → h wr = some (.dct 0 wk) → (∀ h', Ext h h' → Q (encT u) h') → run P m s_sent_by [.tup [.ref rr, .ref wr], w, encT t, .bl b] h Q X := by
  intro n
  induction n with
  | zero => intro m w b t u h Q X hm s; exact s.elim
  | succ n ih =>
    intro m w b t u h Q X hm s hw k
    obtain ⟨m, rfl⟩ : ∃ j, m = j + 1 := ⟨m - 1, by omega⟩
    refine run_of (fd := fd_sent_by) rfl rfl ?_
    rcases s with ⟨rfl, rfl⟩ | ⟨nm, k1, k2, w', rfl, e, s⟩ | ⟨w', rfl, s⟩ | ⟨w', t', u', rfl, rfl, rfl, s⟩ | ⟨rows, rfl, s⟩ | s | s
    · simp [fd_sent_by, start, b0_sent_by, at0, b1_sent_by]
      exact k h .refl
    · simp [fd_sent_by, start, b0_sent_by, at0, at1, b2_sent_by, b3_sent_by]
      rw [ix_dct hw, e]
      refine ⟨rfl, ?_⟩
      simp [at2']
      exact ih (by omega) s hw k
    · simp [fd_sent_by, start, b0_sent_by, at0, at1, b2_sent_by, b4_sent_by, b5_sent_by]
      exact ih (by omega) s hw k
    · simp [fd_sent_by, start, b0_sent_by, at0, at1, b2_sent_by, b4_sent_by, b6_sent_by, b7_sent_by, encT]
      exact ih (by omega) s hw fun h' x => ⟨by simp [LINE], k h' x⟩
    · simp [fd_sent_by, start, b0_sent_by, at0, at1, b2_sent_by, b4_sent_by, b6_sent_by, b8_sent_by, b9_sent_by]
      obtain ⟨m, rfl⟩ : ∃ j, m = j + 1 := ⟨m - 1, by omega⟩
      exact cases_ok (R := Sn wk n) (fun w t' u' r h2 Q ex kk => ih (by omega) r (ex _ _ hw) kk) (s.mono (by omega)) k
    · obtain ⟨m, rfl⟩ : ∃ j, m = j + 1 := ⟨m - 1, by omega⟩
      have d : Does m wr (.tup [.ref rr, .ref wr]) wk (Sn wk n) := fun {w b t u h Q X} r hw kk => ih (by omega) r hw kk
      rcases id s with ⟨w1, k0, w3, v, rfl, _⟩ | ⟨w1, w2, t1, t2, u1, u2, rfl, _⟩ | ⟨w1, w2, t', u', rfl, _⟩
      all_goals simp [fd_sent_by, start, b0_sent_by, at0, at1, b2_sent_by, b4_sent_by, b6_sent_by, b8_sent_by, b10_sent_by, b12_sent_by, b14_sent_by]
      all_goals exact two_ok d s hw k
    · obtain ⟨m, rfl⟩ : ∃ j, m = j + 1 := ⟨m - 1, by omega⟩
      have d : Does m wr (.tup [.ref rr, .ref wr]) wk (Sn wk n) := fun {w b t u h Q X} r hw kk => ih (by omega) r hw kk
      obtain ⟨k1, k2, w3, w4, j, here, rfl, a, c⟩ := id s
      simp [fd_sent_by, start, b0_sent_by, at0, at1, b2_sent_by, b4_sent_by, b6_sent_by, b8_sent_by, b10_sent_by, b11_sent_by]
      exact off_ok d s hw k
theorem encL_pp : ∀ q : Pat, PP (q.dp + 1) (encL q)
  | .hole nm w => PP.tup fun x hx => by simp at hx; rcases hx with rfl | rfl <;> exact .str
  | .one => PP.tup fun x hx => by simp at hx; subst hx; exact .str
  | .n a => PP.tup fun x hx => by simp at hx; rcases hx with rfl | rfl; exact .str; exact encL_pp a
  | .l a => PP.tup fun x hx => by simp at hx; rcases hx with rfl | rfl; exact .str; exact encL_pp a
  | .r a => PP.tup fun x hx => by simp at hx; rcases hx with rfl | rfl; exact .str; exact encL_pp a
  | .p a b => PP.tup fun x hx => by simp at hx; rcases hx with rfl | rfl | rfl; exact .str; exact (encL_pp a).mono (by simp only [Pat.dp]; omega); exact (encL_pp b).mono (by simp only [Pat.dp]; omega)
theorem encR_pp {n : Nat} : ∀ q : Pat, (∀ nm w, (nm, w) ∈ holes q → PP n w) → PP (q.dp + n + 1) (encR q)
  | .hole nm w, a => by
    rw [show (Pat.hole nm w).dp + n + 1 = n + 1 by simp [Pat.dp]]
    exact PP.tup fun x hx => by simp at hx; rcases hx with rfl | rfl | rfl; exact .str; exact .str; exact a nm _ (by simp [holes])
  | .one, _ => PP.tup fun x hx => by simp at hx; subst hx; exact .str
  | .n b, a => by
    rw [show (Pat.n b).dp + n + 1 = (b.dp + n + 1) + 1 by simp only [Pat.dp]; omega]
    exact PP.tup fun x hx => by simp at hx; rcases hx with rfl | rfl; exact .str; exact encR_pp b a
  | .l b, a => by
    rw [show (Pat.l b).dp + n + 1 = (b.dp + n + 1) + 1 by simp only [Pat.dp]; omega]
    exact PP.tup fun x hx => by simp at hx; rcases hx with rfl | rfl; exact .str; exact encR_pp b a
  | .r b, a => by
    rw [show (Pat.r b).dp + n + 1 = (b.dp + n + 1) + 1 by simp only [Pat.dp]; omega]
    exact PP.tup fun x hx => by simp at hx; rcases hx with rfl | rfl; exact .str; exact encR_pp b a
  | .p b c, a => by
    rw [show (Pat.p b c).dp + n + 1 = (max b.dp c.dp + n + 1) + 1 by simp only [Pat.dp]; omega]
    exact PP.tup fun x hx => by simp at hx; rcases hx with rfl | rfl | rfl; exact .str; exact (encR_pp b fun nm w hm => a nm w (by simp [holes, hm])).mono (by omega); exact (encR_pp c fun nm w hm => a nm w (by simp [holes, hm])).mono (by omega)
theorem forth_ok {wk : List (D × D)} {rr wr n m : Nat} {w : D} {t u : Th} {h : AH} {Q : VQ} {X : XP} (hm : 2 * n ≤ m) (s : Sn wk n w false t u) (hw : h wr = some (.dct 0 wk)) (k : ∀ h', Ext h h' → Q (encT u) h') : run P (m + 1) s_forth [.tup [.ref rr, .ref wr], w, encT t] h Q X := by
  refine run_of (fd := fd_forth) rfl rfl ?_
  simp only [fd_forth, start, b0_forth, wSs_cons, wSs_nil, wS_ret, wE_call, wE_bl, wE_var, wEs_cons, wEs_nil, List.map_cons, List.map_nil, List.replicate, List.cons_append, List.nil_append, List.append_nil, List.getElem?_cons_succ, List.getElem?_cons_zero]
  exact sent_ok n hm s hw k
theorem back_ok {wk : List (D × D)} {rr wr n m : Nat} {w : D} {t u : Th} {h : AH} {Q : VQ} {X : XP} (hm : 2 * n ≤ m) (s : Sn wk n w true t u) (hw : h wr = some (.dct 0 wk)) (k : ∀ h', Ext h h' → Q (encT u) h') : run P (m + 1) s_back [.tup [.ref rr, .ref wr], w, encT t] h Q X := by
  refine run_of (fd := fd_back) rfl rfl ?_
  simp only [fd_back, start, b0_back, wSs_cons, wSs_nil, wS_ret, wE_call, wE_bl, wE_var, wEs_cons, wEs_nil, List.map_cons, List.map_nil, List.replicate, List.cons_append, List.nil_append, List.append_nil, List.getElem?_cons_succ, List.getElem?_cons_zero]
  exact sent_ok n hm s hw k
/-- two things that are the same: the comparision is True -/
theorem ne_same {n : Nat} {t : Th} {h : AH} {q : Bool → Prop} (p : PP n (encT t)) (hn : n ≤ 190) (k : q false) : opCmp .ne (encT t) (encT t) h q := by
  rw [cmp_ne]
  refine eq_pure p.1 p.1 (.inl (p.mono hn).2) ?_
  rw [decide_eq_true rfl]
  exact k
/-- the row that takes it, behind rows that do not -/
theorem rw_at {R : D → Bool → Th → Th → Prop} {m : Nat} {b : Bool} {t u : Th} : ∀ (rows : List (Pat × Pat)) (k : Nat) (x : Pat × Pat), rows[k]? = some x → (∀ j y, rows[j]? = some y → RowOk m y ∧ (j ≠ k → tkB (sideP b y) t = none)) →
    (∃ (l : List (Sx × Th)) (f : Sx → Th) (g : Sx → D), tkB (sideP b x) t = some l ∧ u = pt (otherP b x) f ∧ ∀ nm t', (nm, t') ∈ l → (nm, g nm) ∈ holes x.2 ∧ R (g nm) b t' (f nm)) → Rw R m rows b t u
  | [], k, x, e, _, _ => by simp at e
  | y :: rows, 0, x, e, h, q => by
    simp at e
    subst e
    exact ⟨(h 0 y rfl).1, .inr q⟩
  | y :: rows, k + 1, x, e, h, q => by
    refine ⟨(h 0 y rfl).1, .inl ⟨(h 0 y rfl).2 (by omega), ?_⟩⟩
    exact rw_at rows k x (by simpa using e) (fun j z ez => ⟨(h (j + 1) z (by simpa using ez)).1, fun ne => (h (j + 1) z (by simpa using ez)).2 (by omega)⟩) q
/-! ### to and fro: strings -/
abbrev qd : Sx := [100]
abbrev qc : Sx := [99]
abbrev qb : Sx := [98]
/-- F leads on, H leads back over; the beads behind the first -/
def Chn (F H : Th → Th → Prop) : Nat → Th → Th → List (Sx × Th) → Prop
  | 0, a, u, bs => F a (.l u) ∧ bs = [(qb, u)]
  | n + 1, a, u, bs => ∃ x y bs', F a (.r x) ∧ H x y ∧ Chn F H n (.r y) u bs' ∧ bs = (qd, x) :: (qc, y) :: bs'
section
variable {R : D → Bool → Th → Th → Prop} {w3 w4 : D}
def FR (R : D → Bool → Th → Th → Prop) (w3 : D) (a b : Th) : Prop := R w3 false a b ∧ R w3 true b a
def HR (R : D → Bool → Th → Th → Prop) (w4 : D) (x y : Th) : Prop := R w4 true x y ∧ R w4 false y x
theorem chn_off : ∀ {n : Nat} {a u : Th} {bs : List (Sx × Th)}, Chn (FR R w3) (HR R w4) n a u bs → ∃ here, R w3 false a here ∧ OffR R w3 w4 false n here u
  | 0, a, u, _, ⟨f, _⟩ => ⟨_, f.1, rfl⟩
  | n + 1, a, u, _, ⟨x, y, bs', f, h, c, _⟩ => by
    obtain ⟨here, r, o⟩ := chn_off c
    exact ⟨_, f.1, x, y, here, rfl, h.1, r, o⟩
theorem chn_back {t : Th} : ∀ {n : Nat} {a u : Th} {bs : List (Sx × Th)} {i : Nat}, OffR R w3 w4 true i a t → Chn (FR R w3) (HR R w4) n a u bs → ∃ j here, R w3 true (.l u) here ∧ OffR R w3 w4 true j here t
  | 0, a, u, _, i, o, ⟨f, _⟩ => ⟨i, a, f.2, o⟩
  | n + 1, a, u, _, i, o, ⟨x, y, bs', f, h, c, _⟩ => chn_back (i := i + 1) ⟨y, x, a, rfl, h.2, f.2, o⟩ c
theorem OffR.turn {R' : D → Bool → Th → Th → Prop} {v3 v4 : D} {b : Bool} (h3 : ∀ t u, R w3 b t u → R' v3 (!b) t u) (h4 : ∀ t u, R w4 (!b) t u → R' v4 b t u) : ∀ {j : Nat} {here u : Th}, OffR R w3 w4 b j here u → OffR R' v3 v4 (!b) j here u
  | 0, _, _, r => r
  | _ + 1, _, _, ⟨x, y, h, a, c, d, e⟩ => ⟨x, y, h, a, by rw [Bool.not_not]; exact h4 _ _ c, h3 _ _ d, OffR.turn h3 h4 e⟩
end
@[local simp] theorem LINE_eq : LINE = 16777216 := rfl
abbrev nx : Sx := [120]
abbrev ny : Sx := [121]
def rowsF (again : D) : List (Pat × Pat) := [(.l (.hole nx (.tup [.str qsame])), .l (.hole nx (.tup [.str qsame]))), (.r (.n (.p (.hole nx again) (.hole ny again))), .r (.n (.p (.hole ny again) (.hole nx again))))]
def csD (rows : List (Pat × Pat)) : D := .tup [.str qcases, .tup (rows.map rowD)]
/-! ### trees -/
inductive Tr where
  | lf (i : Int) | nd (a b : Tr)
def trT : Tr → Th
  | .lf i => .l (.a i)
  | .nd a b => .r (.n (.p (trT a) (trT b)))
def fl : Tr → Tr
  | .lf i => .lf i
  | .nd a b => .nd (fl b) (fl a)
def Tr.dp : Tr → Nat
  | .lf _ => 0
  | .nd a b => max a.dp b.dp + 1
theorem fl_fl : ∀ t : Tr, fl (fl t) = t
  | .lf _ => rfl
  | .nd a b => by simp only [fl, fl_fl a, fl_fl b]
theorem fl_dp : ∀ t : Tr, (fl t).dp = t.dp
  | .lf _ => rfl
  | .nd a b => by simp only [fl, Tr.dp, fl_dp a, fl_dp b, Nat.max_comm]
def again (f : Sx) : D := .tup [.str qcall, .str f]
def BkW (wk : List (D × D)) (f : Sx) : Prop := ∃ k1 k2, kvGet wk (.str f) = some (.tup [k1, k2, csD (rowsF (again f))])
theorem rowF_ok {w : D} {m : Nat} (h : 3 < m) : ∀ x, x ∈ rowsF w → RowOk m x := by
  intro x hx
  simp only [rowsF, List.mem_cons, List.not_mem_nil, or_false] at hx
  rcases hx with rfl | rfl
  · exact ⟨by simp [holes], by simp [holes], by simp [szP], by simp [szP], by simp only [Pat.dp]; omega, by simp only [Pat.dp]; omega, fun a => by simp [holes]⟩
  · exact ⟨by simp [holes], by simp [holes], by simp [szP], by simp [szP], by simp only [Pat.dp]; omega, by simp only [Pat.dp]; omega, fun a => by simp [holes]; exact or_comm⟩
theorem fl_sn {wk : List (D × D)} {f : Sx} (hw : BkW wk f) (b : Bool) : ∀ tr : Tr, Sn wk (2 * tr.dp + 3) (csD (rowsF (again f))) b (trT tr) (trT (fl tr)) := by
  obtain ⟨k1, k2, e⟩ := hw
  intro tr
  induction tr with
  | lf i =>
    refine Sn.cases_ (n := 2) ⟨rowF_ok (w := again f) (by omega) _ (by simp [rowsF]), .inr ⟨[(nx, .a i)], fun _ => .a i, fun _ => .tup [.str qsame], ?_, ?_, fun nm t' hm => ?_⟩⟩
    · cases b <;> rfl
    · cases b <;> rfl
    · simp only [List.mem_singleton, Prod.mk.injEq] at hm
      obtain ⟨rfl, rfl⟩ := hm
      exact ⟨by simp [holes], .same⟩
  | nd x y ihx ihy =>
    have m1 : ∀ (w : Tr), w = x ∨ w = y → Sn wk (2 * (max x.dp y.dp + 1) + 2) (again f) b (trT w) (trT (fl w)) := by
      intro w hw
      refine (Sn.call (n := 2 * max x.dp y.dp + 3) e (Sn.up (n := 2 * w.dp + 3) ?_ ?_)).up (by omega)
      · rcases hw with rfl | rfl <;> omega
      · rcases hw with rfl | rfl
        · exact ihx
        · exact ihy
    refine Sn.cases_ (n := 2 * (max x.dp y.dp + 1) + 2) ⟨rowF_ok (w := again f) (by omega) _ (by simp [rowsF]), .inl ⟨by cases b <;> rfl, rowF_ok (w := again f) (by omega) _ (by simp [rowsF]), .inr ?_⟩⟩
    cases b with
    | false =>
      refine ⟨[(ny, trT y), (nx, trT x)], fun nm => if nm = nx then trT (fl x) else trT (fl y), fun _ => again f, rfl, by simp [otherP, pt, trT, fl], fun nm t' hm => ?_⟩
      simp only [List.mem_cons, List.not_mem_nil, or_false, Prod.mk.injEq] at hm
      rcases hm with ⟨rfl, rfl⟩ | ⟨rfl, rfl⟩
      · exact ⟨by simp [holes], m1 y (.inr rfl)⟩
      · exact ⟨by simp [holes], m1 x (.inl rfl)⟩
    | true =>
      refine ⟨[(nx, trT y), (ny, trT x)], fun nm => if nm = nx then trT (fl y) else trT (fl x), fun _ => again f, rfl, by simp [otherP, pt, trT, fl], fun nm t' hm => ?_⟩
      simp only [List.mem_cons, List.not_mem_nil, or_false, Prod.mk.injEq] at hm
      rcases hm with ⟨rfl, rfl⟩ | ⟨rfl, rfl⟩
      · exact ⟨by simp [holes], m1 y (.inr rfl)⟩
      · exact ⟨by simp [holes], m1 x (.inl rfl)⟩
/-- a number out of [4, 10 ** 9][next(deck, 2)] -/
theorem trT_pp : ∀ t : Tr, PP (3 * t.dp + 2) (encT (trT t))
  | .lf i => PP.tup fun x hx => by simp at hx; rcases hx with rfl | rfl; exact .str; exact PP.tup fun x hx => by simp at hx; rcases hx with rfl | rfl; exact .str; exact .int
  | .nd a b => by
    rw [show 3 * (Tr.nd a b).dp + 2 = (3 * max a.dp b.dp + 2) + 3 by simp only [Tr.dp]; omega]
    refine PP.tup fun x hx => ?_
    simp at hx
    rcases hx with rfl | rfl
    · exact .str
    refine PP.tup fun x hx => ?_
    simp at hx
    rcases hx with rfl | rfl
    · exact .str
    refine PP.tup fun x hx => ?_
    simp at hx
    rcases hx with rfl | rfl | rfl
    · exact .str
    · exact (trT_pp a).mono (by omega)
    · exact (trT_pp b).mono (by omega)
theorem csD_pp {n : Nat} {rows : List (Pat × Pat)} (h : ∀ x, x ∈ rows → x.1.dp ≤ 3 ∧ x.2.dp ≤ 3 ∧ ∀ nm w, (nm, w) ∈ holes x.2 → PP n w) : PP (n + 7) (csD rows) := by
  refine PP.tup (n := n + 6) fun x hx => ?_
  simp only [List.mem_cons, List.not_mem_nil, or_false] at hx
  rcases hx with rfl | rfl
  · exact .str
  refine PP.tup (n := n + 5) fun x hx => ?_
  obtain ⟨y, hy, rfl⟩ := List.mem_map.mp hx
  obtain ⟨d1, d2, hp⟩ := h y hy
  refine PP.tup (n := n + 4) fun x hx => ?_
  simp only [List.mem_cons, List.not_mem_nil, or_false] at hx
  rcases hx with rfl | rfl
  · exact (encL_pp _).mono (by omega)
  · exact (encR_pp (n := n) _ hp).mono (by omega)
/-! ### strings -/
def bdD (b : Sx × Th) : D := .tup [.str b.1, encT b.2]
def StI (h0 : AH) (bk off t0 : D) (bq : Nat) (F H : Th → Th → Prop) (u : Th) (full : List (Sx × Th)) (n : Nat) : St → AH → Prop := fun σ h => ∃ acc here x bs, σ = [some bk, some off, some t0, some (.ref bq), some (encT here), x] ∧ h bq = some (.lst (acc.map bdD)) ∧ acc ++ bs = full ∧ Ext h0 h ∧
  ((n = 0 ∧ here = .l u ∧ bs = [(qb, u)]) ∨ ∃ m y z bs', n = m + 1 ∧ here = .r y ∧ H y z ∧ Chn F H m (.r z) u bs' ∧ bs = (qd, y) :: (qc, z) :: bs')
theorem string_ok {wk : List (D × D)} {rr wr n m : Nat} {k1 k2 w3 w4 : D} {t u : Th} {j : Nat} {bs : List (Sx × Th)} {h : AH} {Q : VQ} {X : XP} (hm : 2 * n ≤ m) (hw : h wr = some (.dct 0 wk)) (hz : bs.length ≤ 1000) (c : Chn (FR (Sn wk n) w3) (HR (Sn wk n) w4) j (.l t) u bs)
    (k : ∀ q h', Ext h h' → h q = none → h' q = some (.lst (((qa, t) :: bs).map bdD)) → Q (.ref q) h') : run P (m + 2) s_string [.tup [.ref rr, .ref wr], .tup [.str qoff, k1, k2, w3, w4], encT t] h Q X := by
  refine run_of (fd := fd_string) rfl rfl ?_
  simp only [fd_string, start, b0_string, wSs_cons, wS_asg, wE_call, wE_ix, wE_tup, wE_lst, wE_str, wE_int, wEs_cons, wEs_nil, wE_var, List.map_cons, List.map_nil, List.replicate, List.cons_append, List.nil_append, List.getElem?_cons_succ, List.getElem?_cons_zero, ix_tup, at3', setT_nm, List.set_cons_succ, List.set_cons_zero]
  refine ⟨by simp, by simp, fun bq hbq => ⟨by simp, ?_⟩⟩
  have ex0 : Ext h (up h bq (.lst [.tup [.str s_a, encT t]])) := Ext.new hbq
  have step : ∀ {a : Th} {j : Nat} {bs' : List (Sx × Th)} (acc : List (Sx × Th)) (h1 : AH) (Q' : VQ), Chn (FR (Sn wk n) w3) (HR (Sn wk n) w4) j a u bs' → h1 wr = some (.dct 0 wk) → acc ++ bs' = (qa, t) :: bs →
      (∀ h2 here, Ext h1 h2 → ((j = 0 ∧ here = .l u ∧ bs' = [(qb, u)]) ∨ ∃ m y z bs'', j = m + 1 ∧ here = .r y ∧ HR (Sn wk n) w4 y z ∧ Chn (FR (Sn wk n) w3) (HR (Sn wk n) w4) m (.r z) u bs'' ∧ bs' = (qd, y) :: (qc, z) :: bs'') → Q' (encT here) h2) → run P (m + 1) s_forth [.tup [.ref rr, .ref wr], w3, encT a] h1 Q' X := by
    intro a j bs' acc h1 Q' c hw1 _ kk
    cases j with
    | zero => exact forth_ok hm c.1.1 hw1 fun h2 e2 => kk h2 _ e2 (.inl ⟨rfl, rfl, c.2⟩)
    | succ j =>
      obtain ⟨x, y, bs'', f, hh, c', e⟩ := c
      exact forth_ok hm f.1 hw1 fun h2 e2 => kk h2 _ e2 (.inr ⟨j, x, y, bs'', rfl, rfl, hh, c', e⟩)
  refine step (a := .l t) [(qa, t)] _ _ c (ex0 _ _ hw) rfl fun h1 here e1 hc => ?_
  simp only [wS]
  refine ⟨StI h (.tup [.ref rr, .ref wr]) (.tup [.str qoff, k1, k2, w3, w4]) (encT t) bq (FR (Sn wk n) w3) (HR (Sn wk n) w4) u ((qa, t) :: bs), ⟨j, [(qa, t)], here, none, bs, rfl, e1 _ _ up_same, rfl, ex0.trans e1, hc⟩, ?_⟩
  rintro j σ h2 ⟨acc, here, x, bs', rfl, eb, full, ex, hc⟩
  have lacc : acc.length ≤ 1001 := by
    have := congrArg List.length full
    simp only [List.length_append, List.length_cons] at this
    omega
  simp only [wT_eq, wE_cmp, wE_ix, wE_var, wE_int, wE_str, List.getElem?_cons_succ, List.getElem?_cons_zero, cmp_eq]
  rcases hc with ⟨rfl, rfl, rfl⟩ | ⟨m', y, z, bs'', rfl, rfl, hh, c', rfl⟩
  · simp only [encT, ix_tup, at0]
    refine eq_pureX (by simp [pureD]) (by simp [pureD]) (.inl (by simp [plain])) ?_
    rw [decide_eq_false (by simp)]
    simp only [b2_string, wSs_cons, wSs_nil, wS_ex, wS_ret, wE_mth, wE_tup, wE_str, wE_ix, wE_var, wE_int, wEs_cons, wEs_nil, List.getElem?_cons_succ, List.getElem?_cons_zero, ix_tup, at1, RT_rt]
    refine ⟨recv_lstM rfl eb, by simp, ?_⟩
    simp only [mth_append]
    rw [aLst_eq eb]
    refine ⟨by simp; omega, k bq _ (ex.mut hbq Ke.put) hbq ?_⟩
    rw [up_same, ← full, List.map_append]
    rfl
  · simp only [encT, ix_tup, at0]
    refine eq_pureX (by simp [pureD]) (by simp [pureD]) (.inl (by simp [plain])) ?_
    rw [decide_eq_true (by simp)]
    simp only [b1_string, wSs_cons, wSs_nil, wS_ex, wS_asg, wE_mth, wE_call, wE_ix, wE_tup, wE_str, wE_int, wEs_cons, wEs_nil, wE_var, List.getElem?_cons_succ, List.getElem?_cons_zero, ix_tup, at1, at3', at4', setT_nm, List.set_cons_succ, List.set_cons_zero]
    refine ⟨recv_lstM rfl eb, by simp, ?_⟩
    simp only [mth_append]
    rw [aLst_eq eb]
    refine ⟨by simp; omega, ?_⟩
    have ex3 : Ext h _ := ex.mut hbq (Ke.put (o := .lst (acc.map bdD ++ [.tup [.str s_d, encT y]])))
    have eb3 : up h2 bq (.lst (acc.map bdD ++ [.tup [.str s_d, encT y]])) bq = _ := up_same
    generalize up h2 bq (.lst (acc.map bdD ++ [.tup [.str s_d, encT y]])) = h3 at ex3 eb3 ⊢
    refine back_ok hm hh.1 (ex3 _ _ hw) fun h4 e4 => ?_
    refine ⟨recv_lstM rfl (e4 _ _ eb3), by simp, ?_⟩
    rw [aLst_eq (e4 _ _ eb3)]
    refine ⟨by simp; omega, by simp, ?_⟩
    have ex5 : Ext h _ := (ex3.trans e4).mut hbq (Ke.put (o := .lst (acc.map bdD ++ [.tup [.str s_d, encT y]] ++ [.tup [.str s_c, encT z]])))
    have eb5 : up h4 bq (.lst (acc.map bdD ++ [.tup [.str s_d, encT y]] ++ [.tup [.str s_c, encT z]])) bq = _ := up_same
    generalize up h4 bq (.lst (acc.map bdD ++ [.tup [.str s_d, encT y]] ++ [.tup [.str s_c, encT z]])) = h5 at ex5 eb5 ⊢
    refine step (a := .r z) (acc ++ [(qd, y), (qc, z)]) _ _ c' (ex5 _ _ hw) (by rw [← full]; simp) fun h6 here e6 hc => ?_
    refine ⟨m', by omega, acc ++ [(qd, y), (qc, z)], here, _, bs'', rfl, ?_, by rw [← full]; simp, ex5.trans e6, hc⟩
    rw [e6 _ _ eb5]
    simp [bdD]
def swB (s : Sx) : Sx := if s = qa then qb else if s = qb then qa else if s = qc then qd else qc
def swP (b : Sx × Th) : Sx × Th := (swB b.1, b.2)
/-- the string from the end -/
theorem chn_rev {F H F' H' : Th → Th → Prop} (hF : ∀ a b, F a b → F' b a) (hH : ∀ a b, H a b → H' b a) {t u : Th} : ∀ {n : Nat} {a : Th} {bs : List (Sx × Th)} (pre : List (Sx × Th)), (∀ b, F a b → ∃ j, Chn F' H' j b t (pre.reverse.map swP)) → Chn F H n a u bs →
    ∃ j bs', Chn F' H' j (.l u) t bs' ∧ (qa, u) :: bs' = (pre ++ bs).reverse.map swP
  | 0, a, bs, pre, r, ⟨f, e⟩ => by
    obtain ⟨j, c⟩ := r _ f
    refine ⟨j, _, c, ?_⟩
    subst e
    simp [swP, swB]
  | n + 1, a, bs, pre, r, ⟨x, y, bs', f, h, c, e⟩ => by
    obtain ⟨j, c1⟩ := r _ f
    obtain ⟨j2, bs2, c2, e2⟩ := chn_rev hF hH (pre ++ [(qd, x), (qc, y)]) (fun b fb => ⟨j + 1, ⟨y, x, pre.reverse.map swP, hF _ _ fb, hH _ _ h, c1, by simp [swP, swB]⟩⟩) c
    exact ⟨j2, bs2, c2, by rw [e2, e]; simp⟩
@[local simp] theorem LINE_eqF : LINE = 16777216 := rfl
/-! ### the feed -/
def fdD (s n : Int) (q : Nat) : List (D × D) := [(.str s_seed, .int s), (.str s_number, .int n), (.str s_left, .ref q)]
/-- a feed at p, its list at q -/
structure IsFeed (p q : Nat) (h : AH) : Prop where
  ex : ∃ (s n : Int) (ls : List Int), h p = some (.dct 0 (fdD s n q)) ∧ h q = some (.lst (ls.map .int)) ∧ 0 ≤ s ∧ s < 2147483647 ∧ 0 ≤ n ∧ ∀ l ∈ ls, 0 ≤ l
  ne : p ≠ q
/-- all but p and q stays -/
def Kf (p q : Nat) (h h' : AH) : Prop := ∀ a o, a ≠ p → a ≠ q → h a = some o → h' a = some o
theorem Kf.refl {p q : Nat} {h : AH} : Kf p q h h := fun _ _ _ _ e => e
theorem Kf.trans {p q : Nat} {h h1 h2 : AH} (x : Kf p q h h1) (y : Kf p q h1 h2) : Kf p q h h2 := fun a o n m e => y a o n m (x a o n m e)
theorem Kf.ext {p q : Nat} {h h' : AH} (x : Ext h h') : Kf p q h h' := fun a o _ _ e => x a o e
theorem IsFeed.kf {p q : Nat} {h h' : AH} (f : IsFeed p q h) (x : Ext h h') : IsFeed p q h' := by
  obtain ⟨⟨s, n, ls, e1, e2, r⟩, ne⟩ := f
  exact ⟨⟨s, n, ls, x _ _ e1, x _ _ e2, r⟩, ne⟩
theorem IsFeed.nep {p q a : Nat} {h : AH} (f : IsFeed p q h) (n : h a = none) : a ≠ p := fun z => by
  obtain ⟨⟨_, _, _, e1, _⟩, _⟩ := f
  subst z; rw [n] at e1; cases e1
theorem IsFeed.neq {p q a : Nat} {h : AH} (f : IsFeed p q h) (n : h a = none) : a ≠ q := fun z => by
  obtain ⟨⟨_, _, _, _, e1, _⟩, _⟩ := f
  subst z; rw [n] at e1; cases e1
theorem IsFeed.put {p q r : Nat} {o : Ob} {h : AH} (f : IsFeed p q h) (np : r ≠ p) (nq : r ≠ q) : IsFeed p q (up h r o) := by
  obtain ⟨⟨s, n, ls, e1, e2, r⟩, ne⟩ := f
  exact ⟨⟨s, n, ls, by rw [up_ne np.symm]; exact e1, by rw [up_ne nq.symm]; exact e2, r⟩, ne⟩
/-- what lay free before lies free -/
theorem Kf.none {p q a : Nat} {h h' : AH} (x : Kf p q h h') (np : a ≠ p) (nq : a ≠ q) (n : h' a = Option.none) : h a = Option.none := by
  cases e : h a with
  | none => rfl
  | some o =>
    have := x a o np nq e
    rw [n] at this; cases this
theorem fd_ix1 {p q : Nat} {s n : Int} {h : AH} {Q : VQ} (e : h p = some (.dct 0 (fdD s n q))) : opIx (.ref p) (.str s_seed) h Q = Q (.int s) h := by
  rw [ix_dct e]; simp [fdD, kvGet, keyOk]
theorem fd_ix2 {p q : Nat} {s n : Int} {h : AH} {Q : VQ} (e : h p = some (.dct 0 (fdD s n q))) : opIx (.ref p) (.str s_number) h Q = Q (.int n) h := by
  rw [ix_dct e]; simp [fdD, kvGet, keyOk]
theorem fd_ix3 {p q : Nat} {s n : Int} {h : AH} {Q : VQ} (e : h p = some (.dct 0 (fdD s n q))) : opIx (.ref p) (.str s_left) h Q = Q (.ref q) h := by
  rw [ix_dct e]; simp [fdD, kvGet, keyOk]
theorem fd_set1 {p q : Nat} {s n s' : Int} {h : AH} {Q : AH → Prop} (e : h p = some (.dct 0 (fdD s n q))) : opSet (.ref p) (.str s_seed) (.int s') h Q = Q (up h p (.dct 0 (fdD s' n q))) := by
  rw [set_dct e]; simp [fdD, kvPut, keyOk]
theorem fd_set2 {p q : Nat} {s n n' : Int} {h : AH} {Q : AH → Prop} (e : h p = some (.dct 0 (fdD s n q))) : opSet (.ref p) (.str s_number) (.int n') h Q = Q (up h p (.dct 0 (fdD s n' q))) := by
  rw [set_dct e]; simp [fdD, kvPut, keyOk]
def DrW (p q : Nat) (many : Int) (h0 : AH) (m : Nat) (σ : St) (h : AH) : Prop := ∃ (s n : Int) (ls : List Int), σ = [some (.ref p), some (.int many), none, none, none] ∧ h p = some (.dct 0 (fdD s n q)) ∧ h q = some (.lst (ls.map .int)) ∧ 0 ≤ s ∧ s < 2147483647 ∧ 0 ≤ n ∧ (∀ l ∈ ls, 0 ≤ l) ∧ Kf p q h0 h ∧ m = ls.length
theorem draw_ok {m p q : Nat} {many : Int} {h : AH} {Q : VQ} {X : XP} (hf : IsFeed p q h) (hm : 0 < many) (hm2 : many < 2 ^ 60)
    (k : ∀ v h', 0 ≤ v → v < many → IsFeed p q h' → Kf p q h h' → Q (.int v) h') : run P (m + 1) s__law_draw [.ref p, .int many] h Q X := by
  obtain ⟨⟨s, n, ls, e1, e2, s0, s1, n0, l0⟩, ne⟩ := hf
  refine run_of (fd := fd_law_draw) rfl rfl ?_
  simp only [fd_law_draw, start, b0_law_draw, wSs_cons]
  simp only [wS]
  refine ⟨DrW p q many h, ⟨_, s, n, ls, rfl, e1, e2, s0, s1, n0, l0, .refl, rfl⟩, ?_⟩
  rintro j σ h1 ⟨s, n, ls, rfl, e1, e2, s0, s1, n0, l0, kf, rfl⟩
  have done : ∀ (B : St → AH → Prop), n ≠ 0 ∨ ls = [] → wSs ⟨run P m, X⟩ b2_law_draw (RT Q) [some (.ref p), some (.int many), none, none, none] h1 := by
    intro B hz
    simp [b2_law_draw]
    rw [fd_ix2 e1]
    simp
    by_cases z : 0 < n
    · rw [decide_eq_true z]
      simp [b3_law_draw]
      refine ⟨by unfold divOk; omega, ?_⟩
      rw [fd_set2 e1]
      refine ⟨hm, ?_⟩
      refine k _ _ (Int.emod_nonneg _ (by omega)) (Int.emod_lt_of_pos _ hm) ⟨⟨s, n / many, ls, up_same, by rw [up_ne ne.symm]; exact e2, s0, s1, Int.ediv_nonneg n0 (by omega), l0⟩, ne⟩ fun a o np nq e => ?_
      rw [up_ne np]; exact kf a o np nq e
    · rw [decide_eq_false z]
      simp [b4_law_draw]
      rw [fd_ix1 e1]
      simp
      have m0 := Int.emod_nonneg (s * 48271 + 7919) (show (2147483647 : Int) ≠ 0 by decide)
      have m1 := Int.emod_lt_of_pos (s * 48271 + 7919) (show (0 : Int) < 2147483647 by decide)
      generalize (s * 48271 + 7919) % 2147483647 = one at m0 m1 ⊢
      refine ⟨.inl (by omega), .inl (by omega), ?_⟩
      rw [fd_set1 e1]
      have o0 := Int.emod_nonneg (one * 40692 + 104729) (show (2147483399 : Int) ≠ 0 by decide)
      have o1 := Int.emod_lt_of_pos (one * 40692 + 104729) (show (0 : Int) < 2147483399 by decide)
      generalize (one * 40692 + 104729) % 2147483399 = s' at o0 o1 ⊢
      have e3 : (up h1 p (.dct 0 (fdD s' n q))) p = some (.dct 0 (fdD s' n q)) := up_same
      rw [fd_ix1 e3, fd_ix1 e3]
      have p1 := Int.emod_nonneg (one * one) (show (2147483629 : Int) ≠ 0 by decide)
      have p2 := Int.emod_lt_of_pos (one * one) (show (0 : Int) < 2147483629 by decide)
      generalize one * one % 2147483629 = pp at p1 p2 ⊢
      simp
      refine ⟨.inl (by omega), .inl (by omega), .inl (by omega), hm, ?_⟩
      refine k _ _ (Int.emod_nonneg _ (by omega)) (Int.emod_lt_of_pos _ hm) ⟨⟨s', n, ls, e3, by rw [up_ne ne.symm]; exact e2, o0, by omega, n0, l0⟩, ne⟩ fun a o np nq e => ?_
      rw [up_ne np]; exact kf a o np nq e
  simp
  rw [fd_ix2 e1]
  simp
  by_cases z : n = 0
  · subst z
    simp
    rw [fd_ix3 e1]
    rw [len_lst e2]
    rcases List.eq_nil_or_concat ls with zl | ⟨ms, u, zl⟩
    · subst zl
      simp
      exact done (fun _ _ => True) (.inr rfl)
    · rw [List.concat_eq_append] at zl
      subst zl
      rw [decide_eq_true (by simp)]
      simp [b1_law_draw]
      rw [fd_ix3 e1]
      refine ⟨recv_ok (by simp) (by simp) e2, ?_⟩
      rw [aLst_eq e2]
      have e9 : ((ms ++ [u]).map D.int)[((ms ++ [u]).map D.int).length - 1]? = some (.int u) := by simp
      rw [e9]
      simp
      have e3 : (up h1 q (.lst (ms.map .int))) p = some (.dct 0 (fdD s 0 q)) := by rw [up_ne ne]; exact e1
      rw [fd_set2 e3]
      refine ⟨ms.length, by simp, s, u, ms, rfl, up_same, by rw [up_ne ne.symm]; exact up_same, s0, s1, l0 u (by simp), fun l hl => l0 l (by simp [hl]), fun a o np nq e => ?_, rfl⟩
      rw [up_ne np, up_ne nq]; exact kf a o np nq e
  · rw [decide_eq_false (by simpa using z)]
    exact done (fun _ _ => True) (.inl z)
@[local simp] theorem LINE_eqB49 : LINE = 16777216 := rfl
def DlI (sc d : D) (r : Nat) (vs : List Int) (h0 : AH) (_ : Nat) : St → AH → Prop := fun σ h => ∃ (nm : Int) (x : Option D), σ = [some sc, some d, some (.ref r), some (.int nm), x] ∧ h r = some (.lst (vs.map .int)) ∧ Ext h0 h ∧ 0 ≤ nm ∧ nm < 2147483647
theorem comp_abs {vs : List Int} {ok : AH → Prop} {body : D → AH → (D → AH → Prop) → (AH → Prop) → Prop} {done : List D → AH → Prop} {h0 : AH} (hz : vs.length ≤ LINE) (hok : ∀ h, Ext h0 h → ok h)
    (hb : ∀ v h yes no, Ext h0 h → (∀ w : Int, 0 ≤ w → yes (.int w) h) → body (.int v) h yes no) (hd : ∀ (ws : List Int) h', ws.length ≤ vs.length → (∀ w ∈ ws, 0 ≤ w) → Ext h0 h' → done (ws.map .int) h') : compW (vs.map .int) ok body done h0 := by
  refine ⟨fun i acc h => ∃ ws : List Int, acc = ws.map .int ∧ ws.length ≤ i ∧ (∀ w ∈ ws, 0 ≤ w) ∧ Ext h0 h, ⟨[], rfl, Nat.le_refl 0, by simp, .refl⟩, ?_, by rw [List.length_map]; exact hz, ?_, ?_⟩
  · rintro i acc h ⟨ws, rfl, l, a, ex⟩
    exact ⟨hok h ex, by simpa using l⟩
  · rintro i x acc h e ⟨ws, rfl, l, a, ex⟩
    obtain ⟨v, hv, rfl⟩ := map_at e
    refine hb v h _ _ ex fun w w0 => ⟨ws ++ [w], by simp, by simp; omega, fun z hz => ?_, ex⟩
    rcases List.mem_append.mp hz with hz | hz
    · exact a z hz
    · rw [List.mem_singleton.mp hz]; exact w0
  · rintro acc h ⟨ws, rfl, l, a, ex⟩
    rw [List.length_map] at l
    exact hd ws h l a ex
theorem comp_flt {vs : List Int} {ok : AH → Prop} {body : D → AH → (D → AH → Prop) → (AH → Prop) → Prop} {done : List D → AH → Prop} {h0 : AH} (hz : vs.length ≤ LINE) (hok : ∀ h, Ext h0 h → ok h)
    (hb : ∀ v h yes no, Ext h0 h → yes (.int v) h → no h → body (.int v) h yes no) (hd : ∀ (ws : List Int) h', (∀ w ∈ ws, w ∈ vs) → ws.length ≤ vs.length → Ext h0 h' → done (ws.map .int) h') : compW (vs.map .int) ok body done h0 := by
  refine ⟨fun i acc h => ∃ ws : List Int, acc = ws.map .int ∧ ws.length ≤ i ∧ (∀ w ∈ ws, w ∈ vs) ∧ Ext h0 h, ⟨[], rfl, Nat.le_refl 0, by simp, .refl⟩, ?_, by rw [List.length_map]; exact hz, ?_, ?_⟩
  · rintro i acc h ⟨ws, rfl, l, a, ex⟩
    exact ⟨hok h ex, by simpa using l⟩
  · rintro i x acc h e ⟨ws, rfl, l, a, ex⟩
    obtain ⟨v, hv, rfl⟩ := map_at e
    refine hb v h _ _ ex ⟨ws ++ [v], by simp, by simp; omega, fun z hz => ?_, ex⟩ ⟨ws, rfl, by omega, a, ex⟩
    rcases List.mem_append.mp hz with hz | hz
    · exact a z hz
    · rw [List.mem_singleton.mp hz]; exact List.mem_of_getElem? hv
  · rintro acc h ⟨ws, rfl, l, a, ex⟩
    rw [List.length_map] at l
    exact hd ws h a l ex
theorem cut_map {ns : List Int} {lo hi : Option Int} : cut (ns.map D.int) lo hi = (cut ns lo hi).map .int := by
  simp [cut, List.map_take, List.map_drop]
theorem deal_ok {n : Nat} {ns : List Int} {h : AH} {Q : VQ} {X : XP} (k : ∀ p q h', h p = none → h q = none → Ext h h' → IsFeed p q h' → Q (.ref p) h') : run P (n + 1) s__law_deal [.rol (ns.map .int), .int 0] h Q X := by
  refine run_of (fd := fd_law_deal) rfl rfl ?_
  simp [fd_law_deal, start, b0_law_deal]
  intro r hr
  have x1 : Ext h (up h r (.lst (cut (ns.map D.int) (some 0) (some 63)))) := Ext.new hr
  rw [walk_lst up_same, cut_map]
  have l63 : (cut ns (some 0) (some 63)).length ≤ 63 := by simp [cut, clip]; omega
  rw [cut_map] at x1
  refine comp_abs (by simp; omega) (fun h2 x2 => x2 _ _ up_same) (fun v h2 yes no x2 ky => ?_) fun ws h2 lw w0 x2 => ?_
  · simp [anInt]
    refine ky _ ?_
    split <;> omega
  · intro r2 hr2
    have x3 : Ext h (up h2 r2 (.lst (ws.map .int))) := (x1.trans x2).trans (Ext.new hr2)
    rw [walk_lst up_same]
    refine ⟨fun i => DlI (.rol (ns.map .int)) (.int 0) r2 ws h i, ⟨7919, none, rfl, up_same, x3, by omega, by omega⟩, ?_, ?_, ?_⟩
    · rintro i σ h3 ⟨nm, x, rfl, er, ex, n0, n1⟩
      exact er
    · rintro i x σ h3 hx ⟨nm, x4, rfl, er, ex, n0, n1⟩
      obtain ⟨v, hv, rfl⟩ := map_at hx
      simp [b1_law_deal]
      exact ⟨.inl (by omega), _, _, rfl, er, ex, Int.emod_nonneg _ (by omega), Int.emod_lt_of_pos _ (by omega)⟩
    · rintro σ h3 ⟨nm, x4, rfl, er, ex, n0, n1⟩
      simp [b2_law_deal]
      intro p hp
      have pr2 : r2 ≠ p := ne_new er hp
      have xp : Ext h3 (up h3 p (.dct 0 [])) := Ext.new hp
      rw [walk_lst (xp _ _ er)]
      refine comp_flt (by simp; omega) (fun h4 x4 => x4 _ _ (xp _ _ er)) (fun v h4 yes no x4 ky kn => ?_) fun us h4 mu lu x4 => ?_
      · simp
        refine ⟨by unfold powOk; decide, ?_⟩
        by_cases z : v ≥ 1000000000000000000
        · simp [z]; exact ky
        · simp [z]; exact kn
      · intro r5 hr5
        rw [aLst_eq up_same]
        intro q hq
        have x5 : Ext (up h3 p (.dct 0 [])) (up h4 r5 (.lst (us.map .int))) := x4.trans (Ext.new hr5)
        have x6 : Ext (up h3 p (.dct 0 [])) (up (up h4 r5 (.lst (us.map .int))) q (.lst (us.map D.int).reverse)) := x5.trans (Ext.new hq)
        have pq : p ≠ q := ne_new (x5 _ _ up_same) hq
        refine ⟨x6 _ _ up_same, ?_⟩
        have ep : pairUp [D.str s_seed, D.int nm, D.str s_number, D.int 0, D.str s_left, D.ref q] = some [(.str s_seed, .int nm), (.str s_number, .int 0), (.str s_left, .ref q)] := rfl
        rw [ep, aSome_eq]
        refine ⟨rfl, ?_⟩
        have em : mergeL [] [(D.str s_seed, D.int nm), (.str s_number, .int 0), (.str s_left, .ref q)] = fdD nm 0 q := by simp [mergeL, kvPut, fdD]
        rw [em]
        have hp0 : h p = none := fresh_back ex hp
        refine k p q _ hp0 (fresh_back (ex.trans (xp.trans x5)) hq) ?_ ⟨⟨nm, 0, us.reverse, up_same, by rw [up_ne pq.symm, up_same]; simp, n0, n1, by omega, fun l hl => w0 l (mu l (List.mem_reverse.mp hl))⟩, pq⟩
        exact (ex.trans (xp.trans x6)).mut hp0 .put
theorem strs_pure : ∀ ss : List Sx, pureDs (ss.map D.str) = true
  | [] => rfl
  | s :: r => by simp [pureDs, pureD, strs_pure r]
theorem strsOf_map : ∀ ss : List Sx, strsOf (ss.map .str) = some ss
  | [] => rfl
  | s :: r => by
    rw [List.map_cons]
    simp [strsOf, strsOf_map r]
/-! ### words -/
def abc : Sx := (List.range 26).map fun i => 97 + i
theorem abc_eq : s_abcdefghijklmnopqrstuvwxyz = abc := by decide
theorem abc_at {i : Nat} (h : i < 26) : abc[i]? = some (97 + i) := by simp [abc, h]
theorem abc_at' {i c : Nat} (h : abc[i]? = some c) : c = 97 + i := by
  have l : i < 26 := by have := (List.getElem?_eq_some_iff.mp h).1; simpa [abc] using this
  rw [abc_at l] at h
  exact (Option.some.inj h).symm
theorem atI_abc {v : Int} (v0 : 0 ≤ v) (v1 : v < 26) : atI abc v = some (97 + v.toNat) := by
  unfold atI
  rw [if_pos v0]
  exact abc_at (by omega)
/-- a word drawn -/
def Wd (w : Sx) : Prop := 1 ≤ w.length ∧ w.length ≤ 8 ∧ ∀ c ∈ w, 97 ≤ c ∧ c < 123
theorem joinN : ∀ ss : List Sx, joinS [] ss = ss.flatten
  | [] => rfl
  | [p] => by simp [joinS]
  | p :: q :: r => by
    rw [joinS, joinN (q :: r)]
    simp
theorem ones_len : ∀ {ss : List Sx}, (∀ s ∈ ss, s.length = 1) → (ss.map (·.length)).sum = ss.length ∧ ss.flatten.length = ss.length
  | [], _ => by simp
  | s :: r, a => by
    obtain ⟨h1, h2⟩ := ones_len (ss := r) fun x hx => a x (List.mem_cons_of_mem _ hx)
    have := a s List.mem_cons_self
    simp [h1, h2, this]
    omega
theorem abc_sidx {c : Nat} {h : AH} {Q : VQ} (h0 : 97 ≤ c) (h1 : c < 123) (k : Q (.int (c - 97 : Nat)) h) : opMth .sindex (.str abc) [.str [c]] h Q := by
  rw [mth_sindex]
  refine ⟨c, rfl, ?_, fun i hi => ?_⟩
  · have := abc_at (i := c - 97) (by omega)
    have e : 97 + (c - 97) = c := by omega
    rw [e] at this
    exact List.mem_of_getElem? this
  · have := abc_at' hi
    have e : c - 97 = i := by omega
    rw [e] at k
    exact k
/-- the next letter ahead -/
def nxW (w : Sx) : Sx := match w with
  | [] => []
  | c :: r => (97 + (c - 97 + 1) % 26) :: r
theorem nxW_wd {w : Sx} (h : Wd w) : Wd (nxW w) ∧ nxW w ≠ w := by
  obtain ⟨h1, h2, h3⟩ := h
  cases w with
  | nil => simp at h1
  | cons c r =>
    obtain ⟨c0, c1⟩ := h3 c List.mem_cons_self
    refine ⟨⟨by simp [nxW], by simpa [nxW] using h2, fun x hx => ?_⟩, fun e => ?_⟩
    · rcases List.mem_cons.mp hx with rfl | hx
      · have := Nat.mod_lt (c - 97 + 1) (show 26 > 0 by omega)
        omega
      · exact h3 x (List.mem_cons_of_mem _ hx)
    · simp only [nxW, List.cons.injEq, and_true] at e
      omega
def WsI (p q r : Nat) (h0 : AH) (m : Nat) : St → AH → Prop := fun σ h => ∃ (fs : List Sx) (x4 x5 : Option D), σ = [some (.ref p), some (.int 2), some (.str abc), some (.ref r), x4, x5] ∧ h r = some (.lst (fs.map .str)) ∧ (∀ w ∈ fs, Wd w) ∧ fs.Nodup ∧ m + fs.length = 2 ∧ IsFeed p q h ∧ Kf p q h0 h
def WsJ (p q r : Nat) (h0 : AH) (fs : List Sx) (m : Nat) : St → AH → Prop := fun σ h => ∃ (w : Sx) (x5 : Option D), σ = [some (.ref p), some (.int 2), some (.str abc), some (.ref r), some (.str w), x5] ∧ h r = some (.lst (fs.map .str)) ∧ Wd w ∧ IsFeed p q h ∧ Kf p q h0 h ∧ (m = 0 → w ∉ fs)
def WcI (p q : Nat) (h : AH) (i : Nat) (acc : List D) (h' : AH) : Prop := ∃ ss : List Sx, acc = ss.map .str ∧ ss.length = i ∧ (∀ s ∈ ss, ∃ c, s = [c] ∧ 97 ≤ c ∧ c < 123) ∧ IsFeed p q h' ∧ Kf p q h h'
theorem words_ok {n p q : Nat} {h : AH} {Q : VQ} {X : XP} (hf : IsFeed p q h) (k : ∀ r w1 w2 h', h r = none → IsFeed p q h' → Kf p q h h' → Wd w1 → Wd w2 → w1 ≠ w2 → h' r = some (.lst [.str w1, .str w2]) → Q (.ref r) h') : run P (n + 2) s__law_words [.ref p, .int 2] h Q X := by
  refine run_of (fd := fd_law_words) rfl rfl ?_
  simp [fd_law_words, start, b0_law_words]
  rw [abc_eq]
  intro r hr
  have rp := hf.nep hr
  have rq := hf.neq hr
  simp only [wS]
  refine ⟨fun m σ h' => WsI p q r h m σ h', ⟨2, [], none, none, rfl, up_same, by simp, List.nodup_nil, rfl, hf.put rp rq, .ext (Ext.new hr)⟩, ?_⟩
  rintro m σ h1 ⟨fs, x4, x5, rfl, er, wd, nd, hm, f1, k1⟩
  simp
  rw [len_lst er]
  rw [List.length_map]
  by_cases z : fs.length < 2
  · have z2 : (fs.length : Int) < 2 := by omega
    rw [decide_eq_true z2]
    simp [b1_law_words]
    refine draw_ok (m := n) f1 (by decide) (by decide) fun v h2 v0 v1 f2 k2 => ?_
    refine ⟨by omega, by omega, comp_rng (fun i acc h' => WcI p q h2 i acc h') ⟨[], rfl, rfl, (fun s hs => nomatch hs), f2, .refl⟩ ?_ (by simp; omega) ?_ ?_⟩
    · rintro i acc h' ⟨ss, rfl, l, _⟩
      exact ⟨trivial, by simp [l]⟩
    · rintro i acc h3 hi ⟨ss, rfl, l, a1, f3, k3⟩
      refine draw_ok (m := n) f3 (by decide) (by decide) fun u h4 u0 u1 f4 k4 => ?_
      refine ⟨by simp [abc], ?_⟩
      rw [atI_abc u0 u1]
      refine ⟨ss ++ [[97 + u.toNat]], by simp, by simp [l], fun s hs => ?_, f4, k3.trans k4⟩
      rcases List.mem_append.mp hs with hs | hs
      · exact a1 s hs
      · exact ⟨_, List.mem_singleton.mp hs, by omega, by omega⟩
    · rintro acc h3 ⟨ss, rfl, l, a1, f3, k3⟩
      intro r2 hr2
      have r2p := f3.nep hr2
      have r2q := f3.neq hr2
      rw [seq_lst up_same, aSome_eq, strsOf_map, aSome_eq, joinN]
      obtain ⟨e1, e2⟩ := ones_len (ss := ss) fun s hs => by obtain ⟨c, rfl, _⟩ := a1 s hs; rfl
      refine ⟨by simp [e1]; omega, ?_⟩
      have wd0 : Wd ss.flatten := ⟨by omega, by omega, fun c hc => by
        obtain ⟨s, hs, hc⟩ := List.mem_flatten.mp hc
        obtain ⟨c', rfl, g⟩ := a1 s hs
        rw [List.mem_singleton.mp hc]; exact g⟩
      have er3 : h3 r = some (.lst (fs.map .str)) := k3 _ _ rp rq (k2 _ _ rp rq er)
      have rr2 : r ≠ r2 := ne_new er3 hr2
      have kk : Kf p q h (up h3 r2 (.lst (ss.map .str))) := ((k1.trans k2).trans k3).trans (.ext (Ext.new hr2))
      simp only [wS]
      refine ⟨fun m σ h' => WsJ p q r h fs m σ h', ⟨1, ss.flatten, x5, rfl, by rw [up_ne rr2]; exact er3, wd0, f3.put r2p r2q, kk, fun z => by omega⟩, ?_⟩
      rintro j σ h4 ⟨w, x5, rfl, er4, wdw, f4, k4, hj⟩
      have ma : ((fs.map D.str).any fun y => decide (y = D.str w)) = decide (w ∈ fs) := by
        by_cases z : w ∈ fs
        · rw [decide_eq_true z, List.any_eq_true]
          exact ⟨_, List.mem_map.mpr ⟨w, z, rfl⟩, by simp⟩
        · rw [decide_eq_false z, List.any_eq_false]
          intro y hy
          obtain ⟨u, hu, rfl⟩ := List.mem_map.mp hy
          simp
          rintro rfl
          exact z hu
      simp
      rw [mem_lst' er4, ma]
      refine ⟨rfl, strs_pure _, .inl (by simp [plain]), ?_⟩
      by_cases zw : w ∈ fs
      · rw [decide_eq_true zw]
        have j1 : j ≠ 0 := fun e => hj e zw
        simp [b2_law_words]
        obtain ⟨l1, l2, lc⟩ := wdw
        obtain ⟨c, w', rfl⟩ : ∃ c w', w = c :: w' := by cases w with
          | nil => simp at l1
          | cons c w' => exact ⟨c, w', rfl⟩
        obtain ⟨c0, c1⟩ := lc c List.mem_cons_self
        have ec : atI (c :: w') 0 = some c := rfl
        rw [ec]
        have l2' : w'.length + 1 ≤ 8 := by simpa using l2
        refine ⟨by simp; omega, ?_, fun i hi => ?_⟩
        · have := abc_at (i := c - 97) (by omega)
          have e : 97 + (c - 97) = c := by omega
          rw [e] at this
          exact List.mem_of_getElem? this
        · have ei := abc_at' hi
          refine ⟨by simp [abc], ?_⟩
          have cut1 : cut (c :: w') (some 1) none = w' := by simp [cut, clip]
          have m0 := Int.emod_nonneg ((i : Int) + 1) (show (26 : Int) ≠ 0 by decide)
          have m1 := Int.emod_lt_of_pos ((i : Int) + 1) (show (0 : Int) < 26 by decide)
          rw [atI_abc m0 m1, cut1]
          obtain ⟨n1, n2⟩ := nxW_wd (w := c :: w') ⟨l1, l2, lc⟩
          have en : nxW (c :: w') = (97 + (((i : Int) + 1) % 26).toNat) :: w' := by
            simp only [nxW]
            congr 2
            omega
          rw [en] at n1 n2
          refine ⟨by simp; omega, by omega, 0, by omega, _, _, rfl, er4, n1, f4, k4, fun _ hm2 => ?_⟩
          match fs, z, zw, hm2 with
          | [], _, zw, _ => cases zw
          | [u], _, zw, hm2 =>
            rw [List.mem_singleton] at zw hm2
            exact n2 (hm2.trans zw.symm)
          | _ :: _ :: _, z, _, _ => simp at z; omega
      · rw [decide_eq_false zw]
        simp [b3_law_words]
        refine ⟨recv_ok (by simp) (by simp) er4, ?_⟩
        rw [aLst_eq er4]
        refine ⟨by simp; omega, m - 1, by omega, fs ++ [w], _, _, rfl, by rw [up_same]; simp, fun u hu => ?_, ?_, by simp; omega, f4.put rp rq, fun a o np nq e => ?_⟩
        · rcases List.mem_append.mp hu with hu | hu
          · exact wd u hu
          · rw [List.mem_singleton.mp hu]; exact wdw
        · rw [List.nodup_append]
          exact ⟨nd, by simp, fun a ha b hb e => zw (by rw [List.mem_singleton.mp hb] at e; rw [← e]; exact ha)⟩
        · rw [up_ne (ne_new e hr)]
          exact k4 a o np nq e
  · have z2 : ¬ (fs.length : Int) < 2 := by omega
    rw [decide_eq_false z2]
    simp [b4_law_words]
    match fs, z, er, wd, nd, hm with
    | [w1, w2], _, er, wd, nd, _ =>
      exact k r w1 w2 h1 hr f1 k1 (wd w1 (by simp)) (wd w2 (by simp)) (by simp at nd; exact nd) er
    | [], z, _, _, _, _ => simp at z
    | [_], z, _, _, _, _ => simp at z
    | _ :: _ :: _ :: _, _, _, _, _, hm => simp at hm; omega
/-! ### leaves of a tree -/
inductive BT where
  | lf | nd (l r : BT)
abbrev cl : Nat := 108
abbrev cr : Nat := 114
def BT.ps : BT → List Sx
  | .lf => [[]]
  | .nd l r => l.ps.map (cl :: ·) ++ r.ps.map (cr :: ·)
theorem BT.pos : ∀ t : BT, 0 < t.ps.length
  | .lf => by simp [ps]
  | .nd l r => by have := l.pos; simp [ps]; omega
/-- a leaf forked -/
theorem BT.fork : ∀ (t : BT) (k : Nat) (p : Sx), t.ps[k]? = some p → ∃ t' : BT, t'.ps = t.ps.take k ++ [p ++ [cl], p ++ [cr]] ++ t.ps.drop (k + 1)
  | .lf, k, p, h => by
    cases k with
    | zero => simp [ps] at h; subst h; exact ⟨.nd .lf .lf, by simp [ps]⟩
    | succ k => simp [ps] at h
  | .nd l r, k, p, h => by
    simp only [ps] at h
    by_cases z : k < l.ps.length
    · rw [List.getElem?_append_left (by simpa using z), List.getElem?_map] at h
      cases e : l.ps[k]? with
      | none => rw [e] at h; cases h
      | some q =>
        rw [e] at h
        simp at h
        subst h
        obtain ⟨l', hl⟩ := l.fork k q e
        refine ⟨.nd l' r, ?_⟩
        simp only [ps, hl]
        rw [List.take_append_of_le_length (by simp; omega), List.drop_append_of_le_length (by simp; omega)]
        simp [List.map_take, List.map_drop]
    · rw [List.getElem?_append_right (by simp; omega), List.getElem?_map, List.length_map] at h
      cases e : r.ps[k - l.ps.length]? with
      | none => rw [e] at h; cases h
      | some q =>
        rw [e] at h
        simp at h
        subst h
        obtain ⟨r', hr⟩ := r.fork _ q e
        refine ⟨.nd l r', ?_⟩
        simp only [ps, hr]
        have l1 : (l.ps.map (cl :: ·)).length = l.ps.length := by simp
        rw [List.drop_append, List.take_append, l1]
        have d1 : (l.ps.map (cl :: ·)).drop (k + 1) = [] := List.drop_eq_nil_of_le (by simp; omega)
        have d2 : (l.ps.map (cl :: ·)).take k = l.ps.map (cl :: ·) := List.take_of_length_le (by simp; omega)
        have d3 : k + 1 - l.ps.length = k - l.ps.length + 1 := by omega
        rw [d1, d2, d3]
        simp [List.map_take, List.map_drop]
/-- as deep, so many -/
theorem BT.many : ∀ (d : Nat) (t : BT), (∀ p ∈ t.ps, d ≤ p.length) → 2 ^ d ≤ t.ps.length
  | 0, t, _ => t.pos
  | d + 1, .lf, h => by have := h [] (by simp [ps]); simp at this
  | d + 1, .nd l r, h => by
    have h1 := BT.many d l fun p hp => by have := h (cl :: p) (by simp [ps, hp]); simpa using this
    have h2 := BT.many d r fun p hp => by have := h (cr :: p) (by simp [ps, hp]); simpa using this
    simp only [ps, List.length_append, List.length_map, Nat.pow_succ]
    omega
theorem BT.short {t : BT} (h : t.ps.length < 1024) : ∃ (k : Nat) (p : Sx), t.ps[k]? = some p ∧ p.length < 10 := by
  refine Classical.byContradiction fun z => ?_
  have := BT.many 10 t fun p hp => by
    obtain ⟨k, hk⟩ := List.getElem?_of_mem hp
    refine Nat.le_of_not_lt fun l => z ⟨k, p, hk, l⟩
  omega
def BT.ok (t : BT) : Prop := ∀ p ∈ t.ps, p.length ≤ 10
def LvI (p q : Nat) (many : Nat) (h0 : AH) (m : Nat) : St → AH → Prop := fun σ h => ∃ (t : BT) (r : Nat) (x4 x5 : Option D), σ = [some (.ref p), some (.int (many : Int)), some (.int 10), some (.ref r), x4, x5] ∧ h r = some (.lst (t.ps.map .str)) ∧ h0 r = none ∧ t.ok ∧ m + t.ps.length = many ∧ IsFeed p q h ∧ Kf p q h0 h
def LcI (ps : List Sx) (h0 : AH) (i : Nat) (acc : List D) (h : AH) : Prop := h = h0 ∧ ∃ ks : List Nat, acc = ks.map (fun k : Nat => D.int (k : Int)) ∧ ks.length ≤ i ∧ (∀ k ∈ ks, ∃ p, ps[k]? = some p ∧ p.length < 10) ∧ ∀ k p, k < i → ps[k]? = some p → p.length < 10 → k ∈ ks
theorem leaves_ok {n p q many : Nat} {h : AH} {Q : VQ} {X : XP} (hf : IsFeed p q h) (m1 : 1 ≤ many) (m2 : many ≤ 20) (k : ∀ r (t : BT) h', h r = none → IsFeed p q h' → Kf p q h h' → t.ok → t.ps.length = many → h' r = some (.lst (t.ps.map .str)) → Q (.ref r) h') :
    run P (n + 2) s__law_leaves [.ref p, .int (many : Nat), .int 10] h Q X := by
  refine run_of (fd := fd_law_leaves) rfl rfl ?_
  simp [fd_law_leaves, start, b0_law_leaves]
  intro r0 hr0
  simp only [wS]
  refine ⟨fun m σ h' => LvI p q many h m σ h', ⟨many - 1, .lf, r0, none, none, rfl, up_same, hr0, (fun p hp => by simp [BT.ps] at hp; subst hp; simp), by simp [BT.ps]; omega, hf.put (hf.nep hr0) (hf.neq hr0), .ext (Ext.new hr0)⟩, ?_⟩
  rintro m σ h1 ⟨t, r, x4, x5, rfl, er, hr, tok, hm, f1, k1⟩
  simp
  rw [len_lst er, List.length_map]
  by_cases z : t.ps.length < many
  · rw [decide_eq_true z]
    simp [b1_law_leaves]
    rw [len_lst er, List.length_map]
    refine ⟨by omega, comp_rng (fun i acc h' => LcI t.ps h1 i acc h') ⟨rfl, [], rfl, Nat.le_refl 0, by simp, fun k p hk => absurd hk (by omega)⟩ ?_ (by simp; omega) ?_ ?_⟩
    · rintro i acc h' ⟨rfl, ks, rfl, l, _⟩
      exact ⟨trivial, by simp; omega⟩
    · rintro i acc h2 hi ⟨rfl, ks, rfl, l, a, b⟩
      have li : i < t.ps.length := by omega
      obtain ⟨p', hp'⟩ : ∃ p', t.ps[i]? = some p' := ⟨_, List.getElem?_eq_getElem li⟩
      have lp := tok p' (List.mem_of_getElem? hp')
      have ea : atI (t.ps.map D.str) (0 + (i : Int)) = some (.str p') := by
        unfold atI
        rw [if_pos (by omega)]
        have : (0 + (i : Int)).toNat = i := by omega
        rw [this, List.getElem?_map, hp']
        rfl
      rw [ix_lst er, ea]
      simp
      refine ⟨by omega, ?_⟩
      by_cases zp : p'.length < 10
      · have zp' : (p'.length : Int) < 10 := by omega
        rw [decide_eq_true zp']
        refine ⟨rfl, ks ++ [i], by simp, by simp; omega, fun k' hk => ?_, fun k' p2 hk e hl => ?_⟩
        · rcases List.mem_append.mp hk with hk | hk
          · exact a k' hk
          · rw [List.mem_singleton.mp hk]; exact ⟨p', hp', zp⟩
        · by_cases z9 : k' = i
          · subst z9; simp
          · exact List.mem_append_left _ (b k' p2 (by omega) e hl)
      · have zp' : ¬ (p'.length : Int) < 10 := by omega
        rw [decide_eq_false zp']
        refine ⟨rfl, ks, rfl, by omega, a, fun k' p2 hk e hl => ?_⟩
        by_cases z9 : k' = i
        · subst z9; rw [hp'] at e; cases e; exact absurd hl zp
        · exact b k' p2 (by omega) e hl
    · rintro acc h2 ⟨rfl, ks, rfl, l, a, b⟩
      intro r2 hr2
      rw [len_lst up_same, List.length_map]
      obtain ⟨k0, p0, e0, l0⟩ := BT.short (t := t) (by omega)
      have lk : k0 < t.ps.length := (List.getElem?_eq_some_iff.mp e0).1
      have mk := b k0 p0 (by omega) e0 l0
      have kpos := List.length_pos_of_mem mk
      have r2p := f1.nep hr2
      have r2q := f1.neq hr2
      have lks : ks.length ≤ 20 := by omega
      refine draw_ok (m := n) (f1.put r2p r2q) (by omega) (by omega) fun v h3 v0 v1 f3 k3 => ?_
      obtain ⟨kk, hkk⟩ : ∃ kk, ks[v.toNat]? = some kk := ⟨_, List.getElem?_eq_getElem (by omega)⟩
      have ea : atI (ks.map fun k : Nat => D.int (k : Int)) v = some (.int (kk : Int)) := by
        unfold atI
        rw [if_pos v0, List.getElem?_map, hkk]
        rfl
      obtain ⟨pk, ek, lk2⟩ := a kk (List.mem_of_getElem? hkk)
      have rr2 : r ≠ r2 := ne_new er hr2
      have nrp := hf.nep hr
      have nrq := hf.neq hr
      have e2 : h3 r2 = some (.lst (ks.map fun k : Nat => D.int (k : Int))) := k3 _ _ r2p r2q up_same
      have er3 : h3 r = some (.lst (t.ps.map .str)) := k3 _ _ nrp nrq (by rw [up_ne rr2]; exact er)
      rw [ix_lst e2, ea]
      dsimp only
      rw [sl_lst er3]
      intro r4 hr4
      have x4 : Ext h3 (up h3 r4 (.lst (cut (t.ps.map D.str) none (some (kk : Int))))) := Ext.new hr4
      have ek2 : atI (t.ps.map D.str) (kk : Int) = some (.str pk) := by
        unfold atI
        rw [if_pos (by omega), List.getElem?_map]
        have : ((kk : Int)).toNat = kk := by omega
        rw [this, ek]
        rfl
      have llk := tok pk (List.mem_of_getElem? ek)
      rw [ix_lst (x4 _ _ er3), ek2]
      simp
      rw [ix_lst (x4 _ _ er3), ek2]
      simp
      refine ⟨by omega, fun r5 hr5 => ?_⟩
      have e4 : (up h3 r4 (.lst (cut (t.ps.map D.str) none (some (kk : Int))))) r4 = some (.lst (cut (t.ps.map D.str) none (some (kk : Int)))) := up_same
      generalize up h3 r4 (.lst (cut (t.ps.map D.str) none (some (kk : Int)))) = h4 at x4 e4 hr5 ⊢
      have x5 : Ext h4 (up h4 r5 (.lst [.str (pk ++ s_l), .str (pk ++ s_r)])) := Ext.new hr5
      have e5 : (up h4 r5 (.lst [.str (pk ++ s_l), .str (pk ++ s_r)])) r5 = some (.lst [.str (pk ++ s_l), .str (pk ++ s_r)]) := up_same
      generalize up h4 r5 (.lst [.str (pk ++ s_l), .str (pk ++ s_r)]) = h5 at x5 e5 ⊢
      have r45 : r4 ≠ r5 := fun z => by rw [← z, e4] at hr5; cases hr5
      refine ⟨cut (t.ps.map D.str) none (some (kk : Int)), x5 _ _ e4, _, e5, ?_, fun r6 hr6 => ?_⟩
      · rw [cut_none (by omega)]; simp; omega
      have x6 : Ext h5 (up h5 r6 (.lst (cut (t.ps.map D.str) none (some (kk : Int)) ++ [.str (pk ++ s_l), .str (pk ++ s_r)]))) := Ext.new hr6
      have e6 : (up h5 r6 (.lst (cut (t.ps.map D.str) none (some (kk : Int)) ++ [.str (pk ++ s_l), .str (pk ++ s_r)]))) r6 = some (.lst (cut (t.ps.map D.str) none (some (kk : Int)) ++ [.str (pk ++ s_l), .str (pk ++ s_r)])) := up_same
      generalize up h5 r6 (.lst (cut (t.ps.map D.str) none (some (kk : Int)) ++ [.str (pk ++ s_l), .str (pk ++ s_r)])) = h6 at x6 e6 ⊢
      have x36 : Ext h3 h6 := (x4.trans x5).trans x6
      rw [sl_lst (x36 _ _ er3)]
      intro r7 hr7
      have x7 : Ext h6 (up h6 r7 (.lst (cut (t.ps.map D.str) (some ((kk : Int) + 1)) none))) := Ext.new hr7
      have e7 : (up h6 r7 (.lst (cut (t.ps.map D.str) (some ((kk : Int) + 1)) none))) r7 = some (.lst (cut (t.ps.map D.str) (some ((kk : Int) + 1)) none)) := up_same
      generalize up h6 r7 (.lst (cut (t.ps.map D.str) (some ((kk : Int) + 1)) none)) = h7 at x7 e7 ⊢
      have lk9 := (List.getElem?_eq_some_iff.mp ek).1
      have c1 : cut (t.ps.map D.str) none (some (kk : Int)) = (t.ps.take kk).map .str := by
        rw [cut_none (by omega), Int.toNat_natCast, List.map_take]
      have c2 : cut (t.ps.map D.str) (some ((kk : Int) + 1)) none = (t.ps.drop (kk + 1)).map .str := by
        rw [cut_some (by omega) (by simp; omega), List.map_drop]
        congr 1
      rw [c1] at e6
      rw [c2] at e7
      rw [add_ref]
      have lkk := (List.getElem?_eq_some_iff.mp ek).1
      refine ⟨_, _, x7 _ _ e6, e7, by simp; omega, fun r8 hr8 => ?_⟩
      obtain ⟨t', ht'⟩ := t.fork kk pk ek
      have x38 : Ext h3 (up h7 r8 (.lst ((t.ps.take kk).map D.str ++ [.str (pk ++ s_l), .str (pk ++ s_r)] ++ (t.ps.drop (kk + 1)).map .str))) := (x36.trans x7).trans (Ext.new hr8)
      have lt' : t'.ps.length = t.ps.length + 1 := by
        rw [ht']
        simp
        omega
      refine ⟨m - 1, by omega, t', r8, _, _, rfl, ?_, ?_, fun p2 hp2 => ?_, by omega, f3.kf x38, ?_⟩
      · rw [up_same, ht']
        simp
      · have n3 : h3 r8 = none := fresh_back (x36.trans x7) hr8
        have n8p := f3.nep n3
        have n8q := f3.neq n3
        have n1 : (up h2 r2 (.lst (ks.map fun k : Nat => D.int (k : Int)))) r8 = none := k3.none n8p n8q n3
        have n28 : r8 ≠ r2 := fun z => by rw [z, up_same] at n1; cases n1
        rw [up_ne n28] at n1
        exact k1.none n8p n8q n1
      · rw [ht'] at hp2
        simp only [List.mem_append, List.mem_cons, List.not_mem_nil, or_false] at hp2
        rcases hp2 with (h9 | h9 | h9) | h9
        · exact tok p2 (List.mem_of_mem_take h9)
        · subst h9; simp; omega
        · subst h9; simp; omega
        · exact tok p2 (List.mem_of_mem_drop h9)
      · exact ((k1.trans (.ext (Ext.new hr2))).trans k3).trans (.ext x38)
  · rw [decide_eq_false z]
    simp [b2_law_leaves]
    exact k r t h1 hr f1 k1 tok (by omega) er
/-! ### the law's tree -/
def lvs : Tr → Nat
  | .lf _ => 1
  | .nd a b => lvs a + lvs b
def nmOk : Tr → Prop
  | .lf i => 0 ≤ i ∧ i ≤ 1000000000
  | .nd a b => nmOk a ∧ nmOk b
theorem lvs_pos : ∀ t : Tr, 1 ≤ lvs t
  | .lf _ => Nat.le_refl 1
  | .nd a b => by have := lvs_pos a; simp only [lvs]; omega
theorem dp_lvs : ∀ t : Tr, t.dp + 1 ≤ lvs t
  | .lf _ => Nat.le_refl 1
  | .nd a b => by
    have := dp_lvs a
    have := dp_lvs b
    have := lvs_pos a
    have := lvs_pos b
    simp only [Tr.dp, lvs]
    omega
theorem two_at {a b v : Int} {v0 : 0 ≤ v} {v1 : v < 2} : atI [D.int a, .int b] v = some (.int (if v = 0 then a else b)) := by
  obtain rfl | rfl : v = 0 ∨ v = 1 := by omega
  · rfl
  · rfl
theorem tree_ok {p q : Nat} {X : XP} : ∀ (many : Nat) {n : Nat} {h : AH} {Q : VQ}, 1 ≤ many → many ≤ 20 → IsFeed p q h → (∀ t h', lvs t = many → nmOk t → IsFeed p q h' → Kf p q h h' → Q (encT (trT t)) h') → run P (n + many + 2) s__law_tree [.ref p, .int (many : Nat)] h Q X := by
  intro many
  induction many using Nat.strongRecOn with
  | ind many ih =>
    intro n h Q m1 m2 hf k
    refine run_of (fd := fd_law_tree) rfl rfl ?_
    simp [fd_law_tree, start, b0_law_tree]
    by_cases z : many = 1
    · subst z
      simp [b1_law_tree]
      refine ⟨by unfold powOk; decide, fun r hr => ?_⟩
      have f1 : IsFeed p q (up h r (.lst [.int 4, .int 1000000001])) := hf.put (hf.nep hr) (hf.neq hr)
      refine draw_ok (m := n + 1) f1 (by decide) (by decide) fun v h2 v0 v1 f2 k2 => ?_
      rw [ix_lst (k2 _ _ (hf.nep hr) (hf.neq hr) up_same), two_at (v0 := v0) (v1 := v1)]
      dsimp only
      refine draw_ok (m := n + 1) f2 (by split <;> omega) (by split <;> omega) fun u h3 u0 u1 f3 k3 => ?_
      have ub : u ≤ 1000000000 := by split at u1 <;> omega
      have := k (.lf u) h3 rfl ⟨u0, ub⟩ f3 ((Kf.ext (Ext.new hr)).trans (k2.trans k3))
      simpa [trT, encT] using this
    · have z2 : ¬ (many : Int) = 1 := by omega
      rw [decide_eq_false z2]
      simp [b2_law_tree]
      intro r hr
      have f1 : IsFeed p q (up h r (.lst [.int ((many : Int) - 1), .int 1])) := hf.put (hf.nep hr) (hf.neq hr)
      refine draw_ok (m := n + many) f1 (by decide) (by decide) fun v h2 v0 v1 f2 k2 => ?_
      rw [ix_lst (k2 _ _ (hf.nep hr) (hf.neq hr) up_same), two_at (v0 := v0) (v1 := v1)]
      dsimp only
      refine draw_ok (m := n + many) f2 (by split <;> omega) (by split <;> omega) fun u h3 u0 u1 f3 k3 => ?_
      have ub : u < (many : Int) - 1 := by split at u1 <;> omega
      obtain ⟨one, hone⟩ : ∃ one : Nat, (1 : Int) + u = (one : Int) := ⟨(1 + u).toNat, by omega⟩
      simp only [add_int]
      rw [hone]
      have e1 : n + many + 1 = (n + many - one - 1) + one + 2 := by omega
      rw [e1]
      refine ih one (by omega) (by omega) (by omega) f3 fun t h4 l4 n4 f4 k4 => ?_
      rw [← e1]
      have es : (many : Int) - (one : Int) = ((many - one : Nat) : Int) := by omega
      simp [es]
      have e2 : n + many + 1 = (n + one - 1) + (many - one) + 2 := by omega
      rw [e2]
      refine ih (many - one) (by omega) (by omega) (by omega) f4 fun t2 h5 l5 n5 f5 k5 => ?_
      have := k (.nd t t2) h5 (by simp only [lvs]; omega) ⟨n4, n5⟩ f5 ((Kf.ext (Ext.new hr)).trans (((k2.trans k3).trans k4).trans k5))
      simpa [trT, encT] using this
theorem about_ok : ∀ (t : Tr) {n : Nat} {h : AH} {Q : VQ} {X : XP}, t.dp < n → Q (encT (trT (fl t))) h → run P n s__law_about [encT (trT t)] h Q X := by
  intro t
  induction t with
  | lf i =>
    intro n h Q X hn k
    obtain ⟨n, rfl⟩ : ∃ j, n = j + 1 := ⟨n - 1, by omega⟩
    refine run_of (fd := fd_law_about) rfl rfl ?_
    simp [fd_law_about, start, b0_law_about, trT, encT, at0, b1_law_about]
    simpa [fl, trT, encT] using k
  | nd a b iha ihb =>
    intro n h Q X hn k
    simp only [Tr.dp] at hn
    obtain ⟨n, rfl⟩ : ∃ j, n = j + 1 := ⟨n - 1, by omega⟩
    refine run_of (fd := fd_law_about) rfl rfl ?_
    simp [fd_law_about, start, b0_law_about, trT, encT, at0, at1, b2_law_about, cut, clip]
    refine ihb (n := n) (by omega) ?_
    refine iha (n := n) (by omega) ?_
    simpa [fl, trT, encT] using k
/-! ### how great -/
def tkids : Th → List Th
  | .n t => [t]
  | .l t => [t]
  | .r t => [t]
  | .p t u => [t, u]
  | _ => []
def tno : Th → Nat
  | .n t => tno t + 1
  | .l t => tno t + 1
  | .r t => tno t + 1
  | .p t u => tno t + tno u + 1
  | _ => 1
def tsz : Th → Nat
  | .one => 0
  | .a _ => 1
  | .n t => tsz t + 1
  | .l t => tsz t
  | .r t => tsz t
  | .p t u => tsz t + tsz u
def own (t : Th) : Nat := match t with
  | .a _ => 1
  | .n _ => 1
  | _ => 0
def sumT (f : Th → Nat) (ts : List Th) : Nat := (ts.map f).sum
theorem sumT_app (f : Th → Nat) (a b : List Th) : sumT f (a ++ b) = sumT f a + sumT f b := by simp [sumT]
theorem tsz_own (t : Th) : tsz t = own t + sumT tsz (tkids t) := by cases t <;> simp [tsz, own, tkids, sumT]; omega
theorem tno_own (t : Th) : tno t = 1 + sumT tno (tkids t) := by cases t <;> simp [tno, tkids, sumT] <;> omega
theorem tno_pos (t : Th) : 1 ≤ tno t := by cases t <;> simp [tno]
theorem tno_len : ∀ us : List Th, us.length ≤ sumT tno us
  | [] => by simp [sumT]
  | u :: us => by
    have := tno_len us
    have := tno_pos u
    simp [sumT] at *
    omega
def isOneT : Th → Bool
  | .one => true
  | _ => false
theorem ne_one {t : Th} {h : AH} {q : Bool → Prop} (k : q (isOneT t)) : eqOk (encT t) (.tup []) h q := by
  refine eq_pure (encT_pure t) (by simp [pureD, pureDs]) (.inr (by simp [plain, plains])) ?_
  cases t <;> simpa [encT, isOneT] using k
theorem eq_one {t : Th} {h : AH} {q : Bool → Prop} (k : q (isOneT t)) : eqOkX (encT t) (.tup []) h q := .inl (ne_one k)
def SzI (t : Th) (p : Nat) (h0 : AH) (m : Nat) : St → AH → Prop := fun σ h => ∃ (us : List Th) (many : Nat) (x : Option D), σ = [some (encT t), some (.int (many : Int)), some (.ref p), x] ∧ h p = some (.lst (us.map encT)) ∧ Ext h0 h ∧ many + sumT tsz us = tsz t ∧ m = sumT tno us ∧ m ≤ tno t
theorem size_ok {n : Nat} {t : Th} {h : AH} {Q : VQ} {X : XP} (hz : tno t ≤ 1000) (k : ∀ h', Ext h h' → Q (.int (tsz t : Nat)) h') : run P (n + 1) s_size [encT t] h Q X := by
  refine run_of (fd := fd_size) rfl rfl ?_
  simp [fd_size, start, b0_size]
  intro p hp
  simp only [wS]
  refine ⟨fun m σ h' => SzI t p h m σ h', ⟨tno t, [t], 0, none, rfl, up_same, Ext.new hp, by simp [sumT], by simp [sumT], Nat.le_refl _⟩, ?_⟩
  rintro m σ h1 ⟨us, many, x, rfl, e, ex, hs, rfl, hm⟩
  have lu := tno_len us
  simp
  rw [len_lst e]
  rcases List.eq_nil_or_concat us with z | ⟨vs, u, z⟩
  · subst z
    simp [b5_size]
    have : many = tsz t := by simpa [sumT] using hs
    rw [this]
    exact k h1 ex
  · rw [List.concat_eq_append] at z
    subst z
    rw [decide_eq_true (by simp)]
    simp [b1_size]
    refine ⟨recv_ok (by simp) (by simp) e, ?_⟩
    rw [aLst_eq e]
    have e9 : (List.map encT (vs ++ [u]))[(List.map encT (vs ++ [u])).length - 1]? = some (encT u) := by simp
    rw [e9]
    simp
    have hno := tno_own u
    have hown := tsz_own u
    have hu2 : sumT tno (vs ++ [u]) = sumT tno vs + tno u := by rw [sumT_app]; simp [sumT]
    have hu3 : sumT tsz (vs ++ [u]) = sumT tsz vs + tsz u := by rw [sumT_app]; simp [sumT]
    have ex1 : Ext h (up h1 p (.lst (vs.map encT))) := ex.mut hp .put
    refine ne_one ?_
    have lv : vs.length ≤ 1000 := by simp at lu; omega
    -- what is done behind the count
    have tail : ∀ (many' : Nat) (R : Ends), R.nx = (fun σ' h' => ∃ m', m' < sumT tno (vs ++ [u]) ∧ SzI t p h m' σ' h') → many' = many + own u → wSs ⟨run P n, X⟩ b3_size R [some (encT t), some (.int (many' : Int)), some (.ref p), some (encT u)] (up h1 p (.lst (vs.map encT))) := by
      intro many' R hR hmn
      simp [b3_size]
      refine ne_one ?_
      have stop : (tkids u = []) → R.nx [some (encT t), some (.int (many' : Int)), some (.ref p), some (encT u)] (up h1 p (.lst (vs.map encT))) := fun z => by
        rw [z] at hno hown
        simp [sumT] at hno hown
        rw [hR]
        exact ⟨sumT tno vs, by omega, vs, many', _, rfl, up_same, ex1, by omega, rfl, by omega⟩
      have go : ∀ w, encT u = .tup (.str w :: (tkids u).map encT) → w ≠ s_a → wSs ⟨run P n, X⟩ b4_size R [some (encT t), some (.int (many' : Int)), some (.ref p), some (encT u)] (up h1 p (.lst (vs.map encT))) := fun w ew hw => by
        simp [b4_size]
        refine ⟨recv_ok (by simp) (by simp) up_same, ?_⟩
        rw [ew]
        have l2 : (tkids u).length ≤ 2 := by cases u <;> simp [tkids]
        have ec : cut (D.str w :: (tkids u).map encT) (some 1) none = (tkids u).map encT := cut_1
        simp [ec, clip]
        rw [aLst_eq up_same]
        refine ⟨by simp; omega, ?_⟩
        rw [hR]
        refine ⟨sumT tno (vs ++ tkids u), by rw [sumT_app]; omega, vs ++ tkids u, many', _, rfl, by rw [up_same]; simp, ex1.mut hp .put, by rw [sumT_app]; omega, rfl, by rw [sumT_app]; omega⟩
      cases u with
      | one => simp [isOneT]; exact stop rfl
      | a i => simp [isOneT, encT, atI]; exact stop rfl
      | n v => simp [isOneT, encT, atI]; exact go qn rfl (by decide)
      | l v => simp [isOneT, encT, atI]; exact go ql rfl (by decide)
      | r v => simp [isOneT, encT, atI]; exact go qr rfl (by decide)
      | p v w => simp [isOneT, encT, atI]; exact go qp rfl (by decide)
    have cast : (many : Int) + 1 = ((many + 1 : Nat) : Int) := by omega
    cases u with
    | one => simp [isOneT]; exact tail many _ rfl rfl
    | a i =>
      simp [isOneT, encT, atI, mem_tup, flat, b2_size]
      rw [cast]
      exact tail (many + 1) _ rfl rfl
    | n v =>
      simp [isOneT, encT, atI, mem_tup, flat, b2_size]
      rw [cast]
      exact tail (many + 1) _ rfl rfl
    | l v => simp [isOneT, encT, atI, mem_tup, flat]; exact tail many _ rfl rfl
    | r v => simp [isOneT, encT, atI, mem_tup, flat]; exact tail many _ rfl rfl
    | p v w => simp [isOneT, encT, atI, mem_tup, flat]; exact tail many _ rfl rfl
def tdp : Th → Nat
  | .n t => tdp t + 1
  | .l t => tdp t + 1
  | .r t => tdp t + 1
  | .p t u => max (tdp t) (tdp u) + 1
  | _ => 0
/-! ### put otherwise -/
def ren (f : Int → Int) : Th → Th
  | .one => .one
  | .a i => .a (f i)
  | .n t => .n (ren f t)
  | .l t => .l (ren f t)
  | .r t => .r (ren f t)
  | .p t u => .p (ren f t) (ren f u)
theorem ren_tdp (f : Int → Int) : ∀ t : Th, tdp (ren f t) = tdp t
  | .one => rfl
  | .a _ => rfl
  | .n t => by simp only [ren, tdp, ren_tdp f t]
  | .l t => by simp only [ren, tdp, ren_tdp f t]
  | .r t => by simp only [ren, tdp, ren_tdp f t]
  | .p t u => by simp only [ren, tdp, ren_tdp f t, ren_tdp f u]
theorem ren_id : ∀ t : Th, ren (fun i => i) t = t
  | .one => rfl
  | .a _ => rfl
  | .n t => by simp only [ren, ren_id t]
  | .l t => by simp only [ren, ren_id t]
  | .r t => by simp only [ren, ren_id t]
  | .p t u => by simp only [ren, ren_id t, ren_id u]
/-- names' new names -/
abbrev Nms := List (Int × Int)
def encN (ns : Nms) : List (D × D) := ns.map fun x => (.int x.1, .int x.2)
def nmF (ns : Nms) (i : Int) : Int := (ns.lookup i).getD i
theorem kvGet_N : ∀ {ns : Nms} {i : Int}, kvGet (encN ns) (.int i) = (ns.lookup i).map .int
  | [], i => rfl
  | (a, b) :: r, i => by
    show kvGet ((.int a, .int b) :: encN r) (.int i) = _
    rw [kvGet_cons, List.lookup_cons, kvGet_N (ns := r)]
    by_cases e : a = i
    · subst e; simp
    · have e2 : ¬ i = a := fun z => e z.symm
      have e3 : ¬ D.int a = D.int i := fun z => e (by injection z)
      have e4 : (i == a) = false := by simp [e2]
      rw [if_neg e3, e4]
theorem renamed_ok : ∀ (t : Th) (n q : Nat) (ns : Nms) (h : AH) (Q : VQ) (X : XP), h q = some (.dct 0 (encN ns)) → (∀ h', Ext h h' → Q (encT (ren (nmF ns) t)) h') → run P (n + tdp t + 1) s_renamed [encT t, .ref q] h Q X := by
  have one : ∀ (w : Sx) (t u : Th), w ≠ s_a → encT t = .tup [.str w, encT u] → isOneT t = false → tdp t = tdp u + 1 → (∀ f, encT (ren f t) = .tup [.str w, encT (ren f u)]) → (∀ (n q : Nat) (ns : Nms) (h : AH) (Q : VQ) (X : XP), h q = some (.dct 0 (encN ns)) → (∀ h', Ext h h' → Q (encT (ren (nmF ns) u)) h') → run P (n + tdp u + 1) s_renamed [encT u, .ref q] h Q X) →
      ∀ (n q : Nat) (ns : Nms) (h : AH) (Q : VQ) (X : XP), h q = some (.dct 0 (encN ns)) → (∀ h', Ext h h' → Q (encT (ren (nmF ns) t)) h') → run P (n + tdp t + 1) s_renamed [encT t, .ref q] h Q X := by
    intro w t u hw et e1 ed er ih n q ns h Q X hq k
    refine run_of (fd := fd_renamed) rfl rfl ?_
    simp [fd_renamed, start, b0_renamed]
    refine eq_one ?_
    rw [e1, et]
    simp [b2_renamed, atI, decide_eq_false hw, b4_renamed, cut, clip]
    refine comp_unroll (by simp [LINE]) ?_
    simp [compU_cons, compU_nil]
    rw [ed]
    refine ih n q ns h _ _ hq fun h1 x1 => ?_
    refine fun r hr => ?_
    rw [seq_lst up_same, aSome_eq]
    simp
    rw [er] at k
    exact k _ (x1.trans (Ext.new hr))
  intro t
  induction t with
  | one =>
    intro n q ns h Q X hq k
    refine run_of (fd := fd_renamed) rfl rfl ?_
    simp [fd_renamed, start, b0_renamed]
    refine eq_one ?_
    simp [isOneT, b1_renamed]
    exact k h .refl
  | a i =>
    intro n q ns h Q X hq k
    refine run_of (fd := fd_renamed) rfl rfl ?_
    simp [fd_renamed, start, b0_renamed]
    refine eq_one ?_
    simp [isOneT, b2_renamed, encT, atI, b3_renamed]
    refine ⟨recv_dct rfl hq, ?_⟩
    rw [aDct_eq hq, kvGet_N]
    refine ⟨rfl, ?_⟩
    have k1 := k h .refl
    simp only [ren, encT, nmF] at k1
    cases e : ns.lookup i with
    | none =>
      rw [e] at k1
      simpa using k1
    | some j =>
      rw [e] at k1
      simpa using k1
  | n u ih => exact one s_n (.n u) u (by decide) rfl rfl rfl (fun _ => rfl) ih
  | l u ih => exact one s_l (.l u) u (by decide) rfl rfl rfl (fun _ => rfl) ih
  | r u ih => exact one s_r (.r u) u (by decide) rfl rfl rfl (fun _ => rfl) ih
  | p u v ih1 ih2 =>
    intro n q ns h Q X hq k
    refine run_of (fd := fd_renamed) rfl rfl ?_
    simp [fd_renamed, start, b0_renamed]
    refine eq_one ?_
    simp [isOneT, encT, b2_renamed, atI, b4_renamed, cut, clip]
    obtain ⟨mu, emu⟩ : ∃ m, n + tdp (u.p v) = m + tdp u + 1 := ⟨n + (tdp (u.p v) - tdp u - 1), by simp only [tdp]; omega⟩
    obtain ⟨mv, emv⟩ : ∃ m, n + tdp (u.p v) = m + tdp v + 1 := ⟨n + (tdp (u.p v) - tdp v - 1), by simp only [tdp]; omega⟩
    refine comp_unroll (by simp [LINE]) ?_
    simp [compU_cons, compU_nil]
    rw [emu]
    refine ih1 mu q ns h _ _ hq fun h1 x1 => ?_
    rw [← emu, emv]
    refine ih2 mv q ns h1 _ _ (x1 _ _ hq) fun h2 x2 => ?_
    refine fun r hr => ?_
    rw [seq_lst up_same, aSome_eq]
    simp
    exact k _ ((x1.trans x2).trans (Ext.new hr))
def mapTr (f : Int → Int) : Tr → Tr
  | .lf i => .lf (f i)
  | .nd a b => .nd (mapTr f a) (mapTr f b)
theorem ren_trT (f : Int → Int) : ∀ t : Tr, ren f (trT t) = trT (mapTr f t)
  | .lf _ => rfl
  | .nd a b => by simp only [trT, ren, mapTr, ren_trT f a, ren_trT f b]
theorem fl_map (f : Int → Int) : ∀ t : Tr, fl (mapTr f t) = mapTr f (fl t)
  | .lf _ => rfl
  | .nd a b => by simp only [fl, mapTr, fl_map f a, fl_map f b]
theorem map_dp (f : Int → Int) : ∀ t : Tr, (mapTr f t).dp = t.dp
  | .lf _ => rfl
  | .nd a b => by simp only [mapTr, Tr.dp, map_dp f a, map_dp f b]
theorem lvs_fl : ∀ t : Tr, lvs (fl t) = lvs t
  | .lf _ => rfl
  | .nd a b => by simp only [fl, lvs, lvs_fl a, lvs_fl b]; omega
theorem tsz_trT : ∀ t : Tr, tsz (trT t) + 1 = 2 * lvs t
  | .lf _ => rfl
  | .nd a b => by
    have := tsz_trT a
    have := tsz_trT b
    simp only [trT, tsz, lvs]
    omega
theorem tno_trT : ∀ t : Tr, tno (trT t) + 3 ≤ 5 * lvs t
  | .lf _ => Nat.le_refl 5
  | .nd a b => by
    have := tno_trT a
    have := tno_trT b
    simp only [trT, tno, lvs]
    omega
theorem tdp_trT : ∀ t : Tr, tdp (trT t) ≤ 3 * t.dp + 1
  | .lf _ => Nat.le_refl 1
  | .nd a b => by
    have := tdp_trT a
    have := tdp_trT b
    simp only [trT, tdp, Tr.dp]
    omega
/-- a tree and a name beside it -/
def duo (t : Tr) (j : Int) : Th := .p (trT t) (.a j)
theorem duo_pp {t : Tr} {j : Int} (h : t.dp ≤ 19) : PP 70 (encT (duo t j)) := PP.tup fun d hd => by
  simp at hd
  rcases hd with rfl | rfl | rfl
  · exact PP.str
  · exact (trT_pp t).mono (by omega)
  · exact ⟨by simp [encT, pureD, pureDs], by simp [encT, plain, plains]⟩
theorem eq_dd {d : D} {h : AH} {q : Bool → Prop} (p : PP 70 d) (k : q true) : eqOk d d h q := eq_pure p.1 p.1 (.inl (p.mono (m := 190) (by omega)).2) (by simpa using k)
theorem duo_sn {wk : List (D × D)} {f : Sx} (hw : BkW wk f) (b : Bool) {t : Tr} {j : Int} (h : t.dp ≤ 19) : Sn wk 43 (.tup [.str qbeside, again f, .tup [.str qsame]]) b (duo t j) (duo (fl t) j) := by
  obtain ⟨k1, k2, e⟩ := id hw
  refine Sn.beside (n := 42) ?_ (Sn.same (n := 41))
  exact Sn.call (n := 41) e ((fl_sn hw b t).up (by omega))
def TrI (p q wr rr rw : Nat) (w2 : Sx) (h0 : AH) : St → AH → Prop := fun σ h => ∃ (wk : List (D × D)) (x2 x3 x4 x5 x8 x9 x10 x11 x12 x13 x14 x15 x16 x17 : Option D), σ = [some (.ref p), some (.ref wr), x2, x3, x4, x5, some (.tup [.ref rr, .ref rw]), some (.tup [.str qbeside, again w2, .tup [.str qsame]]), x8, x9, x10, x11, x12, x13, x14, x15, x16, x17] ∧ IsFeed p q h ∧ h rw = some (.dct 0 wk) ∧ BkW wk w2 ∧ Kf p q h0 h ∧ rw ≠ p ∧ rw ≠ q
theorem tree_turn {n p q wr rr rw i : Nat} {w2 : Sx} {h0 : AH} {X : XP} {R : Ends} {wk : List (D × D)} {x2 x3 x4 x5 x9 x10 x11 x12 x13 x14 x15 x16 x17 : Option D} {h : AH} (hi : i < 2) (hf : IsFeed p q h) (hw : h rw = some (.dct 0 wk)) (bk : BkW wk w2) (kf : Kf p q h0 h) (nwp : rw ≠ p) (nwq : rw ≠ q) (hn : ∀ σ h', TrI p q wr rr rw w2 h0 σ h' → R.nx σ h') :
    wSs ⟨run P (n + 99), X⟩ b1_law_tree_right R [some (.ref p), some (.ref wr), x2, x3, x4, x5, some (.tup [.ref rr, .ref rw]), some (.tup [.str qbeside, again w2, .tup [.str qsame]]), some (.int (i : Int)), x9, x10, x11, x12, x13, x14, x15, x16, x17] h := by
  simp [b1_law_tree_right]
  refine draw_ok (m := n + 98) hf (by decide) (by decide) fun v h1 v0 v1 f1 k1 => ?_
  simp only [add_int]
  intro r hr
  have rp := f1.nep hr
  have rq := f1.neq hr
  obtain ⟨many, m1, m2, em⟩ : ∃ many : Nat, 1 ≤ many ∧ many ≤ 20 ∧ (if (i : Int) = 0 then (20 : Int) else 1 + v) = (many : Int) := by
    by_cases z : i = 0
    · subst z; exact ⟨20, by omega, by omega, by simp⟩
    · refine ⟨(1 + v).toNat, by omega, by omega, ?_⟩
      rw [if_neg (by omega)]
      omega
  rw [ix_lst up_same, two_at (v0 := by omega) (v1 := by omega), em]
  dsimp only
  have f2 := f1.put (o := .lst [.int 20, .int (1 + v)]) rp rq
  have k2 : Kf p q h (up h1 r (.lst [.int 20, .int (1 + v)])) := k1.trans (.ext (Ext.new hr))
  generalize up h1 r (.lst [.int 20, .int (1 + v)]) = h2 at f2 k2 ⊢
  rw [show n + 99 = (n + 97 - many) + many + 2 by omega]
  refine tree_ok many (by omega) m2 f2 fun t h3 lt nt f3 k3 => ?_
  rw [show (n + 97 - many) + many + 2 = n + 98 + 1 by omega]
  refine draw_ok (m := n + 98) f3 (by decide) (by decide) fun j h4 j0 j1 f4 k4 => ?_
  have dt := dp_lvs t
  have dt19 : t.dp ≤ 19 := by omega
  refine about_ok t (by omega) ?_
  have kk4 : Kf p q h h4 := (k2.trans k3).trans k4
  have hw4 : h4 rw = some (.dct 0 wk) := kk4 _ _ nwp nwq hw
  have fd : (fl t).dp = t.dp := fl_dp t
  refine forth_ok (m := n + 98) (n := 43) (t := duo t j) (u := duo (fl t) j) (by omega) (duo_sn bk false dt19) hw4 fun h5 x5 => ?_
  refine eq_dd (duo_pp (t := fl t) (j := j) (by omega)) ?_
  have tz := tsz_trT (fl t)
  have tn := tno_trT (fl t)
  have lf := lvs_fl t
  refine size_ok (n := n + 98) (t := duo (fl t) j) (by simp only [duo, tno]; omega) fun h6 x6 => ?_
  have es : tsz (duo (fl t) j) = 2 * many := by simp only [duo, tsz]; omega
  rw [es]
  simp
  refine ⟨.inl (by omega), ?_⟩
  have sF := duo_sn bk false (t := fl t) (j := j) (by omega)
  have sT := duo_sn bk true (t := fl t) (j := j) (by omega)
  rw [fl_fl] at sF sT
  have hw6 : h6 rw = some (.dct 0 wk) := x6 _ _ (x5 _ _ hw4)
  refine forth_ok (m := n + 98) (n := 43) (t := duo (fl t) j) (u := duo t j) (by omega) sF hw6 fun h7 x7 => ?_
  refine eq_dd (duo_pp (t := t) (j := j) (by omega)) ?_
  simp [b3_law_tree_right]
  refine back_ok (m := n + 98) (n := 43) (t := duo (fl t) j) (u := duo t j) (by omega) sT (x7 _ _ hw6) fun h8 x8 => ?_
  refine eq_dd (duo_pp (t := t) (j := j) (by omega)) ?_
  simp [b5_law_tree_right]
  have x48 : Ext h4 h8 := ((x5.trans x6).trans x7).trans x8
  intro rd hrd
  have x9 : Ext h8 (up h8 rd (.dct 0 [])) := Ext.new hrd
  refine ⟨by unfold powOk; decide, ?_⟩
  have f9 : IsFeed p q (up h8 rd (.dct 0 [])) := f4.kf (x48.trans x9)
  have ndp : rd ≠ p := (f4.kf x48).nep hrd
  have ndq : rd ≠ q := (f4.kf x48).neq hrd
  refine draw_ok (m := n + 98) f9 (by decide) (by decide) fun g h10 g0 g1 f10 k10 => ?_
  refine ⟨k10 _ _ ndp ndq up_same, ?_⟩
  have ep : pairUp [D.int 0, D.int 1, D.int 1, D.int g, D.int 2, D.int 0] = some [(.int 0, .int 1), (.int 1, .int g), (.int 2, .int 0)] := rfl
  rw [ep, aSome_eq]
  refine ⟨rfl, ?_⟩
  have em9 : mergeL [] [(D.int 0, D.int 1), (.int 1, .int g), (.int 2, .int 0)] = encN [(0, 1), (1, g), (2, 0)] := by simp [mergeL, kvPut, encN]
  rw [em9]
  generalize ([(0, 1), (1, g), (2, 0)] : Nms) = ns
  have nwd : rw ≠ rd := fun z => by rw [← z, x48 _ _ hw4] at hrd; cases hrd
  have kf10 : Kf p q h h10 := (kk4.trans (.ext (x48.trans x9))).trans k10
  have hd0 : h rd = none := by
    have := (x48.trans x9)
    exact kk4.none ndp ndq (fresh_back x48 hrd)
  have hw11 : (up h10 rd (.dct 0 (encN ns))) rw = some (.dct 0 wk) := by rw [up_ne nwd]; exact kf10 _ _ nwp nwq hw
  have f11 : IsFeed p q (up h10 rd (.dct 0 (encN ns))) := f10.put ndp ndq
  have kf11 : Kf p q h (up h10 rd (.dct 0 (encN ns))) := fun a o np nq e => by rw [up_ne (ne_new e hd0)]; exact kf10 a o np nq e
  have hd11 : (up h10 rd (.dct 0 (encN ns))) rd = some (.dct 0 (encN ns)) := up_same
  generalize up h10 rd (.dct 0 (encN ns)) = h11 at hw11 f11 kf11 hd11 ⊢
  have td : tdp (duo t j) ≤ 60 := by have := tdp_trT t; simp only [duo, tdp]; omega
  have td2 : tdp (duo (fl t) j) ≤ 60 := by have := tdp_trT (fl t); simp only [duo, tdp]; omega
  have ed : ∀ t : Tr, ren (nmF ns) (duo t j) = duo (mapTr (nmF ns) t) (nmF ns j) := fun t => by simp only [duo, ren, ren_trT]
  rw [show n + 98 + 1 = (n + 98 - tdp (duo t j)) + tdp (duo t j) + 1 by omega]
  refine renamed_ok (duo t j) (n + 98 - tdp (duo t j)) rd ns h11 _ _ hd11 fun h12 x12 => ?_
  rw [show (n + 98 - tdp (duo t j)) + tdp (duo t j) + 1 = n + 98 + 1 by omega, ed]
  have sM := duo_sn bk false (t := mapTr (nmF ns) t) (j := nmF ns j) (by rw [map_dp]; omega)
  refine forth_ok (m := n + 98) (n := 43) (t := duo (mapTr (nmF ns) t) (nmF ns j)) (u := duo (fl (mapTr (nmF ns) t)) (nmF ns j)) (by omega) sM (x12 _ _ hw11) fun h13 x13 => ?_
  rw [show n + 98 + 1 = (n + 98 - tdp (duo (fl t) j)) + tdp (duo (fl t) j) + 1 by omega]
  refine renamed_ok (duo (fl t) j) (n + 98 - tdp (duo (fl t) j)) rd ns h13 _ _ (x13 _ _ (x12 _ _ hd11)) fun h14 x14 => ?_
  rw [ed, fl_map]
  refine eq_dd (duo_pp (by rw [map_dp]; omega)) ?_
  have x1114 : Ext h11 h14 := (x12.trans x13).trans x14
  exact hn _ _ ⟨wk, _, _, _, _, _, _, _, _, _, _, _, _, _, _, rfl, f11.kf x1114, x1114 _ _ hw11, bk, (kf.trans kf11).trans (.ext x1114), nwp, nwq⟩
theorem tree_right_ok {n p q wr : Nat} {w1 w2 : Sx} {h : AH} {Q : VQ} {X : XP} (hf : IsFeed p q h) (hw : h wr = some (.lst [.str w1, .str w2])) (k : ∀ h', IsFeed p q h' → Kf p q h h' → Q (.bl true) h') : run P (n + 100) s__law_tree_right [.ref p, .ref wr] h Q X := by
  have np : wr ≠ p := fun z => by obtain ⟨⟨_, _, _, g, _⟩, _⟩ := hf; rw [z, g] at hw; cases hw
  refine run_of (fd := fd_law_tree_right) rfl rfl ?_
  simp (maxSteps := 4000000) [fd_law_tree_right, start, b0_law_tree_right]
  have ix0 : ∀ {h' : AH} {Q : VQ}, h' wr = some (.lst [.str w1, .str w2]) → opIx (.ref wr) (.int 0) h' Q = Q (.str w1) h' := fun e => by rw [ix_lst e]; rfl
  have ix1 : ∀ {h' : AH} {Q : VQ}, h' wr = some (.lst [.str w1, .str w2]) → opIx (.ref wr) (.int 1) h' Q = Q (.str w2) h' := fun e => by rw [ix_lst e]; rfl
  rw [ix0 hw, ix1 hw]
  intro rr hrr
  have x1 : Ext h (up h rr (.dct 0 [])) := Ext.new hrr
  rw [ix0 (x1 _ _ hw)]
  refine ⟨up_same, ?_⟩
  have pu : ∀ a b : D, pairUp [a, b] = some [(a, b)] := fun _ _ => rfl
  rw [pu, aSome_eq]
  refine ⟨rfl, ?_⟩
  intro rw' hrw
  have e0 : mergeL [] [(D.str w1, D.tup [D.str s_sum, D.tup [D.str s_name], D.tup [D.str s_node, D.tup [D.str s_pair, D.tup [D.str s_rule, D.str w1], D.tup [D.str s_rule, D.str w1]]]])] = [(D.str w1, D.tup [D.str s_sum, D.tup [D.str s_name], D.tup [D.str s_node, D.tup [D.str s_pair, D.tup [D.str s_rule, D.str w1], D.tup [D.str s_rule, D.str w1]]]])] := by simp [mergeL, kvPut]
  rw [e0] at hrw ⊢
  rw [up_up] at hrw ⊢
  generalize hd1 : (Ob.dct 0 [(D.str w1, D.tup [D.str s_sum, D.tup [D.str s_name], D.tup [D.str s_node, D.tup [D.str s_pair, D.tup [D.str s_rule, D.str w1], D.tup [D.str s_rule, D.str w1]]]])]) = o1 at hrw ⊢
  have x2 : Ext h (up h rr o1) := Ext.new hrr
  have x3 : Ext (up h rr o1) (up (up h rr o1) rw' (.dct 0 [])) := Ext.new hrw
  rw [ix1 (x3 _ _ (x2 _ _ hw))]
  refine ⟨up_same, ?_⟩
  rw [pu, aSome_eq]
  refine ⟨rfl, ?_⟩
  have m1 : ∀ a b : D, mergeL [] [(a, b)] = [(a, b)] := fun a b => by simp [mergeL, kvPut]
  rw [m1, up_up]
  have kf0 : ∀ o, Kf p q h (up (up h rr o1) rw' o) := fun o => .ext (x2.trans (Ext.new hrw))
  have f3 : ∀ o, IsFeed p q (up (up h rr o1) rw' o) := fun o => hf.kf (x2.trans (Ext.new hrw))
  have n1 : rw' ≠ p := hf.nep (fresh_back x2 hrw)
  have n2 : rw' ≠ q := hf.neq (fresh_back x2 hrw)
  refine loop_rng (fun i => TrI p q wr rr rw' w2 h) ⟨_, _, _, _, _, _, _, _, _, _, _, _, _, _, _, rfl, f3 _, up_same, ⟨_, _, by rw [kvGet_cons, if_pos rfl]; rfl⟩, kf0 _, n1, n2⟩ (fun _ _ _ _ => trivial) ?_ ?_
  · rintro i σ h' hi ⟨wk, x2, x3, x4, x5, x8, x9, x10, x11, x12, x13, x14, x15, x16, x17, rfl, f, e, b, kf, n1, n2⟩
    simp
    exact tree_turn (by omega) f e b kf n1 n2 fun σ h' z => z
  · rintro σ h' ⟨wk, x2, x3, x4, x5, x8, x9, x10, x11, x12, x13, x14, x15, x16, x17, rfl, f, e, b, kf, n1, n2⟩
    simp [b7_law_tree_right]
    exact k h' f kf
/-! ### drawn orders -/
def ofN (l : List Nat) : List D := l.map fun x : Nat => .int (x : Int)
theorem getD_lt {α : Type} {xs : List α} {i : Nat} {d : α} (h : i < xs.length) : xs[i]? = some (xs.getD i d) := by simp [List.getD, h]
theorem getD_mem {xs : List Nat} {i : Nat} (h : i < xs.length) : xs.getD i 0 ∈ xs := by simp [List.getD, h]
theorem atI_ofN {ps : List Nat} {i : Nat} (h : i < ps.length) : atI (ofN ps) (i : Int) = some (.int ((ps.getD i 0 : Nat) : Int)) := by
  unfold atI
  rw [if_pos (by omega), show (i : Int).toNat = i by omega]
  simp [ofN, List.getD, h]
def MxI (p q a b many : Nat) (h0 : AH) (m : Nat) : St → AH → Prop := fun σ h => ∃ (xs os : List Nat) (x0 : Option D), σ = [some (.ref p), x0, some (.ref a), some (.ref b)] ∧ h a = some (.lst (ofN xs)) ∧ h b = some (.lst (ofN os)) ∧ (os ++ xs).Perm (List.range many) ∧ m = xs.length ∧ IsFeed p q h ∧ Kf p q h0 h
theorem mixed_ok {n p q r many : Nat} {h : AH} {Q : VQ} {X : XP} (hf : IsFeed p q h) (hr : h r = some (.lst (ofN (List.range many)))) (hm : many ≤ 1000)
    (k : ∀ b os h', os.Perm (List.range many) → h b = none → h' b = some (.lst (ofN os)) → IsFeed p q h' → Kf p q h h' → Q (.ref b) h') : run P (n + 2) s__law_mixed [.ref p, .ref r] h Q X := by
  refine run_of (fd := fd_law_mixed) rfl rfl ?_
  simp [fd_law_mixed, start, b0_law_mixed]
  rw [seq_lst hr, aSome_eq]
  intro a ha b hb
  have ap := hf.nep ha
  have aq := hf.neq ha
  have x1 : Ext h (up h a (.lst (ofN (List.range many)))) := Ext.new ha
  have x2 : Ext (up h a (.lst (ofN (List.range many)))) (up (up h a (.lst (ofN (List.range many)))) b (.lst [])) := Ext.new hb
  have f2 := hf.kf (x1.trans x2)
  have ab : a ≠ b := ne_new up_same hb
  have hb0 : h b = none := fresh_back x1 hb
  have bp := hf.nep hb0
  have bq := hf.neq hb0
  simp only [wS]
  refine ⟨fun m σ h' => MxI p q a b many h m σ h', ⟨many, List.range many, [], _, rfl, x2 _ _ up_same, up_same, by simp, by simp, f2, .ext (x1.trans x2)⟩, ?_⟩
  rintro m σ h' ⟨xs, os, x0, rfl, ha', hb', pm, rfl, f', kk⟩
  have lx := pm.length_eq
  simp only [List.length_append, List.length_range] at lx
  simp
  rw [len_lst ha']
  by_cases z : xs = []
  · subst z
    simp [ofN, b2_law_mixed]
    exact k b os h' (by simpa using pm) hb0 hb' f' kk
  · have xp := List.length_pos_iff.mpr z
    have lo : (ofN xs).length = xs.length := by simp [ofN]
    rw [lo, decide_eq_true (by omega)]
    simp [b1_law_mixed]
    refine ⟨recv_ok (by simp) (by simp) hb', recv_ok (by simp) (by simp) ha', ?_⟩
    rw [len_lst ha', lo]
    refine draw_ok (m := n) f' (by omega) (by omega) fun j h2 j0 j1 f2 k2 => ?_
    have ha2 := k2 _ _ ap aq ha'
    have hb2 := k2 _ _ bp bq hb'
    have jl : j.toNat < xs.length := by omega
    rw [mth_popI, aLst_eq ha2]
    have e1 : (ofN xs)[j.toNat]? = some (.int (xs[j.toNat] : Nat)) := by simp [ofN, jl]
    rw [e1]
    refine ⟨⟨j0, by omega⟩, ?_⟩
    simp only [aSome_eq]
    rw [aLst_eq (by rw [up_ne ab.symm]; exact hb2)]
    refine ⟨by simp [ofN]; omega, xs.length - 1, by omega, xs.eraseIdx j.toNat, os ++ [xs[j.toNat]], _, rfl, ?_, ?_, ?_, ?_, (f2.put ap aq).put bp bq, fun c o np nq e => ?_⟩
    · rw [up_ne ab, up_same]; simp only [ofN, erase_map]
    · rw [up_same]; simp [ofN]
    · refine List.Perm.trans ?_ pm
      rw [List.append_assoc]
      exact List.Perm.append_left _ (erase_perm xs j.toNat jl)
    · rw [List.length_eraseIdx_of_lt jl]
    · rw [up_ne (ne_new e hb0), up_ne (ne_new e ha)]
      exact (kk.trans k2) c o np nq e
/-! ### paths -/
/-- a leaf's place around what lies there -/
def dwD : Sx → D → D
  | [], d => d
  | c :: r, d => .tup [.str [c], dwD r d]
theorem dwD_snoc : ∀ (s : Sx) (c : Nat) (d : D), dwD (s ++ [c]) d = dwD s (.tup [.str [c], d])
  | [], c, d => rfl
  | x :: s, c, d => by simp only [List.cons_append, dwD, dwD_snoc s c d]
def DwI (s : Sx) (d : D) (h : AH) (i : Nat) : St → AH → Prop := fun σ h' => h' = h ∧ ∃ x, σ = [some (.str s), some (dwD (s.drop (s.length - i)) d), x]
theorem down_ok {n : Nat} {s : Sx} {d : D} {h : AH} {Q : VQ} {X : XP} (hs : s.length ≤ 1000) (k : Q (dwD s d) h) : run P (n + 1) s__law_down [.str s, d] h Q X := by
  refine run_of (fd := fd_law_down) rfl rfl ?_
  simp [fd_law_down, start, b0_law_down]
  refine ⟨by omega, fun i => DwI s d h i, ⟨rfl, none, by simp [dwD]⟩, (fun _ _ _ _ => trivial), ?_, ?_⟩
  · rintro i x σ h' hx ⟨rfl, y, rfl⟩
    have li : i < s.length := by have := (List.getElem?_eq_some_iff.mp hx).1; simpa using this
    have ex : x = .str [s[s.length - 1 - i]'(by omega)] := by
      rw [List.getElem?_reverse (by simpa using li), List.getElem?_map, List.length_map, List.getElem?_eq_getElem (by omega)] at hx
      exact (Option.some.inj hx).symm
    subst ex
    simp [b1_law_down]
    refine ⟨rfl, some (.str [s[s.length - 1 - i]'(by omega)]), ?_⟩
    have e1 : s.length - (i + 1) = s.length - 1 - i := by omega
    have e2 : s.drop (s.length - (i + 1)) = s[s.length - 1 - i]'(by omega) :: s.drop (s.length - i) := by
      rw [e1, List.drop_eq_getElem_cons (by omega)]
      congr 2
      omega
    rw [e2]
    rfl
  · rintro σ h' ⟨rfl, y, rfl⟩
    simp [b2_law_down]
    exact k
/-! ### patterns and things at a path -/
def LR (s : Sx) : Prop := ∀ c ∈ s, c = cl ∨ c = cr
theorem LR.tail {c : Nat} {s : Sx} (h : LR (c :: s)) : LR s := fun x hx => h x (List.mem_cons_of_mem _ hx)
theorem BT.lr : ∀ (t : BT), ∀ p ∈ t.ps, LR p
  | .lf, p, h => by
    simp [ps] at h; subst h
    exact fun c hc => nomatch hc
  | .nd l r, p, h => by
    simp only [ps, List.mem_append, List.mem_map] at h
    rcases h with ⟨q, hq, rfl⟩ | ⟨q, hq, rfl⟩
    · intro c hc
      rcases List.mem_cons.mp hc with rfl | hc
      · exact .inl rfl
      · exact l.lr q hq c hc
    · intro c hc
      rcases List.mem_cons.mp hc with rfl | hc
      · exact .inr rfl
      · exact r.lr q hq c hc
theorem BT.nodup : ∀ t : BT, t.ps.Nodup
  | .lf => by simp [ps]
  | .nd l r => by
    simp only [ps]
    rw [List.nodup_append]
    have mi : ∀ {c : Nat} {l : List Sx}, l.Nodup → (l.map (c :: ·)).Nodup := fun {c l} h => List.pairwise_map.mpr (h.imp fun n e => n (by injection e))
    refine ⟨mi l.nodup, mi r.nodup, fun x hx y hy e => ?_⟩
    obtain ⟨u, _, rfl⟩ := List.mem_map.mp hx
    obtain ⟨v, _, rfl⟩ := List.mem_map.mp hy
    injection e with e
    cases e
def dwP : Sx → Pat → Pat
  | [], a => a
  | c :: s, a => if c = cl then .l (dwP s a) else .r (dwP s a)
def dwT : Sx → Th → Th
  | [], a => a
  | c :: s, a => if c = cl then .l (dwT s a) else .r (dwT s a)
theorem encL_dw {a : Pat} : ∀ {s : Sx}, LR s → encL (dwP s a) = dwD s (encL a)
  | [], _ => rfl
  | c :: s, h => by
    have ih := encL_dw (a := a) h.tail
    rcases h c List.mem_cons_self with rfl | rfl
    · rw [dwP, if_pos rfl]; simp only [encL, dwD, ih]
    · rw [dwP, if_neg (by decide)]; simp only [encL, dwD, ih]
theorem encR_dw {a : Pat} : ∀ {s : Sx}, LR s → encR (dwP s a) = dwD s (encR a)
  | [], _ => rfl
  | c :: s, h => by
    have ih := encR_dw (a := a) h.tail
    rcases h c List.mem_cons_self with rfl | rfl
    · rw [dwP, if_pos rfl]; simp only [encR, dwD, ih]
    · rw [dwP, if_neg (by decide)]; simp only [encR, dwD, ih]
theorem encT_dw {a : Th} : ∀ {s : Sx}, LR s → encT (dwT s a) = dwD s (encT a)
  | [], _ => rfl
  | c :: s, h => by
    have ih := encT_dw (a := a) h.tail
    rcases h c List.mem_cons_self with rfl | rfl
    · rw [dwT, if_pos rfl]; simp only [encT, dwD, ih]
    · rw [dwT, if_neg (by decide)]; simp only [encT, dwD, ih]
theorem holes_dw {a : Pat} : ∀ s : Sx, holes (dwP s a) = holes a
  | [] => rfl
  | c :: s => by
    simp only [dwP]
    split <;> exact holes_dw s
theorem pt_dw {a : Pat} {f : Sx → Th} : ∀ s : Sx, pt (dwP s a) f = dwT s (pt a f)
  | [] => rfl
  | c :: s => by
    simp only [dwP, dwT]
    split <;> simp only [pt, pt_dw s]
theorem tkB_dw {a : Pat} {t : Th} : ∀ s : Sx, tkB (dwP s a) (dwT s t) = tkB a t
  | [] => rfl
  | c :: s => by
    simp only [dwP, dwT]
    split <;> exact tkB_dw s
theorem dp_dw {a : Pat} : ∀ s : Sx, (dwP s a).dp = s.length + a.dp
  | [] => by simp [dwP]
  | c :: s => by
    simp only [dwP]
    split <;> simp only [Pat.dp, dp_dw s, List.length_cons] <;> omega
theorem sz_dw {a : Pat} : ∀ s : Sx, szP (dwP s a) = s.length + szP a
  | [] => by simp [dwP]
  | c :: s => by
    simp only [dwP]
    split <;> simp only [szP, sz_dw s, List.length_cons] <;> omega
/-- another leaf's is not taken -/
theorem tkB_ne {a : Pat} {u : Th} : ∀ (t : BT) {s s' : Sx}, s ∈ t.ps → s' ∈ t.ps → s ≠ s' → tkB (dwP s a) (dwT s' u) = none
  | .lf, s, s', h1, h2, ne => by
    simp [BT.ps] at h1 h2
    exact absurd (h1.trans h2.symm) ne
  | .nd l r, s, s', h1, h2, ne => by
    simp only [BT.ps, List.mem_append, List.mem_map] at h1 h2
    rcases h1 with ⟨x, hx, rfl⟩ | ⟨x, hx, rfl⟩ <;> rcases h2 with ⟨y, hy, rfl⟩ | ⟨y, hy, rfl⟩
    · rw [dwP, dwT, if_pos rfl, if_pos rfl]
      exact tkB_ne l hx hy fun e => ne (by rw [e])
    · rw [dwP, dwT, if_pos rfl, if_neg (by decide)]; rfl
    · rw [dwP, dwT, if_neg (by decide), if_pos rfl]; rfl
    · rw [dwP, dwT, if_neg (by decide), if_neg (by decide)]
      exact tkB_ne r hx hy fun e => ne (by rw [e])
/-! ### turnings of leaves -/
theorem gp_mem {ps : List Sx} {k : Nat} (h : k < ps.length) : ps.getD k [] ∈ ps := by simp [List.getD, h]
theorem gp_ne {ps : List Sx} (nd : ps.Nodup) {j k : Nat} (hj : j < ps.length) (hk : k < ps.length) (ne : j ≠ k) : ps.getD j [] ≠ ps.getD k [] := by
  simp only [List.getD, List.getElem?_eq_getElem hj, List.getElem?_eq_getElem hk, Option.getD_some]
  exact fun e => ne ((List.getElem_inj nd).mp e)
theorem gn_ne {o : List Nat} (nd : o.Nodup) {j k : Nat} (hj : j < o.length) (hk : k < o.length) (ne : j ≠ k) : o.getD j 0 ≠ o.getD k 0 := by
  simp only [List.getD, List.getElem?_eq_getElem hj, List.getElem?_eq_getElem hk, Option.getD_some]
  exact fun e => ne ((List.getElem_inj nd).mp e)
/-- an order of so many -/
def Od (o : List Nat) (n : Nat) : Prop := o.Perm (List.range n)
theorem Od.len {o : List Nat} {n : Nat} (h : Od o n) : o.length = n := by rw [h.length_eq, List.length_range]
theorem Od.nd {o : List Nat} {n : Nat} (h : Od o n) : o.Nodup := h.nodup_iff.mpr List.nodup_range
theorem Od.lt {o : List Nat} {n k : Nat} (h : Od o n) (hk : k < n) : o.getD k 0 < n := by
  have : o.getD k 0 ∈ o := getD_mem (by rw [h.len]; exact hk)
  exact List.mem_range.mp (h.mem_iff.mp this)
theorem Od.ne {o : List Nat} {n j k : Nat} (h : Od o n) (hj : j < n) (hk : k < n) (ne : j ≠ k) : o.getD j 0 ≠ o.getD k 0 := gn_ne h.nd (by rw [h.len]; exact hj) (by rw [h.len]; exact hk) ne
/-- b is a turning's way back -/
def Bk (o b : List Nat) (n : Nat) : Prop := ∀ k, k < n → b.getD k 0 < n ∧ o.getD (b.getD k 0) 0 = k
theorem Bk.ne {o b : List Nat} {n j k : Nat} (h : Bk o b n) (hj : j < n) (hk : k < n) (ne : j ≠ k) : b.getD j 0 ≠ b.getD k 0 := fun e => ne (by rw [← (h j hj).2, ← (h k hk).2, e])
/-- a leaf alone -/
def lfP (ps : List Sx) (k : Nat) : Pat := dwP (ps.getD k []) .one
def lfT (ps : List Sx) (k : Nat) : Th := dwT (ps.getD k []) .one
theorem lf_none {t : BT} {j k : Nat} (hj : j < t.ps.length) (hk : k < t.ps.length) (ne : j ≠ k) : tkB (lfP t.ps j) (lfT t.ps k) = none := tkB_ne t (gp_mem hj) (gp_mem hk) (gp_ne t.nodup hj hk ne)
theorem lf_some {ps : List Sx} {k : Nat} : tkB (lfP ps k) (lfT ps k) = some [] := tkB_dw _
theorem lf_pt {ps : List Sx} {k : Nat} {f : Sx → Th} : pt (lfP ps k) f = lfT ps k := pt_dw _
theorem lf_holes {ps : List Sx} {k : Nat} : holes (lfP ps k) = [] := holes_dw _
theorem lf_sz {ps : List Sx} {k m : Nat} (h : ∀ p ∈ ps, p.length ≤ m) : szP (lfP ps k) ≤ m + 1 := by
  rw [lfP, sz_dw]
  by_cases z : k < ps.length
  · have := h _ (gp_mem z); simp only [szP]; omega
  · simp [List.getD, z, szP]
theorem lf_dp {ps : List Sx} {k m : Nat} (h : ∀ p ∈ ps, p.length ≤ m) : (lfP ps k).dp ≤ m := by
  rw [lfP, dp_dw]
  by_cases z : k < ps.length
  · have := h _ (gp_mem z); simp only [Pat.dp]; omega
  · simp [List.getD, z, Pat.dp]
def trRow (ps : List Sx) (o : List Nat) (k : Nat) : Pat × Pat := (lfP ps k, lfP ps (o.getD k 0))
def trRows (ps : List Sx) (o : List Nat) : List (Pat × Pat) := (List.range ps.length).map (trRow ps o)
def trW (ps : List Sx) (o : List Nat) : D := .tup [.str qcases, .tup ((trRows ps o).map rowD)]
theorem tr_row {ps : List Sx} {o : List Nat} {j : Nat} {y : Pat × Pat} (e : (trRows ps o)[j]? = some y) : j < ps.length ∧ y = trRow ps o j := by
  have l := (List.getElem?_eq_some_iff.mp e).1
  have l : j < ps.length := by simpa [trRows] using l
  refine ⟨l, ?_⟩
  simp [trRows, l] at e
  exact e.symm
theorem tr_ok {ps : List Sx} {o : List Nat} {k m : Nat} (hm : 10 < m) (hd : ∀ p ∈ ps, p.length ≤ 10) : RowOk m (trRow ps o k) := by
  have z1 := lf_sz (k := k) hd
  have z2 := lf_sz (k := o.getD k 0) hd
  have d1 := lf_dp (k := k) hd
  have d2 := lf_dp (k := o.getD k 0) hd
  exact ⟨by simp [trRow, lf_holes], by simp [trRow, lf_holes], by simp only [trRow]; omega, by simp only [trRow]; omega, by simp only [trRow]; omega, by simp only [trRow]; omega, by simp [trRow, lf_holes]⟩
theorem tr_f {wk : List (D × D)} {n : Nat} {t : BT} {o : List Nat} {k : Nat} (hn : 6 ≤ n) (hd : ∀ p ∈ t.ps, p.length ≤ 10) (hk : k < t.ps.length) : Sn wk (n + 1) (trW t.ps o) false (lfT t.ps k) (lfT t.ps (o.getD k 0)) := by
  refine Sn.cases_ (rw_at _ k (trRow t.ps o k) (by simp [trRows, hk]) (fun j y ej => ?_) ⟨[], fun _ => .one, fun _ => .non, ?_, ?_, fun _ _ z => nomatch z⟩)
  · obtain ⟨hj, rfl⟩ := tr_row ej
    exact ⟨tr_ok (by omega) hd, fun ne => lf_none hj hk ne⟩
  · exact lf_some
  · exact lf_pt.symm
theorem tr_b {wk : List (D × D)} {n : Nat} {t : BT} {o : List Nat} {k : Nat} (hn : 6 ≤ n) (hd : ∀ p ∈ t.ps, p.length ≤ 10) (ho : Od o t.ps.length) (hk : k < t.ps.length) : Sn wk (n + 1) (trW t.ps o) true (lfT t.ps (o.getD k 0)) (lfT t.ps k) := by
  refine Sn.cases_ (rw_at _ k (trRow t.ps o k) (by simp [trRows, hk]) (fun j y ej => ?_) ⟨[], fun _ => .one, fun _ => .non, ?_, ?_, fun _ _ z => nomatch z⟩)
  · obtain ⟨hj, rfl⟩ := tr_row ej
    exact ⟨tr_ok (by omega) hd, fun ne => lf_none (ho.lt hj) (ho.lt hk) (ho.ne hj hk ne)⟩
  · exact lf_some
  · exact lf_pt.symm
/-! ### the rows of off -/
section
variable (t1 t2 : BT) (o0 o1 r0 r1 b0 b1 : List Nat)
def num (i j : Nat) : Th := .p (lfT t1.ps i) (lfT t2.ps j)
def nuP (i j : Nat) : Pat := .p (lfP t1.ps i) (lfP t2.ps j)
def ofR0 : Pat × Pat := (.l .one, .r (nuP t1 t2 (o0.getD 0 0) (o1.getD 0 0)))
def ofRA (k : Nat) : Pat × Pat := (.r (.p (.hole qd (trW t1.ps r0)) (lfP t2.ps (b1.getD (o1.getD k 0) 0))), .r (.p (.hole qd (trW t1.ps r0)) (lfP t2.ps (o1.getD (k + 1) 0))))
def ofRB (i : Nat) : Pat × Pat := (.r (nuP t1 t2 (b0.getD (o0.getD i 0) 0) (b1.getD (o1.getD (t2.ps.length - 1) 0) 0)), if i + 1 = t1.ps.length then .l .one else .r (nuP t1 t2 (o0.getD (i + 1) 0) (o1.getD 0 0)))
def ofRows : List (Pat × Pat) := ofR0 t1 t2 o0 o1 :: ((List.range (t2.ps.length - 1)).map (ofRA t1 t2 o1 r0 b1) ++ (List.range t1.ps.length).map (ofRB t1 t2 o0 o1 b0 b1))
def ofW3 : D := .tup [.str qcases, .tup ((ofRows t1 t2 o0 o1 r0 b0 b1).map rowD)]
def ofW4 : D := .tup [.str qbeside, trW t1.ps r0, trW t2.ps r1]
structure OffK : Prop where
  h0 : Od o0 t1.ps.length
  h1 : Od o1 t2.ps.length
  q0 : Od r0 t1.ps.length
  q1 : Od r1 t2.ps.length
  k0 : Bk r0 b0 t1.ps.length
  k1 : Bk r1 b1 t2.ps.length
  d1 : ∀ p ∈ t1.ps, p.length ≤ 10
  d2 : ∀ p ∈ t2.ps, p.length ≤ 10
  p1 : 0 < t1.ps.length
  p2 : 0 < t2.ps.length
end
section
variable {t1 t2 : BT} {o0 o1 r0 r1 b0 b1 : List Nat}
theorem of_row {j : Nat} {y : Pat × Pat} (p2 : 0 < t2.ps.length) (e : (ofRows t1 t2 o0 o1 r0 b0 b1)[j]? = some y) : (j = 0 ∧ y = ofR0 t1 t2 o0 o1) ∨ (∃ m, m + 1 < t2.ps.length ∧ j = m + 1 ∧ y = ofRA t1 t2 o1 r0 b1 m) ∨ (∃ i, i < t1.ps.length ∧ j = t2.ps.length + i ∧ y = ofRB t1 t2 o0 o1 b0 b1 i) := by
  cases j with
  | zero => simp [ofRows] at e; exact .inl ⟨rfl, e.symm⟩
  | succ j =>
    simp only [ofRows, List.getElem?_cons_succ] at e
    by_cases z : j < t2.ps.length - 1
    · rw [List.getElem?_append_left (by simpa using z)] at e
      simp [z] at e
      exact .inr (.inl ⟨j, by omega, rfl, e.symm⟩)
    · rw [List.getElem?_append_right (by simpa using z)] at e
      obtain ⟨l, _⟩ := List.getElem?_eq_some_iff.mp e
      simp only [List.length_map, List.length_range] at l
      simp [l] at e
      exact .inr (.inr ⟨j - (t2.ps.length - 1), l, by omega, e.symm⟩)
theorem of_at0 : (ofRows t1 t2 o0 o1 r0 b0 b1)[0]? = some (ofR0 t1 t2 o0 o1) := rfl
theorem of_atA {m : Nat} (h : m + 1 < t2.ps.length) : (ofRows t1 t2 o0 o1 r0 b0 b1)[m + 1]? = some (ofRA t1 t2 o1 r0 b1 m) := by
  have : m < t2.ps.length - 1 := by omega
  simp only [ofRows, List.getElem?_cons_succ]
  rw [List.getElem?_append_left (by simpa using this)]
  simp [this]
theorem of_atB {i : Nat} (p2 : 0 < t2.ps.length) (h : i < t1.ps.length) : (ofRows t1 t2 o0 o1 r0 b0 b1)[t2.ps.length + i]? = some (ofRB t1 t2 o0 o1 b0 b1 i) := by
  obtain ⟨n, e⟩ : ∃ n, t2.ps.length = n + 1 := ⟨t2.ps.length - 1, by omega⟩
  rw [show t2.ps.length + i = (t2.ps.length - 1 + i) + 1 by omega]
  simp only [ofRows, List.getElem?_cons_succ]
  rw [List.getElem?_append_right (by simp)]
  simp [h]
theorem tkp1 {a b : Pat} {t u : Th} (h : tkB a t = none) : tkB (.p a b) (.p t u) = none := by
  simp only [tkB, h]
  cases tkB b u <;> rfl
theorem tkp2 {a b : Pat} {t u : Th} (h : tkB b u = none) : tkB (.p a b) (.p t u) = none := by
  simp only [tkB, h]
  rfl
theorem nu_some {i j : Nat} : tkB (nuP t1 t2 i j) (num t1 t2 i j) = some [] := by
  simp only [nuP, num, tkB, lf_some]
  rfl
theorem nu_pt {i j : Nat} {f : Sx → Th} : pt (nuP t1 t2 i j) f = num t1 t2 i j := by simp only [nuP, num, pt, lf_pt]
theorem nu_none1 {i j i' j' : Nat} (hi : i < t1.ps.length) (hi' : i' < t1.ps.length) (ne : i ≠ i') : tkB (nuP t1 t2 i j) (num t1 t2 i' j') = none := tkp1 (lf_none hi hi' ne)
theorem nu_none2 {i j i' j' : Nat} (hi : j < t2.ps.length) (hi' : j' < t2.ps.length) (ne : j ≠ j') : tkB (nuP t1 t2 i j) (num t1 t2 i' j') = none := tkp2 (lf_none hi hi' ne)
theorem of_ok {m j : Nat} {y : Pat × Pat} (K : OffK t1 t2 o0 o1 r0 r1 b0 b1) (hm : 14 ≤ m) (e : (ofRows t1 t2 o0 o1 r0 b0 b1)[j]? = some y) : RowOk m y := by
  have z1 := fun k => lf_sz (k := k) K.d1
  have z2 := fun k => lf_sz (k := k) K.d2
  have d1 := fun k => lf_dp (k := k) K.d1
  have d2 := fun k => lf_dp (k := k) K.d2
  rcases of_row K.p2 e with ⟨_, rfl⟩ | ⟨k, _, _, rfl⟩ | ⟨i, _, _, rfl⟩
  · have a1 := z1 (o0.getD 0 0)
    have a2 := z2 (o1.getD 0 0)
    have a3 := d1 (o0.getD 0 0)
    have a4 := d2 (o1.getD 0 0)
    refine ⟨?_, ?_, ?_, ?_, ?_, ?_, ?_⟩ <;> simp only [ofR0, nuP, holes, lf_holes, szP, Pat.dp] <;> first | omega | simp
  · have a1 := z2 (o1.getD (k + 1) 0)
    have a2 := z2 (b1.getD (o1.getD k 0) 0)
    have a3 := d2 (o1.getD (k + 1) 0)
    have a4 := d2 (b1.getD (o1.getD k 0) 0)
    refine ⟨?_, ?_, ?_, ?_, ?_, ?_, ?_⟩ <;> simp only [ofRA, holes, lf_holes, szP, Pat.dp] <;> first | omega | simp
  · have a1 := z1 (b0.getD (o0.getD i 0) 0)
    have a2 := z2 (b1.getD (o1.getD (t2.ps.length - 1) 0) 0)
    have a3 := d1 (b0.getD (o0.getD i 0) 0)
    have a4 := d2 (b1.getD (o1.getD (t2.ps.length - 1) 0) 0)
    have c1 := z1 (o0.getD (i + 1) 0)
    have c2 := z2 (o1.getD 0 0)
    have c3 := d1 (o0.getD (i + 1) 0)
    have c4 := d2 (o1.getD 0 0)
    by_cases z : i + 1 = t1.ps.length
    · refine ⟨?_, ?_, ?_, ?_, ?_, ?_, ?_⟩ <;> simp only [ofRB, nuP, holes, lf_holes, szP, Pat.dp, if_pos z] <;> first | omega | simp
    · refine ⟨?_, ?_, ?_, ?_, ?_, ?_, ?_⟩ <;> simp only [ofRB, nuP, holes, lf_holes, szP, Pat.dp, if_neg z] <;> first | omega | simp
end
section
variable {t1 t2 : BT} {o0 o1 r0 r1 b0 b1 : List Nat} {wk : List (D × D)} {n : Nat}
def Fo (t1 t2 : BT) (o0 o1 r0 b0 b1 : List Nat) (wk : List (D × D)) (n : Nat) : Th → Th → Prop := FR (Sn wk n) (ofW3 t1 t2 o0 o1 r0 b0 b1)
def Ho (t1 t2 : BT) (r0 r1 : List Nat) (wk : List (D × D)) (n : Nat) : Th → Th → Prop := HR (Sn wk n) (ofW4 t1 t2 r0 r1)
/-- one row that has no open place -/
theorem of_go {j : Nat} {x : Pat × Pat} {b : Bool} {t u : Th} (K : OffK t1 t2 o0 o1 r0 r1 b0 b1) (hn : 7 ≤ n) (e : (ofRows t1 t2 o0 o1 r0 b0 b1)[j]? = some x) (h : ∀ j' y, j' ≠ j → (ofRows t1 t2 o0 o1 r0 b0 b1)[j']? = some y → tkB (sideP b y) t = none) (hs : tkB (sideP b x) t = some []) (hp : u = pt (otherP b x) fun _ => .one) : Sn wk (n + 1) (ofW3 t1 t2 o0 o1 r0 b0 b1) b t u :=
  Sn.cases_ (rw_at _ j x e (fun j' y ej => ⟨of_ok K (by omega) ej, fun ne => h j' y ne ej⟩) ⟨[], fun _ => .one, fun _ => .non, hs, hp, fun _ _ z => nomatch z⟩)
theorem of_t0 (K : OffK t1 t2 o0 o1 r0 r1 b0 b1) (hn : 7 ≤ n) : Fo t1 t2 o0 o1 r0 b0 b1 wk (n + 1) (.l .one) (.r (num t1 t2 (o0.getD 0 0) (o1.getD 0 0))) := by
  refine ⟨of_go K hn of_at0 (fun j y ne e => ?_) rfl (by simp only [otherP, ofR0, Bool.false_eq_true, if_false, pt, nu_pt]), of_go K hn of_at0 (fun j y ne e => ?_) (by simp only [sideP, ofR0, tkB, if_pos, nu_some]) rfl⟩
  · rcases of_row K.p2 e with ⟨z, rfl⟩ | ⟨m, _, _, rfl⟩ | ⟨i, _, _, rfl⟩
    · exact absurd z ne
    · rfl
    · rfl
  · rcases of_row K.p2 e with ⟨z, rfl⟩ | ⟨m, lm, _, rfl⟩ | ⟨i, li, _, rfl⟩
    · exact absurd z ne
    · exact tkp2 (lf_none (K.h1.lt lm) (K.h1.lt K.p2) (K.h1.ne lm K.p2 (by omega)))
    · simp only [sideP, ofRB, if_pos]
      by_cases z : i + 1 = t1.ps.length
      · rw [if_pos z]; rfl
      · rw [if_neg z]
        exact nu_none1 (i := o0.getD (i + 1) 0) (K.h0.lt (by omega)) (K.h0.lt K.p1) (K.h0.ne (by omega) K.p1 (by omega))
theorem of_tA (K : OffK t1 t2 o0 o1 r0 r1 b0 b1) (hn : 7 ≤ n) {i m : Nat} (hi : i < t1.ps.length) (hm : m + 1 < t2.ps.length) : Fo t1 t2 o0 o1 r0 b0 b1 wk (n + 1) (.r (num t1 t2 (b0.getD (o0.getD i 0) 0) (b1.getD (o1.getD m 0) 0))) (.r (num t1 t2 (o0.getD i 0) (o1.getD (m + 1) 0))) := by
  have kb := K.k0 _ (K.h0.lt hi)
  have s1 : Sn wk n (trW t1.ps r0) false (lfT t1.ps (b0.getD (o0.getD i 0) 0)) (lfT t1.ps (o0.getD i 0)) := by
    have := tr_f (wk := wk) (n := n - 1) (t := t1) (o := r0) (k := b0.getD (o0.getD i 0) 0) (by omega) K.d1 kb.1
    rw [kb.2, show n - 1 + 1 = n by omega] at this
    exact this
  have s2 : Sn wk n (trW t1.ps r0) true (lfT t1.ps (o0.getD i 0)) (lfT t1.ps (b0.getD (o0.getD i 0) 0)) := by
    have := tr_b (wk := wk) (n := n - 1) (t := t1) (o := r0) (k := b0.getD (o0.getD i 0) 0) (by omega) K.d1 K.q0 kb.1
    rw [kb.2, show n - 1 + 1 = n by omega] at this
    exact this
  refine ⟨Sn.cases_ (rw_at _ (m + 1) _ (of_atA hm) (fun j y ej => ⟨of_ok K (by omega) ej, fun ne => ?_⟩) ⟨[(qd, lfT t1.ps (b0.getD (o0.getD i 0) 0))], fun _ => lfT t1.ps (o0.getD i 0), fun _ => trW t1.ps r0, ?_, ?_, fun nm t' z => ?_⟩), Sn.cases_ (rw_at _ (m + 1) _ (of_atA hm) (fun j y ej => ⟨of_ok K (by omega) ej, fun ne => ?_⟩) ⟨[(qd, lfT t1.ps (o0.getD i 0))], fun _ => lfT t1.ps (b0.getD (o0.getD i 0) 0), fun _ => trW t1.ps r0, ?_, ?_, fun nm t' z => ?_⟩)⟩
  · rcases of_row K.p2 ej with ⟨z, rfl⟩ | ⟨k, lk, ek, rfl⟩ | ⟨k, lk, _, rfl⟩
    · rfl
    · exact tkp2 (lf_none (K.k1 _ (K.h1.lt (by omega))).1 (K.k1 _ (K.h1.lt (by omega))).1 (K.k1.ne (K.h1.lt (by omega)) (K.h1.lt (by omega)) (K.h1.ne (by omega) (by omega) (by omega))))
    · exact tkp2 (lf_none (K.k1 _ (K.h1.lt (by omega))).1 (K.k1 _ (K.h1.lt (by omega))).1 (K.k1.ne (K.h1.lt (by omega)) (K.h1.lt (by omega)) (K.h1.ne (by omega) (by omega) (by omega))))
  · simp only [sideP, ofRA, Bool.false_eq_true, if_false, num, tkB, lf_some]; rfl
  · simp only [otherP, ofRA, Bool.false_eq_true, if_false, num, pt, lf_pt]
  · rw [List.mem_singleton] at z
    cases z
    exact ⟨by simp [ofRA, holes], s1⟩
  · rcases of_row K.p2 ej with ⟨z, rfl⟩ | ⟨k, lk, ek, rfl⟩ | ⟨k, lk, _, rfl⟩
    · exact nu_none2 (i := o0.getD 0 0) (K.h1.lt K.p2) (K.h1.lt hm) (K.h1.ne K.p2 hm (by omega))
    · exact tkp2 (lf_none (K.h1.lt lk) (K.h1.lt hm) (K.h1.ne lk hm (by omega)))
    · simp only [sideP, ofRB, if_pos]
      by_cases z : k + 1 = t1.ps.length
      · rw [if_pos z]; rfl
      · rw [if_neg z]
        exact nu_none2 (i := o0.getD (k + 1) 0) (K.h1.lt K.p2) (K.h1.lt hm) (K.h1.ne K.p2 hm (by omega))
  · simp only [sideP, ofRA, num, tkB, lf_some, if_pos]; rfl
  · simp only [otherP, ofRA, num, pt, lf_pt, if_pos]
  · rw [List.mem_singleton] at z
    cases z
    exact ⟨by simp [ofRA, holes], s2⟩
theorem of_fB (K : OffK t1 t2 o0 o1 r0 r1 b0 b1) {i j : Nat} {y : Pat × Pat} (hi : i < t1.ps.length) (ne : j ≠ t2.ps.length + i) (ej : (ofRows t1 t2 o0 o1 r0 b0 b1)[j]? = some y) : tkB (sideP false y) (.r (num t1 t2 (b0.getD (o0.getD i 0) 0) (b1.getD (o1.getD (t2.ps.length - 1) 0) 0))) = none := by
  rcases of_row K.p2 ej with ⟨z, rfl⟩ | ⟨k, lk, ek, rfl⟩ | ⟨k, lk, ek, rfl⟩
  · rfl
  · exact tkp2 (lf_none (K.k1 _ (K.h1.lt (by omega))).1 (K.k1 _ (K.h1.lt (by omega))).1 (K.k1.ne (K.h1.lt (by omega)) (K.h1.lt (by omega)) (K.h1.ne (by omega) (by omega) (by omega))))
  · exact nu_none1 (i := b0.getD (o0.getD k 0) 0) (K.k0 _ (K.h0.lt lk)).1 (K.k0 _ (K.h0.lt hi)).1 (K.k0.ne (K.h0.lt lk) (K.h0.lt hi) (K.h0.ne lk hi (by omega)))
theorem of_tB (K : OffK t1 t2 o0 o1 r0 r1 b0 b1) (hn : 7 ≤ n) {i : Nat} (hi : i + 1 < t1.ps.length) : Fo t1 t2 o0 o1 r0 b0 b1 wk (n + 1) (.r (num t1 t2 (b0.getD (o0.getD i 0) 0) (b1.getD (o1.getD (t2.ps.length - 1) 0) 0))) (.r (num t1 t2 (o0.getD (i + 1) 0) (o1.getD 0 0))) := by
  have ne1 : ¬ i + 1 = t1.ps.length := by omega
  refine ⟨of_go K hn (of_atB K.p2 (i := i) (by omega)) (fun j y ne e => of_fB K (by omega) ne e) nu_some ?_, of_go K hn (of_atB K.p2 (i := i) (by omega)) (fun j y ne e => ?_) ?_ ?_⟩
  · simp only [otherP, ofRB, Bool.false_eq_true, if_false, if_neg ne1, pt, nu_pt]
  · rcases of_row K.p2 e with ⟨z, rfl⟩ | ⟨k, lk, ek, rfl⟩ | ⟨k, lk, ek, rfl⟩
    · exact nu_none1 (i := o0.getD 0 0) (K.h0.lt K.p1) (K.h0.lt hi) (K.h0.ne K.p1 hi (by omega))
    · exact tkp2 (lf_none (K.h1.lt lk) (K.h1.lt K.p2) (K.h1.ne lk K.p2 (by omega)))
    · simp only [sideP, ofRB, if_pos]
      by_cases z : k + 1 = t1.ps.length
      · rw [if_pos z]; rfl
      · rw [if_neg z]
        exact nu_none1 (i := o0.getD (k + 1) 0) (K.h0.lt (by omega)) (K.h0.lt hi) (K.h0.ne (by omega) hi (by omega))
  · simp only [sideP, ofRB, if_neg ne1, if_pos, tkB, nu_some]
  · simp only [otherP, ofRB, if_pos, pt, nu_pt]
theorem of_tZ (K : OffK t1 t2 o0 o1 r0 r1 b0 b1) (hn : 7 ≤ n) {i : Nat} (hi : i + 1 = t1.ps.length) : Fo t1 t2 o0 o1 r0 b0 b1 wk (n + 1) (.r (num t1 t2 (b0.getD (o0.getD i 0) 0) (b1.getD (o1.getD (t2.ps.length - 1) 0) 0))) (.l .one) := by
  refine ⟨of_go K hn (of_atB K.p2 (i := i) (by omega)) (fun j y ne e => of_fB K (by omega) ne e) nu_some ?_, of_go K hn (of_atB K.p2 (i := i) (by omega)) (fun j y ne e => ?_) ?_ ?_⟩
  · simp only [otherP, ofRB, Bool.false_eq_true, if_false, if_pos hi, pt]
  · rcases of_row K.p2 e with ⟨z, rfl⟩ | ⟨k, lk, ek, rfl⟩ | ⟨k, lk, ek, rfl⟩
    · rfl
    · rfl
    · simp only [sideP, ofRB, if_pos]
      have ne2 : ¬ k + 1 = t1.ps.length := by omega
      rw [if_neg ne2]; rfl
  · simp only [sideP, ofRB, if_pos hi, if_pos, tkB]
  · simp only [otherP, ofRB, if_pos, pt, nu_pt]
theorem of_h (K : OffK t1 t2 o0 o1 r0 r1 b0 b1) (hn : 7 ≤ n) {i j : Nat} (hi : i < t1.ps.length) (hj : j < t2.ps.length) : Ho t1 t2 r0 r1 wk (n + 1) (num t1 t2 i j) (num t1 t2 (b0.getD i 0) (b1.getD j 0)) := by
  have k0 := K.k0 i hi
  have k1 := K.k1 j hj
  obtain ⟨m, rfl⟩ : ∃ m, n = m + 1 := ⟨n - 1, by omega⟩
  have a1 := tr_f (wk := wk) (n := m) (t := t1) (o := r0) (by omega) K.d1 k0.1
  have a2 := tr_b (wk := wk) (n := m) (t := t1) (o := r0) (by omega) K.d1 K.q0 k0.1
  have c1 := tr_f (wk := wk) (n := m) (t := t2) (o := r1) (by omega) K.d2 k1.1
  have c2 := tr_b (wk := wk) (n := m) (t := t2) (o := r1) (by omega) K.d2 K.q1 k1.1
  rw [k0.2] at a1 a2
  rw [k1.2] at c1 c2
  exact ⟨Sn.beside a2 c2, Sn.beside a1 c1⟩
end
section
variable {t1 t2 : BT} {o0 o1 r0 r1 b0 b1 : List Nat} {wk : List (D × D)} {n : Nat}
def bdP (t1 t2 : BT) (b0 b1 : List Nat) (i j : Nat) : List (Sx × Th) := [(qd, num t1 t2 i j), (qc, num t1 t2 (b0.getD i 0) (b1.getD j 0))]
def bdR (t1 t2 : BT) (b0 b1 : List Nat) (i : Nat) (js : List Nat) : List (Sx × Th) := js.flatMap fun j => bdP t1 t2 b0 b1 i j
def bdA (t1 t2 : BT) (b0 b1 : List Nat) (is js : List Nat) : List (Sx × Th) := is.flatMap fun i => bdR t1 t2 b0 b1 i js
theorem dr_cons {o : List Nat} {k : Nat} (h : k < o.length) : o.drop k = o.getD k 0 :: o.drop (k + 1) := by
  rw [List.drop_eq_getElem_cons h]
  simp [List.getD, h]
theorem of_row1 (K : OffK t1 t2 o0 o1 r0 r1 b0 b1) (hn : 7 ≤ n) {i N : Nat} {tl : List (Sx × Th)} (hi : i < t1.ps.length) (c : Chn (Fo t1 t2 o0 o1 r0 b0 b1 wk (n + 1)) (Ho t1 t2 r0 r1 wk (n + 1)) N (.r (num t1 t2 (b0.getD (o0.getD i 0) 0) (b1.getD (o1.getD (t2.ps.length - 1) 0) 0))) .one tl) :
    ∀ (d : Nat) (a : Th) (m : Nat), m + d + 1 = t2.ps.length → Fo t1 t2 o0 o1 r0 b0 b1 wk (n + 1) a (.r (num t1 t2 (o0.getD i 0) (o1.getD m 0))) → Chn (Fo t1 t2 o0 o1 r0 b0 b1 wk (n + 1)) (Ho t1 t2 r0 r1 wk (n + 1)) (N + (d + 1)) a .one (bdR t1 t2 b0 b1 (o0.getD i 0) (o1.drop m) ++ tl)
  | 0, a, m, e, f => by
    have em : m = t2.ps.length - 1 := by omega
    have l1 := K.h1.len
    rw [dr_cons (by omega), show o1.drop (m + 1) = [] from List.drop_eq_nil_of_le (by omega)]
    refine ⟨_, _, tl, f, of_h K hn (K.h0.lt hi) (K.h1.lt (by omega)), ?_, rfl⟩
    rw [em]
    exact c
  | d + 1, a, m, e, f => by
    have l1 := K.h1.len
    rw [dr_cons (by omega)]
    exact ⟨_, _, _, f, of_h K hn (K.h0.lt hi) (K.h1.lt (by omega)), of_row1 K hn hi c d _ (m + 1) (by omega) (of_tA K hn hi (by omega)), rfl⟩
theorem of_all (K : OffK t1 t2 o0 o1 r0 r1 b0 b1) (hn : 7 ≤ n) : ∀ (e : Nat) (a : Th) (i : Nat), i + e + 1 = t1.ps.length → Fo t1 t2 o0 o1 r0 b0 b1 wk (n + 1) a (.r (num t1 t2 (o0.getD i 0) (o1.getD 0 0))) → ∃ N, Chn (Fo t1 t2 o0 o1 r0 b0 b1 wk (n + 1)) (Ho t1 t2 r0 r1 wk (n + 1)) N a .one (bdA t1 t2 b0 b1 (o0.drop i) o1 ++ [(qb, .one)])
  | 0, a, i, e, f => by
    have l0 := K.h0.len
    have := of_row1 (wk := wk) (N := 0) (tl := [(qb, .one)]) K hn (i := i) (by omega) ⟨of_tZ K hn (by omega), rfl⟩ (t2.ps.length - 1) a 0 (by have := K.p2; omega) f
    refine ⟨0 + (t2.ps.length - 1 + 1), ?_⟩
    rw [dr_cons (by omega), show o0.drop (i + 1) = [] from List.drop_eq_nil_of_le (by omega)]
    simpa [bdA] using this
  | e + 1, a, i, he, f => by
    have l0 := K.h0.len
    obtain ⟨N, c⟩ := of_all K hn e _ (i + 1) (by omega) (of_tB K hn (i := i) (by omega))
    have := of_row1 (wk := wk) K hn (i := i) (by omega) c (t2.ps.length - 1) a 0 (by have := K.p2; omega) f
    refine ⟨N + (t2.ps.length - 1 + 1), ?_⟩
    rw [dr_cons (by omega)]
    simpa [bdA, List.append_assoc] using this
theorem of_chn (K : OffK t1 t2 o0 o1 r0 r1 b0 b1) (hn : 7 ≤ n) : ∃ N, Chn (FR (Sn wk (n + 1)) (ofW3 t1 t2 o0 o1 r0 b0 b1)) (HR (Sn wk (n + 1)) (ofW4 t1 t2 r0 r1)) N (.l .one) .one (bdA t1 t2 b0 b1 o0 o1 ++ [(qb, .one)]) := by
  have := of_all (wk := wk) K hn (t1.ps.length - 1) (.l .one) 0 (by have := K.p1; omega) (of_t0 K hn)
  rw [List.drop_zero] at this
  exact this
theorem bdR_len (i : Nat) : ∀ js : List Nat, (bdR t1 t2 b0 b1 i js).length = 2 * js.length
  | [] => rfl
  | j :: js => by
    have := bdR_len i js
    simp only [bdR, List.flatMap_cons, List.length_append, List.length_cons, bdP, List.length_nil] at this ⊢
    omega
theorem bdA_len (js : List Nat) : ∀ is : List Nat, (bdA t1 t2 b0 b1 is js).length = 2 * js.length * is.length
  | [] => by simp [bdA]
  | i :: is => by
    have := bdA_len js is
    have l := bdR_len (t1 := t1) (t2 := t2) (b0 := b0) (b1 := b1) i js
    simp only [bdA, List.flatMap_cons, List.length_append, List.length_cons] at this ⊢
    rw [this, l, Nat.mul_succ]
    omega
end
theorem atI_S {ps : List Sx} {k : Nat} (hk : k < ps.length) : atI (ps.map D.str) (k : Int) = some (D.str (ps.getD k [])) := by
  unfold atI
  rw [if_pos (by omega), show (k : Int).toNat = k by omega]
  simp [List.getD, hk]
theorem ixS {ps : List Sx} {r k : Nat} {h : AH} {Q : VQ} (e : h r = some (.lst (ps.map .str))) (hk : k < ps.length) (q : Q (.str (ps.getD k [])) h) : opIx (.ref r) (.int (k : Int)) h Q := by
  rw [ix_lst e, atI_S hk]
  exact q
theorem ixN {os : List Nat} {r k : Nat} {h : AH} {Q : VQ} (e : h r = some (.lst (ofN os))) (hk : k < os.length) (q : Q (.int ((os.getD k 0 : Nat) : Int)) h) : opIx (.ref r) (.int (k : Int)) h Q := by
  rw [ix_lst e, atI_ofN hk]
  exact q
/-- a tree's paths -/
def Ps (t : BT) (r : Nat) (h : AH) : Prop := h r = some (.lst (t.ps.map .str))
abbrev oneD : D := .tup [.str qone]
theorem dwn_ok {n r k : Nat} {t : BT} {d : D} {h : AH} {Q : VQ} {X : XP} (e : Ps t r h) (hk : k < t.ps.length) (hd : ∀ p ∈ t.ps, p.length ≤ 10) (q : Q (dwD (t.ps.getD k []) d) h) : opIx (.ref r) (.int (k : Int)) h fun x h' => run P (n + 1) s__law_down [x, d] h' Q X :=
  ixS e hk (down_ok (by have := hd _ (gp_mem hk); omega) q)
theorem digit_ok {n r k : Nat} {t : BT} {d : D} {h : AH} {Q : VQ} {X : XP} (e : Ps t r h) (hk : k < t.ps.length) (hd : ∀ p ∈ t.ps, p.length ≤ 10) (q : Q (.tup [.str qp, d, dwD (t.ps.getD k []) oneD]) h) : run P (n + 2) s__law_digit [.ref r, .int (k : Int), d] h Q X := by
  refine run_of (fd := fd_law_digit) rfl rfl ?_
  simp [fd_law_digit, start, b0_law_digit]
  exact dwn_ok e hk hd q
theorem number_ok {n rs ra rb i j : Nat} {t1 t2 : BT} {h : AH} {Q : VQ} {X : XP} (er : h rs = some (.lst [.ref ra, .ref rb])) (e1 : Ps t1 ra h) (e2 : Ps t2 rb h) (hi : i < t1.ps.length) (hj : j < t2.ps.length) (h1 : ∀ p ∈ t1.ps, p.length ≤ 10) (h2 : ∀ p ∈ t2.ps, p.length ≤ 10) (q : Q (encT (num t1 t2 i j)) h) : run P (n + 2) s__law_number [.ref rs, .int (i : Int), .int (j : Int)] h Q X := by
  refine run_of (fd := fd_law_number) rfl rfl ?_
  simp [fd_law_number, start, b0_law_number]
  rw [ix_lst er]
  have a0 : atI [D.ref ra, D.ref rb] 0 = some (.ref ra) := rfl
  have a1 : atI [D.ref ra, D.ref rb] 1 = some (.ref rb) := rfl
  rw [a0]
  refine dwn_ok e1 hi h1 ?_
  rw [ix_lst er, a1]
  refine dwn_ok e2 hj h2 ?_
  have ee : encT (num t1 t2 i j) = .tup [.str qp, dwD (t1.ps.getD i []) (.tup []), dwD (t2.ps.getD j []) (.tup [])] := by
    simp only [num, encT, lfT]
    rw [encT_dw (t1.lr _ (gp_mem hi)), encT_dw (t2.lr _ (gp_mem hj))]
    rfl
  rw [ee] at q
  exact q
def TnI (t : BT) (o : List Nat) (a b c : Nat) (h0 : AH) (i : Nat) : St → AH → Prop := fun σ h => ∃ x, σ = [some (.ref a), some (.ref b), some (.ref c), x] ∧ h c = some (.lst (((List.range i).map (trRow t.ps o)).map rowD)) ∧ Ke c h0 h
theorem turning_ok {n a b : Nat} {t : BT} {o : List Nat} {h : AH} {Q : VQ} {X : XP} (e : Ps t a h) (eo : h b = some (.lst (ofN o))) (ho : Od o t.ps.length) (hd : ∀ p ∈ t.ps, p.length ≤ 10) (hz : t.ps.length ≤ 1000) (q : ∀ h', Ext h h' → Q (trW t.ps o) h') : run P (n + 2) s__law_turning [.ref a, .ref b] h Q X := by
  refine run_of (fd := fd_law_turning) rfl rfl ?_
  simp [fd_law_turning, start, b0_law_turning]
  intro c hc
  have x1 : Ext h (up h c (.lst [])) := Ext.new hc
  rw [len_lst (x1 _ _ e)]
  refine ⟨by simp; omega, ?_⟩
  refine loop_rng (fun i => TnI t o a b c (up h c (.lst [])) i) ⟨none, rfl, up_same, fun _ _ _ e => e⟩ (fun _ _ _ _ => trivial) ?_ ?_
  · rintro i σ h1 hi ⟨x, rfl, ec, kk⟩
    have hi : i < t.ps.length := by simpa using hi
    have ha1 : Ps t a h1 := kk _ _ (ne_new e hc) (x1 _ _ e)
    have hb1 : h1 b = some (.lst (ofN o)) := kk _ _ (ne_new eo hc) (x1 _ _ eo)
    simp [b1_law_turning]
    refine ⟨recv_ok (by simp) (by simp) ec, ?_⟩
    refine dwn_ok ha1 hi hd ?_
    refine ixN hb1 (by rw [ho.len]; exact hi) ?_
    refine dwn_ok ha1 (ho.lt hi) hd ?_
    rw [aLst_eq ec]
    refine ⟨by simp; omega, _, rfl, ?_, fun y ob ny e => by rw [up_ne ny]; exact kk y ob ny e⟩
    have er : rowD (trRow t.ps o i) = .tup [dwD (t.ps.getD i []) oneD, dwD (t.ps.getD (o.getD i 0) []) oneD] := by
      simp only [rowD, trRow, lfP, encL_dw (t.lr _ (gp_mem hi)), encR_dw (t.lr _ (gp_mem (ho.lt hi)))]
      rfl
    rw [up_same, List.range_succ, List.map_append, List.map_append, List.map_singleton, List.map_singleton, er]
  · rintro σ h1 ⟨x, rfl, ec, kk⟩
    simp [b2_law_turning]
    have x2 : Ext h h1 := fun y ob e => kk y ob (ne_new e hc) (x1 _ _ e)
    rw [show ((((t.ps.map D.str).length : Nat) : Int) - 0).toNat = t.ps.length by simp] at ec
    rw [seq_lst ec, aSome_eq]
    exact q h1 x2
def BT.bd : BT → Nat
  | .lf => 0
  | .nd l r => max l.bd r.bd + 1
theorem BT.bd_le : ∀ (t : BT) (m : Nat), (∀ p ∈ t.ps, p.length ≤ m) → t.bd ≤ m
  | .lf, _, _ => Nat.zero_le _
  | .nd l r, m, h => by
    have hl : ∀ p ∈ l.ps, p.length + 1 ≤ m := fun p hp => by have := h (cl :: p) (by simp [ps, hp]); simpa using this
    have hr : ∀ p ∈ r.ps, p.length + 1 ≤ m := fun p hp => by have := h (cr :: p) (by simp [ps, hp]); simpa using this
    have pl : 0 < l.ps.length := l.pos
    have m1 : 1 ≤ m := by
      obtain ⟨p, hp⟩ := List.exists_mem_of_length_pos pl
      have := hl p hp; omega
    have a := l.bd_le (m - 1) fun p hp => by have := hl p hp; omega
    have b := r.bd_le (m - 1) fun p hp => by have := hr p hp; omega
    simp only [bd]
    omega
def isL (s : Sx) : Bool := s.head? == some cl
def SkF (ps : List Sx) (h0 : AH) (i : Nat) (acc : List D) (h : AH) : Prop := h = h0 ∧ acc = ((ps.take i).filter isL).map .str
def SkT (ps : List Sx) (h0 : AH) (i : Nat) (acc : List D) (h : AH) : Prop := h = h0 ∧ acc = ((ps.take i).map List.tail).map .str
theorem nd_flt (l r : BT) : ((BT.nd l r).ps.filter isL).length = l.ps.length := by
  simp only [BT.ps, List.filter_append, List.length_append]
  have a : ∀ xs : List Sx, (xs.map (cl :: ·)).filter isL = xs.map (cl :: ·) := fun xs => List.filter_eq_self.mpr fun y hy => by obtain ⟨z, _, rfl⟩ := List.mem_map.mp hy; rfl
  have b : ∀ xs : List Sx, (xs.map (cr :: ·)).filter isL = [] := fun xs => List.filter_eq_nil_iff.mpr fun y hy => by obtain ⟨z, _, rfl⟩ := List.mem_map.mp hy; simp only [isL, List.head?_cons]; decide
  rw [a, b]
  simp
theorem nd_tl (l r : BT) : (BT.nd l r).ps.map List.tail = l.ps ++ r.ps := by simp [BT.ps, Function.comp_def]
theorem take_S {ps : List Sx} {i : Nat} {p : Sx} (e : ps[i]? = some p) : ps.take (i + 1) = ps.take i ++ [p] := by
  rw [List.take_succ, e]; rfl
theorem sum_ok : ∀ (t : BT) (n r : Nat) (h : AH) (Q : VQ) (X : XP), Ps t r h → t.ps.length ≤ 1000 → (∀ p ∈ t.ps, p.length ≤ 10) → (∀ d h', Ext h h' → Q d h') → run P (n + t.bd + 1) s__law_sum_kind [.ref r] h Q X
  | .lf, n, r, h, Q, X, e, hz, hd, q => by
    refine run_of (fd := fd_law_sum_kind) rfl rfl ?_
    simp [fd_law_sum_kind, start, b0_law_sum_kind]
    intro r2 hr2
    have x1 : Ext h (up h r2 (.lst [.str s_emp])) := Ext.new hr2
    refine .inl ⟨_, _, x1 _ _ e, up_same, strs_pure _, ?_, ?_, ?_⟩
    · simp [pureDs, pureD]
    · exact .inr (by simp [plains, plain])
    rw [decide_eq_true (by simp [BT.ps, s_emp])]
    simp [b1_law_sum_kind]
    exact q _ _ x1
  | .nd l r', n, r, h, Q, X, e, hz, hd, q => by
    refine run_of (fd := fd_law_sum_kind) rfl rfl ?_
    simp [fd_law_sum_kind, start, b0_law_sum_kind]
    intro r2 hr2
    have x1 : Ext h (up h r2 (.lst [.str s_emp])) := Ext.new hr2
    have e1 := x1 _ _ e
    have pl := l.pos
    have pr := r'.pos
    have lz : (BT.nd l r').ps.length = l.ps.length + r'.ps.length := by simp [BT.ps]
    refine .inl ⟨_, _, e1, up_same, strs_pure _, ?_, ?_, ?_⟩
    · simp [pureDs, pureD]
    · exact .inr (by simp [plains, plain])
    rw [decide_eq_false (fun z => by
      have := congrArg List.length z
      simp only [List.length_map, List.length_cons, List.length_nil] at this
      omega)]
    simp [b2_law_sum_kind]
    rw [walk_lst e1]
    have ne : ∀ p ∈ (BT.nd l r').ps, p ≠ [] := fun p hp => by
      simp only [BT.ps, List.mem_append, List.mem_map] at hp
      rcases hp with ⟨z, _, rfl⟩ | ⟨z, _, rfl⟩ <;> simp
    refine ⟨SkF (BT.nd l r').ps (up h r2 (.lst [.str s_emp])), ⟨rfl, by simp⟩, ?_, by simp; omega, ?_, ?_⟩
    · rintro i acc h' ⟨rfl, rfl⟩
      refine ⟨e1, ?_⟩
      have := List.length_filter_le isL ((BT.nd l r').ps.take i)
      simp at this ⊢
      omega
    · rintro i x acc h' hx ⟨rfl, rfl⟩
      obtain ⟨p, hp, rfl⟩ : ∃ p, (BT.nd l r').ps[i]? = some p ∧ x = .str p := by
        rw [List.getElem?_map] at hx
        cases hp : (BT.nd l r').ps[i]? with
        | none => rw [hp] at hx; cases hx
        | some p => rw [hp] at hx; exact ⟨p, rfl, (Option.some.inj hx).symm⟩
      have np := ne p (List.mem_of_getElem? hp)
      obtain ⟨c, s, rfl⟩ : ∃ c s, p = c :: s := by cases p with
        | nil => exact absurd rfl np
        | cons c s => exact ⟨c, s, rfl⟩
      have ta := take_S hp
      have hs := hd _ (List.mem_of_getElem? hp)
      have hs : s.length + 1 ≤ 10 := by simpa using hs
      by_cases z : c = cl
      · subst z
        have fe : ((BT.nd l r').ps.take (i + 1)).filter isL = ((BT.nd l r').ps.take i).filter isL ++ [cl :: s] := by
          rw [ta, List.filter_append]; rfl
        simp
        refine ⟨by omega, rfl, ?_⟩
        rw [fe]; simp
      · have fe : ((BT.nd l r').ps.take (i + 1)).filter isL = ((BT.nd l r').ps.take i).filter isL := by
          rw [ta, List.filter_append]; simp [isL, z]
        have ea : atI (c :: s) 0 = some c := rfl
        have zc : decide (c = 108) = false := decide_eq_false z
        simp
        refine ⟨by omega, ?_⟩
        rw [ea]
        dsimp only
        rw [zc]
        refine ⟨rfl, ?_⟩
        rw [fe]
    · rintro acc h' ⟨rfl, rfl⟩
      simp
      intro r3 hr3
      have x2 : Ext (up h r2 (.lst [.str s_emp])) (up (up h r2 (.lst [.str s_emp])) r3 (.lst (((BT.nd l r').ps.filter isL).map D.str))) := Ext.new hr3
      have e2 := x2 _ _ e1
      rw [len_lst up_same, walk_lst e2]
      have xx := x1.trans x2
      generalize up (up h r2 (.lst [.str s_emp])) r3 (.lst (((BT.nd l r').ps.filter isL).map D.str)) = h3 at x2 e2 xx ⊢
      refine ⟨SkT (BT.nd l r').ps h3, ⟨rfl, by simp⟩, ?_, by simp; omega, ?_, ?_⟩
      · rintro i acc h' ⟨rfl, rfl⟩
        exact ⟨e2, by simp; omega⟩
      · rintro i x acc h' hx ⟨rfl, rfl⟩
        obtain ⟨p, hp, rfl⟩ : ∃ p, (BT.nd l r').ps[i]? = some p ∧ x = .str p := by
          rw [List.getElem?_map] at hx
          cases hp : (BT.nd l r').ps[i]? with
          | none => rw [hp] at hx; cases hx
          | some p => rw [hp] at hx; exact ⟨p, rfl, (Option.some.inj hx).symm⟩
        have np := ne p (List.mem_of_getElem? hp)
        obtain ⟨c, s, rfl⟩ : ∃ c s, p = c :: s := by cases p with
          | nil => exact absurd rfl np
          | cons c s => exact ⟨c, s, rfl⟩
        have ta := take_S hp
        have cut1 : cut (c :: s) (some 1) none = s := by simp [cut, clip]
        have hs := hd _ (List.mem_of_getElem? hp)
        have hs : s.length + 1 ≤ 10 := by simpa using hs
        simp only [sl_str]
        rw [cut1]
        exact ⟨by simp [LINE]; omega, rfl, by rw [ta]; simp⟩
      · rintro acc h' ⟨rfl, rfl⟩
        rw [show (List.map D.str (BT.nd l r').ps).length = (BT.nd l r').ps.length from List.length_map .., List.take_length, nd_tl, List.length_map, nd_flt]
        intro r4 hr4
        have x4 : Ext h' (up h' r4 (.lst ((l.ps ++ r'.ps).map D.str))) := Ext.new hr4
        rw [sl_lst up_same]
        have nn : ¬ ((l.ps.length : Int) < 0) := by omega
        have lm : (l.ps.map D.str).length = l.ps.length := by simp
        have c1 : cut ((l.ps ++ r'.ps).map D.str) none (some (l.ps.length : Nat)) = l.ps.map D.str := by
          simp [cut, clip]
          rw [if_neg nn]
          exact List.take_left' lm
        have c2 : cut ((l.ps ++ r'.ps).map D.str) (some (l.ps.length : Nat)) none = r'.ps.map D.str := by
          simp [cut, clip]
          rw [if_neg nn, List.drop_left' lm]
          exact List.take_of_length_le (by simp)
        rw [c1]
        intro r5 hr5
        have x5 : Ext (up h' r4 (.lst ((l.ps ++ r'.ps).map D.str))) (up (up h' r4 (.lst ((l.ps ++ r'.ps).map D.str))) r5 (.lst (l.ps.map D.str))) := Ext.new hr5
        have dl : ∀ p ∈ l.ps, p.length ≤ 10 := fun p hp => by have := hd (cl :: p) (by simp [BT.ps, hp]); simp at this; omega
        have dr : ∀ p ∈ r'.ps, p.length ≤ 10 := fun p hp => by have := hd (cr :: p) (by simp [BT.ps, hp]); simp at this; omega
        have bd : (BT.nd l r').bd = max l.bd r'.bd + 1 := rfl
        rw [show n + (BT.nd l r').bd = (n + max l.bd r'.bd - l.bd) + l.bd + 1 by omega]
        refine sum_ok l _ r5 _ _ _ up_same (by omega) dl fun d h6 x6 => ?_
        have e4 := x6 _ _ (x5 _ _ (up_same (h := h') (a := r4) (o := .lst ((l.ps ++ r'.ps).map D.str))))
        rw [sl_lst e4, c2]
        intro r7 hr7
        have x7 : Ext h6 (up h6 r7 (.lst (r'.ps.map D.str))) := Ext.new hr7
        rw [show (n + max l.bd r'.bd - l.bd) + l.bd + 1 = (n + max l.bd r'.bd - r'.bd) + r'.bd + 1 by omega]
        exact sum_ok r' _ r7 _ _ _ up_same (by omega) dr fun d2 h8 x8 => q _ _ (((((xx.trans x4).trans x5).trans x6).trans x7).trans x8)
/-! ### ways back of orders -/
def bkO (o : List Nat) : List Nat := (List.range o.length).map fun k => o.idxOf k
theorem bkO_at {o : List Nat} {n k : Nat} (h : Od o n) (hk : k < n) : (bkO o).getD k 0 = o.idxOf k := by
  have l := h.len
  simp [bkO, List.getD, l, hk]
theorem bkO_bk {o : List Nat} {n : Nat} (h : Od o n) : Bk o (bkO o) n := fun k hk => by
  have m : k ∈ o := h.mem_iff.mpr (List.mem_range.mpr hk)
  have i := List.idxOf_lt_length_of_mem m
  rw [bkO_at h hk]
  refine ⟨by rw [← h.len]; exact i, ?_⟩
  simp only [List.getD, List.getElem?_eq_getElem i, Option.getD_some]
  exact List.getElem_idxOf i
theorem intsOf_ofN : ∀ o : List Nat, intsOf (ofN o) = some (o.map fun k : Nat => (k : Int))
  | [] => rfl
  | x :: o => by
    have := intsOf_ofN o
    simp only [ofN] at this
    simp [ofN, intsOf, this]
theorem idx_int (k : Nat) : ∀ o : List Nat, (o.map fun k : Nat => (k : Int)).idxOf (k : Int) = o.idxOf k
  | [] => rfl
  | x :: o => by
    have ih := idx_int k o
    simp only [List.map_cons, List.idxOf_cons, ih]
    by_cases z : x = k
    · subst z; simp
    · have z2 : ((x : Int) == (k : Int)) = false := by simp; omega
      have z3 : (x == k) = false := by simpa using z
      rw [z2, z3]
def BkI (o : List Nat) (h0 : AH) (i : Nat) (acc : List D) (h : AH) : Prop := h = h0 ∧ acc = ofN ((List.range i).map fun k => o.idxOf k)
def BlI (rs : List (List Nat)) (h0 : AH) (i : Nat) (acc : List D) (h : AH) : Prop := Ext h0 h ∧ ∃ ks : List Nat, acc = ks.map .ref ∧ ks.length = i ∧ ∀ j k, ks[j]? = some k → h k = some (.lst (ofN (bkO (rs.getD j []))))
theorem lfL {t : BT} {k : Nat} (hk : k < t.ps.length) : encL (lfP t.ps k) = dwD (t.ps.getD k []) oneD := encL_dw (t.lr _ (gp_mem hk))
theorem lfR {t : BT} {k : Nat} (hk : k < t.ps.length) : encR (lfP t.ps k) = dwD (t.ps.getD k []) oneD := encR_dw (t.lr _ (gp_mem hk))
def OaI (t1 t2 : BT) (o0 o1 r0 b1 : List Nat) (rt ro rn rs rk rr ra rb : Nat) (d : D) (h0 : AH) (i : Nat) : St → AH → Prop := fun σ h => ∃ (x7 x11 x17 x18 : Option D), σ = [some (.ref rt), some (.ref ro), some (.ref rn), some (.ref rs), some (.ref rk), some d, some (.ref rr), x7, none, none, none, x11, none, some (.ref ra), some (.ref rb), none, none, x17, x18, none] ∧ h rr = some (.lst ((ofR0 t1 t2 o0 o1 :: (List.range i).map (ofRA t1 t2 o1 r0 b1)).map rowD)) ∧ Ke rr h0 h
theorem ixNL {os : List Nat} {r : Nat} {h : AH} {Q : VQ} (e : h r = some (.lst (ofN os))) (hk : 0 < os.length) (q : Q (.int ((os.getD (os.length - 1) 0 : Nat) : Int)) h) : opIx (.ref r) (.int (-1)) h Q := by
  have ea : atI (ofN os) (-1) = some (.int ((os.getD (os.length - 1) 0 : Nat) : Int)) := by
    rw [← atI_ofN (ps := os) (i := os.length - 1) (by omega)]
    unfold atI
    have l : (ofN os).length = os.length := by simp [ofN]
    rw [if_neg (by omega), if_pos (by omega), if_pos (by omega), l]
    congr 1
    omega
  rw [ix_lst e, ea]
  exact q
def ofPre (t1 t2 : BT) (o0 o1 r0 b1 : List Nat) : List (Pat × Pat) := ofR0 t1 t2 o0 o1 :: (List.range (t2.ps.length - 1)).map (ofRA t1 t2 o1 r0 b1)
def ObI (t1 t2 : BT) (o0 o1 r0 b0 b1 : List Nat) (rt ro rn rs rk rr ra rb : Nat) (d : D) (la : Int) (h0 : AH) (i : Nat) : St → AH → Prop := fun σ h => ∃ (x7 x11 x17 x18 x19 : Option D), σ = [some (.ref rt), some (.ref ro), some (.ref rn), some (.ref rs), some (.ref rk), some d, some (.ref rr), x7, some (.int la), none, none, x11, none, some (.ref ra), some (.ref rb), none, none, x17, x18, x19] ∧ h rr = some (.lst ((ofPre t1 t2 o0 o1 r0 b1 ++ (List.range i).map (ofRB t1 t2 o0 o1 b0 b1)).map rowD)) ∧ Ke rr h0 h
theorem atN {os : List Nat} {i : Nat} {x : D} (e : (ofN os)[i]? = some x) : i < os.length ∧ x = .int ((os.getD i 0 : Nat) : Int) := by
  have l := (List.getElem?_eq_some_iff.mp e).1
  have l : i < os.length := by simpa [ofN] using l
  refine ⟨l, ?_⟩
  have := atI_ofN l
  unfold atI at this
  rw [if_pos (by omega), show (i : Int).toNat = i by omega, e] at this
  exact Option.some.inj this
theorem take_N {os : List Nat} {i : Nat} (h : i < os.length) : os.take (i + 1) = os.take i ++ [os.getD i 0] := by
  rw [List.take_succ]
  simp [List.getD, h]
def OeI (l : Option D → Option D → St) (rq : Nat) (bs : List (Sx × Th)) (hb : AH) : St → AH → Prop := fun σ h => ∃ x y, σ = l x y ∧ h rq = some (.lst (((qa, Th.one) :: bs).map bdD)) ∧ Ke rq hb h
theorem law_off_ok {n rt ro rn ra rb p0 p1 q0 q1 : Nat} {t1 t2 : BT} {o0 o1 r0 r1 : List Nat} {h : AH} {Q : VQ} {X : XP} (et : h rt = some (.lst [.ref ra, .ref rb])) (eo : h ro = some (.lst [.ref p0, .ref p1])) (en : h rn = some (.lst [.ref q0, .ref q1]))
    (ea : Ps t1 ra h) (eb : Ps t2 rb h) (e0 : h p0 = some (.lst (ofN o0))) (e1 : h p1 = some (.lst (ofN o1))) (f0 : h q0 = some (.lst (ofN r0))) (f1 : h q1 = some (.lst (ofN r1)))
    (K : OffK t1 t2 o0 o1 r0 r1 (bkO r0) (bkO r1)) (z1 : t1.ps.length ≤ 20) (z2 : t2.ps.length ≤ 20)
    (k : ∀ kd rq h', Ext h h' → h rq = none → h' rq = some (.lst (((qa, .one) :: (bdA t1 t2 (bkO r0) (bkO r1) o0 o1 ++ [(qb, .one)])).map bdD)) → Q (.tup [.tup [.str qoff, kd, kd, ofW3 t1 t2 o0 o1 r0 (bkO r0) (bkO r1), ofW4 t1 t2 r0 r1], .ref rq]) h') : run P (n + 30) s__law_off [.ref rt, .ref ro, .ref rn] h Q X := by
  refine run_of (fd := fd_law_off) rfl rfl ?_
  simp (maxSteps := 4000000) [fd_law_off, start, b0_law_off]
  rw [aLst_eq et]
  simp only [setT, setT.setTs, List.set_cons_succ, List.set_cons_zero, List.getElem?_cons_succ, List.getElem?_cons_zero]
  have a0 : ∀ a b : D, atI [a, b] 0 = some a := fun _ _ => rfl
  have a1 : ∀ a b : D, atI [a, b] 1 = some b := fun _ _ => rfl
  rw [ix_lst en, a0]
  dsimp only
  refine turning_ok ea f0 K.q0 K.d1 (by omega) fun h1 x1 => ?_
  rw [ix_lst (x1 _ _ en), a1]
  dsimp only
  refine turning_ok (x1 _ _ eb) (x1 _ _ f1) K.q1 K.d2 (by omega) fun h2 x2 => ?_
  intro rs hrs
  have x3 : Ext h2 (up h2 rs (.lst [trW t1.ps r0, trW t2.ps r1])) := Ext.new hrs
  have x03 := (x1.trans x2).trans x3
  have es : (up h2 rs (.lst [trW t1.ps r0, trW t2.ps r1])) rs = some (.lst [trW t1.ps r0, trW t2.ps r1]) := up_same
  generalize up h2 rs (.lst [trW t1.ps r0, trW t2.ps r1]) = h3 at x3 x03 es ⊢
  rw [walk_lst (x03 _ _ en)]
  have en3 := x03 _ _ en
  refine ⟨fun i => BlI [r0, r1] h3 i, ⟨.refl, [], rfl, rfl, fun j k e => by simp at e⟩, ?_, by simp [LINE], ?_, ?_⟩
  · rintro i acc h' ⟨ex, ks, rfl, l, _⟩
    exact ⟨ex _ _ en3, by simp [l]⟩
  · rintro i x acc h' hx ⟨ex, ks, rfl, l, a⟩
    obtain ⟨q, o, m, rfl, eq, er, oo, mz⟩ : ∃ q o m, x = .ref q ∧ h' q = some (.lst (ofN o)) ∧ ([r0, r1].getD i [] = o) ∧ Od o m ∧ m ≤ 20 := by
      match i, hx with
      | 0, hx =>
        simp at hx
        exact ⟨q0, r0, _, hx.symm, ex _ _ (x03 _ _ f0), rfl, K.q0, z1⟩
      | 1, hx =>
        simp at hx
        exact ⟨q1, r1, _, hx.symm, ex _ _ (x03 _ _ f1), rfl, K.q1, z2⟩
      | _ + 2, hx => simp at hx
    have lo : (ofN o).length = o.length := by simp [ofN]
    have lm := oo.len
    rw [len_lst eq, lo]
    refine ⟨by omega, comp_rng (fun i acc h => BkI o h' i acc h) ⟨rfl, rfl⟩ ?_ (by simp [LINE]; omega) ?_ ?_⟩
    · rintro i acc h'' ⟨rfl, rfl⟩
      exact ⟨trivial, by simp [ofN]⟩
    · rintro i acc h'' hi ⟨rfl, rfl⟩
      have hi : i < o.length := by omega
      simp only [Int.zero_add, mth_index]
      refine ⟨recv_ok (by simp) (by simp) eq, ?_⟩
      rw [aLst_eq eq, intsOf_ofN, aSome_eq, idx_int]
      have mi : i ∈ o := oo.mem_iff.mpr (List.mem_range.mpr (by omega))
      refine ⟨List.mem_map.mpr ⟨i, mi, rfl⟩, rfl, ?_⟩
      rw [List.range_succ]
      simp [ofN]
    · rintro acc h'' ⟨rfl, rfl⟩
      intro r hr
      refine ⟨ex.trans (Ext.new hr), ks ++ [r], by simp, by simp [l], fun j k e => ?_⟩
      by_cases z : j < ks.length
      · rw [List.getElem?_append_left z] at e
        exact (Ext.new hr) _ _ (a j k e)
      · rw [List.getElem?_append_right (by omega)] at e
        have jz : j = i := by
          have := (List.getElem?_eq_some_iff.mp e).1
          simp at this; omega
        subst jz
        rw [l, Nat.sub_self] at e
        simp at e
        subst e
        rw [up_same, er]
        simp [bkO]
  · rintro acc h4 ⟨x4, ks, rfl, l, a⟩
    obtain ⟨k0, k1, rfl⟩ : ∃ k0 k1, ks = [k0, k1] := by
      match ks, l with
      | [k0, k1], _ => exact ⟨k0, k1, rfl⟩
    have ek0 : h4 k0 = some (.lst (ofN (bkO r0))) := a 0 k0 rfl
    have ek1 : h4 k1 = some (.lst (ofN (bkO r1))) := a 1 k1 rfl
    intro rk hrk
    have x5 : Ext h4 (up h4 rk (.lst [.ref k0, .ref k1])) := Ext.new hrk
    have x05 := (x03.trans x4).trans x5
    have es5 := x5 _ _ (x4 _ _ es)
    have ek5 : (up h4 rk (.lst [.ref k0, .ref k1])) rk = some (.lst [.ref k0, .ref k1]) := up_same
    have ek50 := x5 _ _ ek0
    have ek51 := x5 _ _ ek1
    show opIx (D.ref ro) (D.int 0) (up h4 rk (.lst [.ref k0, .ref k1])) _
    generalize up h4 rk (.lst [.ref k0, .ref k1]) = h5 at x5 x05 es5 ek5 ek50 ek51 ⊢
    have eo5 := x05 _ _ eo
    have e05 := x05 _ _ e0
    have e15 := x05 _ _ e1
    have ea5 : Ps t1 ra h5 := x05 _ _ ea
    have eb5 : Ps t2 rb h5 := x05 _ _ eb
    have l0 := K.h0.len
    have l1 := K.h1.len
    have p1 := K.p1
    have p2 := K.p2
    rw [ix_lst eo5, a0]
    dsimp only
    refine ixN (k := 0) e05 (by omega) ?_
    refine dwn_ok ea5 (K.h0.lt p1) K.d1 ?_
    rw [ix_lst eo5, a1]
    dsimp only
    refine ixN (k := 0) e15 (by omega) ?_
    refine digit_ok eb5 (K.h1.lt p2) K.d2 ?_
    intro rr hrr
    have er0 : D.tup [D.tup [D.str s_l, D.tup [D.str s_one]], D.tup [D.str s_r, D.tup [D.str qp, dwD (t1.ps.getD (o0.getD 0 0) []) oneD, dwD (t2.ps.getD (o1.getD 0 0) []) oneD]]] = rowD (ofR0 t1 t2 o0 o1) := by
      simp only [rowD, ofR0, nuP, encL, encR, lfR (K.h0.lt p1), lfR (K.h1.lt p2)]
    rw [er0]
    generalize dwD (t1.ps.getD (o0.getD 0 0) []) oneD = db
    have x6 : Ext h5 (up h5 rr (.lst [rowD (ofR0 t1 t2 o0 o1)])) := Ext.new hrr
    rw [len_lst (x6 _ _ eb5)]
    refine ⟨by simp; omega, by simp; omega, ?_⟩
    refine loop_rng (fun i => OaI t1 t2 o0 o1 r0 (bkO r1) rt ro rn rs rk rr ra rb db (up h5 rr (.lst [rowD (ofR0 t1 t2 o0 o1)])) i) ⟨none, none, none, none, rfl, up_same, fun _ _ _ e => e⟩ (fun _ _ _ _ => trivial) ?_ ?_
    · rintro i σ h6 hi ⟨x7, x11, x17, x18, rfl, er6, k6⟩
      have hi : i + 1 < t2.ps.length := by simp at hi; omega
      have g6 : ∀ {y : Nat} {ob : Ob}, h5 y = some ob → h6 y = some ob := fun e => k6 _ _ (ne_new e hrr) (x6 _ _ e)
      simp [b1_law_off]
      rw [ix_lst (g6 ek5), a1]
      dsimp only
      rw [ix_lst (g6 eo5), a1]
      dsimp only
      refine ixN (k := i) (g6 e15) (by omega) ?_
      have li := K.h1.lt (k := i) (by omega)
      have lb := (K.k1 _ li).1
      refine ixN (g6 ek51) (by simp [bkO, K.q1.len]; simpa using li) ?_
      rw [ix_lst (g6 eo5), a1]
      dsimp only
      rw [show ((i : Int) + 1) = ((i + 1 : Nat) : Int) by omega]
      refine ixN (k := i + 1) (g6 e15) (by omega) ?_
      refine digit_ok (g6 eb5) lb K.d2 ?_
      refine ⟨recv_ok (by simp) (by simp) er6, ?_⟩
      rw [ix_lst (g6 es5), a0]
      dsimp only
      refine digit_ok (g6 eb5) (K.h1.lt hi) K.d2 ?_
      rw [aLst_eq er6]
      refine ⟨by simp; omega, _, _, _, _, rfl, ?_, fun y ob ny e => by rw [up_ne ny]; exact k6 y ob ny e⟩
      have era : rowD (ofRA t1 t2 o1 r0 (bkO r1) i) = D.tup [D.tup [D.str s_r, D.tup [D.str qp, D.tup [D.str s_x, D.str s_d], dwD (t2.ps.getD ((bkO r1).getD (o1.getD i 0) 0) []) oneD]], D.tup [D.str s_r, D.tup [D.str qp, D.tup [D.str s_x, D.str s_d, trW t1.ps r0], dwD (t2.ps.getD (o1.getD (i + 1) 0) []) oneD]]] := by
        simp only [rowD, ofRA, encL, encR, lfL lb, lfR (K.h1.lt hi)]
      rw [up_same, List.range_succ, List.map_append, List.map_singleton, ← List.cons_append, List.map_append, List.map_singleton, era]
    · rintro σ h6 ⟨x7, x11, x17, x18, rfl, er6, k6⟩
      have g6 : ∀ {y : Nat} {ob : Ob}, h5 y = some ob → h6 y = some ob := fun e => k6 _ _ (ne_new e hrr) (x6 _ _ e)
      simp [b2_law_off]
      rw [ix_lst (g6 ek5), a1]
      dsimp only
      rw [ix_lst (g6 eo5), a1]
      dsimp only
      have le := K.h1.lt (k := t2.ps.length - 1) (by omega)
      have lb := (K.k1 _ le).1
      refine ixNL (g6 e15) (by omega) ?_
      rw [l1]
      refine ixN (g6 ek51) (by simp [bkO, K.q1.len]; simpa using le) ?_
      rw [len_lst (g6 ea5)]
      refine ⟨by simp; omega, ?_⟩
      rw [show (((t2.ps.map D.str).length : Int) - 1 - 0).toNat = t2.ps.length - 1 by simp] at er6
      obtain ⟨lj, hlj⟩ : ∃ lj, lj = (bkO r1).getD (o1.getD (t2.ps.length - 1) 0) 0 := ⟨_, rfl⟩
      rw [← hlj] at lb ⊢
      refine loop_rng (fun i => ObI t1 t2 o0 o1 r0 (bkO r0) (bkO r1) rt ro rn rs rk rr ra rb db (lj : Int) h6 i) ⟨_, _, _, _, none, rfl, by simpa [ofPre] using er6, fun _ _ _ e => e⟩ (fun _ _ _ _ => trivial) ?_ ?_
      · rintro i σ h7 hi ⟨x7, x11, x17, x18, x19, rfl, er7, k7⟩
        have hi : i < t1.ps.length := by simp at hi; omega
        have nrr : ∀ {y : Nat} {ob : Ob}, h5 y = some ob → y ≠ rr := fun e => ne_new e hrr
        have g7 : ∀ {y : Nat} {ob : Ob}, h5 y = some ob → h7 y = some ob := fun e => k7 _ _ (nrr e) (g6 e)
        simp [b3_law_off]
        rw [ix_lst (g7 ek5), a0]
        dsimp only
        rw [ix_lst (g7 eo5), a0]
        dsimp only
        refine ixN (k := i) (g7 e05) (by omega) ?_
        have li := K.h0.lt (k := i) hi
        have lc := (K.k0 _ li).1
        refine ixN (g7 ek50) (by simp [bkO, K.q0.len]; simpa using li) ?_
        refine dwn_ok (g7 ea5) lc K.d1 ?_
        refine digit_ok (g7 eb5) lb K.d2 ?_
        rw [len_lst (g7 ea5)]
        have eL : ∀ y : D, rowD (ofRB t1 t2 o0 o1 (bkO r0) (bkO r1) i) = .tup [D.tup [D.str s_r, D.tup [D.str qp, dwD (t1.ps.getD ((bkO r0).getD (o0.getD i 0) 0) []) oneD, dwD (t2.ps.getD lj []) oneD]], encR (ofRB t1 t2 o0 o1 (bkO r0) (bkO r1) i).2] := fun y => by
          simp only [rowD, ofRB, nuP, encL, lfL lc, ← hlj, lfL lb]
        have es1 : (ofPre t1 t2 o0 o1 r0 (bkO r1) ++ (List.range (i + 1)).map (ofRB t1 t2 o0 o1 (bkO r0) (bkO r1))).map rowD = (ofPre t1 t2 o0 o1 r0 (bkO r1) ++ (List.range i).map (ofRB t1 t2 o0 o1 (bkO r0) (bkO r1))).map rowD ++ [rowD (ofRB t1 t2 o0 o1 (bkO r0) (bkO r1) i)] := by
          rw [List.range_succ]; simp
        by_cases z : i + 1 = t1.ps.length
        · rw [decide_eq_true (by simp; omega)]
          dsimp only
          simp [b4_law_off]
          refine ⟨recv_ok (by simp) (by simp) er7, ?_⟩
          rw [aLst_eq er7]
          refine ⟨by simp [ofPre]; omega, _, _, _, _, _, rfl, ?_, fun y ob ny e => by rw [up_ne ny]; exact k7 y ob ny e⟩
          have e2 : encR (ofRB t1 t2 o0 o1 (bkO r0) (bkO r1) i).2 = .tup [.str s_l, .tup [.str s_one]] := by
            simp only [ofRB, if_pos z, encR]
          rw [up_same, es1, eL .non, e2]
          rfl
        · rw [decide_eq_false (by simp; omega)]
          dsimp only
          simp [b5_law_off]
          rw [ix_lst (g7 eo5), a0]
          dsimp only
          rw [show ((i : Int) + 1) = ((i + 1 : Nat) : Int) by omega]
          have hi2 : i + 1 < t1.ps.length := by omega
          refine ixN (k := i + 1) (g7 e05) (by omega) ?_
          refine dwn_ok (g7 ea5) (K.h0.lt hi2) K.d1 ?_
          refine ⟨recv_ok (by simp) (by simp) er7, ?_⟩
          rw [ix_lst (g7 eo5), a1]
          dsimp only
          refine ixN (k := 0) (g7 e15) (by omega) ?_
          refine digit_ok (g7 eb5) (K.h1.lt p2) K.d2 ?_
          rw [aLst_eq er7]
          refine ⟨by simp [ofPre]; omega, _, _, _, _, _, rfl, ?_, fun y ob ny e => by rw [up_ne ny]; exact k7 y ob ny e⟩
          have e2 : encR (ofRB t1 t2 o0 o1 (bkO r0) (bkO r1) i).2 = .tup [.str s_r, D.tup [D.str qp, dwD (t1.ps.getD (o0.getD (i + 1) 0) []) oneD, dwD (t2.ps.getD (o1.getD 0 0) []) oneD]] := by
            simp only [ofRB, if_neg z, nuP, encR, lfR (K.h0.lt hi2), lfR (K.h1.lt p2)]
          rw [up_same, es1, eL .non, e2]
          rfl
      · rintro σ h7 ⟨x7, x11, x17, x18, x19, rfl, er7, k7⟩
        have nrr : ∀ {y : Nat} {ob : Ob}, h5 y = some ob → y ≠ rr := fun e => ne_new e hrr
        have g7 : ∀ {y : Nat} {ob : Ob}, h5 y = some ob → h7 y = some ob := fun e => k7 _ _ (nrr e) (g6 e)
        have x57 : Ext h5 h7 := fun y ob e => g7 e
        rw [show (((t1.ps.map D.str).length : Int) - 0).toNat = t1.ps.length by simp] at er7
        have er7 : h7 rr = some (.lst ((ofRows t1 t2 o0 o1 r0 (bkO r0) (bkO r1)).map rowD)) := by rw [er7]; rfl
        simp [b6_law_off]
        rw [show n + 29 = (n + 28 - t1.bd) + t1.bd + 1 by have := t1.bd_le 10 K.d1; omega]
        refine sum_ok t1 _ ra _ _ _ (g7 ea5) (by omega) K.d1 fun kd1 h8 x8 => ?_
        rw [show (n + 28 - t1.bd) + t1.bd + 1 = (n + 28 - t2.bd) + t2.bd + 1 by have := t1.bd_le 10 K.d1; have := t2.bd_le 10 K.d2; omega]
        refine sum_ok t2 _ rb _ _ _ (x8 _ _ (g7 eb5)) (by omega) K.d2 fun kd2 h9 x9 => ?_
        rw [show (n + 28 - t2.bd) + t2.bd + 1 = n + 29 by have := t2.bd_le 10 K.d2; omega]
        intro rq hrq
        have x9q : Ext h9 (up h9 rq (.lst [.tup [.str s_a, .tup []]])) := Ext.new hrq
        have gq : ∀ {y : Nat} {ob : Ob}, h5 y = some ob → y ≠ rq := fun e => ne_new (x9 _ _ (x8 _ _ (g7 e))) hrq
        have gx : ∀ {y : Nat} {ob : Ob}, h5 y = some ob → (up h9 rq (.lst [.tup [.str s_a, .tup []]])) y = some ob := fun e => x9q _ _ (x9 _ _ (x8 _ _ (g7 e)))
        have erx : (up h9 rq (.lst [.tup [.str s_a, .tup []]])) rr = _ := x9q _ _ (x9 _ _ (x8 _ _ er7))
        have rrq : rr ≠ rq := ne_new (x9 _ _ (x8 _ _ er7)) hrq
        have eq0 : (up h9 rq (.lst [.tup [.str s_a, .tup []]])) rq = some (.lst [.tup [.str s_a, .tup []]]) := up_same
        generalize hhb : up h9 rq (.lst [.tup [.str s_a, .tup []]]) = hb at gx erx eq0 ⊢
        rw [ix_lst (gx eo5), a0]
        dsimp only
        rw [walk_lst (gx e05)]
        refine ⟨fun i => OeI (fun x11 x15 => [some (D.ref rt), some (D.ref ro), some (D.ref rn), some (D.ref rs), some (D.ref rk), some db, some (D.ref rr), x7, some (D.int (lj : Int)), some (D.tup [D.str s_pair, kd1, kd2]), some (D.ref rq), x11, none, some (D.ref ra), some (D.ref rb), x15, none, x17, x18, x19]) rq (bdA t1 t2 (bkO r0) (bkO r1) (o0.take i) o1) hb, ⟨_, _, rfl, eq0, fun _ _ _ e => e⟩, ?_, ?_, ?_⟩
        · rintro i σ hc ⟨x11, x15, rfl, ec, kc⟩
          exact kc _ _ (gq e05) (gx e05)
        · rintro i x σ hc hx ⟨x11, x15, rfl, ec, kc⟩
          obtain ⟨hi, rfl⟩ := atN hx
          have hoi := K.h0.lt (k := i) (by omega)
          have eT : bdA t1 t2 (bkO r0) (bkO r1) (o0.take (i + 1)) o1 = bdA t1 t2 (bkO r0) (bkO r1) (o0.take i) o1 ++ bdR t1 t2 (bkO r0) (bkO r1) (o0.getD i 0) o1 := by
            rw [take_N hi]; simp [bdA]
          have lA : (bdA t1 t2 (bkO r0) (bkO r1) (o0.take i) o1).length ≤ 800 := by
            rw [bdA_len]
            have := Nat.mul_le_mul (show 2 * o1.length ≤ 40 by omega) (show (o0.take i).length ≤ 20 by simp; omega)
            omega
          dsimp only
          rw [eT]
          generalize bdA t1 t2 (bkO r0) (bkO r1) (o0.take i) o1 = bA at ec lA ⊢
          generalize o0.getD i 0 = oi at hoi ⊢
          simp [b7_law_off]
          rw [ix_lst (kc _ _ (gq eo5) (gx eo5)), a1]
          dsimp only
          rw [walk_lst (kc _ _ (gq e15) (gx e15))]
          refine ⟨fun j => OeI (fun _ x15 => [some (D.ref rt), some (D.ref ro), some (D.ref rn), some (D.ref rs), some (D.ref rk), some db, some (D.ref rr), x7, some (D.int (lj : Int)), some (D.tup [D.str s_pair, kd1, kd2]), some (D.ref rq), some (.int (oi : Int)), none, some (D.ref ra), some (D.ref rb), x15, none, x17, x18, x19]) rq (bA ++ bdR t1 t2 (bkO r0) (bkO r1) oi (o1.take j)) hb, ⟨none, _, rfl, by simpa [bdR] using ec, kc⟩, ?_, ?_, ?_⟩
          · rintro j σ hd ⟨_, x15, rfl, ed, kd⟩
            exact kd _ _ (gq e15) (gx e15)
          · rintro j x σ hd hx ⟨_, x15, rfl, ed, kd⟩
            obtain ⟨hj, rfl⟩ := atN hx
            have hoj := K.h1.lt (k := j) (by omega)
            have eU : bdR t1 t2 (bkO r0) (bkO r1) oi (o1.take (j + 1)) = bdR t1 t2 (bkO r0) (bkO r1) oi (o1.take j) ++ bdP t1 t2 (bkO r0) (bkO r1) oi (o1.getD j 0) := by
              rw [take_N hj]; simp [bdR]
            have lB : (bdR t1 t2 (bkO r0) (bkO r1) oi (o1.take j)).length ≤ 40 := by
              rw [bdR_len]; simp; omega
            dsimp only
            rw [eU]
            generalize bdR t1 t2 (bkO r0) (bkO r1) oi (o1.take j) = bB at ed lB ⊢
            generalize o1.getD j 0 = oj at hoj ⊢
            have gd : ∀ {y : Nat} {ob : Ob}, h5 y = some ob → hd y = some ob := fun e => kd _ _ (gq e) (gx e)
            have b0k := (K.k0 _ hoi).1
            have b1k := (K.k1 _ hoj).1
            simp [b8_law_off]
            refine ⟨recv_ok (by simp) (by simp) ed, ?_⟩
            refine number_ok (gd (x05 _ _ et)) (gd ea5) (gd eb5) hoi hoj K.d1 K.d2 ?_
            rw [aLst_eq ed]
            refine ⟨by simp; omega, ?_⟩
            have ed2 : (up hd rq (.lst (((qa, Th.one) :: (bA ++ bB)).map bdD ++ [D.tup [D.str s_d, encT (num t1 t2 oi oj)]]))) rq = _ := up_same
            have gd2 : ∀ {y : Nat} {ob : Ob}, h5 y = some ob → (up hd rq (.lst (((qa, Th.one) :: (bA ++ bB)).map bdD ++ [D.tup [D.str s_d, encT (num t1 t2 oi oj)]]))) y = some ob := fun e => by rw [up_ne (gq e)]; exact gd e
            have kd2 : Ke rq hb (up hd rq (.lst (((qa, Th.one) :: (bA ++ bB)).map bdD ++ [D.tup [D.str s_d, encT (num t1 t2 oi oj)]]))) := fun y ob ny e => by rw [up_ne ny]; exact kd y ob ny e
            generalize up hd rq (.lst (((qa, Th.one) :: (bA ++ bB)).map bdD ++ [D.tup [D.str s_d, encT (num t1 t2 oi oj)]])) = he at ed2 gd2 kd2 ⊢
            refine ⟨recv_ok (by simp) (by simp) ed2, ?_⟩
            rw [ix_lst (gd2 ek5), a0]
            dsimp only
            refine ixN (gd2 ek50) (by simp [bkO, K.q0.len]; simpa using hoi) ?_
            rw [ix_lst (gd2 ek5), a1]
            dsimp only
            refine ixN (gd2 ek51) (by simp [bkO, K.q1.len]; simpa using hoj) ?_
            refine number_ok (gd2 (x05 _ _ et)) (gd2 ea5) (gd2 eb5) b0k b1k K.d1 K.d2 ?_
            rw [aLst_eq ed2]
            refine ⟨by simp; omega, none, _, rfl, ?_, fun y ob ny e => by rw [up_ne ny]; exact kd2 y ob ny e⟩
            rw [up_same]
            simp [bdP, bdD]
          · rintro σ hd ⟨_, x15, rfl, ed, kd⟩
            refine ⟨_, _, rfl, ?_, kd⟩
            have : (ofN o1).length = o1.length := by simp [ofN]
            rw [this, List.take_length] at ed
            exact ed
        · rintro σ hc ⟨x11, x15, rfl, ec, kc⟩
          simp [b9_law_off]
          have gc : ∀ {y : Nat} {ob : Ob}, h5 y = some ob → hc y = some ob := fun e => kc _ _ (gq e) (gx e)
          have lo : (ofN o0).length = o0.length := by simp [ofN]
          rw [lo, List.take_length] at ec
          rw [seq_lst (kc _ _ rrq erx), aSome_eq, ix_lst (gc es5), a0]
          dsimp only
          rw [ix_lst (gc es5), a1]
          dsimp only
          intro r8 hr8
          have nq8 : rq ≠ r8 := ne_new ec hr8
          have lA : (bdA t1 t2 (bkO r0) (bkO r1) o0 o1).length ≤ 800 := by
            rw [bdA_len]
            have := Nat.mul_le_mul (show 2 * o1.length ≤ 40 by omega) (show o0.length ≤ 20 by omega)
            omega
          refine ⟨_, by rw [up_ne nq8]; exact ec, _, up_same, by simp; omega, ?_⟩
          intro r9 hr9
          have x0c : Ext h hc := fun y ob e => gc (x05 _ _ e)
          have x10 : Ext hc (up hc r8 (.lst [.tup [.str s_b, .tup []]])) := Ext.new hr8
          have x11 := Ext.new (o := .lst (((qa, Th.one) :: bdA t1 t2 (bkO r0) (bkO r1) o0 o1).map bdD ++ [.tup [.str s_b, .tup []]])) hr9
          refine k (.tup [.str s_pair, kd1, kd2]) r9 _ ((x0c.trans x10).trans x11) (fresh_back (x0c.trans x10) hr9) ?_
          rw [up_same]
          simp [bdD, encT]
/-! ### off is right -/
def szL : List D := [.tup [.int 4, .int 7], .tup [.int 7, .int 4], .tup [.int 2, .int 14], .tup [.int 5, .int 5], .tup [.int 3, .int 9], .tup [.int 2, .int 2], .tup [.int 6, .int 4]]
theorem sz_at {v : Int} (v0 : 0 ≤ v) (v1 : v < 7) : ∃ m1 m2 : Nat, atI szL v = some (.tup [.int (m1 : Int), .int (m2 : Int)]) ∧ 1 ≤ m1 ∧ m1 ≤ 20 ∧ 1 ≤ m2 ∧ m2 ≤ 20 := by
  rcases (show v = 0 ∨ v = 1 ∨ v = 2 ∨ v = 3 ∨ v = 4 ∨ v = 5 ∨ v = 6 by omega) with rfl | rfl | rfl | rfl | rfl | rfl | rfl
  · exact ⟨4, 7, rfl, by omega, by omega, by omega, by omega⟩
  · exact ⟨7, 4, rfl, by omega, by omega, by omega, by omega⟩
  · exact ⟨2, 14, rfl, by omega, by omega, by omega, by omega⟩
  · exact ⟨5, 5, rfl, by omega, by omega, by omega, by omega⟩
  · exact ⟨3, 9, rfl, by omega, by omega, by omega, by omega⟩
  · exact ⟨2, 2, rfl, by omega, by omega, by omega, by omega⟩
  · exact ⟨6, 4, rfl, by omega, by omega, by omega, by omega⟩
/-- trees drawn of so many leaves -/
def LtI (p q : Nat) (ms : List Nat) (h0 : AH) (i : Nat) (acc : List D) (h : AH) : Prop := IsFeed p q h ∧ Kf p q h0 h ∧ ∃ ks : List Nat, acc = ks.map .ref ∧ ks.length = i ∧ ∀ j k, ks[j]? = some k → k ≠ p ∧ k ≠ q ∧ ∃ t : BT, t.ok ∧ t.ps.length = ms.getD j 0 ∧ Ps t k h
/-- orders drawn of so many -/
def LoI (p q : Nat) (ms : List Nat) (h0 : AH) (i : Nat) (acc : List D) (h : AH) : Prop := IsFeed p q h ∧ Kf p q h0 h ∧ ∃ ks : List Nat, acc = ks.map .ref ∧ ks.length = i ∧ ∀ j k, ks[j]? = some k → k ≠ p ∧ k ≠ q ∧ ∃ o : List Nat, Od o (ms.getD j 0) ∧ h k = some (.lst (ofN o))
theorem dwT_pp : ∀ (s : Sx), PP (s.length + 1) (encT (dwT s .one))
  | [] => ⟨by simp [dwT, encT, pureD, pureDs], by simp [dwT, encT, plain, plains]⟩
  | c :: s => by
    have ih := dwT_pp s
    simp only [dwT]
    split
    · exact ⟨by simp [encT, pureD, pureDs, ih.1], by have := ih.2; simp [encT, plain, plains, this]⟩
    · exact ⟨by simp [encT, pureD, pureDs, ih.1], by have := ih.2; simp [encT, plain, plains, this]⟩
theorem lfT_pp {ps : List Sx} {k : Nat} (h : ∀ p ∈ ps, p.length ≤ 10) : PP 11 (encT (lfT ps k)) := by
  refine (dwT_pp (ps.getD k [])).mono ?_
  by_cases z : k < ps.length
  · have := h _ (gp_mem z); omega
  · simp [List.getD, z]
theorem num_pp {t1 t2 : BT} {i j : Nat} (h1 : t1.ok) (h2 : t2.ok) : PP 14 (encT (num t1 t2 i j)) := PP.tup fun d hd => by
  simp at hd
  rcases hd with rfl | rfl | rfl
  · exact PP.str
  · exact (lfT_pp h1).mono (by omega)
  · exact (lfT_pp h2).mono (by omega)
theorem bd_pp {s : Sx} {t : Th} (h : PP 14 (encT t)) : PP 16 (bdD (s, t)) := PP.tup fun d hd => by
  simp at hd
  rcases hd with rfl | rfl
  · exact PP.str
  · exact h.mono (by omega)
theorem pps {n : Nat} : ∀ l : List D, (∀ d ∈ l, PP n d) → pureDs l = true ∧ plains n l = true
  | [], _ => by simp [pureDs, plains]
  | d :: l, a => by
    have ih := pps l fun x hx => a x (List.mem_cons_of_mem _ hx)
    have h := a d List.mem_cons_self
    exact ⟨by simp [pureDs, h.1, ih.1], by simp [plains, h.2, ih.2]⟩
theorem bds_pp {t1 t2 : BT} {b0 b1 is js : List Nat} (h1 : t1.ok) (h2 : t2.ok) : ∀ b ∈ (qa, Th.one) :: (bdA t1 t2 b0 b1 is js ++ [(qb, Th.one)]), PP 16 (bdD b) := by
  have one : PP 14 (encT .one) := ⟨by simp [encT, pureD, pureDs], by simp [encT, plain, plains]⟩
  intro b hb
  simp only [List.mem_cons, List.mem_append, List.not_mem_nil, or_false] at hb
  rcases hb with rfl | hb | rfl
  · exact bd_pp one
  · simp only [bdA, List.mem_flatMap, bdR, bdP, List.mem_cons, List.not_mem_nil, or_false] at hb
    obtain ⟨i, _, j, _, rfl | rfl⟩ := hb
    · exact bd_pp (num_pp h1 h2)
    · exact bd_pp (num_pp h1 h2)
  · exact bd_pp one
theorem rng_N (m : Nat) : rangeL 0 (m : Int) = ofN (List.range m) := by
  simp [rangeL, ofN]
theorem orders_ok {n p q m1 m2 : Nat} {h0 : AH} {X : XP} {done : List D → AH → Prop} (f0 : IsFeed p q h0) (a2 : m1 ≤ 20) (b2 : m2 ≤ 20)
    (kd : ∀ k0 k1 o0 o1 h', IsFeed p q h' → Kf p q h0 h' → k0 ≠ p → k0 ≠ q → k1 ≠ p → k1 ≠ q → Od o0 m1 → Od o1 m2 → h' k0 = some (.lst (ofN o0)) → h' k1 = some (.lst (ofN o1)) → done [.ref k0, .ref k1] h') :
    compW [.int (m1 : Int), .int (m2 : Int)] (fun _ => True) (fun x h2 yes no => aRng [x] fun lo hi => ∀ r, h2 r = none → run P (n + 39) s__law_mixed [.ref p, .ref r] (up h2 r (.lst (rangeL lo hi))) yes X) done h0 := by
  refine ⟨fun i => LoI p q [m1, m2] h0 i, ⟨f0, .refl, [], rfl, rfl, fun j k e => by simp at e⟩, ?_, by simp [LINE], ?_, ?_⟩
  · rintro i acc h' ⟨f, kk, ks, rfl, l, _⟩
    exact ⟨trivial, by simp [l]⟩
  · rintro i x acc h' hx ⟨f, kk, ks, rfl, l, a⟩
    obtain ⟨m, rfl, lm, l2⟩ : ∃ m : Nat, x = .int (m : Int) ∧ [m1, m2].getD i 0 = m ∧ m ≤ 20 := by
      match i, hx with
      | 0, hx => simp at hx; exact ⟨m1, hx.symm, rfl, a2⟩
      | 1, hx => simp at hx; exact ⟨m2, hx.symm, rfl, b2⟩
      | _ + 2, hx => simp at hx
    refine ⟨⟨by omega, by simp [LINE]; omega⟩, ?_⟩
    intro r hr
    rw [rng_N]
    have rp := f.nep hr
    have rq := f.neq hr
    have xr : Ext h' (up h' r (.lst (ofN (List.range m)))) := Ext.new hr
    refine mixed_ok (n := n + 37) (f.put rp rq) up_same (by omega) fun r5 o h2 po hr5 e5 f2 k2 => ?_
    refine ⟨f2, (kk.trans (.ext xr)).trans k2, ks ++ [r5], by simp, by simp [l], fun j k e => ?_⟩
    by_cases z : j < ks.length
    · rw [List.getElem?_append_left z] at e
      obtain ⟨n1, n2, o', l', e'⟩ := a j k e
      exact ⟨n1, n2, o', l', k2 _ _ n1 n2 (xr _ _ e')⟩
    · rw [List.getElem?_append_right (by omega)] at e
      have jz : j = i := by
        have := (List.getElem?_eq_some_iff.mp e).1
        simp at this; omega
      subst jz
      rw [l, Nat.sub_self] at e
      simp at e
      subst e
      exact ⟨(f.put rp rq).nep hr5, (f.put rp rq).neq hr5, o, by rw [lm]; exact po, e5⟩
  · rintro acc h2 ⟨f2, k2, ks, rfl, l, a⟩
    obtain ⟨ra, rb, rfl⟩ : ∃ k0 k1, ks = [k0, k1] := by
      match ks, l with
      | [k0, k1], _ => exact ⟨k0, k1, rfl⟩
    obtain ⟨n1, n2, o0, l0, e0⟩ := a 0 ra rfl
    obtain ⟨n3, n4, o1, l1, e1⟩ := a 1 rb rfl
    exact kd ra rb o0 o1 h2 f2 k2 n1 n2 n3 n4 l0 l1 e0 e1
def OgI (l : Option D → Option D → St) (rq : Nat) (bl : List D) : St → AH → Prop := fun σ h => ∃ x y, σ = l x y ∧ h rq = some (.lst bl)
theorem off_right_ok {n p q : Nat} {h : AH} {Q : VQ} {X : XP} (hf : IsFeed p q h) (k : ∀ h', Q (.bl true) h') : run P (n + 40) s__law_off_right [.ref p] h Q X := by
  refine run_of (fd := fd_law_off_right) rfl rfl ?_
  simp (maxSteps := 4000000) [fd_law_off_right, start, b0_law_off_right]
  intro r hr
  have rp := hf.nep hr
  have rq := hf.neq hr
  refine draw_ok (m := n + 38) (hf.put rp rq) (by decide) (by decide) fun v h1 v0 v1 f1 k1 => ?_
  obtain ⟨m1, m2, em, a1, a2, b1, b2⟩ := sz_at v0 v1
  have e1 := k1 _ _ rp rq (up_same (h := h) (a := r) (o := .lst szL))
  show opIx (.ref r) (.int v) h1 _
  rw [ix_lst e1, em]
  dsimp only
  rw [walk_tup]
  refine ⟨fun i => LtI p q [m1, m2] h1 i, ⟨f1, .refl, [], rfl, rfl, fun j k e => by simp at e⟩, ?_, by simp [LINE], ?_, ?_⟩
  · rintro i acc h' ⟨f, kk, ks, rfl, l, _⟩
    exact ⟨trivial, by simp [l]⟩
  · rintro i x acc h' hx ⟨f, kk, ks, rfl, l, a⟩
    obtain ⟨m, rfl, lm, l1, l2⟩ : ∃ m : Nat, x = .int (m : Int) ∧ [m1, m2].getD i 0 = m ∧ 1 ≤ m ∧ m ≤ 20 := by
      match i, hx with
      | 0, hx => simp at hx; exact ⟨m1, hx.symm, rfl, a1, a2⟩
      | 1, hx => simp at hx; exact ⟨m2, hx.symm, rfl, b1, b2⟩
      | _ + 2, hx => simp at hx
    refine leaves_ok (n := n + 37) f l1 l2 fun r5 t h2 hr5 f2 k2 ok lt e5 => ?_
    refine ⟨f2, kk.trans k2, ks ++ [r5], by simp, by simp [l], fun j k e => ?_⟩
    by_cases z : j < ks.length
    · rw [List.getElem?_append_left z] at e
      obtain ⟨n1, n2, t', o', l', e'⟩ := a j k e
      exact ⟨n1, n2, t', o', l', k2 _ _ n1 n2 e'⟩
    · rw [List.getElem?_append_right (by omega)] at e
      have jz : j = i := by
        have := (List.getElem?_eq_some_iff.mp e).1
        simp at this; omega
      subst jz
      rw [l, Nat.sub_self] at e
      simp at e
      subst e
      exact ⟨f.nep hr5, f.neq hr5, t, ok, by rw [lt, lm], e5⟩
  · rintro acc h2 ⟨f2, k2, ks, rfl, l, a⟩
    obtain ⟨ra, rb, rfl⟩ : ∃ k0 k1, ks = [k0, k1] := by
      match ks, l with
      | [k0, k1], _ => exact ⟨k0, k1, rfl⟩
    obtain ⟨na1, na2, t1, ok1, lt1, ea⟩ := a 0 ra rfl
    obtain ⟨nb1, nb2, t2, ok2, lt2, eb⟩ := a 1 rb rfl
    have lt1 : t1.ps.length = m1 := lt1
    have lt2 : t2.ps.length = m2 := lt2
    subst lt1
    subst lt2
    intro rt hrt
    rw [walk_tup]
    have tp := f2.nep hrt
    have tq := f2.neq hrt
    have xt : Ext h2 (up h2 rt (.lst [.ref ra, .ref rb])) := Ext.new hrt
    have et : (up h2 rt (.lst [.ref ra, .ref rb])) rt = some (.lst [.ref ra, .ref rb]) := up_same
    have ea3 := xt _ _ ea
    have eb3 := xt _ _ eb
    have f3 := f2.put (o := .lst [.ref ra, .ref rb]) tp tq
    show compW _ _ _ _ (up h2 rt (.lst [.ref ra, .ref rb]))
    generalize up h2 rt (.lst [.ref ra, .ref rb]) = h3 at et ea3 eb3 f3 ⊢
    refine orders_ok f3 a2 b2 fun p0 p1 o0 o1 h4 f4 k4 n1 n2 n3 n4 d0 d1 e0 e1 => ?_
    intro ro hro
    rw [walk_tup]
    have op := f4.nep hro
    have oq := f4.neq hro
    have xo : Ext h4 (up h4 ro (.lst [.ref p0, .ref p1])) := Ext.new hro
    have et5 := xo _ _ (k4 _ _ tp tq et)
    have ea5 := xo _ _ (k4 _ _ na1 na2 ea3)
    have eb5 := xo _ _ (k4 _ _ nb1 nb2 eb3)
    have e05 := xo _ _ e0
    have e15 := xo _ _ e1
    have eo5 : (up h4 ro (.lst [.ref p0, .ref p1])) ro = some (.lst [.ref p0, .ref p1]) := up_same
    have f5 := f4.put (o := .lst [.ref p0, .ref p1]) op oq
    show compW _ _ _ _ (up h4 ro (.lst [.ref p0, .ref p1]))
    generalize up h4 ro (.lst [.ref p0, .ref p1]) = h5 at et5 ea5 eb5 e05 e15 eo5 f5 ⊢
    refine orders_ok f5 a2 b2 fun q0 q1 r0 r1 h6 f6 k6 n5 n6 n7 n8 g0 g1 e6 e7 => ?_
    intro rn hrn
    have xn : Ext h6 (up h6 rn (.lst [.ref q0, .ref q1])) := Ext.new hrn
    have K : OffK t1 t2 o0 o1 r0 r1 (bkO r0) (bkO r1) := ⟨d0, d1, g0, g1, bkO_bk g0, bkO_bk g1, ok1, ok2, t1.pos, t2.pos⟩
    refine law_off_ok (n := n + 9) (rt := rt) (ro := ro) (rn := rn) (xn _ _ (k6 _ _ tp tq et5)) (xn _ _ (k6 _ _ op oq eo5)) up_same (xn _ _ (k6 _ _ na1 na2 ea5)) (xn _ _ (k6 _ _ nb1 nb2 eb5)) (xn _ _ (k6 _ _ n1 n2 e05)) (xn _ _ (k6 _ _ n3 n4 e15)) (xn _ _ e6) (xn _ _ e7) K a2 b2 fun kd rq h8 x8 hrq eq => ?_
    obtain ⟨N, c⟩ := of_chn (wk := []) (n := 7) K (Nat.le_refl 7)
    have lA : (bdA t1 t2 (bkO r0) (bkO r1) o0 o1).length ≤ 800 := by
      rw [bdA_len]
      have := K.h0.len
      have := K.h1.len
      have := Nat.mul_le_mul (show 2 * o1.length ≤ 40 by omega) (show o0.length ≤ 20 by omega)
      omega
    have bp := bds_pp (b0 := bkO r0) (b1 := bkO r1) (is := o0) (js := o1) ok1 ok2
    generalize ofW3 t1 t2 o0 o1 r0 (bkO r0) (bkO r1) = w3 at c ⊢
    generalize ofW4 t1 t2 r0 r1 = w4 at c ⊢
    simp only [setT, setT.setTs, List.set_cons_succ, List.set_cons_zero]
    generalize bdA t1 t2 (bkO r0) (bkO r1) o0 o1 = bs at c lA bp eq
    obtain ⟨pb1, pb2⟩ := pps (n := 16) (((qa, Th.one) :: (bs ++ [(qb, Th.one)])).map bdD) fun d hd => by obtain ⟨b, hb, rfl⟩ := List.mem_map.mp hd; exact bp b hb
    refine loop_rng (fun _ => OgI (fun x5 x8 => [some (D.ref p), some (D.tup [D.int (t1.ps.length : Int), D.int (t2.ps.length : Int)]), some (D.ref rt), some (D.ref ro), some (D.ref rn), x5, some (D.tup [D.str qoff, kd, kd, w3, w4]), some (D.ref rq), x8, none]) rq (((qa, Th.one) :: (bs ++ [(qb, Th.one)])).map bdD)) ⟨_, _, rfl, eq⟩ (fun _ _ _ _ => trivial) ?_ ?_
    · rintro i σ h9 hi ⟨x5, x8, rfl, e9⟩
      dsimp only
      generalize hbl : ((qa, Th.one) :: (bs ++ [(qb, Th.one)])).map bdD = bl at e9 pb1 pb2 ⊢
      simp [b1_law_off_right]
      intro d1 hd1 d2 hd2
      have y1 : Ext h9 (up h9 d1 (.dct 0 [])) := Ext.new hd1
      have y2 : Ext (up h9 d1 (.dct 0 [])) (up (up h9 d1 (.dct 0 [])) d2 (.dct 0 [])) := Ext.new hd2
      show run P (n + 39) s_string [.tup [.ref d1, .ref d2], .tup [.str qoff, kd, kd, w3, w4], encT .one] _ _ _
      refine string_ok (n := 8) (m := n + 37) (by omega) up_same (by simp; omega) c fun fq h10 y3 hfq ef => ?_
      rw [hbl] at ef
      have e10 := y3 _ _ (y2 _ _ (y1 _ _ e9))
      have nf : rq ≠ fq := ne_new (y2 _ _ (y1 _ _ e9)) hfq
      rw [isi_lst ef]
      dsimp only
      refine ⟨_, _, ef, e10, pb1, pb1, .inl (plains_mono (by omega) pb2), ?_⟩
      simp
      simp [b3_law_off_right]
      refine ⟨recv_ok (by simp) (by simp) ef, ?_⟩
      rw [aLst_eq ef]
      have lbl : bl.length ≤ 1000 := by rw [← hbl]; simp; omega
      exact ⟨by omega, _, _, rfl, by rw [up_ne nf]; exact e10⟩
    · rintro σ h9 ⟨x5, x8, rfl, e9⟩
      obtain ⟨hereF, rF, oF⟩ := chn_off c
      obtain ⟨jB, hereB, rB, oB⟩ := chn_back (i := 0) (t := Th.one) rfl c
      have sF : Sn [] 9 (.tup [.str qoff, kd, kd, w3, w4]) false .one .one := .off ⟨kd, kd, _, _, N, hereF, rfl, rF, oF⟩
      have sB : Sn [] 9 (.tup [.str qoff, kd, kd, w3, w4]) true .one .one := .off ⟨kd, kd, _, _, jB, hereB, rfl, rB, oB⟩
      have pe : eqOk (.tup []) (.tup []) = fun h q => eqOk (.tup []) (.tup []) h q := rfl
      simp [b4_law_off_right]
      intro d1 hd1 d2 hd2
      show run P (n + 39) s_forth [.tup [.ref d1, .ref d2], .tup [.str qoff, kd, kd, w3, w4], encT .one] _ _ _
      refine forth_ok (m := n + 38) (n := 9) (by omega) sF up_same fun h10 y10 => ?_
      refine eq_dd (d := encT .one) ⟨by simp [encT, pureD, pureDs], by simp [encT, plain, plains]⟩ ?_
      simp
      intro d3 hd3 d4 hd4
      show run P (n + 39) s_back [.tup [.ref d3, .ref d4], .tup [.str qoff, kd, kd, w3, w4], encT .one] _ _ _
      refine back_ok (m := n + 38) (n := 9) (by omega) sB up_same fun h11 y11 => ?_
      refine eq_dd (d := encT .one) ⟨by simp [encT, pureD, pureDs], by simp [encT, plain, plains]⟩ ?_
      simp [b6_law_off_right]
      intro d5 hd5 d6 hd6
      show run P (n + 39) s_forth [.tup [.ref d5, .ref d6], .tup [.str qturned, .tup [.str qoff, kd, kd, w3, w4]], encT .one] _ _ _
      refine forth_ok (m := n + 38) (n := 10) (by omega) (Sn.turned (b := false) sB) up_same fun h12 y12 => ?_
      refine .inl (eq_dd (d := encT .one) ⟨by simp [encT, pureD, pureDs], by simp [encT, plain, plains]⟩ ?_)
      exact k _
theorem law_okN : ∀ ns : List Int, ns.length ≤ 63 → run P 231 s_law [.rol (ns.map .int)] (fun _ => none) (fun d _ => d = .bl true) (fun _ _ _ => False) := by
  intro ns hl
  refine run_of (fd := fd_law) rfl rfl ?_
  simp [fd_law, start, b0_law]
  refine deal_ok (n := 229) (ns := ns) fun p q h1 hp hq x1 f1 => ?_
  refine words_ok (n := 228) f1 fun r w1 w2 h2 hr f2 k2 g1 g2 ne e2 => ?_
  refine tree_right_ok (n := 130) f2 e2 fun h3 f3 k3 => ?_
  refine off_right_ok (n := 190) f3 fun h4 => ?_
  exact trivial
end K49
end
section
namespace K49
open PySem L2 Snd
def top (i : Nat) : Stmt := PySem.Challenge.pw_pairwright_k49_whole_great_things_run.main.body.getD i (.Pass ⟨0, 0, 0, 0⟩)
def bn : List Str := [("dict" : Str), ("isinstance" : Str), ("len" : Str), ("list" : Str), ("max" : Str), ("range" : Str), ("reversed" : Str), ("tuple" : Str), ("zip" : Str)]
def F_taken : Fn := ⟨s_taken, [("pattern" : Str), ("thing" : Str), ("found" : Str), ("todo" : Str), ("one" : Str), ("part" : Str)], [("pattern" : Str), ("thing" : Str)], defArgs (top 1), defBody (top 1), defScope (top 1), fd_taken, none, 0⟩
def F_put : Fn := ⟨s_put, [("pattern" : Str), ("parts" : Str), ("inner" : Str)], [("pattern" : Str), ("parts" : Str)], defArgs (top 2), defBody (top 2), defScope (top 2), fd_put, none, 0⟩
def F_left_of : Fn := ⟨s_left_of, [("pattern" : Str), ("part" : Str)], [("pattern" : Str)], defArgs (top 19), defBody (top 19), defScope (top 19), fd_left_of, none, 0⟩
def F_ways_in : Fn := ⟨s_ways_in, [("pattern" : Str), ("found" : Str), ("part" : Str)], [("pattern" : Str)], defArgs (top 20), defBody (top 20), defScope (top 20), fd_ways_in, none, 0⟩
def F_by_cases : Fn := ⟨s_by_cases, [("book" : Str), ("rows" : Str), ("thing" : Str), ("turned" : Str), ("one" : Str), ("other" : Str), ("plain" : Str), ("parts" : Str), ("ways" : Str), ("made" : Str), ("name" : Str)], [("book" : Str), ("rows" : Str), ("thing" : Str), ("turned" : Str)], defArgs (top 21), defBody (top 21), defScope (top 21), fd_by_cases, none, 0⟩
def F_by_off : Fn := ⟨s_by_off, [("book" : Str), ("way" : Str), ("thing" : Str), ("turned" : Str), ("here" : Str), ("again" : Str)], [("book" : Str), ("way" : Str), ("thing" : Str), ("turned" : Str)], defArgs (top 22), defBody (top 22), defScope (top 22), fd_by_off, none, 0⟩
def F_by_two : Fn := ⟨s_by_two, [("book" : Str), ("way" : Str), ("thing" : Str), ("turned" : Str), ("word" : Str)], [("book" : Str), ("way" : Str), ("thing" : Str), ("turned" : Str)], defArgs (top 24), defBody (top 24), defScope (top 24), fd_by_two, none, 0⟩
def F_sent_by : Fn := ⟨s_sent_by, [("book" : Str), ("way" : Str), ("thing" : Str), ("turned" : Str), ("word" : Str)], [("book" : Str), ("way" : Str), ("thing" : Str), ("turned" : Str)], defArgs (top 25), defBody (top 25), defScope (top 25), fd_sent_by, none, 0⟩
def F_forth : Fn := ⟨s_forth, [("book" : Str), ("way" : Str), ("thing" : Str)], [("book" : Str), ("way" : Str), ("thing" : Str)], defArgs (top 26), defBody (top 26), defScope (top 26), fd_forth, none, 0⟩
def F_back : Fn := ⟨s_back, [("book" : Str), ("way" : Str), ("thing" : Str)], [("book" : Str), ("way" : Str), ("thing" : Str)], defArgs (top 27), defBody (top 27), defScope (top 27), fd_back, none, 0⟩
def F_string : Fn := ⟨s_string, [("book" : Str), ("off" : Str), ("thing" : Str), ("beads" : Str), ("here" : Str), ("again" : Str)], [("book" : Str), ("off" : Str), ("thing" : Str)], defArgs (top 29), defBody (top 29), defScope (top 29), fd_string, none, 0⟩
def F_size : Fn := ⟨s_size, [("thing" : Str), ("many" : Str), ("todo" : Str), ("one" : Str)], [("thing" : Str)], defArgs (top 31), defBody (top 31), defScope (top 31), fd_size, none, 0⟩
def F_renamed : Fn := ⟨s_renamed, [("thing" : Str), ("names" : Str), ("part" : Str)], [("thing" : Str), ("names" : Str)], defArgs (top 32), defBody (top 32), defScope (top 32), fd_renamed, none, 0⟩
def F_law_deal : Fn := ⟨s__law_deal, [("script" : Str), ("base" : Str), ("some" : Str), ("number" : Str), ("one" : Str)], [("script" : Str), ("base" : Str)], defArgs (top 34), defBody (top 34), defScope (top 34), fd_law_deal, none, 0⟩
def F_law_draw : Fn := ⟨s__law_draw, [("feed" : Str), ("many" : Str), ("number" : Str), ("one" : Str), ("other" : Str)], [("feed" : Str), ("many" : Str)], defArgs (top 35), defBody (top 35), defScope (top 35), fd_law_draw, none, 0⟩
def F_law_words : Fn := ⟨s__law_words, [("feed" : Str), ("many" : Str), ("letters" : Str), ("found" : Str), ("word" : Str), ("k" : Str)], [("feed" : Str), ("many" : Str)], defArgs (top 36), defBody (top 36), defScope (top 36), fd_law_words, none, 0⟩
def F_law_leaves : Fn := ⟨s__law_leaves, [("feed" : Str), ("many" : Str), ("most" : Str), ("found" : Str), ("some" : Str), ("k" : Str)], [("feed" : Str), ("many" : Str), ("most" : Str)], defArgs (top 37), defBody (top 37), defScope (top 37), fd_law_leaves, none, 0⟩
def F_law_down : Fn := ⟨s__law_down, [("path" : Str), ("inner" : Str), ("word" : Str)], [("path" : Str), ("inner" : Str)], defArgs (top 38), defBody (top 38), defScope (top 38), fd_law_down, none, 0⟩
def F_law_mixed : Fn := ⟨s__law_mixed, [("feed" : Str), ("some" : Str), ("left" : Str), ("found" : Str)], [("feed" : Str), ("some" : Str)], defArgs (top 39), defBody (top 39), defScope (top 39), fd_law_mixed, none, 0⟩
def F_law_tree : Fn := ⟨s__law_tree, [("feed" : Str), ("many" : Str), ("one" : Str), ("left" : Str)], [("feed" : Str), ("many" : Str)], defArgs (top 40), defBody (top 40), defScope (top 40), fd_law_tree, none, 0⟩
def F_law_about : Fn := ⟨s__law_about, [("tree" : Str), ("one" : Str), ("other" : Str)], [("tree" : Str)], defArgs (top 41), defBody (top 41), defScope (top 41), fd_law_about, none, 0⟩
def F_law_tree_right : Fn := ⟨s__law_tree_right, [("feed" : Str), ("words" : Str), ("rules" : Str), ("end" : Str), ("both" : Str), ("node" : Str), ("book" : Str), ("way" : Str), ("turn" : Str), ("here" : Str), ("again" : Str), ("many" : Str), ("found" : Str), ("names" : Str), ("tree" : Str), ("name" : Str), ("thing" : Str), ("due" : Str)], [("feed" : Str), ("words" : Str)], defArgs (top 42), defBody (top 42), defScope (top 42), fd_law_tree_right, none, 0⟩
def F_law_digit : Fn := ⟨s__law_digit, [("tree" : Str), ("k" : Str), ("inner" : Str)], [("tree" : Str), ("k" : Str), ("inner" : Str)], defArgs (top 43), defBody (top 43), defScope (top 43), fd_law_digit, none, 0⟩
def F_law_turning : Fn := ⟨s__law_turning, [("tree" : Str), ("order" : Str), ("rows" : Str), ("k" : Str)], [("tree" : Str), ("order" : Str)], defArgs (top 44), defBody (top 44), defScope (top 44), fd_law_turning, none, 0⟩
def F_law_number : Fn := ⟨s__law_number, [("trees" : Str), ("one" : Str), ("other" : Str)], [("trees" : Str), ("one" : Str), ("other" : Str)], defArgs (top 45), defBody (top 45), defScope (top 45), fd_law_number, none, 0⟩
def F_law_sum_kind : Fn := ⟨s__law_sum_kind, [("paths" : Str), ("many" : Str), ("rest" : Str), ("path" : Str)], [("paths" : Str)], defArgs (top 46), defBody (top 46), defScope (top 46), fd_law_sum_kind, none, 0⟩
def F_law_off : Fn := ⟨s__law_off, [("trees" : Str), ("orders" : Str), ("turns" : Str), ("steps" : Str), ("back_to" : Str), ("begin" : Str), ("rows" : Str), ("k" : Str), ("last" : Str), ("kind" : Str), ("beads" : Str), ("one" : Str), ("off" : Str), ("first" : Str), ("second" : Str), ("other" : Str), ("some" : Str), ("here" : Str), ("there" : Str), ("inner" : Str)], [("trees" : Str), ("orders" : Str), ("turns" : Str)], defArgs (top 47), defBody (top 47), defScope (top 47), fd_law_off, none, 0⟩
def F_law_off_right : Fn := ⟨s__law_off_right, [("feed" : Str), ("sizes" : Str), ("trees" : Str), ("orders" : Str), ("turns" : Str), ("turn" : Str), ("off" : Str), ("beads" : Str), ("found" : Str), ("many" : Str)], [("feed" : Str)], defArgs (top 48), defBody (top 48), defScope (top 48), fd_law_off_right, none, 0⟩
def F_law : Fn := ⟨s_law, [("script" : Str), ("feed" : Str), ("words" : Str)], [("script" : Str)], defArgs (top 49), defBody (top 49), defScope (top 49), fd_law, none, 0⟩
def tab : List Fn := [F_taken, F_put, F_left_of, F_ways_in, F_by_cases, F_by_off, F_by_two, F_sent_by, F_forth, F_back, F_string, F_size, F_renamed, F_law_deal, F_law_draw, F_law_words, F_law_leaves, F_law_down, F_law_mixed, F_law_tree, F_law_about, F_law_tree_right, F_law_digit, F_law_turning, F_law_number, F_law_sum_kind, F_law_off, F_law_off_right, F_law]
def gc : Gc := ⟨[], [], [], [], [], [], []⟩
def fs : List M.Sx := [s_taken, s_put, s_left_of, s_ways_in, s_by_cases, s_by_off, s_by_two, s_sent_by, s_forth, s_back, s_string, s_size, s_renamed, s__law_deal, s__law_draw, s__law_words, s__law_leaves, s__law_down, s__law_mixed, s__law_tree, s__law_about, s__law_tree_right, s__law_digit, s__law_turning, s__law_number, s__law_sum_kind, s__law_off, s__law_off_right, s_law]
def gl : List M.Sx := [s_taken, s_put, s_left_of, s_ways_in, s_by_cases, s_by_off, s_by_two, s_sent_by, s_forth, s_back, s_string, s_size, s_renamed, s__law_deal, s__law_draw, s__law_words, s__law_leaves, s__law_down, s__law_mixed, s__law_tree, s__law_about, s__law_tree_right, s__law_digit, s__law_turning, s__law_number, s__law_sum_kind, s__law_off, s__law_off_right, s_law]
theorem tab_fs : tab.map (·.f) = fs := rfl
theorem tab_gl : glob tab = gl := rfl
theorem tab_t : gc.okT tab = true := by decide +kernel
theorem tab_nd : (tab.map (·.f)).Nodup := by rw [tab_fs]; decide +kernel
theorem ok_taken : F_taken.ok bn gl gc = true := by decide +kernel
theorem ok_put : F_put.ok bn gl gc = true := by decide +kernel
theorem ok_left_of : F_left_of.ok bn gl gc = true := by decide +kernel
theorem ok_ways_in : F_ways_in.ok bn gl gc = true := by decide +kernel
theorem ok_by_cases : F_by_cases.ok bn gl gc = true := by decide +kernel
theorem ok_by_off : F_by_off.ok bn gl gc = true := by decide +kernel
theorem ok_by_two : F_by_two.ok bn gl gc = true := by decide +kernel
theorem ok_sent_by : F_sent_by.ok bn gl gc = true := by decide +kernel
theorem ok_forth : F_forth.ok bn gl gc = true := by decide +kernel
theorem ok_back : F_back.ok bn gl gc = true := by decide +kernel
theorem ok_string : F_string.ok bn gl gc = true := by decide +kernel
theorem ok_size : F_size.ok bn gl gc = true := by decide +kernel
theorem ok_renamed : F_renamed.ok bn gl gc = true := by decide +kernel
theorem ok_law_deal : F_law_deal.ok bn gl gc = true := by decide +kernel
theorem ok_law_draw : F_law_draw.ok bn gl gc = true := by decide +kernel
theorem ok_law_words : F_law_words.ok bn gl gc = true := by decide +kernel
theorem ok_law_leaves : F_law_leaves.ok bn gl gc = true := by decide +kernel
theorem ok_law_down : F_law_down.ok bn gl gc = true := by decide +kernel
theorem ok_law_mixed : F_law_mixed.ok bn gl gc = true := by decide +kernel
theorem ok_law_tree : F_law_tree.ok bn gl gc = true := by decide +kernel
theorem ok_law_about : F_law_about.ok bn gl gc = true := by decide +kernel
theorem ok_law_tree_right : F_law_tree_right.ok bn gl gc = true := by decide +kernel
theorem ok_law_digit : F_law_digit.ok bn gl gc = true := by decide +kernel
theorem ok_law_turning : F_law_turning.ok bn gl gc = true := by decide +kernel
theorem ok_law_number : F_law_number.ok bn gl gc = true := by decide +kernel
theorem ok_law_sum_kind : F_law_sum_kind.ok bn gl gc = true := by decide +kernel
theorem ok_law_off : F_law_off.ok bn gl gc = true := by decide +kernel
theorem ok_law_off_right : F_law_off_right.ok bn gl gc = true := by decide +kernel
theorem ok_law : F_law.ok bn gl gc = true := by decide +kernel
theorem tab_ok : AllP (fun F => F.ok bn (glob tab) gc = true) tab := by rw [tab_gl]; exact ⟨ok_taken, ok_put, ok_left_of, ok_ways_in, ok_by_cases, ok_by_off, ok_by_two, ok_sent_by, ok_forth, ok_back, ok_string, ok_size, ok_renamed, ok_law_deal, ok_law_draw, ok_law_words, ok_law_leaves, ok_law_down, ok_law_mixed, ok_law_tree, ok_law_about, ok_law_tree_right, ok_law_digit, ok_law_turning, ok_law_number, ok_law_sum_kind, ok_law_off, ok_law_off_right, ok_law, trivial⟩
theorem bd_taken : F_taken.BOk := .inl ⟨rfl, fun _ _ _ _ _ _ us hl => match us, hl with | [_, _], _ => rfl⟩
theorem bd_put : F_put.BOk := .inl ⟨rfl, fun _ _ _ _ _ _ us hl => match us, hl with | [_, _], _ => rfl⟩
theorem bd_left_of : F_left_of.BOk := .inl ⟨rfl, fun _ _ _ _ _ _ us hl => match us, hl with | [_], _ => rfl⟩
theorem bd_ways_in : F_ways_in.BOk := .inl ⟨rfl, fun _ _ _ _ _ _ us hl => match us, hl with | [_], _ => rfl⟩
theorem bd_by_cases : F_by_cases.BOk := .inl ⟨rfl, fun _ _ _ _ _ _ us hl => match us, hl with | [_, _, _, _], _ => rfl⟩
theorem bd_by_off : F_by_off.BOk := .inl ⟨rfl, fun _ _ _ _ _ _ us hl => match us, hl with | [_, _, _, _], _ => rfl⟩
theorem bd_by_two : F_by_two.BOk := .inl ⟨rfl, fun _ _ _ _ _ _ us hl => match us, hl with | [_, _, _, _], _ => rfl⟩
theorem bd_sent_by : F_sent_by.BOk := .inl ⟨rfl, fun _ _ _ _ _ _ us hl => match us, hl with | [_, _, _, _], _ => rfl⟩
theorem bd_forth : F_forth.BOk := .inl ⟨rfl, fun _ _ _ _ _ _ us hl => match us, hl with | [_, _, _], _ => rfl⟩
theorem bd_back : F_back.BOk := .inl ⟨rfl, fun _ _ _ _ _ _ us hl => match us, hl with | [_, _, _], _ => rfl⟩
theorem bd_string : F_string.BOk := .inl ⟨rfl, fun _ _ _ _ _ _ us hl => match us, hl with | [_, _, _], _ => rfl⟩
theorem bd_size : F_size.BOk := .inl ⟨rfl, fun _ _ _ _ _ _ us hl => match us, hl with | [_], _ => rfl⟩
theorem bd_renamed : F_renamed.BOk := .inl ⟨rfl, fun _ _ _ _ _ _ us hl => match us, hl with | [_, _], _ => rfl⟩
theorem bd_law_deal : F_law_deal.BOk := .inl ⟨rfl, fun _ _ _ _ _ _ us hl => match us, hl with | [_, _], _ => rfl⟩
theorem bd_law_draw : F_law_draw.BOk := .inl ⟨rfl, fun _ _ _ _ _ _ us hl => match us, hl with | [_, _], _ => rfl⟩
theorem bd_law_words : F_law_words.BOk := .inl ⟨rfl, fun _ _ _ _ _ _ us hl => match us, hl with | [_, _], _ => rfl⟩
theorem bd_law_leaves : F_law_leaves.BOk := .inl ⟨rfl, fun _ _ _ _ _ _ us hl => match us, hl with | [_, _, _], _ => rfl⟩
theorem bd_law_down : F_law_down.BOk := .inl ⟨rfl, fun _ _ _ _ _ _ us hl => match us, hl with | [_, _], _ => rfl⟩
theorem bd_law_mixed : F_law_mixed.BOk := .inl ⟨rfl, fun _ _ _ _ _ _ us hl => match us, hl with | [_, _], _ => rfl⟩
theorem bd_law_tree : F_law_tree.BOk := .inl ⟨rfl, fun _ _ _ _ _ _ us hl => match us, hl with | [_, _], _ => rfl⟩
theorem bd_law_about : F_law_about.BOk := .inl ⟨rfl, fun _ _ _ _ _ _ us hl => match us, hl with | [_], _ => rfl⟩
theorem bd_law_tree_right : F_law_tree_right.BOk := .inl ⟨rfl, fun _ _ _ _ _ _ us hl => match us, hl with | [_, _], _ => rfl⟩
theorem bd_law_digit : F_law_digit.BOk := .inl ⟨rfl, fun _ _ _ _ _ _ us hl => match us, hl with | [_, _, _], _ => rfl⟩
theorem bd_law_turning : F_law_turning.BOk := .inl ⟨rfl, fun _ _ _ _ _ _ us hl => match us, hl with | [_, _], _ => rfl⟩
theorem bd_law_number : F_law_number.BOk := .inl ⟨rfl, fun _ _ _ _ _ _ us hl => match us, hl with | [_, _, _], _ => rfl⟩
theorem bd_law_sum_kind : F_law_sum_kind.BOk := .inl ⟨rfl, fun _ _ _ _ _ _ us hl => match us, hl with | [_], _ => rfl⟩
theorem bd_law_off : F_law_off.BOk := .inl ⟨rfl, fun _ _ _ _ _ _ us hl => match us, hl with | [_, _, _], _ => rfl⟩
theorem bd_law_off_right : F_law_off_right.BOk := .inl ⟨rfl, fun _ _ _ _ _ _ us hl => match us, hl with | [_], _ => rfl⟩
theorem bd_law : F_law.BOk := .inl ⟨rfl, fun _ _ _ _ _ _ us hl => match us, hl with | [_], _ => rfl⟩
theorem tab_bd : AllP Fn.BOk tab := ⟨bd_taken, bd_put, bd_left_of, bd_ways_in, bd_by_cases, bd_by_off, bd_by_two, bd_sent_by, bd_forth, bd_back, bd_string, bd_size, bd_renamed, bd_law_deal, bd_law_draw, bd_law_words, bd_law_leaves, bd_law_down, bd_law_mixed, bd_law_tree, bd_law_about, bd_law_tree_right, bd_law_digit, bd_law_turning, bd_law_number, bd_law_sum_kind, bd_law_off, bd_law_off_right, bd_law, trivial⟩
theorem tab_P : tabP tab = M.pOf prog := rfl
abbrev R : PySem.W.OpenRow := PySem.W.OpenLaw.row PySem.Challenge.rw_pairwright_k49_whole_great_things_run
abbrev hfa : List He.Fa := headFa tab bn gc
abbrev hfn : List He.DefD := headFn tab
abbrev hk : PySem.W.Hook := He.hookD 4 hfa hfn
def ob (s : PySem.W.SharedT) : He.AlD := He.obsDG 4 hfa hfn (HandSHeadRun.getT s)
theorem ob_eq (s : PySem.W.SharedT) : ob s = hk.obs s.abs := He.obsDG_eq (HandSHeadRun.getT_eq s)
theorem gc_t : gc.ts = [] ∧ gc.ws = [] := ⟨rfl, rfl⟩
def loose : List Str := [("taken" : Str), ("put" : Str), ("copy" : Str), ("copied" : Str), ("placed" : Str), ("laid_out" : Str), ("heads_on" : Str), ("is_even" : Str), ("changed_about" : Str), ("heads_up" : Str), ("others_home" : Str), ("next_round" : Str), ("rounds_of" : Str), ("led" : Str), ("led_back" : Str), ("left_of" : Str), ("ways_in" : Str), ("by_cases" : Str), ("by_off" : Str), ("by_parted" : Str), ("by_two" : Str), ("sent_by" : Str), ("forth" : Str), ("back" : Str), ("string" : Str), ("size" : Str), ("renamed" : Str), ("_law_deal" : Str), ("_law_draw" : Str), ("_law_words" : Str), ("_law_leaves" : Str), ("_law_down" : Str), ("_law_mixed" : Str), ("_law_tree" : Str), ("_law_about" : Str), ("_law_tree_right" : Str), ("_law_digit" : Str), ("_law_turning" : Str), ("_law_number" : Str), ("_law_sum_kind" : Str), ("_law_off" : Str), ("_law_off_right" : Str)]
def lawAt : Nat := 49
end K49
end
section
namespace K49
theorem law_okF : Snd.LawOk (M.pOf prog) 231 s_law := fun ns hl => law_okN ns hl
end K49
end
section
open PySem PySem.W PySem.Calls PyProof.Rows
namespace K49
open PySem PySem.Spec PyProof.Rows L2 Snd
theorem run (w : World) : HandSHeadRun.RunEq R (PySem.W.view R.prog [lawAt]) hk ob 4000 loose w := by
  intro os
  kernel_rfl
end K49
set_option maxRecDepth 100000 in
set_option maxHeartbeats 0 in
theorem PySem.Challenge.cw_pairwright_k49_whole_great_things_run_holds : PySem.Challenge.rw_pairwright_k49_whole_great_things_run.Holds := by
  w_on; o_law
  refine HandSHeadRun.head_any (r := OpenLaw.row PySem.Challenge.rw_pairwright_k49_whole_great_things_run) (q := view (OpenLaw.row PySem.Challenge.rw_pairwright_k49_whole_great_things_run).prog [K49.lawAt]) (H := K49.hk) (ob := K49.ob) (M := 4000) (loose := K49.loose) (d := HandSHeadRun.topDef (OpenLaw.row PySem.Challenge.rw_pairwright_k49_whole_great_things_run).prog K49.lawAt) (kwd := []) K49.ob_eq
    (by kernel_rfl) (fun s => by kernel_rfl) K49.run (by kernel_rfl) (by kernel_rfl) (by kernel_rfl) (by rfl) (by first | assumption | decide +kernel) (by decide +kernel) ⟨rfl, rfl, rfl, rfl, rfl, by decide +kernel⟩ ?hw ?hc
  case hw => w_witness2
  case hc =>
    refine L2.walk_ofE (l := PySem.Challenge.rw_pairwright_k49_whole_great_things_run) (n := 63) (k := 231) (x := "script") (CX := L2.CX0) rfl (by decide) (by kernel_rfl) ⟨rfl, by decide, by decide⟩ ?F (fun _ _ _ _ z => z)
    intro w mg fa h Y G hmg0
    obtain ⟨K, KX, c⟩ := Y
    have hmg : mg (Snd.sV K49.F_law.f) = some (.ref fa) := by
      have e : (HandSHeadRun.topDef (OpenLaw.row PySem.Challenge.rw_pairwright_k49_whole_great_things_run).prog K49.lawAt).name = Snd.sV K49.F_law.f := by kernel_rfl
      rw [← e]
      exact hmg0
    obtain ⟨fd, hb, hF⟩ := Snd.law_facts (P := (PySem.Challenge.rw_pairwright_k49_whole_great_things_run).prog) (w := w) (gc := K49.gc) (L := K49.F_law) K49.gc_t rfl rfl (by unfold K49.tab; simp) rfl KX G hmg c K49.tab_nd K49.tab_ok K49.tab_bd K49.tab_t 231
    refine ⟨K, fd, Snd.spC ⟨K, (PySem.Challenge.rw_pairwright_k49_whole_great_things_run).prog, w, mg⟩ (M.pOf K49.prog) 231 K49.F_law.f, KX, hb, fun H a ns hl hO hS => Snd.law_sp K49.law_okF H a ns hl hO hS, ?_⟩
    rw [← K49.tab_P] at *
    exact hF
end
