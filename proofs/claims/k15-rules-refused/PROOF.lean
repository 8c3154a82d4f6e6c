import PyProof.Rows.All
import Wide.All
import OpenK.AllK
import Wide.FinOn
import HandS.ForMost
import HandS.Wide
import KE.KDictKeyed
import HandS.Exc
import HandS.ExcInit
import HandS.ExcValue
import HandS.ExcField
import KE.KExcIs
import HandS.Defaults
import HandS.Deep
import HandS.TupAny
import HandS.SortRule
import HandS.SortInts
import KE.LtData
import HandS.DeepEq
import HandS.OwnEq
import HandS.Style
import HandS.Replace
import PyProof.Rows.StrLawsPart
import HandS.IsInst
import HandS.Codes
import HandS.More
import HandS.Finally
import PyProof.DictUpdate
import HandS.Zip0
import KE.KDictZip
import KE.KItemsList
import HandS.ListItems
import HandS.Rev
import HandS.RevTup
import PyProof.ListNew
import HandS.Iter
import PyProof.StrOps
import HandS.Conv
import HandS.Zip
import HandS.RevRange
import KE.DataMinMax
import HandS.SortKw
import HandS.Flow
import KE.KDictSum
import HandS.List
import HandS.Dict
import HandS.Ends
import HandS.Head0
import HandS.Head1
import HandS.Head2
import HandS.HeadEnd
import HandS.HeadHook1
import HandS.HeadHook2
import HandS.HeadHook3
import HandS.HeadHook4
import PySem.Challenge.RW_pairwright_k15_rules_refused
set_option Elab.async false
set_option linter.all false
set_option maxRecDepth 100000
set_option maxHeartbeats 0
section
/-! Core: values, heaps, the IR, its weakest-precondition reading. Pure Lean, no kit. -/
namespace M
abbrev Sx := List Nat
noncomputable section
def LINE : Nat := 16777216

inductive D where
  | non | bl (b : Bool) | int (i : Int) | str (s : Sx) | tup (ds : List D) | ref (a : Nat) | rol (ds : List D)
noncomputable instance : DecidableEq D := fun _ _ => Classical.propDecidable _

inductive Ob where
  | lst (xs : List D)
  | dct (k : Nat) (kvs : List (D × D))
  | rdct (k : Nat) (kvs : List (D × D))
  | ins (c : Sx) (fs : List (Sx × D))
  /-- a dict whose keys are nested tuples -/
  | dcn (kvs : List (D × D))
  /-- an exception of a class of the program, its fields -/
  | exc (c : Sx) (fs : List (Sx × D))

def Ob.lk : Ob → Bool
  | .rdct _ _ => true
  | _ => false
abbrev AH := Nat → Option Ob
def up (h : AH) (a : Nat) (o : Ob) : AH := fun b => if b = a then some o else h b
abbrev St := List (Option D)
abbrev VQ := D → AH → Prop
/-- what is wished of an exception: its class, its fields, the heap -/
abbrev XP := Sx → List (Sx × D) → AH → Prop

structure Ends where
  nx : St → AH → Prop
  rt : VQ
  bk : St → AH → Prop
  ct : St → AH → Prop
structure Cx where
  call : Sx → List D → AH → VQ → XP → Prop
  /-- of an exception that leaves here, by the names -/
  ex : St → XP
/-- where none may leave -/
def Cx.nx (C : Cx) : Cx := ⟨C.call, fun _ _ _ _ => False⟩

inductive Bop where | add | sub | mul | mod | fdiv | pow
inductive Cop where | eq | ne | lt | le | gt | ge | isin | notin | is_ | isnt | nes | neb
inductive Blt where | len | min2 | max2 | int1 | abs | sum | all | any | list | tuple | sorted | str1 | repr | dict1 | min1 | max1 | klist | sortd
inductive Mth where | append | pop | popAt | extend | insert | reverse | clear | get1 | get2 | setdefault | update | join | sindex | index | remove | dclear | extendT
inductive Itk where | seq | rng | zip | enum | items | values | rev | keys | rrng
inductive Ty where | int | bool | tuple | str | list | dict
inductive Tgt where
  | nm (i : Nat)
  | tp (ts : List Nat)

mutual
inductive E where
  | var (i : Nat)
  | int (n : Int)
  | str (s : Sx)
  | bl (b : Bool)
  | non
  | gint (x : Sx) (n : Int)
  | gtp (x : Sx) (ss : List Sx)
  | tup (es : Es)
  | lst (es : Es)
  | dct (k : Nat) (es : Es)
  | dcn
  | bin (o : Bop) (a b : E)
  | neg (a : E)
  | cmp (o : Cop) (a b : E)
  | chn (o o' : Cop) (a b c : E)
  | bop (isAnd : Bool) (es : Es)
  | not (a : E)
  | ite (c a b : E)
  | ix (a i : E)
  | sl (a : E) (lo hi : Es)
  | call (f : Sx) (es : Es)
  /-- the last k parameters' defaults, all None, fill up -/
  | callD (f : Sx) (k : Nat) (es : Es)
  /-- sum(e.values()) -/
  | smv (e : E)
  | fld (e : E) (f : Sx)
  | newo (c : Sx) (es : Es)
  | mcall (c m : Sx) (o : E) (es : Es)
  | blt (b : Blt) (es : Es)
  | isi (a : E) (t : Ty)
  | mth (m : Mth) (o : E) (es : Es)
  | lc (elt : E) (t : Tgt) (own : List Nat) (k : Itk) (src : Es) (ifs : Es)
  | bad
  | lock (i : Nat) (e : E)
  | lzip (es : Es)
  | lrng (es : Es)
  | rev (a : E)
  | mnd (es : Es)
  | orv (a b : E)
  | tix (x : Sx) (tab : List (Sx × Sx)) (a : E)
  | slw (a : E) (lo hi : Es)
  | tlr (a : E)
  /-- a new exception: its class, its fields' names, their values -/
  | newx (c : Sx) (fs : List Sx) (es : Es)
  /-- a field of an exception -/
  | fldx (a : E) (f : Sx)
  /-- isinstance of an exception: is its class among these; all: the classes of exceptions -/
  | isx (a : E) (t : Sx) (subs all : List Sx)
  /-- repr -/
  | rpr (a : E)
  /-- len(set(list of texts)) -/
  | lset (a : E)
  /-- dict(list of pairs) -/
  | dpr (a : E)
inductive Es where
  | nil
  | cons (e : E) (es : Es)
end

mutual
inductive S where
  | asg (t : Tgt) (e : E)
  | asgl (ts : List Nat) (e : E)
  | six (o i e : E)
  | sfld (c : Sx) (o : E) (f : Sx) (e : E)
  | aug (i : Nat) (o : Bop) (e : E)
  | ex (e : E)
  | ret (e : E)
  | retN
  | ife (c : E) (a b : Ss)
  | whl (c : E) (b : Ss)
  | for_ (t : Tgt) (k : Itk) (src : Es) (b : Ss)
  | pass | brk | cont
  | bad
  | lock (i : Nat) (s : S)
  | lock2 (i : Nat) (s : S)
  | raise (c : Sx) (fs : List Sx) (es : Es)
  /-- try: b, except t as name i: u; subs: the classes that t takes; all: the classes of exceptions -/
  | tryx (b : Ss) (t : Sx) (subs all : List Sx) (i : Nat) (u : Ss)
inductive Ss where
  | nil
  | cons (s : S) (ss : Ss)
end

/-! ### operations on values -/
def zipL : List D → List D → List D
  | x :: xs, y :: ys => .tup [x, y] :: zipL xs ys
  | _, _ => []
def mulOk (a b : Int) : Prop := (-(2 ^ 64) < a ∧ a < 2 ^ 64) ∨ (-(2 ^ 64) < b ∧ b < 2 ^ 64) ∨ ∃ k, 0 < k ∧ k ≤ 500000 ∧ a.natAbs < 2 ^ k ∧ b.natAbs < 2 ^ k
def divOk (b : Int) : Prop := 0 < b ∧ b < 2 ^ 64
def powOk (a b : Int) : Prop := 0 ≤ b ∧ b ≤ 1000000 ∧ a.natAbs < 2 ^ 64

def opAdd : D → D → AH → VQ → Prop
  | .int a, .int b, h, Q => Q (.int (a + b)) h
  | .str a, .str b, h, Q => a.length + b.length ≤ LINE ∧ Q (.str (a ++ b)) h
  | .tup a, .tup b, h, Q => a.length + b.length ≤ LINE ∧ Q (.tup (a ++ b)) h
  | .ref p, .ref q, h, Q => ∃ xs ys, h p = some (.lst xs) ∧ h q = some (.lst ys) ∧ xs.length + ys.length ≤ LINE ∧ ∀ r, h r = none → Q (.ref r) (up h r (.lst (xs ++ ys)))
  | _, _, _, _ => False
def opMul : D → D → AH → VQ → Prop
  | .int a, .int b, h, Q => mulOk a b ∧ Q (.int (a * b)) h
  | .ref p, .int k, h, Q => ∃ xs, h p = some (.lst xs) ∧ -(2 ^ 63) ≤ k ∧ k < 2 ^ 63 ∧ xs.length * k.toNat ≤ LINE ∧ ∀ r, h r = none → Q (.ref r) (up h r (.lst (List.replicate k.toNat xs).flatten))
  | _, _, _, _ => False
def opInt (f : Int → Int → (Int → Prop) → Prop) : D → D → AH → VQ → Prop
  | .int a, .int b, h, Q => f a b fun c => Q (.int c) h
  | _, _, _, _ => False
def opBin (o : Bop) (x y : D) (h : AH) (Q : VQ) : Prop := match o with
  | .add => opAdd x y h Q
  | .mul => opMul x y h Q
  | .sub => opInt (fun a b q => q (a - b)) x y h Q
  | .mod => opInt (fun a b q => 0 < b ∧ q (a % b)) x y h Q
  | .fdiv => opInt (fun a b q => divOk b ∧ q (a / b)) x y h Q
  | .pow => opInt (fun a b q => powOk a b ∧ q (a ^ b.toNat)) x y h Q

mutual
/-- data without objects and truths, nested at most n deep -/
def plain : Nat → D → Bool
  | _, .non => true
  | _, .int _ => true
  | _, .str _ => true
  | 0, .tup _ => false
  | n + 1, .tup ds => plains n ds
  | _, _ => false
def plains : Nat → List D → Bool
  | _, [] => true
  | n, d :: ds => plain n d && plains n ds
end
mutual
def pureD : D → Bool
  | .non => true
  | .int _ => true
  | .str _ => true
  | .tup ds => pureDs ds
  | _ => false
def pureDs : List D → Bool
  | [] => true
  | d :: ds => pureD d && pureDs ds
end
def flat : D → Bool
  | .non => true
  | .int _ => true
  | .str _ => true
  | _ => false

def eqOk (a b : D) (h : AH) (Q : Bool → Prop) : Prop := match a with
  | .bl a => (match b with
    | .bl b => Q (decide (a = b))
    | _ => False)
  | .ref p => (match b with
    | .ref q => ∃ xs ys, h p = some (.lst xs) ∧ h q = some (.lst ys) ∧ pureDs xs = true ∧ pureDs ys = true ∧ (plains 190 xs = true ∨ plains 190 ys = true) ∧ Q (decide (xs = ys))
    | _ => False)
  | a => pureD a = true ∧ pureD b = true ∧ (plain 190 a = true ∨ plain 190 b = true) ∧ Q (decide (a = b))

def kvGet (kvs : List (D × D)) (k : D) : Option D := (kvs.find? fun kv => decide (kv.1 = k)).map (·.2)
def kvPut (kvs : List (D × D)) (k v : D) : List (D × D) :=
  if (kvs.any fun kv => decide (kv.1 = k)) = true then kvs.map (fun kv => if kv.1 = k then (kv.1, v) else kv) else kvs ++ [(k, v)]
/-- keys by the kind of dict: 0 intsOf and texts, 1 tuples of such -/
def keyOk : Nat → D → Bool
  | 0, .int _ => true
  | 0, .str _ => true
  | _, _ => false

/-- keys that are tuples, nested eight deep at most -/
def nkOk : D → Bool
  | .tup ds => pureDs ds && plains 7 ds
  | _ => false

/-- == of what holds lists and dicts; true alone for lists and tuples -/
def All2 (R : D → D → Prop) : List D → List D → Prop
  | [], [] => True
  | x :: xs, y :: ys => R x y ∧ All2 R xs ys
  | _, _ => False
def HitsD (R : D → D → Bool → Prop) (kws : List (D × D)) : List (D × D) → Bool → Prop
  | [], r => r = true
  | kv :: t, r => (kvGet kws kv.1 = none ∧ r = false) ∨ ∃ u e r', kvGet kws kv.1 = some u ∧ R kv.2 u e ∧ HitsD R kws t r' ∧ r = (e && r')
def EqS (R : D → D → Bool → Prop) (h : AH) (a b : D) (r : Bool) : Prop :=
  (∃ xs ys, a = .tup xs ∧ b = .tup ys ∧ All2 (fun x y => R x y true) xs ys ∧ r = true) ∨
  (∃ p q xs ys, a = .ref p ∧ b = .ref q ∧ p ≠ q ∧ h p = some (.lst xs) ∧ h q = some (.lst ys) ∧ All2 (fun x y => R x y true) xs ys ∧ r = true) ∨
  ∃ p q kvs kws r', a = .ref p ∧ b = .ref q ∧ p ≠ q ∧ h p = some (.dct 0 kvs) ∧ h q = some (.dct 0 kws) ∧ (kvs.length = kws.length → HitsD R kws kvs r') ∧ r = (kvs.length == kws.length && r')
def EqD : Nat → AH → D → D → Bool → Prop
  | 0, _, _, _, _ => False
  | n + 1, h, a, b, r => (pureD a = true ∧ pureD b = true ∧ (plain (170 + n) a = true ∨ plain (170 + n) b = true) ∧ r = decide (a = b)) ∨ (∃ p, a = .ref p ∧ b = .ref p ∧ r = true) ∨ EqS (EqD n h) h a b r
/-- != of two dicts -/
def neD (a b : D) (h : AH) (Q : Bool → Prop) : Prop := ∃ p q kvs kws r, a = .ref p ∧ b = .ref q ∧ h p = some (.dct 0 kvs) ∧ h q = some (.dct 0 kws) ∧ (kvs.length = kws.length → HitsD (EqD 20 h) kws kvs r) ∧ Q (!(kvs.length == kws.length && r))
/-- != of two lists of truths -/
def neB (a b : D) (h : AH) (Q : Bool → Prop) : Prop := ∃ (p q : Nat) (bs cs : List Bool), a = .ref p ∧ b = .ref q ∧ h p = some (.lst (bs.map .bl)) ∧ h q = some (.lst (cs.map .bl)) ∧ Q (!decide (bs = cs))
def eqOkX (a b : D) (h : AH) (Q : Bool → Prop) : Prop := eqOk a b h Q ∨ ∃ r, EqS (EqD 20 h) h a b r ∧ Q r
def memOk (x y : D) (h : AH) (Q : Bool → Prop) : Prop := match y with
  | .ref p => (match h p with
    | some (.dct k kvs) => keyOk k x = true ∧ Q (kvGet kvs x).isSome
    | some (.rdct k kvs) => keyOk k x = true ∧ Q (kvGet kvs x).isSome
    | some (.dcn kvs) => nkOk x = true ∧ Q (kvGet kvs x).isSome
    | some (.lst xs) => pureD x = true ∧ pureDs xs = true ∧ (plain 190 x = true ∨ plains 190 xs = true) ∧ Q (xs.any fun y => decide (y = x))
    | _ => False)
  | .tup xs => flat x = true ∧ xs.all flat = true ∧ Q (xs.any fun y => decide (y = x))
  | _ => False
/-! ### an order of data -/
mutual
/-- what < may be asked of -/
def cmpb : D → D → Bool
  | .int _, b => (match b with
    | .int _ => true
    | _ => false)
  | .str _, b => (match b with
    | .str _ => true
    | _ => false)
  | .tup xs, b => (match b with
    | .tup ys => cmpbs xs ys
    | _ => false)
  | _, _ => false
def cmpbs : List D → List D → Bool
  | [], _ => true
  | x :: xs, l => (match l with
    | [] => true
    | y :: ys => if x = y then cmpbs xs ys else cmpb x y)
end
def rkD : D → Nat
  | .non => 0
  | .bl _ => 1
  | .int _ => 2
  | .str _ => 3
  | .tup _ => 4
  | .rol _ => 5
  | .ref _ => 6
mutual
/-- the order that < and sorted follow -/
def ltD : D → D → Bool
  | .int a, d => (match d with
    | .int b => decide (a < b)
    | d => decide (2 < rkD d))
  | .str s, d => (match d with
    | .str t => decide (s < t)
    | d => decide (3 < rkD d))
  | .tup xs, d => (match d with
    | .tup ys => ltDs xs ys
    | d => decide (4 < rkD d))
  | .rol xs, d => (match d with
    | .rol ys => ltDs xs ys
    | d => decide (5 < rkD d))
  | .non, d => decide (0 < rkD d)
  | .bl a, d => (match d with
    | .bl b => !a && b
    | d => decide (1 < rkD d))
  | .ref a, d => (match d with
    | .ref b => decide (a < b)
    | d => decide (6 < rkD d))
def ltDs : List D → List D → Bool
  | [], l => (match l with
    | [] => false
    | _ :: _ => true)
  | x :: xs, l => (match l with
    | [] => false
    | y :: ys => if x = y then ltDs xs ys else ltD x y)
end
theorem ltDs_cons {x y : D} {xs ys : List D} : ltDs (x :: xs) (y :: ys) = if x = y then ltDs xs ys else ltD x y := by simp only [ltDs]
theorem ltD_rk {a b : D} (h : rkD a ≠ rkD b) : ltD a b = decide (rkD a < rkD b) := by
  cases a <;> cases b <;> first | exact absurd rfl h | simp [ltD, rkD]
theorem sx_irr : ∀ s : Sx, ¬ s < s := fun s => List.lt_irrefl s
mutual
theorem ltD_irr : ∀ a : D, ltD a a = false
  | .non => by simp [ltD, rkD]
  | .bl b => by cases b <;> rfl
  | .int _ => by simp [ltD]
  | .str s => by simp [ltD, sx_irr s]
  | .tup xs => by simp only [ltD]; exact ltDs_irr xs
  | .rol xs => by simp only [ltD]; exact ltDs_irr xs
  | .ref _ => by simp [ltD]
theorem ltDs_irr : ∀ xs : List D, ltDs xs xs = false
  | [] => by simp only [ltDs]
  | x :: xs => by rw [ltDs_cons, if_pos rfl]; exact ltDs_irr xs
end
theorem rk_no {a b : D} (r : rkD a ≠ rkD b) (h1 : ltD a b = false) (h2 : ltD b a = false) : False := by
  rw [ltD_rk r] at h1
  rw [ltD_rk (Ne.symm r)] at h2
  simp at h1 h2
  omega
mutual
theorem ltD_tot : ∀ a b : D, ltD a b = false → ltD b a = false → a = b
  | .tup xs, b, h1, h2 => by
    cases b with
    | tup ys =>
      simp only [ltD] at h1 h2
      rw [ltDs_tot xs ys h1 h2]
    | _ => exact (rk_no (by simp [rkD]) h1 h2).elim
  | .rol xs, b, h1, h2 => by
    cases b with
    | rol ys =>
      simp only [ltD] at h1 h2
      rw [ltDs_tot xs ys h1 h2]
    | _ => exact (rk_no (by simp [rkD]) h1 h2).elim
  | .int a, b, h1, h2 => by
    cases b with
    | int c =>
      simp [ltD] at h1 h2
      congr 1; omega
    | _ => exact (rk_no (by simp [rkD]) h1 h2).elim
  | .str a, b, h1, h2 => by
    cases b with
    | str c =>
      simp [ltD] at h1 h2
      congr 1
      exact List.le_antisymm h2 h1
    | _ => exact (rk_no (by simp [rkD]) h1 h2).elim
  | .non, b, h1, h2 => by
    cases b with
    | non => rfl
    | _ => exact (rk_no (by simp [rkD]) h1 h2).elim
  | .bl a, b, h1, h2 => by
    cases b with
    | bl c => cases a <;> cases c <;> first | rfl | (simp [ltD] at h1 h2)
    | _ => exact (rk_no (by simp [rkD]) h1 h2).elim
  | .ref a, b, h1, h2 => by
    cases b with
    | ref c =>
      simp [ltD] at h1 h2
      congr 1; omega
    | _ => exact (rk_no (by simp [rkD]) h1 h2).elim
theorem ltDs_tot : ∀ xs ys : List D, ltDs xs ys = false → ltDs ys xs = false → xs = ys
  | [], ys, h1, h2 => by cases ys <;> simp [ltDs] at h1 ⊢
  | x :: xs, ys, h1, h2 => by
    cases ys with
    | nil => simp [ltDs] at h2
    | cons y ys =>
      rw [ltDs_cons] at h1 h2
      by_cases e : x = y
      · subst e
        rw [if_pos rfl] at h1 h2
        rw [ltDs_tot xs ys h1 h2]
      · rw [if_neg e] at h1
        rw [if_neg (Ne.symm e)] at h2
        exact absurd (ltD_tot x y h1 h2) e
end
theorem rk_lt {a b c : D} (r : rkD a ≠ rkD b ∨ rkD b ≠ rkD c) (h1 : ltD a b = true) (h2 : ltD b c = true) (w : ∀ {x y : D}, ltD x y = true → rkD x ≤ rkD y) : ltD a c = true := by
  have h3 := w h1
  have h4 := w h2
  rw [ltD_rk (by omega)]
  exact decide_eq_true (by omega)
theorem lt_rk {x y : D} (h : ltD x y = true) : rkD x ≤ rkD y := by
  by_cases r : rkD x = rkD y
  · omega
  · rw [ltD_rk r] at h
    simp at h
    omega
mutual
theorem ltD_trans : ∀ a b c : D, ltD a b = true → ltD b c = true → ltD a c = true
  | .tup xs, b, c, h1, h2 => by
    cases b with
    | tup ys =>
      cases c with
      | tup zs =>
        simp only [ltD] at h1 h2 ⊢
        exact ltDs_trans xs ys zs h1 h2
      | _ => exact rk_lt (.inr (by simp [rkD])) h1 h2 lt_rk
    | _ => exact rk_lt (.inl (by simp [rkD])) h1 h2 lt_rk
  | .rol xs, b, c, h1, h2 => by
    cases b with
    | rol ys =>
      cases c with
      | rol zs =>
        simp only [ltD] at h1 h2 ⊢
        exact ltDs_trans xs ys zs h1 h2
      | _ => exact rk_lt (.inr (by simp [rkD])) h1 h2 lt_rk
    | _ => exact rk_lt (.inl (by simp [rkD])) h1 h2 lt_rk
  | .int a, b, c, h1, h2 => by
    cases b with
    | int b =>
      cases c with
      | int c =>
        simp [ltD] at h1 h2 ⊢
        omega
      | _ => exact rk_lt (.inr (by simp [rkD])) h1 h2 lt_rk
    | _ => exact rk_lt (.inl (by simp [rkD])) h1 h2 lt_rk
  | .str a, b, c, h1, h2 => by
    cases b with
    | str b =>
      cases c with
      | str c =>
        simp [ltD] at h1 h2 ⊢
        exact List.lt_trans h1 h2
      | _ => exact rk_lt (.inr (by simp [rkD])) h1 h2 lt_rk
    | _ => exact rk_lt (.inl (by simp [rkD])) h1 h2 lt_rk
  | .non, b, c, h1, h2 => by
    cases b with
    | non => simp [ltD, rkD] at h1
    | _ => exact rk_lt (.inl (by simp [rkD])) h1 h2 lt_rk
  | .bl a, b, c, h1, h2 => by
    cases b with
    | bl b =>
      cases c with
      | bl c => cases a <;> cases b <;> cases c <;> simp [ltD] at h1 h2 ⊢
      | _ => exact rk_lt (.inr (by simp [rkD])) h1 h2 lt_rk
    | _ => exact rk_lt (.inl (by simp [rkD])) h1 h2 lt_rk
  | .ref a, b, c, h1, h2 => by
    cases b with
    | ref b =>
      cases c with
      | ref c =>
        simp [ltD] at h1 h2 ⊢
        omega
      | _ => exact rk_lt (.inr (by simp [rkD])) h1 h2 lt_rk
    | _ => exact rk_lt (.inl (by simp [rkD])) h1 h2 lt_rk
theorem ltDs_trans : ∀ xs ys zs : List D, ltDs xs ys = true → ltDs ys zs = true → ltDs xs zs = true
  | [], ys, zs, h1, h2 => by
    cases ys with
    | nil => simp [ltDs] at h1
    | cons y ys =>
      cases zs with
      | nil => simp [ltDs] at h2
      | cons z zs => simp [ltDs]
  | x :: xs, ys, zs, h1, h2 => by
    cases ys with
    | nil => simp [ltDs] at h1
    | cons y ys =>
      cases zs with
      | nil => simp [ltDs] at h2
      | cons z zs =>
        rw [ltDs_cons] at h1 h2 ⊢
        by_cases e : x = y
        · subst e
          rw [if_pos rfl] at h1
          by_cases e2 : x = z
          · subst e2
            rw [if_pos rfl] at h2 ⊢
            exact ltDs_trans xs ys zs h1 h2
          · rw [if_neg e2] at h2 ⊢
            exact h2
        · rw [if_neg e] at h1
          by_cases e2 : y = z
          · subst e2
            rw [if_neg e]
            exact h1
          · rw [if_neg e2] at h2
            have h3 := ltD_trans x y z h1 h2
            by_cases e3 : x = z
            · subst e3
              rw [ltD_irr] at h3
              cases h3
            · rw [if_neg e3]
              exact h3
end
theorem ltD_asym {a b : D} (h : ltD a b = true) : ltD b a = false := by
  cases e : ltD b a with
  | false => rfl
  | true =>
    have := ltD_trans a b a h e
    rw [ltD_irr] at this
    cases this
theorem ltD_neg {x y z : D} (h1 : ltD y x = false) (h2 : ltD z y = false) : ltD z x = false := by
  cases e : ltD z x with
  | false => rfl
  | true =>
    cases e1 : ltD x y with
    | true =>
      have := ltD_trans z x y e e1
      rw [h2] at this
      cases this
    | false =>
      have := ltD_tot x y e1 h1
      subst this
      rw [h2] at e
      cases e
def cmpInt (f : Int → Int → Bool) : D → D → (Bool → Prop) → Prop
  | .int a, .int b, Q => Q (f a b)
  | _, _, _ => False
def cmpLt : D → D → (Bool → Prop) → Prop
  | .int a, .int b, Q => Q (decide (a < b))
  | .str a, .str b, Q => Q (decide (a < b))
  | .tup xs, .tup ys, Q => cmpbs xs ys = true ∧ pureDs xs = true ∧ pureDs ys = true ∧ (plains 190 xs = true ∨ plains 190 ys = true) ∧ Q (ltDs xs ys)
  | _, _, _ => False
def isNon (x y : D) (Q : Bool → Prop) : Prop := match y with
  | .non => Q (decide (x = .non))
  | .bl b => (match x with
    | .bl a => Q (decide (a = b))
    | _ => False)
  | _ => False

def opCmp (o : Cop) (x y : D) (h : AH) (Q : Bool → Prop) : Prop := match o with
  | .eq => eqOkX x y h Q
  | .ne => eqOk x y h fun c => Q (!c)
  | .lt => cmpLt x y Q
  | .le => cmpInt (fun a b => decide (a ≤ b)) x y Q
  | .gt => cmpInt (fun a b => decide (b < a)) x y Q
  | .ge => cmpInt (fun a b => decide (b ≤ a)) x y Q
  | .isin => memOk x y h Q
  | .notin => memOk x y h fun c => Q (!c)
  | .is_ => isNon x y Q
  | .isnt => isNon x y fun c => Q (!c)
  | .nes => neD x y h Q
  | .neb => neB x y h Q

def atI {α : Type} (xs : List α) (i : Int) : Option α := if 0 ≤ i then xs[i.toNat]? else if -(xs.length : Int) ≤ i then xs[(i + xs.length).toNat]? else none
def ixAt (ds : List D) (y : D) (h : AH) (Q : VQ) : Prop := match y with
  | .int i => (match atI ds i with
    | some d => Q d h
    | none => False)
  | _ => False
def ixStr (s : Sx) (y : D) (h : AH) (Q : VQ) : Prop := match y with
  | .int i => s.length ≤ LINE ∧ (match atI s i with
    | some c => Q (.str [c]) h
    | none => False)
  | _ => False
def opIx (x y : D) (h : AH) (Q : VQ) : Prop := match x with
  | .tup ds => ixAt ds y h Q
  | .rol ds => ixAt ds y h Q
  | .str s => ixStr s y h Q
  | .ref p => (match h p with
    | some (.lst xs) => ixAt xs y h Q
    | some (.dct kd kvs) => keyOk kd y = true ∧ (match kvGet kvs y with
      | some d => Q d h
      | none => False)
    | some (.rdct kd kvs) => keyOk kd y = true ∧ (match kvGet kvs y with
      | some d => Q d h
      | none => False)
    | some (.dcn kvs) => nkOk y = true ∧ (match kvGet kvs y with
      | some d => Q d h
      | none => False)
    | _ => False)
  | _ => False

/-- where a slice's bound lies -/
def clip (n d : Nat) : Option Int → Nat
  | none => d
  | some i => if i < 0 then (i + n).toNat else min i.toNat n
def cut {α : Type} (xs : List α) (lo hi : Option Int) : List α := (xs.drop (clip xs.length 0 lo)).take (clip xs.length xs.length hi - clip xs.length 0 lo)
def opSl (x : D) (lo hi : Option Int) (h : AH) (Q : VQ) : Prop := match x with
  | .tup ds => ¬ (clip ds.length 0 lo = 0 ∧ clip ds.length ds.length hi = ds.length) ∧ Q (.tup (cut ds lo hi)) h
  | .rol ds => ∀ r, h r = none → Q (.ref r) (up h r (.lst (cut ds lo hi)))
  | .str s => s.length ≤ LINE ∧ Q (.str (cut s lo hi)) h
  | .ref p => (match h p with
    | some (.lst xs) => ∀ r, h r = none → Q (.ref r) (up h r (.lst (cut xs lo hi)))
    | _ => False)
  | _ => False

/-- a tuple's slice, the whole of it too -/
def opSlW (x : D) (lo hi : Option Int) (h : AH) (Q : VQ) : Prop := match x with
  | .tup ds => Q (.tup (cut ds lo hi)) h
  | _ => False

def intsOf : List D → Option (List Int)
  | [] => some []
  | .int i :: ds => (intsOf ds).map (i :: ·)
  | _ => none
def bls : List D → Option (List Bool)
  | [] => some []
  | .bl i :: ds => (bls ds).map (i :: ·)
  | _ => none
/-- what may be read as a list or a tuple -/
def seqOf : D → AH → Option (List D)
  | .tup xs, _ => some xs
  | .rol xs, _ => some xs
  | .ref p, h => match h p with
    | some (.lst xs) => some xs
    | _ => none
  | _, _ => none

/-- one argument, two -/
def arg1 (ds : List D) (f : D → Prop) : Prop := match ds with
  | [d] => f d
  | _ => False
def arg2 (ds : List D) (f : D → D → Prop) : Prop := match ds with
  | [d, e] => f d e
  | _ => False
def anInt (d : D) (f : Int → Prop) : Prop := match d with
  | .int i => f i
  | _ => False
def aRef (d : D) (f : Nat → Prop) : Prop := match d with
  | .ref p => f p
  | _ => False
def aLst (d : D) (h : AH) (f : Nat → List D → Prop) : Prop := match d with
  | .ref p => (match h p with
    | some (.lst xs) => f p xs
    | _ => False)
  | _ => False
def aDct (d : D) (h : AH) (f : Nat → Nat → List (D × D) → Prop) : Prop := match d with
  | .ref p => (match h p with
    | some (.dct k kvs) => f p k kvs
    | _ => False)
  | _ => False
/-- a dict, locked or not -/
def aDctR (d : D) (h : AH) (f : Nat → Nat → List (D × D) → Prop) : Prop := match d with
  | .ref p => (match h p with
    | some (.dct k kvs) => f p k kvs
    | some (.rdct k kvs) => f p k kvs
    | _ => False)
  | _ => False
def aSome {α : Type} (o : Option α) (f : α → Prop) : Prop := match o with
  | some a => f a
  | none => False
def lenOk (d : D) (h : AH) (f : Nat → Prop) : Prop := match d with
  | .str s => s.length ≤ LINE ∧ f s.length
  | .ref p => (match h p with
    | some (.lst xs) => f xs.length
    | some (.dct _ kvs) => f kvs.length
    | some (.rdct _ kvs) => f kvs.length
    | _ => False)
  | d => aSome (seqOf d h) fun xs => f xs.length
def toInt (d : D) (f : Int → Prop) : Prop := match d with
  | .int i => f i
  | .bl b => f (if b then 1 else 0)
  | _ => False
def aTup (d : D) (f : List D → Prop) : Prop := match d with
  | .tup xs => f xs
  | _ => False
def strsOf : List D → Option (List Sx)
  | [] => some []
  | .str s :: ds => (strsOf ds).map (s :: ·)
  | _ => none
/-- what sorted takes of tuples: as < may be asked of any two, their first ones of one type -/
def tupsOk (xs : List D) : Prop := pureDs xs = true ∧ plains 190 xs = true ∧ (∃ t, (t = 2 ∨ t = 3 ∨ t = 4) ∧ ∀ x ∈ xs, ∃ y r, x = .tup (y :: r) ∧ rkD y = t) ∧ ∀ x ∈ xs, ∀ y ∈ xs, cmpb x y = true
def sortOk (xs : List D) : Prop := xs.length < 2 ∨ (∃ ss, strsOf xs = some ss ∧ ss.length < 64) ∨ (∃ ns, intsOf xs = some ns) ∨ tupsOk xs
def sortP (d : D) (h : AH) (f : List D → Prop) : Prop := match d with
  | .ref p => (match h p with
    | some (.lst xs) => sortOk xs ∧ f xs
    | some (.dct 0 kvs) => (∃ ss, strsOf (kvs.map (·.1)) = some ss ∧ ss.length < 64) ∧ f (kvs.map (·.1))
    | some (.rdct 0 kvs) => (∃ ss, strsOf (kvs.map (·.1)) = some ss ∧ ss.length < 64) ∧ f (kvs.map (·.1))
    | _ => False)
  | _ => False
def opBlt (b : Blt) (ds : List D) (h : AH) (Q : VQ) : Prop := match b with
  | .len => arg1 ds fun d => lenOk d h fun n => Q (.int n) h
  | .min2 => arg2 ds fun x y => anInt x fun a => anInt y fun b => Q (.int (if b < a then b else a)) h
  | .max2 => arg2 ds fun x y => anInt x fun a => anInt y fun b => Q (.int (if b > a then b else a)) h
  | .int1 => arg1 ds fun d => toInt d fun i => Q (.int i) h
  | .abs => arg1 ds fun d => anInt d fun a => Q (.int (if a < 0 then -a else a)) h
  | .sum => arg1 ds fun d => aLst d h fun _ xs => aSome (intsOf xs) fun ns => Q (.int ns.sum) h
  | .all => arg1 ds fun d => aLst d h fun _ xs => aSome (bls xs) fun bs => Q (.bl (bs.all id)) h
  | .any => arg1 ds fun d => aLst d h fun _ xs => aSome (bls xs) fun bs => Q (.bl (bs.any id)) h
  | .sortd => arg1 ds fun d => sortP d h fun xs => ∀ ys : List D, ys.Perm xs → ys.Pairwise (fun a b => ltD b a = false) → ∀ r, h r = none → Q (.ref r) (up h r (.lst ys))
  | .list => arg1 ds fun d => aSome (seqOf d h) fun xs => ∀ r, h r = none → Q (.ref r) (up h r (.lst xs))
  | .tuple => arg1 ds fun d => aSome (seqOf d h) fun xs => Q (.tup xs) h
  | .dict1 => arg1 ds fun d => aDctR d h fun _ k kvs => ∀ r, h r = none → Q (.ref r) (up h r (.dct k kvs))
  | .klist => arg1 ds fun d => aDctR d h fun _ _ kvs => ∀ r, h r = none → Q (.ref r) (up h r (.lst (kvs.map (·.1))))
  | .max1 => arg1 ds fun d => aLst d h fun _ xs => aSome (intsOf xs) fun ns => ns ≠ [] ∧ ∀ m, m ∈ ns → (∀ y, y ∈ ns → y ≤ m) → Q (.int m) h
  | .sorted => arg1 ds fun d => aDctR d h fun _ _ kvs => aSome (strsOf (kvs.map (·.1))) fun ss => ss.length < 64 ∧ ∀ ys : List Sx, ys.Perm ss → ∀ r, h r = none → Q (.ref r) (up h r (.lst (ys.map .str)))
  | _ => False

def opIsi : D → Ty → AH → Option Bool
  | .non, _, _ => some false
  | .bl _, .bool, _ => some true
  | .bl _, .int, _ => some true
  | .bl _, _, _ => some false
  | .int _, .int, _ => some true
  | .int _, _, _ => some false
  | .str _, .str, _ => some true
  | .str _, _, _ => some false
  | .tup _, .tuple, _ => some true
  | .tup _, _, _ => some false
  | .ref p, t, h => match h p with
    | some (.lst _) => some (match t with
      | .list => true
      | _ => false)
    | some (.dct 0 _) => some (match t with
      | .dict => true
      | _ => false)
    | _ => none
  | .rol _, _, _ => none

def mergeL : List (D × D) → List (D × D) → List (D × D)
  | acc, [] => acc
  | acc, kv :: r => mergeL (kvPut acc kv.1 kv.2) r
def aStr (d : D) (f : Sx → Prop) : Prop := match d with
  | .str s => f s
  | _ => False
def joinS (s : Sx) : List Sx → Sx
  | [] => []
  | [p] => p
  | p :: q :: r => p ++ (s ++ joinS s (q :: r))
def opMth (m : Mth) (x : D) (ds : List D) (h : AH) (Q : VQ) : Prop := match m with
  | .append => arg1 ds fun d => aLst x h fun p xs => xs.length < LINE ∧ Q .non (up h p (.lst (xs ++ [d])))
  | .pop => ds = [] ∧ aLst x h fun p xs => aSome xs[xs.length - 1]? fun y => Q y (up h p (.lst xs.dropLast))
  | .popAt => arg1 ds fun d => anInt d fun i => aLst x h fun p xs => (0 ≤ i ∧ i < 2 ^ 62) ∧ aSome xs[i.toNat]? fun y => Q y (up h p (.lst (xs.eraseIdx i.toNat)))
  | .extend => arg1 ds fun d => aLst x h fun p xs => aLst d h fun q ys => xs.length + ys.length ≤ LINE ∧ Q .non (up h p (.lst (xs ++ ys)))
  | .extendT => arg1 ds fun d => aLst x h fun p xs => aTup d fun ys => xs.length + ys.length ≤ LINE ∧ Q .non (up h p (.lst (xs ++ ys)))
  | .reverse => ds = [] ∧ aLst x h fun p xs => Q .non (up h p (.lst xs.reverse))
  | .clear => ds = [] ∧ aLst x h fun p xs => Q .non (up h p (.lst []))
  | .get1 => arg1 ds fun k => aDct x h fun p kd kvs => keyOk kd k = true ∧ Q ((kvGet kvs k).getD .non) h
  | .get2 => arg2 ds fun k d => aDct x h fun p kd kvs => keyOk kd k = true ∧ Q ((kvGet kvs k).getD d) h
  | .update => arg1 ds fun d => aDct x h fun p kd kvs => aDct d h fun r kd' more => p ≠ r ∧ kd = 0 ∧ kd' = 0 ∧ kvs.length + more.length ≤ LINE ∧ Q .non (up h p (.dct 0 (mergeL kvs more)))
  | .insert => arg2 ds fun y d => anInt y fun i => aLst x h fun p xs => (0 ≤ i ∧ i < 2 ^ 62) ∧ xs.length < LINE ∧ Q .non (up h p (.lst (xs.take i.toNat ++ [d] ++ xs.drop i.toNat)))
  | .dclear => ds = [] ∧ aDct x h fun p kd kvs => kd = 0 ∧ Q .non (up h p (.dct 0 []))
  | .index => arg1 ds fun d => anInt d fun i => aLst x h fun _ xs => aSome (intsOf xs) fun ns => i ∈ ns ∧ Q (.int (ns.idxOf i : Nat)) h
  | .sindex => arg1 ds fun d => aStr d fun t => aStr x fun s => ∃ c, t = [c] ∧ c ∈ s ∧ ∀ i : Nat, s[i]? = some c → Q (.int (i : Nat)) h
  | .join => arg1 ds fun d => aStr x fun s => aSome (seqOf d h) fun xs => aSome (strsOf xs) fun ss => (ss.map (·.length)).sum + ss.length * s.length ≤ LINE ∧ Q (.str (joinS s ss)) h
  | _ => False

/-- of what a method is asked -/
def recvOk (m : Mth) (d : D) (h : AH) : Prop := match m with
  | .get1 => aDct d h fun _ _ _ => True
  | .get2 => aDct d h fun _ _ _ => True
  | .update => aDct d h fun _ _ _ => True
  | .dclear => aDct d h fun _ _ _ => True
  | .join => aStr d fun _ => True
  | .sindex => aStr d fun _ => True
  | _ => aLst d h fun _ _ => True
/-- o[i] = v -/
def opSet (x y v : D) (h : AH) (Q : AH → Prop) : Prop := match x with
  | .ref p => (match h p with
    | some (.lst xs) => anInt y fun i => (0 ≤ i ∧ i < xs.length) ∧ Q (up h p (.lst (xs.set i.toNat v)))
    | some (.dct kd kvs) => keyOk kd y = true ∧ kvs.length < LINE ∧ Q (up h p (.dct kd (kvPut kvs y v)))
    | some (.dcn kvs) => nkOk y = true ∧ kvs.length < LINE ∧ Q (up h p (.dcn (kvPut kvs y v)))
    | _ => False)
  | _ => False

def keysOk (k : Nat) : List (D × D) → Bool
  | [] => true
  | kv :: r => keyOk k kv.1 && keysOk k r
def pairUp : List D → Option (List (D × D))
  | [] => some []
  | a :: b :: r => (pairUp r).map ((a, b) :: ·)
  | _ => none

/-- x op= y of numbers, of texts -/
def opAug (o : Bop) (x y : D) (Q : D → Prop) : Prop := match o with
  | .add => (match x with
    | .int a => (match y with
      | .int b => Q (.int (a + b))
      | _ => False)
    | .str a => (match y with
      | .str b => a.length + b.length ≤ LINE ∧ Q (.str (a ++ b))
      | _ => False)
    | _ => False)
  | .sub => (match x with
    | .int a => (match y with
      | .int b => Q (.int (a - b))
      | _ => False)
    | _ => False)
  | _ => False

/-! ### what is walked -/
def rangeL (lo hi : Int) : List D := (List.range (hi - lo).toNat).map fun (k : Nat) => D.int (lo + (k : Int))
def enumL (i : Nat) : List D → List D
  | [] => []
  | x :: xs => .tup [.int i, x] :: enumL (i + 1) xs
def aRng (ds : List D) (f : Int → Int → Prop) : Prop := match ds with
  | [.int n] => (-(2 ^ 62) ≤ n ∧ n ≤ LINE) ∧ f 0 n
  | [.int a, .int b] => ((-(2 ^ 62) ≤ a ∧ a ≤ LINE) ∧ -(2 ^ 62) ≤ b ∧ b ≤ LINE ∧ (b - a).toNat ≤ LINE) ∧ f a b
  | _ => False
/-- Q of the items, and of what must stay true of the heap while they are walked -/
def walk : Itk → List D → AH → (List D → (AH → Prop) → Prop) → Prop
  | .seq, [.tup xs], _, Q => Q xs fun _ => True
  | .seq, [.rol xs], _, Q => Q xs fun _ => True
  | .seq, [.str s], _, Q => Q (s.map fun c => .str [c]) fun _ => True
  | .seq, [.ref p], h, Q => match h p with
    | some (.lst xs) => Q xs fun h' => h' p = some (.lst xs)
    | _ => False
  | .rng, [.int n], _, Q => -(2 ^ 62) ≤ n ∧ n < 2 ^ 62 ∧ Q (rangeL 0 n) fun _ => True
  | .rng, [.int a, .int b], _, Q => (-(2 ^ 62) ≤ a ∧ a < 2 ^ 62 ∧ -(2 ^ 62) ≤ b ∧ b < 2 ^ 62) ∧ Q (rangeL a b) fun _ => True
  | .rng, [.int a, .int b, .int c], _, Q => (c = -1 ∧ -(2 ^ 62) ≤ a ∧ a < 2 ^ 62 ∧ -(2 ^ 62) ≤ b ∧ b < 2 ^ 62) ∧ Q (rangeL (b + 1) (a + 1)).reverse fun _ => True
  | .rrng, [.int n], _, Q => -(2 ^ 62) ≤ n ∧ n < 2 ^ 62 ∧ Q (rangeL 0 n).reverse fun _ => True
  | .enum, [.ref p], h, Q => match h p with
    | some (.lst xs) => Q (enumL 0 xs) fun h' => h' p = some (.lst xs)
    | _ => False
  | .rev, [.ref p], h, Q => match h p with
    | some (.lst xs) => Q xs.reverse fun h' => h' p = some (.lst xs)
    | _ => False
  | .rev, [.tup xs], _, Q => Q xs.reverse fun _ => True
  | .rev, [.str s], _, Q => s.length ≤ LINE ∧ Q (s.map fun c => .str [c]).reverse fun _ => True
  | .zip, [.tup xs, .tup ys], _, Q => Q (zipL xs ys) fun _ => True
  | .zip, [.ref p, .ref q], h, Q => (match h p, h q with
    | some (.lst xs), some (.lst ys) => Q (zipL xs ys) fun h' => h' p = some (.lst xs) ∧ h' q = some (.lst ys)
    | _, _ => False)
  | .keys, [.ref p], h, Q => match h p with
    | some (.rdct _ kvs) => Q (kvs.map (·.1)) fun _ => True
    | _ => False
  | .values, [.ref p], h, Q => match h p with
    | some (.rdct _ kvs) => Q (kvs.map (·.2)) fun _ => True
    | _ => False
  | .items, [.ref p], h, Q => match h p with
    | some (.rdct _ kvs) => Q (kvs.map fun kv => .tup [kv.1, kv.2]) fun _ => True
    | _ => False
  | _, _, _, _ => False

def setT : Tgt → D → St → Option St
  | .nm i, d, σ => some (σ.set i (some d))
  | .tp ts, .tup ds, σ => setTs ts ds σ
  | _, _, _ => none
where
  setTs : List Nat → List D → St → Option St
    | [], [], σ => some σ
    | i :: is, d :: ds, σ => setTs is ds (σ.set i (some d))
    | _, _, _ => none

def forget (σ : St) : List Nat → St
  | [] => σ
  | v :: vs => (forget σ vs).set v none

/-- a loop over xs by an invariant over (turn, names, heap) -/
def loopW (xs : List D) (ok : AH → Prop) (body : D → St → AH → (St → AH → Prop) → Prop) (done : St → AH → Prop) (σ : St) (h : AH) : Prop :=
  ∃ P : Nat → St → AH → Prop, P 0 σ h ∧ (∀ i σ h, P i σ h → ok h) ∧ (∀ i x σ h, xs[i]? = some x → P i σ h → body x σ h (P (i + 1))) ∧ ∀ σ h, P xs.length σ h → done σ h
/-- a comprehension by an invariant over (turn, list so far, heap) -/
def compW (xs : List D) (ok : AH → Prop) (body : D → AH → (D → AH → Prop) → (AH → Prop) → Prop) (done : List D → AH → Prop) (h : AH) : Prop :=
  ∃ P : Nat → List D → AH → Prop, P 0 [] h ∧ (∀ i acc h, P i acc h → ok h ∧ acc.length ≤ i) ∧ xs.length ≤ LINE ∧
    (∀ i x acc h, xs[i]? = some x → P i acc h → body x h (fun y h' => P (i + 1) (acc ++ [y]) h') (fun h' => P (i + 1) acc h')) ∧ ∀ acc h, P xs.length acc h → done acc h

/-- the entries of a dict that stands free -/
def aVals (d : D) (h : AH) (f : List (D × D) → Prop) : Prop := match d with
  | .ref p => (match h p with
    | some (.dct 0 kvs) => f kvs
    | _ => False)
  | _ => False
/-- an instance of a class of the program -/
def aIns (d : D) (h : AH) (f : Nat → Sx → List (Sx × D) → Prop) : Prop := match d with
  | .ref p => (match h p with
    | some (.ins c fs) => f p c fs
    | _ => False)
  | _ => False
def putA (f : Sx) (v : D) : List (Sx × D) → List (Sx × D)
  | [] => [(f, v)]
  | (g, x) :: r => if g = f then (g, v) :: r else (g, x) :: putA f v r
/-- what makes an instance of c; its def m -/
def mkN (c : Sx) : Sx := 1114112 :: c
def metN (c m : Sx) : Sx := c ++ 46 :: m
def sInit : Sx := [95, 95, 105, 110, 105, 116, 95, 95]
/-- the dict that a name holds -/
def lockAt (σ : St) (i : Nat) (h : AH) (f : Nat → Nat → List (D × D) → Prop) : Prop := match σ[i]? with
  | some (some (.ref p)) => (match h p with
    | some (.dct kd kvs) => f p kd kvs
    | _ => False)
  | _ => False
/-- min of a list of numbers, None of none -/
def minD (ds : List D) (h : AH) (Q : VQ) : Prop := arg1 ds fun d => aLst d h fun _ xs => aSome (intsOf xs) fun ns => (ns = [] → Q .non h) ∧ ∀ m, m ∈ ns → (∀ y, y ∈ ns → m ≤ y) → Q (.int m) h
/-! ### repr -/
def decS (n : Nat) : Sx := (Nat.toDigits 10 n).map Char.toNat
/-- a text without quotes and what is shown otherwise -/
def plainC (c : Nat) : Bool := decide (32 ≤ c) && decide (c ≤ 126) && decide (c ≠ 39) && decide (c ≠ 92)
def shL (f : D → Option Sx) : List D → Option (List Sx)
  | [] => some []
  | d :: ds => match f d, shL f ds with
    | some s, some ss => some (s :: ss)
    | _, _ => none
def shK (f : D → Option Sx) : List (D × D) → Option (List Sx)
  | [] => some []
  | (k, v) :: r => match f k, f v, shK f r with
    | some s, some t, some ss => some ((s ++ 58 :: 32 :: t) :: ss)
    | _, _, _ => none
/-- repr of data, nested n deep at most -/
def shD (h : AH) : Nat → D → Option Sx
  | 0, _ => none
  | _ + 1, .non => some [78, 111, 110, 101]
  | _ + 1, .bl true => some [84, 114, 117, 101]
  | _ + 1, .bl false => some [70, 97, 108, 115, 101]
  | _ + 1, .int i => if 0 ≤ i ∧ i < 2 ^ 1000 then some (decS i.toNat) else none
  | _ + 1, .str s => if s.all plainC = true then some (39 :: (s ++ [39])) else none
  | n + 1, .tup ds => (shL (shD h n) ds).map fun ss => 40 :: (joinS [44, 32] ss ++ if ss.length = 1 then [44, 41] else [41])
  | _ + 1, .rol _ => none
  | n + 1, .ref p => match h p with
    | some (.dct 0 kvs) => (shK (shD h n) kvs).map fun ss => 123 :: (joinS [44, 32] ss ++ [125])
    | _ => none
def rprOk (d : D) (h : AH) (Q : Sx → Prop) : Prop := match d with
  | .tup ds => aSome (shD h 100 (.tup ds)) fun s => s.length ≤ LINE ∧ Q s
  | .ref p => aSome (shD h 100 (.ref p)) fun s => s.length ≤ LINE ∧ Q s
  | _ => False
def prsOf : List D → Option (List (D × D))
  | [] => some []
  | .tup [a, b] :: r => (prsOf r).map ((a, b) :: ·)
  | _ => none
/-! ### exceptions -/
def aExc (d : D) (h : AH) (f : Nat → Sx → List (Sx × D) → Prop) : Prop := match d with
  | .ref p => (match h p with
    | some (.exc c fs) => f p c fs
    | _ => False)
  | _ => False
/-! ### the readings -/
mutual
def wE (C : Cx) : E → St → AH → VQ → Prop
  | .var i, σ, h, Q => match σ[i]? with
    | some (some d) => Q d h
    | _ => False
  | .int n, _, h, Q => Q (.int n) h
  | .str s, _, h, Q => Q (.str s) h
  | .bl b, _, h, Q => Q (.bl b) h
  | .non, _, h, Q => Q .non h
  | .gint _ n, _, h, Q => Q (.int n) h
  | .gtp _ ss, _, h, Q => Q (.tup (ss.map .str)) h
  | .tup es, σ, h, Q => wEs C es σ h fun ds h1 => ds.length ≤ LINE ∧ Q (.tup ds) h1
  | .lst es, σ, h, Q => wEs C es σ h fun ds h1 => ds.length ≤ LINE ∧ ∀ r, h1 r = none → Q (.ref r) (up h1 r (.lst ds))
  | .dct k es, σ, h, Q => match es with
    | .nil => ∀ r, h r = none → Q (.ref r) (up h r (.dct k []))
    | .cons e es => ∀ r, h r = none → wE C e σ (up h r (.dct k [])) fun d h1 => wEs C es σ h1 fun ds h2 => h2 r = some (.dct k []) ∧ aSome (pairUp (d :: ds)) fun kvs => keysOk k kvs = true ∧ Q (.ref r) (up h2 r (.dct k (mergeL [] kvs)))
  | .dcn, _, h, Q => ∀ r, h r = none → Q (.ref r) (up h r (.dcn []))
  | .bin o a b, σ, h, Q => wE C a σ h fun x h1 => wE C b σ h1 fun y h2 => opBin o x y h2 Q
  | .neg a, σ, h, Q => wE C a σ h fun x h1 => match x with
    | .int i => Q (.int (-i)) h1
    | _ => False
  | .cmp o a b, σ, h, Q => wE C a σ h fun x h1 => wE C b σ h1 fun y h2 => opCmp o x y h2 fun c => Q (.bl c) h2
  | .chn o o' a b c, σ, h, Q => wE C a σ h fun x h1 => wE C b σ h1 fun y h2 => opCmp o x y h2 fun k => match k with
    | true => wE C c σ h2 fun z h3 => opCmp o' y z h3 fun k' => Q (.bl k') h3
    | false => Q (.bl false) h2
  | .bop isAnd es, σ, h, Q => wB C isAnd es σ h Q
  | .not a, σ, h, Q => wE C a σ h fun x h1 => match x with
    | .bl b => Q (.bl (!b)) h1
    | _ => False
  | .ite c a b, σ, h, Q => wE C c σ h fun x h1 => match x with
    | .bl true => wE C a σ h1 Q
    | .bl false => wE C b σ h1 Q
    | _ => False
  | .ix a i, σ, h, Q => wE C a σ h fun x h1 => wE C i σ h1 fun y h2 => opIx x y h2 Q
  | .sl a lo hi, σ, h, Q => wE C a σ h fun x h1 => wO C lo σ h1 fun l h2 => wO C hi σ h2 fun u h3 => opSl x l u h3 Q
  | .call f es, σ, h, Q => wEs C es σ h fun ds h1 => C.call f ds h1 Q (C.ex σ)
  | .callD f k es, σ, h, Q => wEs C es σ h fun ds h1 => C.call f (ds ++ List.replicate k .non) h1 Q (C.ex σ)
  | .smv e, σ, h, Q => wE C e σ h fun x h1 => aVals x h1 fun kvs => aSome (intsOf (kvs.map (·.2))) fun ns => Q (.int ns.sum) h1
  | .fld e f, σ, h, Q => wE C e σ h fun x h1 => aIns x h1 fun _ _ fs => aSome (fs.lookup f) fun v => Q v h1
  | .newo c es, σ, h, Q => wEs C es σ h fun ds h1 => C.call (mkN c) ds h1 Q (C.ex σ)
  | .mcall c m o es, σ, h, Q => wE C o σ h fun x h1 => aIns x h1 fun p c' fs => c' = c ∧ fs.lookup m = none ∧ wEs C es σ h1 fun ds h2 => C.call (metN c m) (.ref p :: ds) h2 Q (C.ex σ)
  | .blt b es, σ, h, Q => wEs C es σ h fun ds h1 => opBlt b ds h1 Q
  | .isi a t, σ, h, Q => wE C a σ h fun x h1 => match opIsi x t h1 with
    | some b => Q (.bl b) h1
    | none => False
  | .mth m o es, σ, h, Q => wE C o σ h fun x h1 => recvOk m x h1 ∧ wEs C es σ h1 fun ds h2 => opMth m x ds h2 Q
  | .lc elt t own k src ifs, σ, h, Q => wEs C src σ h fun ds h1 => walk k ds h1 fun xs ok =>
      compW xs ok (fun x h2 yes no => match setT t x (forget σ own) with
        | some σ' => wB C.nx true ifs σ' h2 fun c h3 => match c with
          | .bl true => wE C.nx elt σ' h3 yes
          | .bl false => no h3
          | _ => False
        | none => False) (fun acc h2 => ∀ r, h2 r = none → Q (.ref r) (up h2 r (.lst acc))) h1
  | .bad, _, _, _ => False
  | .lock i e, σ, h, Q => lockAt σ i h fun p kd kvs => wE C e σ (up h p (.rdct kd kvs)) fun d h' => Q d (up h' p (.dct kd kvs))
  | .lzip es, σ, h, Q => wEs C es σ h fun ds h2 => arg2 ds fun x y => aTup x fun xs => aTup y fun ys => ∀ r, h2 r = none → Q (.ref r) (up h2 r (.lst (zipL xs ys)))
  | .lrng es, σ, h, Q => wEs C es σ h fun ds h1 => aRng ds fun lo hi => ∀ r, h1 r = none → Q (.ref r) (up h1 r (.lst (rangeL lo hi)))
  | .rev a, σ, h, Q => wE C a σ h fun x h1 => aLst x h1 fun _ xs => ∀ r, h1 r = none → Q (.ref r) (up h1 r (.lst xs.reverse))
  | .mnd es, σ, h, Q => wEs C es σ h fun ds h1 => minD ds h1 Q
  | .orv a b, σ, h, Q => wE C a σ h fun x h1 => match x with
    | .non => wE C b σ h1 Q
    | .int i => (i ≠ 0 → Q (.int i) h1) ∧ (i = 0 → wE C b σ h1 Q)
    | _ => False
  | .slw a lo hi, σ, h, Q => wE C a σ h fun x h1 => wO C lo σ h1 fun l h2 => wO C hi σ h2 fun u h3 => opSlW x l u h3 Q
  | .tlr a, σ, h, Q => wE C a σ h fun x h1 => aTup x fun xs => Q (.tup xs.tail.reverse) h1
  | .newx c fs es, σ, h, Q => wEs C es σ h fun ds h1 => ds.length = fs.length ∧ ∀ r, h1 r = none → Q (.ref r) (up h1 r (.exc c (fs.zip ds)))
  | .fldx a f, σ, h, Q => wE C a σ h fun x h1 => aExc x h1 fun _ _ fs => aSome (fs.lookup f) fun v => Q v h1
  | .isx a _ subs all, σ, h, Q => wE C a σ h fun x h1 => aExc x h1 fun _ c _ => c ∈ all ∧ Q (.bl (decide (c ∈ subs))) h1
  | .rpr a, σ, h, Q => wE C a σ h fun x h1 => rprOk x h1 fun s => Q (.str s) h1
  | .dpr a, σ, h, Q => wE C a σ h fun x h1 => aLst x h1 fun _ xs => aSome (prsOf xs) fun kvs => keysOk 0 kvs = true ∧ ∀ r, h1 r = none → Q (.ref r) (up h1 r (.dct 0 (mergeL [] kvs)))
  | .lset a, σ, h, Q => wE C a σ h fun x h1 => aLst x h1 fun _ xs => aSome (strsOf xs) fun ss => ∀ n : Nat, (ss.Nodup → n = ss.length) → (¬ ss.Nodup → n < ss.length) → Q (.int n) h1
  | .tix _ tab a, σ, h, Q => wE C a σ h fun x h1 => match x with
    | .str s => (match tab.lookup s with
      | some t => Q (.str t) h1
      | none => False)
    | _ => False
def wEs (C : Cx) : Es → St → AH → (List D → AH → Prop) → Prop
  | .nil, _, h, Q => Q [] h
  | .cons e es, σ, h, Q => wE C e σ h fun d h1 => wEs C es σ h1 fun ds h2 => Q (d :: ds) h2
/-- and, or: the empty one is True, False -/
def wB (C : Cx) : Bool → Es → St → AH → VQ → Prop
  | isAnd, .nil, _, h, Q => Q (.bl isAnd) h
  | isAnd, .cons e es, σ, h, Q => wE C e σ h fun d h1 => match d with
    | .bl b => (match b == isAnd with
      | true => wB C isAnd es σ h1 Q
      | false => Q (.bl b) h1)
    | _ => False
def wO (C : Cx) : Es → St → AH → (Option Int → AH → Prop) → Prop
  | .nil, _, h, Q => Q none h
  | .cons e .nil, σ, h, Q => wE C e σ h fun d h1 => match d with
    | .int n => Q (some n) h1
    | _ => False
  | .cons _ (.cons _ _), _, _, _ => False
end
/-- a test -/
def wT (C : Cx) (e : E) (σ : St) (h : AH) (Q : Bool → AH → Prop) : Prop := wE C e σ h fun d h1 => match d with
  | .bl b => Q b h1
  | _ => False

mutual
def wS (C : Cx) : S → Ends → St → AH → Prop
  | .asg t e, R, σ, h => wE C e σ h fun d h1 => match setT t d σ with
    | some σ' => R.nx σ' h1
    | none => False
  | .asgl ts e, R, σ, h => wE C e σ h fun d h1 => aLst d h1 fun _ xs => match setT (.tp ts) (.tup xs) σ with
    | some σ' => R.nx σ' h1
    | none => False
  | .sfld c o f e, R, σ, h => wE C e σ h fun v h1 => wE C o σ h1 fun x h2 => aIns x h2 fun p c' fs => c' = c ∧ fs.length < 1000 ∧ R.nx σ (up h2 p (.ins c (putA f v fs)))
  | .six o i e, R, σ, h => wE C e σ h fun v h1 => wE C o σ h1 fun x h2 => wE C i σ h2 fun y h3 => opSet x y v h3 fun h4 => R.nx σ h4
  | .aug i o e, R, σ, h => match σ[i]? with
    | some (some x) => wE C e σ h fun y h1 => opAug o x y fun z => R.nx (σ.set i (some z)) h1
    | _ => False
  | .ex e, R, σ, h => wE C e σ h fun _ h1 => R.nx σ h1
  | .ret e, R, σ, h => wE C e σ h R.rt
  | .retN, R, σ, h => R.rt .non h
  | .ife c a b, R, σ, h => wT C c σ h fun k h1 => match k with
    | true => wSs C a R σ h1
    | false => wSs C b R σ h1
  | .whl c b, R, σ, h => ∃ W : Nat → St → AH → Prop, (∃ m, W m σ h) ∧ ∀ m σ h, W m σ h → wT C c σ h fun k h1 => match k with
    | true => wSs C b { nx := fun σ' h' => ∃ m', m' < m ∧ W m' σ' h', ct := fun σ' h' => ∃ m', m' < m ∧ W m' σ' h', bk := R.nx, rt := R.rt } σ h1
    | false => R.nx σ h1
  | .for_ t k src b, R, σ, h => wEs C src σ h fun ds h1 => walk k ds h1 fun xs ok =>
      loopW xs ok (fun x σ h P => match setT t x σ with
        | some σ' => wSs C b { nx := P, ct := P, bk := R.nx, rt := R.rt } σ' h
        | none => False) R.nx σ h1
  | .pass, R, σ, h => R.nx σ h
  | .brk, R, σ, h => R.bk σ h
  | .cont, R, σ, h => R.ct σ h
  | .bad, _, _, _ => False
  | .raise c fs es, R, σ, h => wEs C es σ h fun ds h1 => ds.length = fs.length ∧ C.ex σ c (fs.zip ds) h1
  | .tryx b _ subs all i u, R, σ, h => wSs ⟨C.call, fun σ' c fs h' => c ∈ all ∧ (c ∈ subs → ∀ r, h' r = none → wSs C.nx u { nx := fun σ2 h2 => R.nx (σ2.set i none) h2, rt := R.rt, bk := fun σ2 h2 => R.bk (σ2.set i none) h2, ct := fun σ2 h2 => R.ct (σ2.set i none) h2 } (σ'.set i (some (.ref r))) (up h' r (.exc c fs))) ∧ (c ∉ subs → C.ex σ' c fs h')⟩ b R σ h
  | .lock i s, R, σ, h => lockAt σ i h fun p kd kvs => wS C s { nx := fun σ' h' => R.nx σ' (up h' p (.dct kd kvs)), rt := fun d h' => R.rt d (up h' p (.dct kd kvs)), bk := fun σ' h' => R.bk σ' (up h' p (.dct kd kvs)), ct := fun σ' h' => R.ct σ' (up h' p (.dct kd kvs)) } σ (up h p (.rdct kd kvs))
  | .lock2 i s, R, σ, h => (lockAt σ i h fun p kd kvs => wS C s { nx := fun σ' h' => R.nx σ' (up h' p (.dct kd kvs)), rt := fun d h' => R.rt d (up h' p (.dct kd kvs)), bk := fun σ' h' => R.bk σ' (up h' p (.dct kd kvs)), ct := fun σ' h' => R.ct σ' (up h' p (.dct kd kvs)) } σ (up h p (.rdct kd kvs))) ∨ wS C s R σ h
def wSs (C : Cx) : Ss → Ends → St → AH → Prop
  | .nil, R, σ, h => R.nx σ h
  | .cons s ss, R, σ, h => wS C s { R with nx := fun σ' h' => wSs C ss R σ' h' } σ h
end

/-- a def: its parameters' number, all its names' number, its body -/
structure FD where
  ps : Nat
  n : Nat
  body : Ss
abbrev Prog := Sx → Option FD
def pOf (l : List (Sx × FD)) : Prog := fun f => (l.find? fun p => p.1 == f).map (·.2)
def start (fd : FD) (ds : List D) : St := ds.map some ++ List.replicate (fd.n - fd.ps) none
def run (P : Prog) : Nat → Sx → List D → AH → VQ → XP → Prop
  | 0, _, _, _, _, _ => False
  | n + 1, f, ds, h, Q, X => match P f with
    | some fd => ds.length = fd.ps ∧ wSs ⟨run P n, fun _ => X⟩ fd.body { nx := fun _ h' => Q .non h', rt := Q, bk := fun _ _ => False, ct := fun _ _ => False } (start fd ds) h
    | none => match f with
      | 1114112 :: c => ∀ r, h r = none → run P n (metN c sInit) (.ref r :: ds) (up h r (.ins c [])) (fun d h2 => d = .non ∧ Q (.ref r) h2) X
      | _ => False
end
end M
end
section
/-! Sound1: how the model's values and heap bear the IR's. -/
namespace Snd
open PySem L2
abbrev SD := M.D
/-- what stands in the frame, the program, the world -/
structure Fr where
  K : PySem.W.Frag
  P : Program
  w : World
  mg : Str → Option Value
instance : Coe Fr PySem.W.Frag := ⟨Fr.K⟩
abbrev _root_.L2.Cx.F (X : L2.Cx) : Fr := ⟨X.K, X.prog, X.w, X.mg⟩

def sV (s : M.Sx) : Str := ⟨s.toArray⟩
def sOk (s : M.Sx) : Prop := ∀ c ∈ s, c < 0x110000
def KTup (K : Fr) (a : Addr) (vs : List V) : Prop := ∃ (o : Obj) (its : Array Value) (n : Nat), K.K.lookup a = some o ∧ o.cls = .type "tuple" ∧ o.data = .seq its n ∧ its.size ≤ sizeLine ∧ Vals vs its.toList
def KLst (K : Fr) (a : Addr) (vs : List V) : Prop := ∃ (o : Obj) (its : Array Value) (n : Nat), K.K.lookup a = some o ∧ o.cls = .type "list" ∧ o.dict = none ∧ o.data = .seq its n ∧ its.size ≤ sizeLine ∧ Vals vs its.toList

mutual
def Rep (K : Fr) (H : Hp) : SD → V → Prop
  | .non, v => v = .non
  | .bl b, v => v = .bl b
  | .int i, v => v = .int i
  | .str s, v => v = .str (sV s) ∧ sOk s
  | .tup ds, v => ∃ a vs, v = .ref a ∧ (H a = some (.tup vs) ∨ KTup K a vs) ∧ Reps K H ds vs
  | .rol ds, v => ∃ a vs, v = .ref a ∧ ((∃ o, H a = some (.frz o (.lst vs))) ∨ KLst K a vs) ∧ Reps K H ds vs
  | .ref a, v => v = .ref a
def Reps (K : Fr) (H : Hp) : List SD → List V → Prop
  | [], vs => vs = []
  | d :: ds, vs => ∃ v r, vs = v :: r ∧ Rep K H d v ∧ Reps K H ds r
end

/-- dict keys -/
def keyV : SD → Option Key
  | .int i => some (.inl i)
  | .str s => some (.inr (sV s))
  | _ => none
/-! nested keys -/
mutual
def nK : SD → NestedKey
  | .int i => .num i
  | .str s => .text (sV s)
  | .tup ds => .tup (nKs ds)
  | _ => .none
def nKs : List SD → List NestedKey
  | [] => []
  | d :: ds => nK d :: nKs ds
end
/-- the dict at a with nested keys: its entries (the tuples that are keys by where they lie) -/
def EntO (P : Program) (w : World) (a : Addr) (xs : List (NestedKey × Addr × V)) (h : Heap) : Prop := xs.length ≤ sizeLine ∧ (a == sysModules) = false ∧ ∃ ys : List (NestedKey × Addr × Value), Paired (fun p q => p.1 = q.1 ∧ p.2.1 = q.2.1 ∧ RelV p.2.2 q.2.2) xs ys ∧
  ∃ o es ep, h.get? a = some o ∧ o.ExactDict ∧ o.data = .dict es ep ∧ es.toList = ys.map (entryOfKey (nestedKind P w)) ∧ (ys.map (·.1)).Nodup
/-- at a: an exception of the class at C, its dict at dd -/
def exR (a C dd : Addr) : HO := .ext fun h => ∃ (oe : Obj) (fv : Array Value), h.get? a = some oe ∧ Zc (.ref C) (some dd) oe ∧ oe.data = .fields fv
/-- what the text says of such a class -/
structure XCls (K : PySem.W.Frag) (C : Addr) (fs : List M.Sx) : Prop where
  xf : XfC K C
  cl : (PySem.W.clsIn K C).isSome = true
  ca : PySem.W.findIn K (.ref C) "__class__" = some (some (.builtin "object.__class__"))
  sp : PySem.W.specialIn K (.builtin "object.__class__") "__get__" = some (some (.builtin "getset_descriptor.__get__"))
  ti : PySem.W.takesIn K (.builtin "object.__class__") = some true
  mr : PySem.W.mroIn K C (.type "object") = some true
  no : ∀ f ∈ fs, PySem.W.findIn K (.ref C) (sV f) = some none
/-- its fields -/
def XFs (K : Fr) (H : Hp) (fs : List (M.Sx × SD)) (ps : List (Str × V)) : Prop := ∀ f d, fs.lookup f = some d → ∃ v, ps.lookup (sV f) = some v ∧ Rep K H d v
def ObRep (K : Fr) (H : Hp) (a : Addr) : M.Ob → Prop
  | .lst xs => ∃ vs, H a = some (.lst vs) ∧ Reps K H xs vs
  | .dct 0 kvs => ∃ ps : List (Key × V), H a = some (.dK ps) ∧ Paired (fun (x : SD × SD) (p : Key × V) => keyV x.1 = some p.1 ∧ (∀ s, x.1 = .str s → sOk s) ∧ Rep K H x.2 p.2) kvs ps
  | .rdct 0 kvs => ∃ (od : Obj) (ps : List (Key × V)), H a = some (.frz od (.dK ps)) ∧ Paired (fun (x : SD × SD) (p : Key × V) => keyV x.1 = some p.1 ∧ (∀ s, x.1 = .str s → sOk s) ∧ Rep K H x.2 p.2) kvs ps
  | .dcn kvs => ∃ xs : List (NestedKey × Addr × V), H a = some (.ext (EntO K.P K.w a xs)) ∧ Paired (fun (x : SD × SD) (p : NestedKey × Addr × V) => p.1 = nK x.1 ∧ M.nkOk x.1 = true ∧ Rep K H x.1 (.ref p.2.1) ∧ Rep K H x.2 p.2.2) kvs xs
  | .ins c fs => ∃ (C dx : Addr) (ps : List (Str × V)), H a = some (.ins C dx ps) ∧ K.mg (sV c) = some (.ref C) ∧ Cls K.K C ∧ Paired (fun (x : M.Sx × SD) (p : Str × V) => p.1 = sV x.1 ∧ NoAttr K.K C p.1 ∧ Rep K H x.2 p.2) fs ps
  | .exc c fs => ∃ (C dd : Addr) (ps : List (Str × V)), H a = some (exR a C dd) ∧ H dd = some (.xd ps) ∧ K.mg (sV c) = some (.ref C) ∧ XFs K H fs ps ∧ XCls K.K C (fs.map (·.1))
  | _ => False
def RP (K : Fr) (H : Hp) (h : M.AH) : Prop := ∀ a o, h a = some o → ObRep K H a o
/-- not in h, or locked -/
def Fre (h : M.AH) (a : Addr) : Prop := ∀ o, h a = some o → o.lk = true
/-- what is tracked and not in h, or locked there, stays as it is -/
def Frm (H : Hp) (h : M.AH) (H' : Hp) (h' : M.AH) : Prop := ∀ a o, H a = some o → Fre h a → H' a = some o ∧ h' a = h a
/-- what stays true of both heaps while a def (or a try) runs -/
class FrameP where
  p : Hp → M.AH → Prop
  c : ∀ {H h H' h'}, p H h → Frm H h H' h' → p H' h'
instance (priority := low) noFrame : FrameP := ⟨fun _ _ => True, fun _ _ => trivial⟩
structure RH [fp : FrameP] (K : Fr) (H : Hp) (h : M.AH) : Prop where
  f : RP K H h
  fr : fp.p H h
instance [fp : FrameP] {K : Fr} {H : Hp} {h : M.AH} : CoeFun (RH K H h) (fun _ => ∀ a o, h a = some o → ObRep K H a o) := ⟨RH.f⟩
/-- names -/
def RS (K : Fr) (H : Hp) (σ : L2.St) (σa : M.St) : Prop := σ.length = σa.length ∧ ∀ (i : Nat) d, σa[i]? = some (some d) → ∃ v, σ[i]? = some (some v) ∧ Rep K H d v
/-- tuples and locked lists stay -/
def Kp (H H' : Hp) : Prop := (∀ a vs, H a = some (.tup vs) → H' a = some (.tup vs)) ∧ ∀ a o u, H a = some (.frz o (.lst u)) → H' a = some (.frz o (.lst u))
/-- what is locked stays -/
def Kx (H H' : Hp) : Prop := ∀ d ps, H d = some (.xd ps) → H' d = some (.xd ps)
def Fz (H H' : Hp) : Prop := ∀ a o u, H a = some (.frz o u) → H' a = some (.frz o u)

section
variable [fp : FrameP] {K : Fr} {H H1 H2 H' : Hp} {h h1 h2 h' : M.AH}
theorem Fre.none {a : Addr} (n : h a = none) : Fre h a := fun o e => by rw [n] at e; cases e
theorem Fre.eq {a : Addr} (e : h' a = h a) (n : Fre h a) : Fre h' a := fun o z => n o (by rw [← e]; exact z)
theorem Frm.refl : Frm H h H h := fun _ _ e n => ⟨e, rfl⟩
theorem Frm.trans (a : Frm H h H1 h1) (b : Frm H1 h1 H2 h2) : Frm H h H2 h2 := fun x o e n => by
  obtain ⟨e1, n1⟩ := a x o e n
  obtain ⟨e2, n2⟩ := b x o e1 (fun o z => n o (by rw [← n1]; exact z))
  exact ⟨e2, n2.trans n1⟩
theorem ObRep.some {a : Addr} {o : M.Ob} (r : ObRep K H a o) : ∃ u, H a = some u ∧ (∀ vs, u ≠ .tup vs) ∧ (∀ ob w, u ≠ .frz ob (.lst w)) ∧ ∀ ob w, u = .frz ob w → o.lk = true := by
  match o, r with
  | .lst xs, ⟨vs, e, _⟩ => exact ⟨_, e, (by intro _ z; cases z), (by intro _ _ z; cases z), by intro _ _ z; cases z⟩
  | .dct 0 kvs, ⟨vs, e, _⟩ => exact ⟨_, e, (by intro _ z; cases z), (by intro _ _ z; cases z), by intro _ _ z; cases z⟩
  | .rdct 0 kvs, ⟨od, vs, e, _⟩ => exact ⟨_, e, (by intro _ z; cases z), (by intro _ _ z; cases z), fun _ _ _ => rfl⟩
  | .ins c fs, ⟨C, dx, ps, e, _⟩ => exact ⟨_, e, (by intro _ z; cases z), (by intro _ _ z; cases z), by intro _ _ z; cases z⟩
  | .dcn kvs, ⟨xs, e, _⟩ => exact ⟨_, e, (by intro _ z; cases z), (by intro _ _ z; cases z), by intro _ _ z; cases z⟩
  | .exc c fs, ⟨C, dd, ps, e, _⟩ => exact ⟨_, e, (by intro _ z; cases z), (by intro _ _ z; cases z), by intro _ _ z; cases z⟩
theorem ObRep.noxd {a : Addr} {o : M.Ob} {ps : List (Str × V)} (r : ObRep K H a o) : H a ≠ Option.some (HO.xd ps) := by
  match o, r with
  | .lst xs, ⟨vs, e, _⟩ => rw [e]; intro z; cases z
  | .dct 0 kvs, ⟨vs, e, _⟩ => rw [e]; intro z; cases z
  | .rdct 0 kvs, ⟨od, vs, e, _⟩ => rw [e]; intro z; cases z
  | .ins c fs, ⟨C, dx, ps, e, _⟩ => rw [e]; intro z; cases z
  | .dcn kvs, ⟨xs, e, _⟩ => rw [e]; intro z; cases z
  | .exc c fs, ⟨C, dd, ps, e, _⟩ => rw [e]; intro z; cases z
theorem RH.none_tup (r : RH K H h) {a : Addr} {vs : List V} (e : H a = some (.tup vs)) : h a = none := by
  cases q : h a with
  | none => rfl
  | some o =>
    obtain ⟨u, e', n, _⟩ := (r a o q).some
    rw [e] at e'
    exact absurd (Option.some.inj e').symm (n vs)
theorem RH.fre_frz (r : RH K H h) {a : Addr} {ob u} (e : H a = some (.frz ob u)) : Fre h a := fun o q => by
  obtain ⟨w, e', _, _, n⟩ := (r a o q).some
  rw [e] at e'
  exact n ob u (Option.some.inj e').symm
theorem RH.none (r : RH K H h) {a : Addr} (e : H a = none) : h a = none := by
  cases q : h a with
  | none => rfl
  | some o =>
    obtain ⟨w, e', _, n⟩ := (r a o q).some
    rw [e] at e'
    cases e'
theorem Frm.kp (f : Frm H h H' h') (r : RH K H h) : Kp H H' := ⟨fun _ _ e => (f _ _ e (.none (r.none_tup e))).1, fun _ _ _ e => (f _ _ e (r.fre_frz e)).1⟩
theorem Frm.kx (f : Frm H h H' h') (r : RH K H h) : Kx H H' := fun d ps e => (f _ _ e (.none (by
  cases q : h d with
  | none => rfl
  | some o => exact absurd e (r d o q).noxd))).1
theorem Frm.fz (f : Frm H h H' h') (r : RH K H h) : Fz H H' := fun _ _ _ e => (f _ _ e (r.fre_frz e)).1
theorem Fz.refl : Fz H H := fun _ _ _ e => e
theorem Fz.trans (a : Fz H H1) (b : Fz H1 H2) : Fz H H2 := fun x o u e => b x o u (a x o u e)
theorem Kp.refl : Kp H H := ⟨fun _ _ e => e, fun _ _ _ e => e⟩
theorem Kp.trans (a : Kp H H1) (b : Kp H1 H2) : Kp H H2 := ⟨fun x v e => b.1 x v (a.1 x v e), fun x o u e => b.2 x o u (a.2 x o u e)⟩
mutual
theorem Rep.kp (k : Kp H H') : ∀ {d : SD} {v : V}, Rep K H d v → Rep K H' d v
  | .non, _, r => r
  | .bl _, _, r => r
  | .int _, _, r => r
  | .str _, _, r => r
  | .ref _, _, r => r
  | .tup _, _, ⟨a, vs, e, t, rs⟩ => ⟨a, vs, e, t.imp (k.1 _ _) id, Reps.kp k rs⟩
  | .rol _, _, ⟨a, vs, e, t, rs⟩ => ⟨a, vs, e, t.imp (fun ⟨o, z⟩ => ⟨o, k.2 _ _ _ z⟩) id, Reps.kp k rs⟩
theorem Reps.kp (k : Kp H H') : ∀ {ds : List SD} {vs : List V}, Reps K H ds vs → Reps K H' ds vs
  | [], _, r => r
  | _ :: _, _, ⟨v, r, e, a, b⟩ => ⟨v, r, e, Rep.kp k a, Reps.kp k b⟩
end
theorem RS.kp {σ : L2.St} {σa : M.St} (k : Kp H H') (r : RS K H σ σa) : RS K H' σ σa := ⟨r.1, fun i d e => let ⟨v, e1, q⟩ := r.2 i d e; ⟨v, e1, q.kp k⟩⟩
theorem XFs.kp {fs : List (M.Sx × SD)} {ps : List (Str × V)} (k : Kp H H') (r : XFs K H fs ps) : XFs K H' fs ps := fun f d e => let ⟨v, e1, q⟩ := r f d e; ⟨v, e1, q.kp k⟩
theorem ObRep.kp {a : Addr} {o : M.Ob} (k : Kp H H') (x : Kx H H') (e : H' a = H a) (r : ObRep K H a o) : ObRep K H' a o := by
  match o, r with
  | .lst xs, ⟨vs, q, r⟩ => exact ⟨vs, e.trans q, r.kp k⟩
  | .dct 0 kvs, ⟨vs, q, r⟩ => exact ⟨vs, e.trans q, Paired.mapP r fun _ _ z => ⟨z.1, z.2.1, z.2.2.kp k⟩⟩
  | .rdct 0 kvs, ⟨od, vs, q, r⟩ => exact ⟨od, vs, e.trans q, Paired.mapP r fun _ _ z => ⟨z.1, z.2.1, z.2.2.kp k⟩⟩
  | .ins c fs, ⟨C, dx, ps, q, m, cl, r⟩ => exact ⟨C, dx, ps, e.trans q, m, cl, Paired.mapP r fun _ _ z => ⟨z.1, z.2.1, z.2.2.kp k⟩⟩
  | .dcn kvs, ⟨xs, q, r⟩ => exact ⟨xs, e.trans q, Paired.mapP r fun _ _ z => ⟨z.1, z.2.1, z.2.2.1.kp k, z.2.2.2.kp k⟩⟩
  | .exc c fs, ⟨C, dd, ps, q, qd, m, r, t⟩ => exact ⟨C, dd, ps, e.trans q, x _ _ qd, m, r.kp k, t⟩
theorem Reps.length : ∀ {ds : List SD} {vs : List V}, Reps K H ds vs → vs.length = ds.length
  | [], _, r => by cases (show _ = [] from r); rfl
  | _ :: _, _, ⟨v, r, e, _, b⟩ => by subst e; simp [Reps.length b]
theorem Reps.get : ∀ {ds : List SD} {vs : List V} {i : Nat} {d : SD}, Reps K H ds vs → ds[i]? = some d → ∃ v, vs[i]? = some v ∧ Rep K H d v
  | [], _, _, _, _, e => by simp at e
  | _ :: _, _, 0, d, ⟨v, r, e, a, _⟩, q => by subst e; simp at q; subst q; exact ⟨v, rfl, a⟩
  | _ :: _, _, i + 1, d, ⟨v, r, e, _, b⟩, q => by subst e; obtain ⟨w, z, y⟩ := Reps.get (i := i) b (by simpa using q); exact ⟨w, by simpa using z, y⟩
theorem Reps.append : ∀ {ds es : List SD} {vs ws : List V}, Reps K H ds vs → Reps K H es ws → Reps K H (ds ++ es) (vs ++ ws)
  | [], _, _, _, r, s => by cases (show _ = [] from r); exact s
  | _ :: _, _, _, _, ⟨v, r, e, a, b⟩, s => by subst e; exact ⟨v, _, rfl, a, Reps.append b s⟩
theorem Reps.one {d : SD} {v : V} (r : Rep K H d v) : Reps K H [d] [v] := ⟨v, [], rfl, r, rfl⟩
theorem Reps.take : ∀ (n : Nat) {ds : List SD} {vs : List V}, Reps K H ds vs → Reps K H (ds.take n) (vs.take n)
  | 0, _, _, _ => by simp [Reps]
  | n + 1, [], _, r => by cases (show _ = [] from r); simp [Reps]
  | n + 1, _ :: _, _, ⟨v, r, e, a, b⟩ => by subst e; exact ⟨v, _, rfl, a, Reps.take n b⟩
theorem Reps.drop : ∀ (n : Nat) {ds : List SD} {vs : List V}, Reps K H ds vs → Reps K H (ds.drop n) (vs.drop n)
  | 0, _, _, r => r
  | n + 1, [], _, r => by cases (show _ = [] from r); simp [Reps]
  | n + 1, _ :: _, _, ⟨v, r, e, a, b⟩ => by subst e; exact Reps.drop n b
theorem Reps.set {d : SD} {v : V} (q : Rep K H d v) : ∀ (n : Nat) {ds : List SD} {vs : List V}, Reps K H ds vs → Reps K H (ds.set n d) (vs.set n v)
  | _, [], _, r => by cases (show _ = [] from r); simp [Reps]
  | 0, _ :: _, _, ⟨w, r, e, a, b⟩ => by subst e; exact ⟨v, r, rfl, q, b⟩
  | n + 1, _ :: _, _, ⟨w, r, e, a, b⟩ => by subst e; exact ⟨w, _, rfl, a, Reps.set q n b⟩
theorem Reps.rev : ∀ {ds : List SD} {vs : List V}, Reps K H ds vs → Reps K H ds.reverse vs.reverse
  | [], _, r => by cases (show _ = [] from r); simp [Reps]
  | _ :: _, _, ⟨w, r, e, a, b⟩ => by subst e; rw [List.reverse_cons, List.reverse_cons]; exact (Reps.rev b).append (.one a)
theorem Reps.nil {vs : List V} (r : Reps K H [] vs) : vs = [] := r
theorem Reps.cons {d : SD} {ds : List SD} {v : V} {vs : List V} (a : Rep K H d v) (b : Reps K H ds vs) : Reps K H (d :: ds) (v :: vs) := ⟨v, vs, rfl, a, b⟩
theorem Reps.rep {ds : List SD} {vs : List V} (r : Reps K H ds vs) : ∀ k : Nat, Reps K H (List.replicate k ds).flatten (List.replicate k vs).flatten
  | 0 => by simp [Reps]
  | k + 1 => by rw [List.replicate_succ, List.flatten_cons, List.replicate_succ, List.flatten_cons]; exact r.append (Reps.rep r k)
theorem Reps.dropLast {ds : List SD} {vs : List V} (r : Reps K H ds vs) : Reps K H ds.dropLast vs.dropLast := by
  rw [List.dropLast_eq_take, List.dropLast_eq_take, r.length]
  exact r.take _

/-! ### a new object, a written one -/
theorem up_same {a : Nat} {o : M.Ob} : M.up h a o a = some o := by unfold M.up; rw [if_pos rfl]
theorem up_ne {a b : Nat} {o : M.Ob} (e : b ≠ a) : M.up h a o b = h b := by unfold M.up; rw [if_neg e]
theorem kp_new {p : Addr} {o : HO} (n : H p = none) : Kp H (upd H p o) := ⟨fun a vs e => by rw [upd_ne (ne_of_none e n)]; exact e, fun a ob u e => by rw [upd_ne (ne_of_none e n)]; exact e⟩
theorem kx_new {p : Addr} {o : HO} (n : H p = none) : Kx H (upd H p o) := fun d ps e => by rw [upd_ne (ne_of_none e n)]; exact e
/-- an object that only the model knows (a tuple) -/
theorem frm_hid {p : Addr} {o : HO} (n : H p = none) : Frm H h (upd H p o) h := fun a u e q => ⟨by rw [upd_ne (ne_of_none e n)]; exact e, rfl⟩
theorem rp_hid {p : Addr} {o : HO} (r : RP K H h) (n : H p = none) : RP K (upd H p o) h := fun a u e => (r a u e).kp (kp_new n) (kx_new n) (by
  obtain ⟨w, z, _⟩ := (r a u e).some
  exact upd_ne (ne_of_none z n))
theorem rh_hid {p : Addr} {o : HO} (r : RH K H h) (n : H p = none) : RH K (upd H p o) h := ⟨rp_hid r.f n, fp.c r.fr (frm_hid n)⟩
theorem frm_new {p : Addr} {o : HO} {ob : M.Ob} (n : H p = none) : Frm H h (upd H p o) (M.up h p ob) := fun a u e q => by
  have ne := ne_of_none e n
  exact ⟨by rw [upd_ne ne]; exact e, up_ne ne⟩
theorem rh_new {p : Addr} {o : HO} {ob : M.Ob} (r : RH K H h) (n : H p = none) (q : ObRep K (upd H p o) p ob) : RH K (upd H p o) (M.up h p ob) := ⟨fun a u e => by
  by_cases z : a = p
  · subst z; rw [up_same] at e; cases e; exact q
  · rw [up_ne z] at e; exact rh_hid r n a u e, fp.c r.fr (frm_new n)⟩
/-- a written object -/
theorem kp_put {p : Addr} {o : HO} {ob : M.Ob} (r : RH K H h) (e : h p = some ob) : Kp H (upd H p o) := by
  obtain ⟨u, z, n1, n2, _⟩ := (r p ob e).some
  refine ⟨fun a vs q => ?_, fun a ob u q => ?_⟩
  · rw [upd_ne (fun y => by subst y; rw [z] at q; exact n1 _ (Option.some.inj q))]; exact q
  · rw [upd_ne (fun y => by subst y; rw [z] at q; exact n2 _ _ (Option.some.inj q))]; exact q
theorem kx_put {p : Addr} {o : HO} {ob : M.Ob} (r : RH K H h) (e : h p = some ob) : Kx H (upd H p o) := fun d ps q => by
  rw [upd_ne (fun y => by subst y; exact (r _ _ e).noxd q)]
  exact q
theorem frm_put {p : Addr} {o : HO} {ob ob' : M.Ob} (e : h p = some ob) (nl : ob.lk = false := by rfl) : Frm H h (upd H p o) (M.up h p ob') := fun a u z q => by
  have ne : a ≠ p := fun y => by subst y; rw [q _ e] at nl; cases nl
  exact ⟨by rw [upd_ne ne]; exact z, up_ne ne⟩
/-- locked, and unlocked behind it -/
theorem frm_lock {p : Addr} {o o' : HO} {ob ob1 ob2 : M.Ob} (e : h p = some ob) (nl : ob.lk = false) (f : Frm (upd H p o) (M.up h p ob1) H' h') : Frm H h (upd H' p o') (M.up h' p ob2) := fun a u z q => by
  have ne : a ≠ p := fun y => by subst y; rw [q _ e] at nl; cases nl
  obtain ⟨f1, f2⟩ := f a u (by rw [upd_ne ne]; exact z) (fun o z => q o (by rw [up_ne ne] at z; exact z))
  exact ⟨by rw [upd_ne ne]; exact f1, by rw [up_ne ne, f2, up_ne ne]⟩
theorem rp_put {p : Addr} {o : HO} {ob ob' : M.Ob} (r : RH K H h) (e : h p = some ob) (q : ObRep K (upd H p o) p ob') : RP K (upd H p o) (M.up h p ob') := fun a u z => by
  by_cases y : a = p
  · subst y; rw [up_same] at z; cases z; exact q
  · rw [up_ne y] at z
    exact (r a u z).kp (kp_put r e) (kx_put r e) (upd_ne y)
theorem rh_put {p : Addr} {o : HO} {ob ob' : M.Ob} (r : RH K H h) (e : h p = some ob) (q : ObRep K (upd H p o) p ob') (nl : ob.lk = false := by rfl) : RH K (upd H p o) (M.up h p ob') := ⟨rp_put r e q, fp.c r.fr (frm_put e nl)⟩
end
end Snd
end
section
/-! CallX: defs called where no guard stands in the stack; what they raise is told at the caller's slots. -/
namespace L2
open PySem PySem.Spec PyProof.Rows
/-- a def's promise: no guard below, exceptions by the library's CX -/
structure FnX (P : Program) (w : World) (K : PySem.W.Frag) (mg : Str → Option Value) (base : Heap) (k : Nat) (f : Addr) (fd : FuncData) (ps : List Str) (sp : Sp) : Prop where
  len : ∀ vs H Q E, sp vs H Q E → vs.length = ps.length
  go : ∀ (A : Around) (ou : List Env) (s : Shared) (H : Hp) (ar : Args) (us : List Value) (vs : List V) (Q : VK) (E : XK), A.guards = some [] → Room k A → Env0 P w K mg base A ou s H → BindsTo s fd ar (ps.zip us) → Vals vs us → sp vs H Q E →
    codeAny (model P w) A (.call (.ref f) ar) (CR (L2.CX P w) ou P w H s Q E) s
theorem make_guards {A : Around} {C : Addr} {us : List Value} (h : A.guards = some []) : (A.under (.builtin "type.__call__" ⟨.ref C :: us, []⟩)).guards = some [] := by
  have e : Code.isGuard (.builtin "type.__call__" ⟨.ref C :: us, []⟩) = false := by
    first | rfl | decide | simp [Code.isGuard, guardIds]
  have z : (A.under (.builtin "type.__call__" ⟨.ref C :: us, []⟩)).guards = pushGuards (Code.guards (.builtin "type.__call__" ⟨.ref C :: us, []⟩)) A.guards := rfl
  rw [z]
  unfold Code.guards
  rw [e, h]
  rfl
section
variable {X : Cx} {k : Nat} {f C : Addr} {fd : FuncData} {ps : List Str} {sp : Sp} {dvs : List V} {ds : List Value} {W : WX} {x m : Str} {p pos apos : Pos} {e o : Expr} {es : List Expr} {ta : TE} {t : TA}
/-- what is wished of a callee's exceptions -/
abbrev xAt (W : WX) (σ : St) : XK := fun c d H => W c d σ H
theorem run_fnX {pins : List (Addr × Obj)} {σ : St} {H : Hp} {s : Shared} {Q : VK} {us : List Value} {vs : List V} (F : FnX X.prog X.w X.K X.mg X.base k f fd ps sp) (hg : X.A.guards = some []) (hr : Room k X.A) (hb : Binds X.K fd ps ds) (hd : Vals dvs ds) (tk : Takes X W)
    (I : Inv X pins σ H s) (r : Vals vs us) (h : sp (vs ++ dvs) H Q (xAt W σ)) : wpAny (model X.prog X.w) X.A (call (.ref f) us) (EP X pins σ Q) X.xe s := by
  have r3 := r.append hd
  have ln : (us ++ ds).length = ps.length := r3.length.symm.trans (F.len _ _ _ _ h)
  refine wpAny_call (codeAny_mono (F.go X.A X.stack s H ⟨us, []⟩ _ _ Q (xAt W σ) hg hr I.env0 (hb s us I.kIn ln) r3 h) ?_)
  rintro (er | fl) s2 z
  · exact tk er s2 (XE.of_call I (fun _ _ _ y => y) z)
  · cases fl <;> first | exact I.after z | exact z.elim
def tCX (sp : Sp) (dvs : List V) (W : WX) (t : TA) : TE := fun σ H Q => t σ H fun vs H1 => sp (vs ++ dvs) H1 Q (xAt W σ)
theorem pe_cX (F : FnX X.prog X.w X.K X.mg X.base k f fd ps sp) (hgd : X.A.guards = some []) (hr : Room k X.A) (hg : Gl X x) (hm : X.mg x = some (.ref f)) (hk : PySem.W.keepIn X.K (.ref f) = true) (hb : Binds X.K fd ps ds) (hd : Vals dvs ds) (tk : Takes X W)
    (ha : PA X (e :: es) t) (hdb : (x == ("__debug__" : Str)) = false) (he : starEach (e :: es) X.env = (false, eval e X.env) :: starEach es X.env) (hpl : (backTo pos (starEach es X.env)).any (·.1) = false) : PE X (.Call (.Name x p) (e :: es) [] pos) (tCX sp dvs W t) :=
  ⟨fun pins s σ H Q I h => wpAny_Call_Name_kw (ld_glob I hg hm (PySem.W.callWith_K (h₀ := X.base) I.ok.mod.kin hk (thn (ha.run pos pins s σ H _ I h) fun _ _ ⟨_, _, I2, r, q⟩ => ⟨I2.kIn, run_fnX F hgd hr hb hd tk I2 r q⟩) he hpl) hdb)⟩
theorem pe_cX0 (F : FnX X.prog X.w X.K X.mg X.base k f fd ps sp) (hgd : X.A.guards = some []) (hr : Room k X.A) (hg : Gl X x) (hm : X.mg x = some (.ref f)) (hk : PySem.W.keepIn X.K (.ref f) = true) (hb : Binds X.K fd ps ds) (hd : Vals dvs ds) (tk : Takes X W)
    (hdb : (x == ("__debug__" : Str)) = false) : PE X (.Call (.Name x p) [] [] pos) (tCX sp dvs W tNil) :=
  ⟨fun pins s σ H Q I h => wpAny_Call_Name_kw (ld_glob I hg hm (PySem.W.callWith_K0 I.kIn hk (run_fnX (us := []) F hgd hr hb hd tk I .nil h)) hdb)⟩
def tMX (C : Addr) (m : Str) (sp : Sp) (W : WX) (ta : TE) (t : TA) : TE := fun σ H Q => ta σ H fun x H1 => ∃ a dx fs, x = .ref a ∧ H1 a = some (.ins C dx fs) ∧ fs.lookup m = none ∧ t σ H1 fun vs H2 => sp (x :: (vs ++ [])) H2 Q (xAt W σ)
theorem pe_mX {pl : Sem Bool} (he : PE X o ta) (c : Cls X.K C) (hm : Meth X.K C m f) (F : FnX X.prog X.w X.K X.mg X.base k f fd ps sp) (hgd : X.A.guards = some []) (hr : Room k X.A) (hb : Binds X.K fd ps []) (tk : Takes X W) (ha : PA X (e :: es) t)
    (hst : starEach (e :: es) X.env = (false, eval e X.env) :: starEach es X.env) (hpl : (backTo pos (starEach es X.env)).any (·.1) = false)
    (ht : eval (.Call (.Attribute o m apos) (e :: es) [] pos) X.env = eval o X.env >>= fun ov => standAt apos.atName >>= fun _ => holding [ov] (getMethod ov m pl) >>= fun q => callWith pos q.1 q.2 (backTo pos (starEach (e :: es) X.env)) (backToKw pos (keywordEach [] X.env))) :
    PE X (.Call (.Attribute o m apos) (e :: es) [] pos) (tMX C m sp W ta t) :=
  ⟨fun pins s σ H Q I h => PySem.W.methodCall_KW (pl := pl) (thn (he.run pins s σ H _ I h) (by
    rintro u s1 ⟨x, H1, J, rx, a, dx, fs, rfl, ea, l, q⟩
    cases (show u = Value.ref a from rx)
    exact getmeth_ok J ea c hm l (PySem.W.callWith_K (first := [.ref a]) (h₀ := X.base) J.ok.mod.kin hm.kp (thn (ha.run pos pins s1 σ H1 _ J q) fun us _ ⟨vs, _, J2, r, q2⟩ => ⟨J2.kIn, run_fnX (us := .ref a :: us) (vs := .ref a :: vs) F hgd hr hb .nil tk J2 (.cons rfl r) q2⟩) hst hpl))) ht⟩
theorem pe_mX0 {pl : Sem Bool} (he : PE X o ta) (c : Cls X.K C) (hm : Meth X.K C m f) (F : FnX X.prog X.w X.K X.mg X.base k f fd ps sp) (hgd : X.A.guards = some []) (hr : Room k X.A) (hb : Binds X.K fd ps []) (tk : Takes X W)
    (ht : eval (.Call (.Attribute o m apos) [] [] pos) X.env = eval o X.env >>= fun ov => standAt apos.atName >>= fun _ => holding [ov] (getMethod ov m pl) >>= fun q => callWith pos q.1 q.2 (backTo pos (starEach [] X.env)) (backToKw pos (keywordEach [] X.env))) :
    PE X (.Call (.Attribute o m apos) [] [] pos) (tMX C m sp W ta tNil) :=
  ⟨fun pins s σ H Q I h => PySem.W.methodCall_KW (pl := pl) (thn (he.run pins s σ H _ I h) (by
    rintro u s1 ⟨x, H1, J, rx, a, dx, fs, rfl, ea, l, q⟩
    cases (show u = Value.ref a from rx)
    exact getmeth_ok J ea c hm l (PySem.W.callWith_K0 (first := [.ref a]) J.kIn hm.kp (run_fnX (us := [.ref a]) (vs := [.ref a]) F hgd hr hb .nil tk J (.cons rfl .nil) q)))) ht⟩
def tNX (C : Addr) (sp : Sp) (W : WX) (t : TA) : TE := fun σ H Q => t σ H fun vs H1 => ∀ x dx, H1 x = none → H1 dx = none → dx ≠ x → sp (.ref x :: (vs ++ [])) (upd (upd H1 dx (.own x)) x (.ins C dx [])) (fun v H2 => v = .non ∧ Q (.ref x) H2) (xAt W σ)
theorem past {h : Heap} {b : Addr} (l : h.objs.size ≤ b) : h.get? b = none := by
  cases e : h.get? b with
  | none => rfl
  | some o => exact absurd (Heap.lt_size e) (Nat.not_lt.mpr l)
/-- kept, over what was laid ahead of the call -/
theorem CX_over {P : Program} {w : World} {ou : List Env} {H H2 : Hp} {s s2 : Shared} {E : XK} {u : Value} {s' : Shared} {x dx : Addr} (c : L2.CX P w ou H2 s2 E u s') (hx : H x = none) (hd : H dx = none) (e : H2 = upd (upd H dx (.own x)) x (.ins C dx []))
    (k : ∀ b o, s.heap.get? b = some o → s2.heap.get? b = some o) (nx : s.heap.get? x = none) (nd : s.heap.get? dx = none) (os : s2.os = s.os) : L2.CX P w ou H s E u s' := by
  obtain ⟨a, B, H', cls, d, hu, fl, hok, ub, na, os', ag, q⟩ := c
  have n1 : ∀ b o, s.heap.get? b = some o → b ≠ x ∧ b ≠ dx := fun b o z => ⟨fun y => (by rw [y, nx] at z; cases z), fun y => (by rw [y, nd] at z; cases z)⟩
  have h2 : ∀ b, b ≠ x → b ≠ dx → H2 b = H b := fun b b1 b2 => by rw [e, upd_ne b1, upd_ne b2]
  have h3 : ∀ b o, H b = some o → H2 b = some o := fun b o z => by rw [h2 b (ne_of_none z hx) (ne_of_none z hd)]; exact z
  refine ⟨a, B, H', cls, d, hu, fl, hok, ⟨fun b o z n hb => ?_, fun b o z hb => ?_, fun b o z n => ?_, fun b o z hb => ub.there b o (k b o z) hb, fun b xs z => ub.tups b xs (h3 b _ z), fun b o xs z => ub.frzs b o xs (h3 b _ z), fun b q z => ub.tbls b q (h3 b _ z)⟩, na, os'.trans os, ag, q⟩
  · exact ub.keep b o (k b o z) (by rw [h2 b (n1 b o z).1 (n1 b o z).2]; exact n) hb
  · exact ub.slot b o (k b o z) hb
  · exact ub.free b o (k b o z) (by rw [h2 b (n1 b o z).1 (n1 b o z).2]; exact n)
theorem run_mkX {pins : List (Addr × Obj)} {σ : St} {H : Hp} {s : Shared} {Q : VK} {us : List Value} {vs : List V} (M : Mk X.K C f) (F : FnX X.prog X.w X.K X.mg X.base k f fd ps sp) (hgd : X.A.guards = some []) (hr : Room (k + 1) X.A) (hb : Binds X.K fd ps []) (tk : Takes X W) (I : Inv X pins σ H s) (r : Vals vs us)
    (h : ∀ x dx, H x = none → H dx = none → dx ≠ x → sp (.ref x :: (vs ++ [])) (upd (upd H dx (.own x)) x (.ins C dx [])) (fun v H2 => v = .non ∧ Q (.ref x) H2) (xAt W σ)) : wpAny (model X.prog X.w) X.A (call (.ref C) us) (EP X pins σ Q) X.xe s := by
  have h1 := I.hok.fresh (Nat.le_refl s.heap.objs.size)
  have h2 := I.hok.fresh (Nat.le_succ s.heap.objs.size)
  have q := h _ _ h2 h1 (Nat.ne_of_lt (Nat.lt_succ_self _))
  have J := Inv.made (C := C) I
  have r2 : Vals (V.ref (s.heap.objs.size + 1) :: (vs ++ [])) (Value.ref (s.heap.objs.size + 1) :: (us ++ [])) := .cons rfl (r.append .nil)
  have ln := r2.length.symm.trans (F.len _ _ _ _ q)
  refine wpAny_call (make_map (f := f) I.kIn M.makes M.init (beq_iff_eq.mp M.fn) (codeAny_mono (F.go _ X.stack _ _ ⟨Value.ref (s.heap.objs.size + 1) :: us, []⟩ _ _ _ (xAt W σ) (make_guards hgd) (hr.make C us []) (J.env0.make C us []) (hb _ (Value.ref (s.heap.objs.size + 1) :: us) J.kIn ln) r2 q) ?_))
  rintro (er | fl) s2 z
  · refine tk er s2 (XE.of_call I (fun _ _ _ y => y) (CX_over (C := C) (s := s) z h2 h1 rfl ?_ ?_ ?_ rfl))
    · intro b o e
      exact Heap.get?_push_of_some _ (Heap.get?_push_of_some _ e)
    · exact past (Nat.le_succ _)
    · exact past (Nat.le_refl _)
  · cases fl <;> first | exact z.elim | skip
    obtain ⟨v, H2, J3, rv, ev, q3⟩ := J.after z
    subst ev
    exact ⟨rv, ⟨V.ref (s.heap.objs.size + 1), H2, J3, rfl, q3⟩⟩
theorem pe_nX (M : Mk X.K C f) (F : FnX X.prog X.w X.K X.mg X.base k f fd ps sp) (hgd : X.A.guards = some []) (hr : Room (k + 1) X.A) (hg : Gl X x) (hm : X.mg x = some (.ref C)) (hb : Binds X.K fd ps []) (tk : Takes X W)
    (ha : PA X (e :: es) t) (hdb : (x == ("__debug__" : Str)) = false) (he : starEach (e :: es) X.env = (false, eval e X.env) :: starEach es X.env) (hpl : (backTo pos (starEach es X.env)).any (·.1) = false) : PE X (.Call (.Name x p) (e :: es) [] pos) (tNX C sp W t) :=
  ⟨fun pins s σ H Q I h => wpAny_Call_Name_kw (ld_glob I hg hm (PySem.W.callWith_K (h₀ := X.base) I.ok.mod.kin M.kp (thn (ha.run pos pins s σ H _ I h) fun _ _ ⟨_, _, I2, r, q⟩ => ⟨I2.kIn, run_mkX M F hgd hr hb tk I2 r q⟩) he hpl) hdb)⟩
theorem pe_nX0 (M : Mk X.K C f) (F : FnX X.prog X.w X.K X.mg X.base k f fd ps sp) (hgd : X.A.guards = some []) (hr : Room (k + 1) X.A) (hg : Gl X x) (hm : X.mg x = some (.ref C)) (hb : Binds X.K fd ps []) (tk : Takes X W)
    (hdb : (x == ("__debug__" : Str)) = false) : PE X (.Call (.Name x p) [] [] pos) (tNX C sp W tNil) :=
  ⟨fun pins s σ H Q I h => wpAny_Call_Name_kw (ld_glob I hg hm (PySem.W.callWith_K0 I.kIn M.kp (run_mkX (us := []) M F hgd hr hb tk I .nil h)) hdb)⟩
end
/-- a def of the text -/
theorem FunD.okX {P : Program} {w : World} {K : PySem.W.Frag} {mg : Str → Option Value} {base : Heap} {nm qual : Str} {params : Arguments} {body : List Stmt} {scope : Scope} {dvs : List V} {kws : List (Str × V)} {f : Addr} {fd : FuncData} {N ps : List Str} {k : Nat} {sp : Sp}
    (F : FunD K nm qual params body scope dvs kws f fd) (S : FnScope N ps scope) (len : ∀ vs H Q E, sp vs H Q E → vs.length = ps.length)
    (hbody : ∀ (cdv : Value) (A : Around) (ou : List Env) (s : Shared) (H : Hp) (vs : List V) (Q : VK) (E : XK), (A.deeper (envOfC qual scope s.heap.objs.size f cdv)).guards = some [] → Room k (A.deeper (envOfC qual scope s.heap.objs.size f cdv)) → sp vs H Q E →
      ∃ t, PSs (cxOf (L2.CX P w) P w K mg base N qual scope f cdv A ou s H E) body t ∧ t { nx := fun _ H' => Q .non H', rt := Q } (start N vs) H) : FnX P w K mg base (k + 1) f fd ps sp := by
  refine ⟨len, fun A ou s H ar us vs Q E hgd hr e0 hb r hsp => ?_⟩
  obtain ⟨oc, od, dV, kV, doc, pm, an, cdv, ct, osl, rfl, lk, hcd, _, _⟩ := F.ex
  have ln := len _ _ _ _ hsp
  have kp : ∀ b o, base.get? b = some o → s.heap.get? b = some o := fun b o e => (e0.bs b o e).1
  have KX : K.In s.heap := e0.mod.kin.keeps kp
  refine codeAny_call_function hr.depth (KX _ _ lk) rfl S.co S.gen rfl (PySem.W.codeRec_of KX hcd) (hb _ _ _ _ (wpAny_newFunctionEnv_cells S.kind ?_ fun env he s1 x => ?_))
  · rintro ⟨n, v⟩ hy
    exact (S.par n (List.of_mem_zip hy).1).imp id fun q => ⟨q, PySem.W.cellsFrom_some _ _ _ (.inl q)⟩
  · subst he
    obtain ⟨t, ht, q⟩ := hbody cdv A ou s H vs Q E hgd (hr.deeper _) hsp
    have J : Inv (cxOf (L2.CX P w) P w K mg base N qual scope f cdv A ou s H E) [] (start N vs) H s1 := inv_start S hr.hd e0 ln r x
    refine ⟨(e0.mod.nolimit.keeps kp).keeps x.toInCall.keep, codeAny_func (wpAny_mono (ht.run [] s1 (start N vs) H _ J q) ?_ fun _ _ z => z)⟩
    rintro (_ | _ | _ | u) s2 z
    · obtain ⟨σ2, H2, J2, q2⟩ := z
      exact ⟨.non, H2, J2.os, J2.bare, J2.base, J2.hok, rfl, q2⟩
    · obtain ⟨_, _, _, q2⟩ := z
      exact q2.elim
    · obtain ⟨_, _, _, q2⟩ := z
      exact q2.elim
    · obtain ⟨v, σ2, H2, J2, rv, q2⟩ := z
      exact ⟨v, H2, J2.os, J2.bare, J2.base, J2.hok, rv, q2⟩
end L2
end
section
/-! Sound2: the operations. -/
namespace Snd
open PySem L2 PySem.Spec PyProof.Rows
variable [FrameP]

/-- what stands behind: Q of whatever bears d, in whatever heap bears h' -/
def Kont (K : Fr) (H : Hp) (h : M.AH) (Qa : M.VQ) (Q : VK) : Prop := ∀ d h' v H', Qa d h' → Frm H h H' h' → Rep K H' d v → RH K H' h' → Q v H'
/-- the same of a truth, of the heap -/
def KontB (K : Fr) (H : Hp) (h : M.AH) (Qa : Bool → Prop) (Q : VK) : Prop := ∀ b, Qa b → Q (.bl b) H
section
variable {K : Fr} {H H1 H' : Hp} {h h1 h' : M.AH} {Qa : M.VQ} {Q : VK}
theorem Kont.go (k : Kont K H h Qa Q) (f : Frm H h H1 h1) : Kont K H1 h1 Qa Q := fun d h' v H' q f' r rh => k d h' v H' q (f.trans f') r rh
theorem Kont.now (k : Kont K H h Qa Q) (rh : RH K H h) {d : SD} {v : V} (q : Qa d h) (r : Rep K H d v) : Q v H := k d h v H q .refl r rh
theorem line_eq : (sizeLine : Nat) = M.LINE := by rw [sizeLine_eq]; rfl
theorem sV_len (s : M.Sx) : (sV s).length = s.length := by simp [sV, Str.length]
theorem sV_app (a b : M.Sx) : sV a ++ sV b = sV (a ++ b) := by
  show Str.append _ _ = _
  simp [sV, Str.append]
theorem sV_inj {a b : M.Sx} (e : sV a = sV b) : a = b := by
  have e1 : a.toArray = b.toArray := congrArg Str.cps e
  simpa using congrArg Array.toList e1
theorem sV_cps (a : M.Sx) : (sV a).cps.toList = a := by simp [sV]
theorem sOk_app {a b : M.Sx} (x : sOk a) (y : sOk b) : sOk (a ++ b) := fun c hc => (List.mem_append.mp hc).elim (x c) (y c)

/-! ### two places -/
def rAddS : R2 := fun x y H Q => ∃ i j, x = .str i ∧ y = .str j ∧ i.length + j.length ≤ sizeLine ∧ Q (.str (i ++ j)) H
def rPow : R2 := rI CPow fun i j => .int (i ^ j.toNat)
def rAdd4 (K : Fr) : R2 := fun x y H Q => (rI0 fun i j => .int (i + j)) x y H Q ∨ rAddS x y H Q ∨ rCatA K x y H Q ∨ rCat x y H Q
def rMul3 : R2 := fun x y H Q => (rI CMul fun i j => .int (i * j)) x y H Q ∨ (rI CMulW fun i j => .int (i * j)) x y H Q ∨ rRep x y H Q
def rBin (K : Fr) : M.Bop → R2
  | .add => rAdd4 K
  | .sub => rI0 fun i j => .int (i - j)
  | .mul => rMul3
  | .mod => rI (fun _ j => 0 < j) fun i j => .int (i % j)
  | .fdiv => rI CDivW fun i j => .int (i / j)
  | .pow => rPow
def bop : M.Bop → Operator
  | .add => .Add | .sub => .Sub | .mul => .Mult | .mod => .Mod | .fdiv => .FloorDiv | .pow => .Pow
theorem op_bin {X : Cx} (o : M.Bop) : OpR X (binaryOp (bop o)) (rBin X.F o) := by
  cases o
  · exact op_add.or (op_add_str.or (op_catA.or op_cat))
  · exact op_sub
  · exact op_mul.or (op_mulW.or op_rep)
  · exact op_mod
  · exact op_fdivW
  · exact op_pow
theorem log_small {b : Int} (h0 : 0 < b) (h1 : b < 2 ^ 64) : b.natAbs.log2 < 9000 :=
  (wide_div (i := 0) (b := 64) h0 (by omega) (by decide) (by decide)).2
theorem opInt_inv {f : Int → Int → (Int → Prop) → Prop} {dx dy : SD} (q : M.opInt f dx dy h Qa) : ∃ a b, dx = .int a ∧ dy = .int b ∧ f a b fun c => Qa (.int c) h := by
  cases dx with
  | int a => cases dy with
    | int b => exact ⟨a, b, rfl, rfl, q⟩
    | _ => exact False.elim q
  | _ => exact False.elim q
theorem opAdd_inv {dx dy : SD} (q : M.opAdd dx dy h Qa) : (∃ a b, dx = .int a ∧ dy = .int b ∧ Qa (.int (a + b)) h) ∨ (∃ a b, dx = .str a ∧ dy = .str b ∧ a.length + b.length ≤ M.LINE ∧ Qa (.str (a ++ b)) h) ∨
    (∃ a b, dx = .tup a ∧ dy = .tup b ∧ a.length + b.length ≤ M.LINE ∧ Qa (.tup (a ++ b)) h) ∨
    ∃ p p2, dx = .ref p ∧ dy = .ref p2 ∧ ∃ xs ys, h p = some (.lst xs) ∧ h p2 = some (.lst ys) ∧ xs.length + ys.length ≤ M.LINE ∧ ∀ r, h r = none → Qa (.ref r) (M.up h r (.lst (xs ++ ys))) := by
  cases dx with
  | int a => cases dy with
    | int b => exact .inl ⟨a, b, rfl, rfl, q⟩
    | _ => exact False.elim q
  | str a => cases dy with
    | str b => exact .inr (.inl ⟨a, b, rfl, rfl, q.1, q.2⟩)
    | _ => exact False.elim q
  | tup a => cases dy with
    | tup b => exact .inr (.inr (.inl ⟨a, b, rfl, rfl, q.1, q.2⟩))
    | _ => exact False.elim q
  | ref a => cases dy with
    | ref b => exact .inr (.inr (.inr ⟨a, b, rfl, rfl, q⟩))
    | _ => exact False.elim q
  | _ => exact False.elim q
theorem opMul_inv {dx dy : SD} (q : M.opMul dx dy h Qa) : (∃ a b, dx = .int a ∧ dy = .int b ∧ M.mulOk a b ∧ Qa (.int (a * b)) h) ∨
    ∃ p n, dx = .ref p ∧ dy = .int n ∧ ∃ xs, h p = some (.lst xs) ∧ -(2 ^ 63) ≤ n ∧ n < 2 ^ 63 ∧ xs.length * n.toNat ≤ M.LINE ∧ ∀ r, h r = none → Qa (.ref r) (M.up h r (.lst (List.replicate n.toNat xs).flatten)) := by
  cases dx with
  | int a => cases dy with
    | int b => exact .inl ⟨a, b, rfl, rfl, q.1, q.2⟩
    | _ => exact False.elim q
  | ref a => cases dy with
    | int b => exact .inr ⟨a, b, rfl, rfl, q⟩
    | _ => exact False.elim q
  | _ => exact False.elim q
theorem add_ok {dx dy : SD} {x y : V} (rh : RH K H h) (rx : Rep K H dx x) (ry : Rep K H dy y) (q : M.opAdd dx dy h Qa) (k : Kont K H h Qa Q) : rAdd4 K x y H Q := by
  have hl := line_eq
  rcases opAdd_inv q with ⟨a, b, rfl, rfl, q⟩ | ⟨a, b, rfl, rfl, hz, q⟩ | ⟨a, b, rfl, rfl, hz, q⟩ | ⟨p, p2, rfl, rfl, xs, ys, e1, e2, hz, q⟩
  · cases (show x = _ from rx); cases (show y = _ from ry)
    exact .inl ⟨a, b, rfl, rfl, k.now rh q rfl⟩
  · obtain ⟨rx, ox⟩ := rx
    obtain ⟨ry, oy⟩ := ry
    subst rx; subst ry
    refine .inr (.inl ⟨sV a, sV b, rfl, rfl, by rw [sV_len, sV_len, hl]; exact hz, ?_⟩)
    rw [sV_app]
    exact k.now rh q ⟨rfl, sOk_app ox oy⟩
  · obtain ⟨p, vs, e1, t1, r1⟩ := rx
    obtain ⟨p2, ws, e2, t2, r2⟩ := ry
    subst e1; subst e2
    have l1 := r1.length
    have l2 := r2.length
    have s1 : SqT K H p vs := t1.imp .inl id
    have s2 : SqT K H p2 ws := t2.imp .inl id
    refine .inr (.inr (.inl ⟨p, p2, vs, ws, rfl, rfl, s1, s2, by omega, ?_⟩))
    · refine ⟨fun e => ?_, fun ne1 e => ?_, fun ne1 ne2 l hn => ?_⟩
      · have : a = [] := by
          subst e; cases a with
          | nil => rfl
          | cons _ _ => simp at l1
        subst this
        refine k.now rh q ⟨p2, ws, rfl, t2, by simpa using r2⟩
      · have : b = [] := by
          subst e; cases b with
          | nil => rfl
          | cons _ _ => simp at l2
        subst this
        refine k.now rh q ⟨p, vs, rfl, t1, by simpa using r1⟩
      · refine k _ _ _ _ q (frm_hid hn) ⟨l, vs ++ ws, rfl, .inl upd_same, (r1.kp (kp_new hn)).append (r2.kp (kp_new hn))⟩ (rh_hid rh hn)
  · cases (show x = _ from rx); cases (show y = _ from ry)
    obtain ⟨vs, a1, r1⟩ := rh p _ e1
    obtain ⟨ws, a2, r2⟩ := rh p2 _ e2
    have l1 := r1.length
    have l2 := r2.length
    refine .inr (.inr (.inr ⟨p, p2, vs, ws, rfl, rfl, a1, a2, by omega, fun l hn => ?_⟩))
    exact k _ _ _ _ (q l (rh.none hn)) (frm_new hn) rfl (rh_new rh hn ⟨_, upd_same, (r1.kp (kp_new hn)).append (r2.kp (kp_new hn))⟩)
theorem mul_ok {dx dy : SD} {x y : V} (rh : RH K H h) (rx : Rep K H dx x) (ry : Rep K H dy y) (q : M.opMul dx dy h Qa) (k : Kont K H h Qa Q) : rMul3 x y H Q := by
  have hl := line_eq
  rcases opMul_inv q with ⟨a, b, rfl, rfl, c, q⟩ | ⟨p, n, rfl, rfl, xs, e1, n1, n2, hz, q⟩
  · cases (show x = _ from rx); cases (show y = _ from ry)
    rcases c with c | c | ⟨m, m0, m1, m2, m3⟩
    · exact .inl ⟨a, b, rfl, rfl, .inl c, k.now rh q rfl⟩
    · exact .inl ⟨a, b, rfl, rfl, .inr c, k.now rh q rfl⟩
    · exact .inr (.inl ⟨a, b, rfl, rfl, wide_mul m2 m3 m0 m0 (by omega), k.now rh q rfl⟩)
  · cases (show x = _ from rx); cases (show y = _ from ry)
    obtain ⟨vs, a1, r1⟩ := rh p _ e1
    have l1 := r1.length
    refine .inr (.inr ⟨p, n, vs, rfl, rfl, a1, n1, n2, by rw [l1, hl]; exact hz, fun l hn => ?_⟩)
    exact k _ _ _ _ (q l (rh.none hn)) (frm_new hn) rfl (rh_new rh hn ⟨_, upd_same, (r1.kp (kp_new hn)).rep _⟩)
theorem bin_ok {o : M.Bop} {dx dy : SD} {x y : V} (rh : RH K H h) (rx : Rep K H dx x) (ry : Rep K H dy y) (q : M.opBin o dx dy h Qa) (k : Kont K H h Qa Q) : rBin K o x y H Q := by
  cases o with
  | add => exact add_ok rh rx ry q k
  | mul => exact mul_ok rh rx ry q k
  | sub =>
    simp only [M.opBin] at q
    obtain ⟨a, b, rfl, rfl, q⟩ := opInt_inv q
    cases (show x = _ from rx); cases (show y = _ from ry)
    exact ⟨a, b, rfl, rfl, k.now rh q rfl⟩
  | mod =>
    simp only [M.opBin] at q
    obtain ⟨a, b, rfl, rfl, c, q⟩ := opInt_inv q
    cases (show x = _ from rx); cases (show y = _ from ry)
    exact ⟨a, b, rfl, rfl, c, k.now rh q rfl⟩
  | fdiv =>
    simp only [M.opBin] at q
    obtain ⟨a, b, rfl, rfl, c, q⟩ := opInt_inv q
    cases (show x = _ from rx); cases (show y = _ from ry)
    exact ⟨a, b, rfl, rfl, ⟨c.1, log_small c.1 c.2⟩, k.now rh q rfl⟩
  | pow =>
    simp only [M.opBin] at q
    obtain ⟨a, b, rfl, rfl, c, q⟩ := opInt_inv q
    cases (show x = _ from rx); cases (show y = _ from ry)
    exact ⟨a, b, rfl, rfl, c, k.now rh q rfl⟩

/-! ### data as the model reads it -/
mutual
def toPy : SD → PyData
  | .non => .none
  | .bl b => .bool b
  | .int i => .int i
  | .str s => .str (sV s)
  | .tup ds => .tuple (toPys ds)
  | .rol ds => .list (toPys ds)
  | .ref _ => .none
def toPys : List SD → List PyData
  | [] => []
  | d :: ds => toPy d :: toPys ds
end
theorem ba {a b : Bool} (h : (a && b) = true) : a = true ∧ b = true := Bool.and_eq_true_iff.mp h
mutual
theorem rep_dp : ∀ {d : SD} {v : V}, M.pureD d = true → Rep K H d v → Dp K H v (toPy d)
  | .non, _, _, r => by cases (show _ = _ from r); exact .non
  | .int i, _, _, r => by cases (show _ = _ from r); exact .int i
  | .str s, _, _, r => by cases (show _ = _ from r.1); exact .str _
  | .tup ds, _, p, ⟨a, vs, e, t, rs⟩ => by subst e; exact .tup (t.imp .inl id) (reps_dp (by simpa only [M.pureD] using p) rs)
  | .bl _, _, p, _ => by simp [M.pureD] at p
  | .ref _, _, p, _ => by simp [M.pureD] at p
  | .rol _, _, p, _ => by simp [M.pureD] at p
theorem reps_dp : ∀ {ds : List SD} {vs : List V}, M.pureDs ds = true → Reps K H ds vs → DpAll K H vs (toPys ds)
  | [], _, _, r => by cases (show _ = _ from r); exact .nil
  | d :: ds, _, p, ⟨v, r, e, a, b⟩ => by
    subst e
    obtain ⟨p1, p2⟩ := ba (show (M.pureD d && M.pureDs ds) = true by simpa only [M.pureDs] using p)
    exact .cons (rep_dp p1 a) (reps_dp p2 b)
end
mutual
theorem rep_can : ∀ {d : SD} {v : V}, M.pureD d = true → Rep K H d v → (toPy d).canLay0 = true
  | .non, _, _, r => rfl
  | .int i, _, _, r => rfl
  | .str s, _, _, r => by
    have ok := r.2
    show PyData.strOk (sV s) = true
    simp only [PyData.strOk, sV, Array.all_eq_true_iff_forall_mem, List.mem_toArray, decide_eq_true_eq]
    exact ok
  | .tup ds, _, p, ⟨a, vs, e, t, rs⟩ => by
    show PyData.canLayAll0 (toPys ds) = true
    exact reps_can (by simpa only [M.pureD] using p) rs
  | .bl _, _, p, _ => by simp [M.pureD] at p
  | .ref _, _, p, _ => by simp [M.pureD] at p
  | .rol _, _, p, _ => by simp [M.pureD] at p
theorem reps_can : ∀ {ds : List SD} {vs : List V}, M.pureDs ds = true → Reps K H ds vs → PyData.canLayAll0 (toPys ds) = true
  | [], _, _, r => rfl
  | d :: ds, _, p, ⟨v, r, e, a, b⟩ => by
    obtain ⟨p1, p2⟩ := ba (show (M.pureD d && M.pureDs ds) = true by simpa only [M.pureDs] using p)
    show (PyData.canLay0 (toPy d) && PyData.canLayAll0 (toPys ds)) = true
    rw [rep_can p1 a, reps_can p2 b]
    rfl
end
mutual
theorem py_depth : ∀ (n : Nat) (d : SD), M.plain n d = true → (toPy d).depth ≤ n
  | _, .non, _ => by simp [toPy, PyData.depth]
  | _, .int i, _ => by simp [toPy, PyData.depth]
  | _, .str s, _ => by simp [toPy, PyData.depth]
  | 0, .tup ds, p => by simp [M.plain] at p
  | n + 1, .tup ds, p => by
    have := pys_depth n ds (by simpa only [M.plain] using p)
    simp only [toPy, PyData.depth]
    omega
  | 0, .bl _, p => by simp [M.plain] at p
  | n + 1, .bl _, p => by simp [M.plain] at p
  | 0, .ref _, p => by simp [M.plain] at p
  | n + 1, .ref _, p => by simp [M.plain] at p
  | 0, .rol _, p => by simp [M.plain] at p
  | n + 1, .rol _, p => by simp [M.plain] at p
theorem pys_depth : ∀ (n : Nat) (ds : List SD), M.plains n ds = true → PyData.depthAll (toPys ds) ≤ n
  | _, [], _ => by simp [toPys, PyData.depthAll]
  | n, d :: ds, p => by
    obtain ⟨p1, p2⟩ := ba (show (M.plain n d && M.plains n ds) = true by cases n <;> simpa only [M.plains] using p)
    have := py_depth n d p1
    have := pys_depth n ds p2
    simp only [toPys, PyData.depthAll]
    omega
end
mutual
theorem eqv_py : ∀ (a b : SD), M.pureD a = true → M.pureD b = true → PyData.eqv (toPy a) (toPy b) = decide (a = b)
  | .non, b, _, q => by cases b <;> simp [M.pureD, toPy, PyData.eqv] at q ⊢
  | .int i, b, _, q => by cases b <;> simp [M.pureD, toPy, PyData.eqv, Bool.beq_eq_decide_eq] at q ⊢
  | .str s, b, _, q => by
    cases b <;> simp [M.pureD, toPy, PyData.eqv, Bool.beq_eq_decide_eq] at q ⊢
    rename_i t
    exact ⟨sV_inj, fun e => by rw [e]⟩
  | .tup ds, b, p, q => by
    cases b <;> simp [M.pureD, toPy, PyData.eqv] at p q ⊢
    exact eqv_pys ds _ p q
  | .bl _, b, p, _ => by simp [M.pureD] at p
  | .ref _, b, p, _ => by simp [M.pureD] at p
  | .rol _, b, p, _ => by simp [M.pureD] at p
theorem eqv_pys : ∀ (as bs : List SD), M.pureDs as = true → M.pureDs bs = true → PyData.eqvAll (toPys as) (toPys bs) = decide (as = bs)
  | [], [], _, _ => by simp [toPys, PyData.eqvAll]
  | [], _ :: _, _, _ => by simp [toPys, PyData.eqvAll]
  | _ :: _, [], _, _ => by simp [toPys, PyData.eqvAll]
  | a :: as, b :: bs, p, q => by
    obtain ⟨p1, p2⟩ := ba (show (M.pureD a && M.pureDs as) = true by simpa only [M.pureDs] using p)
    obtain ⟨q1, q2⟩ := ba (show (M.pureD b && M.pureDs bs) = true by simpa only [M.pureDs] using q)
    simp only [toPys, PyData.eqvAll, eqv_py a b p1 q1, eqv_pys as bs p2 q2, List.cons.injEq, Bool.decide_and]
end
end
end Snd
end
section
/-! SortL: < of nested data, sorted of lists of such. -/
namespace PySem.SeqAt
open AutoSeq1 (wpAny_loadPart')
open MeetsSeq MeetsSeq2 MeetsSeq3 SeqRoads2
section
/-- the items from the i-th on -/
def ltRest (e r : Nat → Bool) (z : Bool) (n i : Nat) : Bool := firstLt e r z ((List.range n).drop i)
theorem ltRest_in {e r : Nat → Bool} {z : Bool} {n i : Nat} (h : i < n) : ltRest e r z n i = if e i = true then ltRest e r z n (i + 1) else r i := by
  have hd : (List.range n).drop i = i :: (List.range n).drop (i + 1) := by simp [List.drop_eq_getElem_cons, h]
  unfold ltRest
  rw [hd]
  rfl
theorem ltRest_out {e r : Nat → Bool} {z : Bool} {n i : Nat} (h : n ≤ i) : ltRest e r z n i = z := by
  unfold ltRest
  rw [List.drop_of_length_le (by simpa using h)]
  rfl
end
theorem tupLt_run (p q : Addr) (xs ys : Array Value) (m k : Nat) (o1 o2 : Option Addr) (t1 t2 : Array (Option Value)) (e r : Nat → Bool) :
    Meets (Builtin.«tuple.__lt__» ⟨[.ref p, .ref q], []⟩) (fun A R s =>
      s.heap.get? p = some { cls := .type "tuple", dict := o1, data := .seq xs m, slots := t1 } ∧
      s.heap.get? q = some { cls := .type "tuple", dict := o2, data := .seq ys k, slots := t2 } ∧
      (∀ j (a : j < xs.size) (b : j < ys.size), EqAt A.in1 s xs[j] ys[j] (e j)) ∧
      (∀ j (a : j < xs.size) (b : j < ys.size), (∀ i, i < j → e i = true) → e j = false → RcLt A.in1 s xs[j] ys[j] (r j)) ∧
      R (.ok (.ret (.bool (ltRest e r (decide (xs.size < ys.size)) (min xs.size ys.size) 0)))) s) :=
  .of_wp fun prog w A R s h => by
    obtain ⟨hp, g, d, tk, os⟩ := s
    obtain ⟨hx, hy, he, hr, h⟩ := h
    have f2 := AutoSeq1.sub_tuple_tuple
    have lz : (xs.toList.zip ys.toList).length = min xs.size ys.size := by simp
    wp_walk using wpAny_loadPart' hx, wpAny_loadPart' hy, wpAny_forIn_list _ (fun rest b s' => b.1 = none ∧ s' = ⟨hp, g, d, tk, os⟩ ∧
      ∃ i, rest = (xs.toList.zip ys.toList).drop i ∧ (∀ a, a < i → e a = true) ∧ R (.ok (.ret (.bool (ltRest e r (decide (xs.size < ys.size)) (min xs.size ys.size) i)))) ⟨hp, g, d, tk, os⟩) _
    case turn =>
      rintro ⟨u, v⟩ rest b s' ⟨hb, rfl, i, hz, hall, hR⟩
      have lt1 : i < (xs.toList.zip ys.toList).length := Nat.lt_of_not_le fun z => by
        rw [List.drop_of_length_le z] at hz
        cases hz
      have lt2 : i < min xs.size ys.size := by rw [← lz]; exact lt1
      have i1 : i < xs.size := by omega
      have i2 : i < ys.size := by omega
      rw [List.drop_eq_getElem_cons lt1] at hz
      injection hz with huv hrest
      have hu : u = xs[i] := by simpa using congrArg Prod.fst huv
      have hv : v = ys[i] := by simpa using congrArg Prod.snd huv
      subst hu hv
      rw [ltRest_in lt2] at hR
      refine wpAny_bind (he i i1 i2 prog w _ _ ?_)
      cases ei : e i with
      | true =>
        rw [if_pos ei] at hR
        wp_walk
        exact ⟨rfl, rfl, i + 1, hrest, fun a ha => (Nat.lt_succ_iff_lt_or_eq.mp ha).elim (hall a) (fun z => z ▸ ei), hR⟩
      | false =>
        rw [if_neg (by rw [ei]; simp)] at hR
        have step := hr i i1 i2 hall ei prog w
        wp_walk using step _ _
        exact ⟨_, rfl, hR⟩
    case fin =>
      rintro ⟨b1, b2⟩ s' ⟨hb, rfl, i, hz, hall, hR⟩
      simp only at hb
      subst hb
      have ge : min xs.size ys.size ≤ i := Nat.le_of_not_lt fun z => by
        rw [List.drop_eq_getElem_cons (by rw [lz]; exact z)] at hz
        cases hz
      rw [ltRest_out ge] at hR
      wp_walk
      exact ⟨_, rfl, by simpa [Builtin.Tuple.tupleCompareSizes] using hR⟩
    case h =>
      exact ⟨rfl, rfl, 0, rfl, (fun a ha => absurd ha (Nat.not_lt_zero a)), h⟩
theorem RcLt.tuplesF {A : Around} {s : Shared} {p q : Addr} {xs ys : Array Value} {e r : Nat → Bool} (hx : s.heap.IsTuple p xs) (hy : s.heap.IsTuple q ys) (hu : A.units < cLine)
    (he : ∀ j (a : j < xs.size) (b : j < ys.size), EqAt A.in1 s xs[j] ys[j] (e j))
    (hr : ∀ j (a : j < xs.size) (b : j < ys.size), (∀ i, i < j → e i = true) → e j = false → RcLt A.in1 s xs[j] ys[j] (r j)) :
    RcLt A s (.ref p) (.ref q) (ltRest e r (decide (xs.size < ys.size)) (min xs.size ys.size) 0) := fun prog w E Q h => by
  obtain ⟨⟨c1, d1, dat1, s1⟩, g1, e1, m1, f1⟩ := id hx
  obtain ⟨⟨c2, d2, dat2, s2⟩, g2, e2, m2, f2⟩ := id hy
  simp only at e1 f1 e2 f2
  subst e1 f1 e2 f2
  refine richCompare_meets_room (op := .Lt) ⟨_, g1, rfl⟩ ⟨_, g2, rfl⟩ F.slot_tuple_lt F.entry_tuple_lt (F.args_tuple_lt_2 _ _) (tupLt_run p q xs ys m1 m2 d1 d2 s1 s2 e r) ⟨g1, g2, he, hr, ?_⟩ hu
  exact ⟨(fun z => nomatch z), h⟩
end PySem.SeqAt
namespace Snd
open PySem L2 PySem.Spec PyProof.Rows
theorem toPys_get : ∀ {ds : List SD} {j : Nat} {d : SD}, ds[j]? = some d → (toPys ds)[j]? = some (toPy d)
  | [], _, _, h => by simp at h
  | _ :: _, 0, _, h => by simp at h; subst h; simp [toPys]
  | _ :: ds, j + 1, d, h => by
    have := toPys_get (ds := ds) (j := j) (by simpa using h)
    simpa [toPys] using this
theorem reads_get {h : Heap} : ∀ {vs : List Value} {ds : List PyData} {as : List Addr} {j : Nat} {d : PyData}, ReadsAll h vs ds as → ds[j]? = some d → ∃ v bs, vs[j]? = some v ∧ Reads h v d bs
  | _, [], _, _, _, _, e => by simp at e
  | _, _ :: _, _, 0, d, r, e => by
    cases r with
    | cons h1 h2 => simp at e; subst e; exact ⟨_, _, rfl, h1⟩
  | _, _ :: _, _, j + 1, d, r, e => by
    cases r with
    | cons h1 h2 =>
      obtain ⟨v, bs, e1, e2⟩ := reads_get (j := j) h2 (by simpa using e)
      exact ⟨v, bs, by simpa using e1, e2⟩
theorem reads_len {h : Heap} : ∀ {vs : List Value} {ds : List PyData} {as : List Addr}, ReadsAll h vs ds as → vs.length = ds.length
  | _, [], _, r => by cases r; rfl
  | _, _ :: _, _, r => by
    cases r with
    | cons h1 h2 => simp [reads_len h2]
theorem pureDs_at : ∀ {ds : List SD} {j : Nat} {d : SD}, M.pureDs ds = true → ds[j]? = some d → M.pureD d = true
  | [], _, _, _, e => by simp at e
  | _ :: _, 0, _, p, e => by
    simp at e; subst e
    exact (ba (show (_ && _) = true by simpa only [M.pureDs] using p)).1
  | _ :: ds, j + 1, _, p, e => pureDs_at (ds := ds) (j := j) (ba (show (_ && _) = true by simpa only [M.pureDs] using p)).2 (by simpa using e)
theorem plains_two {n : Nat} {d : SD} {ds : List SD} (p : M.plains n (d :: ds) = true) : M.plain n d = true ∧ M.plains n ds = true := by
  cases n <;> simp only [M.plains] at p <;> exact ba p
theorem plains_at {n : Nat} : ∀ {ds : List SD} {j : Nat} {d : SD}, M.plains n ds = true → ds[j]? = some d → M.plain n d = true
  | [], _, _, _, e => by simp at e
  | _ :: _, 0, _, p, e => by
    simp at e; subst e
    exact (plains_two p).1
  | _ :: ds, j + 1, _, p, e => plains_at (ds := ds) (j := j) (plains_two p).2 (by simpa using e)
theorem canAll_at : ∀ {ds : List SD} {j : Nat} {d : SD}, PyData.canLayAll0 (toPys ds) = true → ds[j]? = some d → (toPy d).canLay0 = true
  | [], _, _, _, e => by simp at e
  | _ :: _, 0, _, p, e => by
    simp at e; subst e
    exact (ba (show (_ && _) = true from p)).1
  | _ :: ds, j + 1, _, p, e => canAll_at (ds := ds) (j := j) (ba (show (_ && _) = true from p)).2 (by simpa using e)
/-- ltDs by places -/
noncomputable def eD (xs ys : List SD) (j : Nat) : Bool := decide (xs[j]? = ys[j]?)
noncomputable def rD (xs ys : List SD) (j : Nat) : Bool := match xs[j]?, ys[j]? with
  | some x, some y => M.ltD x y
  | _, _ => false
theorem lt_rest : ∀ (k : Nat) (xs ys : List SD) (i : Nat), min xs.length ys.length - i = k → i ≤ min xs.length ys.length → SeqAt.ltRest (eD xs ys) (rD xs ys) (decide (xs.length < ys.length)) (min xs.length ys.length) i = M.ltDs (xs.drop i) (ys.drop i)
  | 0, xs, ys, i, hk, hi => by
    rw [SeqAt.ltRest_out (by omega)]
    rcases Nat.lt_or_ge i xs.length with h1 | h1
    · have h2 : ys.length ≤ i := by omega
      rw [List.drop_of_length_le h2, List.drop_eq_getElem_cons h1]
      simp [M.ltDs]; omega
    · rw [List.drop_of_length_le h1]
      rcases Nat.lt_or_ge i ys.length with h2 | h2
      · rw [List.drop_eq_getElem_cons h2]
        simp [M.ltDs]; omega
      · rw [List.drop_of_length_le h2]
        simp [M.ltDs]; omega
  | k + 1, xs, ys, i, hk, hi => by
    have h1 : i < xs.length := by omega
    have h2 : i < ys.length := by omega
    rw [SeqAt.ltRest_in (by omega), List.drop_eq_getElem_cons h1, List.drop_eq_getElem_cons h2, M.ltDs_cons]
    have e1 : eD xs ys i = decide (xs[i] = ys[i]) := by simp [eD, h1, h2]
    have e2 : rD xs ys i = M.ltD xs[i] ys[i] := by simp [rD, h1, h2]
    rw [e1, e2]
    by_cases z : xs[i] = ys[i]
    · rw [if_pos z, if_pos (decide_eq_true z)]
      exact lt_rest k xs ys (i + 1) (by omega) (by omega)
    · rw [if_neg z, if_neg (by simp [z])]
theorem lt_whole (xs ys : List SD) : SeqAt.firstLt (eD xs ys) (rD xs ys) (decide (xs.length < ys.length)) (List.range (min xs.length ys.length)) = M.ltDs xs ys := by
  have := lt_rest _ xs ys 0 rfl (Nat.zero_le _)
  simpa [SeqAt.ltRest] using this
/-- what < is asked of at the first place that differs -/
theorem cmp_first : ∀ {xs ys : List SD} {j : Nat} {x y : SD}, M.cmpbs xs ys = true → xs[j]? = some x → ys[j]? = some y → (∀ i, i < j → xs[i]? = ys[i]?) → x ≠ y → M.cmpb x y = true
  | [], _, _, _, _, _, e, _, _, _ => by simp at e
  | _ :: _, [], _, _, _, _, _, e, _, _ => by simp at e
  | a :: xs, b :: ys, 0, x, y, c, e1, e2, _, ne => by
    simp at e1 e2
    subst e1 e2
    simp only [M.cmpbs, if_neg ne] at c
    exact c
  | a :: xs, b :: ys, j + 1, x, y, c, e1, e2, al, ne => by
    have e0 := al 0 (by omega)
    simp at e0
    subst e0
    simp only [M.cmpbs, if_pos] at c
    exact cmp_first (xs := xs) (ys := ys) (j := j) c (by simpa using e1) (by simpa using e2) (fun i hi => by simpa using al (i + 1) (by omega)) ne
end Snd
namespace Snd
open PySem L2 PySem.Spec PyProof.Rows
theorem depth_at : ∀ {ds : List SD} {j : Nat} {d : SD}, ds[j]? = some d → (toPy d).depth ≤ PyData.depthAll (toPys ds)
  | [], _, _, e => by simp at e
  | d :: ds, 0, _, e => by
    simp at e; subst e
    simp only [toPys, PyData.depthAll]
    omega
  | d :: ds, j + 1, _, e => by
    have := depth_at (ds := ds) (j := j) (by simpa using e)
    simp only [toPys, PyData.depthAll]
    omega
/-- a < b of the data -/
def LtG (a : SD) : Prop := ∀ (b : SD) (A : Around) (s : Shared) (u v : Value) (as bs : List Addr), M.cmpb a b = true → M.pureD a = true → M.pureD b = true → (toPy a).canLay0 = true → (toPy b).canLay0 = true →
  Reads s.heap u (toPy a) as → Reads s.heap v (toPy b) bs → A.units + min (toPy a).depth (toPy b).depth < cLine → SeqAt.RcLt A s u v (M.ltD a b)
theorem ltG_seq {xs : List SD} (ih : ∀ x ∈ xs, LtG x) : LtG (.tup xs) := by
  intro b A s u v as bs c pa pb ca cb ra rb hu
  cases b with
  | tup ys =>
    have c : M.cmpbs xs ys = true := by simpa only [M.cmpb] using c
    have pa : M.pureDs xs = true := by simpa only [M.pureD] using pa
    have pb : M.pureDs ys = true := by simpa only [M.pureD] using pb
    have ca : PyData.canLayAll0 (toPys xs) = true := ca
    have cb : PyData.canLayAll0 (toPys ys) = true := cb
    have lx : (toPys xs).length = xs.length := by
      have : ∀ l : List SD, (toPys l).length = l.length := fun l => by induction l with
        | nil => rfl
        | cons x l h => simp [toPys, h]
      exact this xs
    have ly : (toPys ys).length = ys.length := by
      have : ∀ l : List SD, (toPys l).length = l.length := fun l => by induction l with
        | nil => rfl
        | cons x l h => simp [toPys, h]
      exact this ys
    cases ra with
    | @tuple p o vs n _ as₁ g1 g2 g3 g4 =>
      cases rb with
      | @tuple q o' ws n' _ bs₁ k1 k2 k3 k4 =>
        have n1 : vs.size = xs.length := by simpa [lx] using reads_len g4
        have n2 : ws.size = ys.length := by simpa [ly] using reads_len k4
        have hd : A.units + 1 + min (PyData.depthAll (toPys xs)) (PyData.depthAll (toPys ys)) < cLine := by
          have e1 : (PyData.tuple (toPys xs)).depth = PyData.depthAll (toPys xs) + 1 := rfl
          have e2 : (PyData.tuple (toPys ys)).depth = PyData.depthAll (toPys ys) + 1 := rfl
          have hu : A.units + min (PyData.tuple (toPys xs)).depth (PyData.tuple (toPys ys)).depth < cLine := hu
          omega
        have key := lt_whole xs ys
        show SeqAt.RcLt A s _ _ (M.ltD (.tup xs) (.tup ys))
        have e0 : M.ltD (.tup xs) (.tup ys) = M.ltDs xs ys := by simp only [M.ltD]
        rw [e0, ← key]
        have both : ∀ j (a : j < vs.size) (b : j < ws.size), ∃ x y a1 b1, xs[j]? = some x ∧ ys[j]? = some y ∧ Reads s.heap vs[j] (toPy x) a1 ∧ Reads s.heap ws[j] (toPy y) b1 := fun j a b => by
          have ex : xs[j]? = some (xs[j]'(by omega)) := List.getElem?_eq_getElem (by omega)
          have ey : ys[j]? = some (ys[j]'(by omega)) := List.getElem?_eq_getElem (by omega)
          obtain ⟨v1, a1, f1, r1⟩ := reads_get g4 (toPys_get ex)
          obtain ⟨v2, b1, f2, r2⟩ := reads_get k4 (toPys_get ey)
          have f1' : vs[j] = v1 := by simpa [Array.getElem?_toList, a] using f1
          have f2' : ws[j] = v2 := by simpa [Array.getElem?_toList, b] using f2
          exact ⟨_, _, a1, b1, ex, ey, by rw [f1']; exact r1, by rw [f2']; exact r2⟩
        have main := SeqAt.RcLt.tuplesF (A := A) (s := s) (p := p) (q := q) (xs := vs) (ys := ws) (e := eD xs ys) (r := rD xs ys) ⟨_, g1, g2, _, g3⟩ ⟨_, k1, k2, _, k3⟩ (by omega) (fun j a b => ?_) (fun j a b hall hj => ?_)
        · rw [n1, n2] at main
          exact main
        · obtain ⟨x, y, a1, b1, ex, ey, r1, r2⟩ := both j a b
          have := SeqAt.eqAt_reads (toPy x) (toPy y) A.in1 s _ _ _ _ r1 r2 (canAll_at ca ex) (canAll_at cb ey) (by
            have := depth_at ex
            have := depth_at ey
            have e : A.in1.units = A.units + 1 := rfl
            omega)
          rw [eqv_py x y (pureDs_at pa ex) (pureDs_at pb ey)] at this
          have e1 : eD xs ys j = decide (x = y) := by simp [eD, ex, ey]
          rw [e1]
          exact this
        · obtain ⟨x, y, a1, b1, ex, ey, r1, r2⟩ := both j a b
          have e1 : eD xs ys j = decide (x = y) := by simp [eD, ex, ey]
          have e2 : rD xs ys j = M.ltD x y := by simp [rD, ex, ey]
          rw [e1] at hj
          rw [e2]
          refine ih x (List.mem_of_getElem? ex) y A.in1 s _ _ _ _ (cmp_first c ex ey (fun i hi => by simpa [eD] using hall i hi) (by simpa using hj)) (pureDs_at pa ex) (pureDs_at pb ey) (canAll_at ca ex) (canAll_at cb ey) r1 r2 ?_
          have := depth_at ex
          have := depth_at ey
          have e : A.in1.units = A.units + 1 := rfl
          omega
  | _ => simp [M.cmpb] at c
mutual
theorem ltG : ∀ a : SD, LtG a
  | .tup xs => ltG_seq (ltGs xs)
  | .int x => fun b A s u v as bs c _ _ _ _ ra rb _ => by
    cases b with
    | int y =>
      cases ra
      cases rb
      intro prog w E Q hq
      refine PyProof.Rows.lt_int ?_
      simpa [M.ltD] using hq
    | _ => simp [M.cmpb] at c
  | .str x => fun b A s u v as bs c _ _ _ _ ra rb _ => by
    cases b with
    | str y =>
      cases ra
      cases rb
      intro prog w E Q hq
      refine PyProof.Rows.lt_str ?_
      simpa [M.ltD, sV_cps] using hq
    | _ => simp [M.cmpb] at c
  | .non => fun b A s u v as bs c => by simp [M.cmpb] at c
  | .bl _ => fun b A s u v as bs c => by simp [M.cmpb] at c
  | .ref _ => fun b A s u v as bs c => by simp [M.cmpb] at c
  | .rol _ => fun b A s u v as bs c => by simp [M.cmpb] at c
theorem ltGs : ∀ xs : List SD, ∀ x ∈ xs, LtG x
  | [], x, h => nomatch h
  | y :: ys, x, h => by
    rcases List.mem_cons.mp h with e | h
    · rw [e]; exact ltG y
    · exact ltGs ys x h
end
/-- x < y of nested data -/
def rLtD (K : Fr) : R2 := fun x y H Q => ∃ a b : SD, M.cmpb a b = true ∧ M.pureD a = true ∧ M.pureD b = true ∧ (toPy a).canLay0 = true ∧ (toPy b).canLay0 = true ∧ ((toPy a).depth ≤ 191 ∨ (toPy b).depth ≤ 191) ∧ Dp K H x (toPy a) ∧ Dp K H y (toPy b) ∧ Q (.bl (M.ltD a b)) H
theorem op_ltD {X : Cx} (hu : X.A.units + 200 < cLine) : OpR X (compareOp .Lt) (rLtD X.F) := by
  intro pins s σ H x y v u Q I rx ry h
  obtain ⟨a, b, c, pa, pb, ca, cb, dp, hd, he, q⟩ := h
  obtain ⟨as, r1⟩ := Dp.reads I _ x v hd rx
  obtain ⟨bs, r2⟩ := Dp.reads I _ y u he ry
  exact ltG a b X.A s v u as bs c pa pb ca cb r1 r2 (by omega) _ _ _ _ ⟨.bl _, H, I, rfl, q⟩

/-! ### sorted of tuples -/
theorem swo_lt (k : Value → SD) : SrtO.Swo fun v u => M.ltD (k v) (k u) := ⟨fun _ _ h => M.ltD_asym h, fun _ _ _ h1 h2 => M.ltD_neg h1 h2⟩
theorem toPy_inj {a b : SD} (pa : M.pureD a = true) (pb : M.pureD b = true) (e : toPy a = toPy b) : a = b := by
  have h1 := eqv_py a b pa pb
  have h2 := eqv_py a a pa pa
  rw [e] at h1 h2
  rw [h1] at h2
  simpa using h2
section
variable {prog : Program} {w : World}
open PySem.W
theorem kat_data {A : Around} {b fin : Bool} {Q : Bool → Shared → Prop} : ∀ {xs ys : List SD} {vs ws : List Value} {s : Shared} {as bs : List Addr} {i : Nat}, ReadsAll s.heap vs (toPys xs) as → ReadsAll s.heap ws (toPys ys) bs →
    M.cmpbs xs ys = true → M.pureDs xs = true → M.pureDs ys = true → PyData.canLayAll0 (toPys xs) = true → PyData.canLayAll0 (toPys ys) = true →
    A.units + 1 + min (PyData.depthAll (toPys xs)) (PyData.depthAll (toPys ys)) < cLine → fin = decide (xs.length < ys.length) → ((b && i == 0) = true → ∀ x r, xs = x :: r → M.rkD x ≠ 4) → Q (M.ltDs xs ys) s → KatLex prog w A b fin Q (vs.zip ws) i s
  | [], ys, vs, ws, s, as, bs, i, ra, rb, c, pa, pb, ca, cb, hu, hf, hb, q => by
    cases ra
    rw [List.zip_nil_left]
    refine kat_nil ?_
    rw [hf]
    cases ys <;> simpa [M.ltDs] using q
  | x :: xs, [], vs, ws, s, as, bs, i, ra, rb, c, pa, pb, ca, cb, hu, hf, hb, q => by
    cases rb
    rw [List.zip_nil_right]
    refine kat_nil ?_
    rw [hf]
    simpa [M.ltDs] using q
  | x :: xs, y :: ys, vs, ws, s, as, bs, i, ra, rb, c, pa, pb, ca, cb, hu, hf, hb, q => by
    cases ra with
    | @cons v vs _ _ a1 a2 r1 r2 =>
      cases rb with
      | @cons w' ws _ _ b1 b2 t1 t2 =>
        obtain ⟨pa1, pa2⟩ := ba (show (M.pureD x && M.pureDs xs) = true by simpa only [M.pureDs] using pa)
        obtain ⟨pb1, pb2⟩ := ba (show (M.pureD y && M.pureDs ys) = true by simpa only [M.pureDs] using pb)
        obtain ⟨ca1, ca2⟩ := ba (show ((toPy x).canLay0 && PyData.canLayAll0 (toPys xs)) = true from ca)
        obtain ⟨cb1, cb2⟩ := ba (show ((toPy y).canLay0 && PyData.canLayAll0 (toPys ys)) = true from cb)
        have e1 : PyData.depthAll (toPys (x :: xs)) = max (toPy x).depth (PyData.depthAll (toPys xs)) := by simp [toPys, PyData.depthAll]
        have e2 : PyData.depthAll (toPys (y :: ys)) = max (toPy y).depth (PyData.depthAll (toPys ys)) := by simp [toPys, PyData.depthAll]
        rw [e1, e2] at hu
        show KatLex prog w A b fin Q ((v, w') :: vs.zip ws) i s
        refine kat_cons (SeqAt.eqAt_reads (toPy x) (toPy y) A s v w' _ _ r1 t1 ca1 cb1 (by omega) prog w _ _ ?_)
        rw [eqv_py x y pa1 pb1]
        rw [M.ltDs_cons] at q
        have c0 : (if x = y then M.cmpbs xs ys else M.cmpb x y) = true := by simpa only [M.cmpbs] using c
        by_cases z : x = y
        · rw [if_pos z] at q c0
          rw [decide_eq_true z]
          refine kat_yes (kat_data r2 t2 c0 pa2 pb2 ca2 cb2 (by omega) ?_ (fun h => ?_) q)
          · rw [hf]; simp
          · simp at h
        · rw [if_neg z] at q c0
          rw [decide_eq_false z]
          refine kat_no ?_
          cases hbi : (b && i == 0) with
          | true =>
            have n4 := hb hbi x xs rfl
            cases x with
            | int m =>
              cases y with
              | int n =>
                cases r1
                cases t1
                refine PyProof.Rows.oneLt_int ?_
                simpa [M.ltD] using q
              | _ => simp [M.cmpb] at c0
            | str m =>
              cases y with
              | str n =>
                cases r1
                cases t1
                refine oneLt_any_str ?_
                simpa [M.ltD, sV_cps] using q
              | _ => simp [M.cmpb] at c0
            | tup _ => exact absurd rfl n4
            | _ => simp [M.cmpb] at c0
          | false =>
            refine kat_one v w' (ltG x y A s v w' _ _ c0 pa1 pb1 ca1 cb1 r1 t1 (by omega) prog w _ _ ?_)
            exact q
theorem first_type {s : Shared} {y : SD} {v : Value} {as : List Addr} {t : Nat} (r : Reads s.heap v (toPy y) as) (e : M.rkD y = t) (ht : t = 2 ∨ t = 3 ∨ t = 4) : Looks (model prog w) s.heap (typeOf v) (if t = 2 then .type "int" else if t = 3 then .type "str" else .type "tuple") := by
  cases y with
  | int i =>
    cases r
    have : t = 2 := e.symm
    subst this
    exact Looks.of_pure rfl
  | str i =>
    cases r
    have : t = 3 := e.symm
    subst this
    exact Looks.of_pure rfl
  | tup xs =>
    have : t = 4 := e.symm
    subst this
    cases r with
    | tuple h1 h2 h3 h4 =>
      rename_i a o vs n
      have key : Looks (model prog w) s.heap (typeOf (.ref a)) o.cls := (Looks.ld h1).andThen .now
      rw [h2] at key
      simpa using key
  | _ =>
    simp [M.rkD] at e
    omega

theorem tups_firsts {s : Shared} {t : Nat} (ht : t = 2 ∨ t = 3 ∨ t = 4) : ∀ {vs : List Value} {ds : List SD} {as : List Addr}, ReadsAll s.heap vs (toPys ds) as → (∀ x ∈ ds, ∃ y r, x = .tup (y :: r) ∧ M.rkD y = t) →
    ∃ fs, KatTups s.heap vs fs ∧ fs.length = ds.length ∧ ∀ v ∈ fs, Looks (model prog w) s.heap (typeOf v) (if t = 2 then .type "int" else if t = 3 then .type "str" else .type "tuple")
  | vs, [], as, r, _ => by
    cases r
    exact ⟨[], KatTups.nil, rfl, fun v h => nomatch h⟩
  | vs, d :: ds, as, r, h => by
    obtain ⟨y, l, e, k⟩ := h d List.mem_cons_self
    subst e
    cases r with
    | cons r1 r2 =>
      obtain ⟨fs, h1, h2, h3⟩ := tups_firsts ht r2 fun x hx => h x (List.mem_cons_of_mem _ hx)
      cases r1 with
      | tuple g1 g2 g3 g4 =>
        rename_i a o us n
        obtain ⟨f, b, e1, e2⟩ := reads_get (j := 0) (d := toPy y) g4 (by simp [toPys])
        refine ⟨f :: fs, KatTups.cons g1 g2 g3 (by simpa using e1) h1, by simp [h2], fun v hv => ?_⟩
        rcases List.mem_cons.mp hv with z | hv
        · rw [z]; exact first_type e2 k ht
        · exact h3 v hv
end
/-- sorted(l), l a list of tuples that read as ds -/
theorem sorted_tups {prog : Program} {w : World} {A : Around} {E : Value → Shared → Prop} {s : Shared} {l : Addr} {its : List Value} {ds : List SD} {as : List Addr} {k : Value → SD} {Q : Value → Shared → Prop} (hl : s.heap.IsList l its.toArray) (hz : its.length ≤ sizeLine)
    (ra : ReadsAll s.heap its (toPys ds) as) (ok : M.tupsOk ds) (can : PyData.canLayAll0 (toPys ds) = true) (hu : A.units + 200 < cLine) (hk : its.map k = ds)
    (h : ∀ (h' : Heap) (d : Addr) (out : List Value), SrtO.Srtd (fun v u => M.ltD (k v) (k u)) out → out.Perm its → (∀ b o, s.heap.get? b = some o → h'.get? b = some o) → s.heap.objs.size ≤ d → (∃ n, h'.get? d = some (seqObj "list" out.toArray n)) → Q (.ref d) { s with heap := h' }) :
    wpAny (model prog w) A (call (.builtin "sorted") [.ref l]) Q E s := by
  obtain ⟨pu, pl, ⟨t, ht, hds⟩, cmp⟩ := ok
  refine SrtO.sorted_ord (swo_lt k) hl hz (fun h2 h₁ a ha kk => ?_) fun out hs hb => ?_
  · intro h' keep
    have all : ∀ b o, s.heap.get? b = some o → h'.get? b = some o := fun b o e => keep b o (kk b o e).1 (kk b o e).2
    have ra' : ReadsAll h' its (toPys ds) as := ReadsAll.keeps all ra
    obtain ⟨fs, f1, f2, f3⟩ := tups_firsts (prog := prog) (w := w) (s := { s with heap := h' }) ht ra' hds
    have ln : its.length = ds.length := by rw [← hk, List.length_map]
    refine ⟨_, fun Q' E' hq => PySem.W.kat_kind (s := { s with heap := h' }) f1 (by omega) f3 (by rcases ht with rfl | rfl | rfl <;> rfl) hq, ?_⟩
    intro p q hp hq
    obtain ⟨i, hi⟩ := List.getElem?_of_mem hp
    obtain ⟨j, hj⟩ := List.getElem?_of_mem hq
    have di : ds[i]? = some (k p.1) := by rw [← hk, List.getElem?_map, hi]; rfl
    have dj : ds[j]? = some (k q.1) := by rw [← hk, List.getElem?_map, hj]; rfl
    obtain ⟨v1, a1, e1, r1⟩ := reads_get ra' (toPys_get di)
    obtain ⟨v2, a2, e2, r2⟩ := reads_get ra' (toPys_get dj)
    rw [hi] at e1
    rw [hj] at e2
    have e1 := Option.some.inj e1
    have e2 := Option.some.inj e2
    have c1 := canAll_at can di
    have c2 := canAll_at can dj
    have u1 := pureDs_at pu di
    have u2 := pureDs_at pu dj
    have m1 := List.mem_of_getElem? di
    have m2 := List.mem_of_getElem? dj
    have cc := cmp _ m1 _ m2
    obtain ⟨x1, l1, ex1, k1⟩ := hds _ m1
    obtain ⟨x2, l2, ex2, k2⟩ := hds _ m2
    have pl1 := plains_at pl di
    show wpAny (model prog w) A.in1.in1 (keyLt' _ p.1 q.1) (fun r s' => s' = { s with heap := h' } ∧ r = M.ltD (k p.1) (k q.1)) (fun _ _ => False) { s with heap := h' }
    rw [e1, e2]
    rw [e1] at ex1 pl1 u1 c1
    rw [e2] at ex2 u2 c2
    rw [e1, e2] at cc
    rw [e1] at r1
    rw [e2] at r2
    rw [ex1] at r1 c1 u1 cc pl1
    rw [ex2] at r2 c2 u2 cc
    have elt : M.ltD (k v1) (k v2) = M.ltDs (x1 :: l1) (x2 :: l2) := by rw [ex1, ex2]; simp only [M.ltD]
    rw [elt]
    cases r1 with
    | tuple g1 g2 g3 g4 =>
      cases r2 with
      | tuple t1 t2 t3 t4 =>
        refine PySem.W.kat_lt g1 g3 t1 t3 ?_
        have dp : PyData.depthAll (toPys (x1 :: l1)) ≤ 190 := by
          have := py_depth 190 _ pl1
          have e : (toPy (M.D.tup (x1 :: l1))).depth = PyData.depthAll (toPys (x1 :: l1)) + 1 := rfl
          omega
        have n1 := reads_len g4
        have n2 := reads_len t4
        have tl : ∀ l : List SD, (toPys l).length = l.length := fun l => by induction l with
          | nil => rfl
          | cons x l h => simp [toPys, h]
        rw [tl] at n1 n2
        refine kat_data g4 t4 (by simpa only [M.cmpb] using cc) (by simpa only [M.pureD] using u1) (by simpa only [M.pureD] using u2) c1 c2 ?_ ?_ (fun hb' x r e => ?_) ⟨rfl, rfl⟩
        · have : A.in1.in1.units = A.units + 2 := rfl
          omega
        · rw [← n1, ← n2]
          simp
        · obtain ⟨rfl, rfl⟩ := List.cons.inj e
          rw [k1]
          rcases ht with rfl | rfl | rfl
          · decide
          · decide
          · simp at hb'
  · exact h _ _ out hs hb.perm (fun b o e => sortedAll_old e) (Nat.le_succ _) (sortedAll_at s.heap its out.toArray)
def rSortT (K : Fr) : List V → Hp → VK → Prop := fun xs H Q => ∃ (a : Addr) (vs : List V) (ds : List SD), xs = [V.ref a] ∧ SqL K H a vs ∧ DpAll K H vs (toPys ds) ∧ M.tupsOk ds ∧ PyData.canLayAll0 (toPys ds) = true ∧
  ∀ ps : List (V × SD), ps.Perm (vs.zip ds) → (ps.map (·.2)).Pairwise (fun a b => M.ltD b a = false) → ∀ p, H p = none → Q (.ref p) (upd H p (.lst (ps.map (·.1))))
theorem dp_ref {K : PySem.W.Frag} {H : Hp} {v : V} {ds : List PyData} (d : Dp K H v (.tuple ds)) : ∃ a, v = V.ref a := by
  cases d
  exact ⟨_, rfl⟩
theorem dps_get {K : PySem.W.Frag} {H : Hp} : ∀ {vs : List V} {ds : List PyData} {v : V}, DpAll K H vs ds → v ∈ vs → ∃ d ∈ ds, Dp K H v d
  | _, _, _, .nil, h => nomatch h
  | _, _, _, .cons d r, h => by
    rcases List.mem_cons.mp h with e | h
    · subst e; exact ⟨_, List.mem_cons_self, d⟩
    · obtain ⟨d', m, x⟩ := dps_get r h
      exact ⟨d', List.mem_cons_of_mem _ m, x⟩
theorem toPys_mem {ds : List SD} {p : PyData} (h : p ∈ toPys ds) : ∃ d ∈ ds, p = toPy d := by
  induction ds with
  | nil => cases h
  | cons x ds ih =>
    rcases List.mem_cons.mp (show p ∈ toPy x :: toPys ds from h) with e | h
    · exact ⟨x, List.mem_cons_self, e⟩
    · obtain ⟨d, m, e⟩ := ih h
      exact ⟨d, List.mem_cons_of_mem _ m, e⟩
open Classical in
/-- the data that a value reads as -/
noncomputable def keyOf (h : Heap) (ds : List SD) (u : Value) : SD := if z : ∃ d, d ∈ ds ∧ ∃ as, Reads h u (toPy d) as then z.choose else .non
theorem keyOf_eq {h : Heap} {ds : List SD} {u : Value} {d : SD} {as : List Addr} (p : M.pureDs ds = true) (c : PyData.canLayAll0 (toPys ds) = true) (m : d ∈ ds) (r : Reads h u (toPy d) as) : keyOf h ds u = d := by
  have z : ∃ d, d ∈ ds ∧ ∃ as, Reads h u (toPy d) as := ⟨d, m, as, r⟩
  have e : keyOf h ds u = z.choose := by unfold keyOf; rw [dif_pos z]
  obtain ⟨m2, as2, r2⟩ := z.choose_spec
  rw [e]
  obtain ⟨i, hi⟩ := List.getElem?_of_mem m
  obtain ⟨j, hj⟩ := List.getElem?_of_mem m2
  exact toPy_inj (pureDs_at p hj) (pureDs_at p hi) (SeqAt.Reads.unique _ _ _ _ _ (canAll_at c hj) r2 r)
theorem keys_eq {h : Heap} {D : List SD} (p : M.pureDs D = true) (c : PyData.canLayAll0 (toPys D) = true) : ∀ {us : List Value} {ds : List SD} {as : List Addr}, (∀ d ∈ ds, d ∈ D) → ReadsAll h us (toPys ds) as → us.map (keyOf h D) = ds
  | _, [], _, _, r => by cases r; rfl
  | _, d :: ds, _, s, r => by
    cases r with
    | cons r1 r2 =>
      rw [List.map_cons, keyOf_eq p c (s d List.mem_cons_self) r1, keys_eq p c (fun x hx => s x (List.mem_cons_of_mem _ hx)) r2]
theorem cr_sortT {X : Cx} (hu : X.A.units + 200 < cLine) : CallR X (.builtin "sorted") (rSortT X.F) := by
  intro pins s σ H xs us Q I r h
  obtain ⟨a, vs, ds, rfl, hs, hd, ok, can, q⟩ := h
  obtain ⟨its, rv, hl, hz⟩ := I.list hs
  obtain ⟨u, rfl, ru⟩ := vals1 r
  obtain rfl : u = Value.ref a := ru
  obtain ⟨as, ra⟩ := Dp.readsAll I _ _ _ hd rv
  have pu := ok.1
  obtain ⟨t, ht, hds⟩ := ok.2.2.1
  obtain ⟨e1, e2⟩ := refs_back rv fun x m => by
    obtain ⟨d, md, dd⟩ := dps_get hd m
    obtain ⟨d', m', e⟩ := toPys_mem md
    obtain ⟨y, l, e3, _⟩ := hds d' m'
    rw [e, e3] at dd
    exact dp_ref dd
  have ek := keys_eq pu can (fun d m => m) ra
  refine sorted_tups (k := keyOf s.heap ds) hl.isList (by rw [← rv.length]; exact hz) ra ok can hu ek fun h' d out so hp kp hd2 hn => ?_
  have h3 : ∀ u ∈ out, ∃ a, u = Value.ref a := fun u hu => e2 u (hp.mem_iff.mp hu)
  obtain ⟨n, hn⟩ := hn
  have ez : vs.zip ds = its.map fun u => (backV u, keyOf s.heap ds u) := by
    conv => lhs; rw [e1, ← ek]
    rw [List.zip_map']
  have ef : (out.map fun u => (backV u, keyOf s.heap ds u)).map (·.1) = out.map backV := by rw [List.map_map]; rfl
  refine ⟨.ref d, upd H d (.lst (out.map backV)), I.laid (t' := s.toks) kp hd2 ⟨?_, out, n, vals_back h3, hn⟩, rfl, ?_⟩
  · rw [List.length_map, hp.length_eq, ← rv.length]; exact hz
  · rw [← ef]
    refine q _ ?_ ?_ d (I.hok.fresh hd2)
    · rw [ez]; exact hp.map _
    · rw [List.map_map]
      exact List.pairwise_map.mpr so
end Snd
end
section
/-! Sound3: comparisons, items, slices, stores. -/
namespace Snd
open PySem L2 PySem.Spec PyProof.Rows
variable [FrameP]
section
variable {K : Fr} {H H1 H' : Hp} {h h1 h' : M.AH} {Qa : M.VQ} {Q : VK} {qb : Bool → Prop}

/-! ### == -/
def rEqP (K : Fr) : R2 := fun x y H Q => ∃ d e, Dp K H x d ∧ Dp K H y e ∧ d.canLay0 = true ∧ e.canLay0 = true ∧ (d.depth ≤ 191 ∨ e.depth ≤ 191) ∧ Q (.bl (PyData.eqv d e)) H
def rNeP (K : Fr) : R2 := fun x y H Q => ∃ d e, Dp K H x d ∧ Dp K H y e ∧ d.canLay0 = true ∧ e.canLay0 = true ∧ (d.depth ≤ 191 ∨ e.depth ≤ 191) ∧ Q (.bl (!PyData.eqv d e)) H
theorem op_eqP {X : Cx} (hu : X.A.units + 200 < cLine) : OpR X (compareOp .Eq) (rEqP X.F) := by
  intro pins s σ H x y v u Q I rx ry h
  obtain ⟨d, e, hd, he, sd, se, dp, q⟩ := h
  obtain ⟨as, r1⟩ := Dp.reads I d x v hd rx
  obtain ⟨bs, r2⟩ := Dp.reads I e y u he ry
  exact SeqAt.compareEq_reads r1 r2 sd se (by omega) ⟨.bl _, H, I, rfl, q⟩
theorem op_neP {X : Cx} (hu : X.A.units + 200 < cLine) : OpR X (compareOp .NotEq) (rNeP X.F) := by
  intro pins s σ H x y v u Q I rx ry h
  obtain ⟨d, e, hd, he, sd, se, dp, q⟩ := h
  obtain ⟨as, r1⟩ := Dp.reads I d x v hd rx
  obtain ⟨bs, r2⟩ := Dp.reads I e y u he ry
  exact SeqAt.compareNe_reads r1 r2 sd se (by omega) ⟨.bl _, H, I, rfl, q⟩
/-- what two equal things are asked -/
def EqK (K : Fr) (x y : V) (H : Hp) (P : Bool → Prop) : Prop := (∃ a b, x = .bl a ∧ y = .bl b ∧ P (decide (a = b))) ∨ ∃ d e, Dp K H x d ∧ Dp K H y e ∧ d.canLay0 = true ∧ e.canLay0 = true ∧ (d.depth ≤ 191 ∨ e.depth ≤ 191) ∧ P (PyData.eqv d e)
theorem eqk {dx dy : SD} {x y : V} {P : Bool → Prop} (rh : RH K H h) (rx : Rep K H dx x) (ry : Rep K H dy y) (q : M.eqOk dx dy h P) : EqK K x y H P := by
  have plainCase : M.pureD dx = true ∧ M.pureD dy = true ∧ (M.plain 190 dx = true ∨ M.plain 190 dy = true) ∧ P (decide (dx = dy)) → EqK K x y H P := fun ⟨p1, p2, dp, q⟩ => by
    refine .inr ⟨toPy dx, toPy dy, rep_dp p1 rx, rep_dp p2 ry, rep_can p1 rx, rep_can p2 ry, ?_, by rw [eqv_py dx dy p1 p2]; exact q⟩
    rcases dp with dp | dp
    · exact .inl (Nat.le_succ_of_le (py_depth _ _ dp))
    · exact .inr (Nat.le_succ_of_le (py_depth _ _ dp))
  cases dx with
  | bl a => cases dy with
    | bl b =>
      cases (show x = _ from rx); cases (show y = _ from ry)
      exact .inl ⟨a, b, rfl, rfl, q⟩
    | _ => exact False.elim q
  | ref p => cases dy with
    | ref p2 =>
      cases (show x = _ from rx); cases (show y = _ from ry)
      obtain ⟨xs, ys, e1, e2, p1, p2, dp, q⟩ := q
      obtain ⟨vs, a1, r1⟩ := rh _ _ e1
      obtain ⟨ws, a2, r2⟩ := rh _ _ e2
      refine .inr ⟨.list (toPys xs), .list (toPys ys), .lst (SqL.of a1) (reps_dp p1 r1), .lst (SqL.of a2) (reps_dp p2 r2), reps_can p1 r1, reps_can p2 r2, ?_, ?_⟩
      · simp only [PyData.depth]
        rcases dp with dp | dp
        · exact .inl (Nat.succ_le_succ (pys_depth _ _ dp))
        · exact .inr (Nat.succ_le_succ (pys_depth _ _ dp))
      · simp only [PyData.eqv, eqv_pys xs ys p1 p2]
        exact q
    | _ => exact False.elim q
  | non => exact plainCase q
  | int _ => exact plainCase q
  | str _ => exact plainCase q
  | tup _ => exact plainCase q
  | rol _ => exact plainCase q

/-! ### in -/
def rDin (neg : Bool) : R2 := fun x y H Q => ∃ a o, y = .ref a ∧ DGet H a x o ∧ Q (.bl (if neg then !o.isSome else o.isSome)) H
theorem op_din {X : Cx} (hu : X.A.units + 1 < cLine) : OpR X (compareOp .In) (rDin false) := by
  intro pins s σ H x y v u Q I rx ry h
  obtain ⟨a, o, rfl, g, q⟩ := h
  obtain rfl : u = Value.ref a := ry
  exact d_in hu I g rx fun s3 I3 => ⟨.bl o.isSome, H, I3, rfl, q⟩
theorem op_dnotin {X : Cx} (hu : X.A.units + 1 < cLine) : OpR X (compareOp .NotIn) (rDin true) := by
  intro pins s σ H x y v u Q I rx ry h
  obtain ⟨a, o, rfl, g, q⟩ := h
  obtain rfl : u = Value.ref a := ry
  exact d_notIn hu I g rx fun s3 I3 => ⟨.bl (!o.isSome), H, I3, rfl, q⟩
def rLin (K : Fr) (neg : Bool) : R2 := fun x y H Q => ∃ d ds, Dp K H x d ∧ Dp K H y (.list ds) ∧ d.canLay0 = true ∧ PyData.canLayAll0 ds = true ∧ (d.depth ≤ 191 ∨ PyData.depthAll ds ≤ 191) ∧ Q (.bl (if neg then !ds.any fun z => PyData.eqv z d else ds.any fun z => PyData.eqv z d)) H
theorem op_lin {X : Cx} (hu : X.A.units + 200 < cLine) : OpR X (compareOp .In) (rLin X.F false) := by
  intro pins s σ H x y v u Q I rx ry h
  obtain ⟨d, ds, hd, he, sd, se, dp, q⟩ := h
  obtain ⟨as, r1⟩ := Dp.reads I d x v hd rx
  obtain ⟨bs, r2⟩ := Dp.reads I (.list ds) y u he ry
  exact SeqAt.in_list_reads r2 r1 se sd (by omega) ⟨.bl _, H, I, rfl, q⟩
theorem op_lnotin {X : Cx} (hu : X.A.units + 200 < cLine) : OpR X (compareOp .NotIn) (rLin X.F true) := by
  intro pins s σ H x y v u Q I rx ry h
  obtain ⟨d, ds, hd, he, sd, se, dp, q⟩ := h
  obtain ⟨as, r1⟩ := Dp.reads I d x v hd rx
  obtain ⟨bs, r2⟩ := Dp.reads I (.list ds) y u he ry
  exact SeqAt.notIn_list_reads r2 r1 se sd (by omega) ⟨.bl _, H, I, rfl, q⟩
theorem any_py : ∀ (xs : List SD) (x : SD), M.pureDs xs = true → M.pureD x = true → ((toPys xs).any fun z => PyData.eqv z (toPy x)) = xs.any fun y => decide (y = x)
  | [], _, _, _ => rfl
  | y :: ys, x, p, q => by
    obtain ⟨p1, p2⟩ := ba (show (M.pureD y && M.pureDs ys) = true by simpa only [M.pureDs] using p)
    show (PyData.eqv (toPy y) (toPy x) || (toPys ys).any fun z => PyData.eqv z (toPy x)) = _
    rw [eqv_py y x p1 q, any_py ys x p2 q, List.any_cons]
/-- keys -/
theorem keyV_inj {a b : SD} {k : Key} (h1 : keyV a = some k) (h2 : keyV b = some k) : a = b := by
  cases a <;> simp [keyV] at h1
  · cases b <;> simp [keyV] at h2
    · subst h1; rw [Sum.inl.inj h2]
    · subst h1; cases h2
  · cases b <;> simp [keyV] at h2
    · subst h1; cases h2
    · subst h1; rw [sV_inj (Sum.inr.inj h2)]
theorem keyV_rep {d : SD} {k : Key} {v : V} (e : keyV d = some k) (r : Rep K H d v) : v = kV k := by
  cases d <;> simp [keyV] at e
  · subst e; exact r
  · subst e; exact r.1
theorem keyOk0 {d : SD} (k : M.keyOk 0 d = true) : ∃ x, keyV d = some x := by
  cases d <;> first | exact ⟨_, rfl⟩ | simp [M.keyOk] at k
theorem rep_str {d : SD} {v : V} (r : Rep K H d v) : ∀ s, d = .str s → sOk s := fun s e => by subst e; exact r.2
theorem reps_str {ds : List SD} {vs : List V} (r : Reps K H ds vs) : ∀ d ∈ ds, ∀ s, d = .str s → sOk s := by
  induction ds generalizing vs with
  | nil => intro d hd; cases hd
  | cons a as ih =>
    obtain ⟨v, w, _, r1, r2⟩ := r
    intro d hd
    rcases List.mem_cons.mp hd with e | hd
    · subst e; exact rep_str r1
    · exact ih r2 d hd

/-- a table of any kind of keys: how the two look-ups agree -/
structure KeyRel (κ : Type) [DecidableEq κ] (K : Fr) (H : Hp) (R : SD → κ → Prop) : Prop where
  inj : ∀ a b k, R a k → R b k → a = b
  fn : ∀ a k k', R a k → R a k' → k = k'
abbrev PR {κ : Type} (K : Fr) (H : Hp) (R : SD → κ → Prop) := fun (x : SD × SD) (p : κ × V) => R x.1 p.1 ∧ Rep K H x.2 p.2
section
variable {κ : Type} [DecidableEq κ] {R : SD → κ → Prop} (kr : KeyRel κ K H R)
include kr
theorem kv_get {kvs : List (SD × SD)} {ps : List (κ × V)} (r : Paired (PR K H R) kvs ps) {d : SD} {k : κ} (hk : R d k) :
    (M.kvGet kvs d = none ∧ valV ps k = none) ∨ ∃ e v, M.kvGet kvs d = some e ∧ valV ps k = some v ∧ Rep K H e v := by
  induction r with
  | nil => exact .inl ⟨rfl, rfl⟩
  | @cons x p xs ps hx t ih =>
    by_cases e : x.1 = d
    · have e2 : p.1 = k := kr.fn _ _ _ (e ▸ hx.1) hk
      exact .inr ⟨x.2, p.2, by simp [M.kvGet, List.find?_cons, e], valV_pos e2, hx.2⟩
    · have e2 : ¬ p.1 = k := fun z => e (kr.inj _ _ _ (z ▸ hx.1) hk)
      have e3 : M.kvGet (x :: xs) d = M.kvGet xs d := by simp [M.kvGet, List.find?_cons, e]
      rw [e3, valV_neg e2]
      exact ih
theorem kv_any {kvs : List (SD × SD)} {ps : List (κ × V)} (r : Paired (PR K H R) kvs ps) {d : SD} {k : κ} (hk : R d k) :
    (kvs.any fun kv => decide (kv.1 = d)) = ps.any fun kv => decide (kv.1 = k) := by
  induction r with
  | nil => rfl
  | @cons x p xs ps hx t ih =>
    rw [List.any_cons, List.any_cons, ih]
    congr 1
    by_cases e : x.1 = d
    · have e2 : p.1 = k := kr.fn _ _ _ (e ▸ hx.1) hk
      rw [decide_eq_true e, decide_eq_true e2]
    · have e2 : ¬ p.1 = k := fun z => e (kr.inj _ _ _ (z ▸ hx.1) hk)
      rw [decide_eq_false e, decide_eq_false e2]
theorem kv_repl {kvs : List (SD × SD)} {ps : List (κ × V)} (r : Paired (PR K H R) kvs ps) {d e : SD} {k : κ} {v : V} (hk : R d k) (re : Rep K H e v) :
    Paired (PR K H R) (kvs.map fun kv => if kv.1 = d then (kv.1, e) else kv) (ps.map fun kv => if kv.1 = k then (kv.1, v) else kv) := by
  induction r with
  | nil => exact .nil
  | @cons x p xs ps hx t ih =>
    rw [List.map_cons, List.map_cons]
    refine .cons ?_ ih
    by_cases e : x.1 = d
    · have e2 : p.1 = k := kr.fn _ _ _ (e ▸ hx.1) hk
      rw [if_pos e, if_pos e2]
      exact ⟨hx.1, re⟩
    · have e2 : ¬ p.1 = k := fun z => e (kr.inj _ _ _ (z ▸ hx.1) hk)
      rw [if_neg e, if_neg e2]
      exact hx
theorem kv_put {kvs : List (SD × SD)} {ps : List (κ × V)} (r : Paired (PR K H R) kvs ps) {d e : SD} {k : κ} {v : V} (hk : R d k) (re : Rep K H e v) : Paired (PR K H R) (M.kvPut kvs d e) (putK ps k v) := by
  unfold M.kvPut putK
  rw [kv_any kr r hk]
  by_cases z : (ps.any fun kv => decide (kv.1 = k)) = true
  · rw [if_pos z, if_pos z]; exact kv_repl kr r hk re
  · rw [if_neg z, if_neg z]; exact Paired.snoc r ⟨hk, re⟩
end
def R0 : SD → Key → Prop := fun d k => keyV d = some k ∧ ∀ s, d = .str s → sOk s
theorem kr0 : KeyRel Key K H R0 := ⟨fun a b k h1 h2 => keyV_inj h1.1 h2.1, fun a k k' h1 h2 => Option.some.inj (h1.1.symm.trans h2.1)⟩
theorem dct0 {p : Addr} {kvs : List (SD × SD)} : ObRep K H p (.dct 0 kvs) ↔ ∃ ps : List (Key × V), H p = some (.dK ps) ∧ Paired (PR K H R0) kvs ps :=
  ⟨fun ⟨ps, e, r⟩ => ⟨ps, e, Paired.mapP r fun _ _ z => ⟨⟨z.1, z.2.1⟩, z.2.2⟩⟩, fun ⟨ps, e, r⟩ => ⟨ps, e, Paired.mapP r fun _ _ z => ⟨z.1.1, z.1.2, z.2⟩⟩⟩
/-- what a dict says of a key -/
theorem dget_ok {p : Addr} {kd : Nat} {kvs : List (SD × SD)} {d : SD} {v : V} (o : ObRep K H p (.dct kd kvs)) (kk : M.keyOk kd d = true) (r : Rep K H d v) :
    ∃ ov, DGet H p v ov ∧ ((M.kvGet kvs d = none ∧ ov = none) ∨ ∃ e w, M.kvGet kvs d = some e ∧ ov = some w ∧ Rep K H e w) := by
  match kd, o, kk with
  | 0, o, kk =>
    obtain ⟨ps, e, pr⟩ := dct0.mp o
    obtain ⟨k, ek⟩ := keyOk0 kk
    have ev := keyV_rep ek r
    subst ev
    refine ⟨valV ps k, DGet.k e, ?_⟩
    exact (kv_get kr0 pr ⟨ek, rep_str r⟩).imp (fun z => z) (fun ⟨e, v, a, b, c⟩ => ⟨e, v, a, b, c⟩)
theorem rdct0 {p : Addr} {kvs : List (SD × SD)} : ObRep K H p (.rdct 0 kvs) ↔ ∃ (od : Obj) (ps : List (Key × V)), H p = some (.frz od (.dK ps)) ∧ Paired (PR K H R0) kvs ps :=
  ⟨fun ⟨od, ps, e, r⟩ => ⟨od, ps, e, Paired.mapP r fun _ _ z => ⟨⟨z.1, z.2.1⟩, z.2.2⟩⟩, fun ⟨od, ps, e, r⟩ => ⟨od, ps, e, Paired.mapP r fun _ _ z => ⟨z.1.1, z.1.2, z.2⟩⟩⟩
theorem rd_dct {p : Addr} {kd : Nat} {kvs : List (SD × SD)} (o : ObRep K H p (.dct kd kvs) ∨ ObRep K H p (.rdct kd kvs)) : kd = 0 ∧ ∃ ps : List (Key × V), Rd H p (.dK ps) ∧ Paired (PR K H R0) kvs ps := by
  rcases o with o | o
  · match kd, o with
    | 0, o => obtain ⟨ps, e, pr⟩ := dct0.mp o; exact ⟨rfl, ps, .inl e, pr⟩
  · match kd, o with
    | 0, o => obtain ⟨od, ps, e, pr⟩ := rdct0.mp o; exact ⟨rfl, ps, .inr ⟨od, e⟩, pr⟩
theorem dget_rok {p : Addr} {kd : Nat} {kvs : List (SD × SD)} {d : SD} {v : V} (o : ObRep K H p (.rdct kd kvs)) (kk : M.keyOk kd d = true) (r : Rep K H d v) :
    ∃ ov, DGet H p v ov ∧ ((M.kvGet kvs d = none ∧ ov = none) ∨ ∃ e w, M.kvGet kvs d = some e ∧ ov = some w ∧ Rep K H e w) := by
  obtain ⟨rfl, ps, e, pr⟩ := rd_dct (.inr o)
  obtain ⟨k, ek⟩ := keyOk0 kk
  have ev := keyV_rep ek r
  subst ev
  refine ⟨valV ps k, .inl ⟨ps, k, e, rfl, rfl⟩, ?_⟩
  exact (kv_get kr0 pr ⟨ek, rep_str r⟩).imp (fun z => z) (fun ⟨e, v, a, b, c⟩ => ⟨e, v, a, b, c⟩)
theorem dput_ok {p : Addr} {kd : Nat} {kvs : List (SD × SD)} {d e : SD} {v w : V} (o : ObRep K H p (.dct kd kvs)) (kk : M.keyOk kd d = true) (r : Rep K H d v) (re : Rep K H e w) (hz : kvs.length < M.LINE) (hp : h p = some (.dct kd kvs)) (rh : RH K H h) :
    ∃ H', DPut H p v w H' ∧ Frm H h H' (M.up h p (.dct kd (M.kvPut kvs d e))) ∧ RH K H' (M.up h p (.dct kd (M.kvPut kvs d e))) := by
  match kd, o, kk, hp with
  | 0, o, kk, hp =>
    obtain ⟨ps, e1, pr⟩ := dct0.mp o
    obtain ⟨k, ek⟩ := keyOk0 kk
    have ev := keyV_rep ek r
    subst ev
    have hl := line_eq
    have hn := Paired.length pr
    refine ⟨_, DPut.k e1 (by omega), frm_put hp, rh_put rh hp ?_⟩
    refine dct0.mpr ⟨_, upd_same, ?_⟩
    have kp : Kp H (upd H p (.dK (putK ps k w))) := kp_put rh hp
    exact Paired.mapP (kv_put kr0 pr ⟨ek, rep_str r⟩ re) fun _ _ z => ⟨z.1, z.2.kp kp⟩

/-! == of what holds lists and dicts -/
def rEqS (K : Fr) : R2 := fun x y H Q => ∃ (h : M.AH) (a b : SD) (r : Bool), RH K H h ∧ Rep K H a x ∧ Rep K H b y ∧ M.EqS (M.EqD 20 h) h a b r ∧ Q (.bl r) H
section
variable {X : L2.Cx} {pins : List (Addr × Obj)} {σ : L2.St} {s : Shared}
theorem all2_run {A : Around} {R : SD → SD → Prop} (ih : ∀ a b x y v u, R a b → Rep X.F H a x → Rep X.F H b y → RelV x v → RelV y u → SeqAt.EqP X.prog X.w A s v u true) : ∀ {as bs : List SD} {xs ys : List V} {us ws : List Value}, M.All2 R as bs → Reps X.F H as xs → Reps X.F H bs ys → Vals xs us → Vals ys ws →
    us.length = ws.length ∧ ∀ j (h1 : j < us.length) (h2 : j < ws.length), SeqAt.EqP X.prog X.w A s us[j] ws[j] true
  | [], [], _, _, _, _, _, r1, r2, v1, v2 => by
    cases (show _ = _ from r1); cases (show _ = _ from r2)
    cases v1; cases v2
    exact ⟨rfl, fun j h1 => absurd h1 (Nat.not_lt_zero j)⟩
  | [], _ :: _, _, _, _, _, h, _, _, _, _ => h.elim
  | _ :: _, [], _, _, _, _, h, _, _, _, _ => h.elim
  | a :: as, b :: bs, _, _, _, _, ⟨h1, h2⟩, ⟨v, r, e, a1, a2⟩, ⟨v', r', e', b1, b2⟩, v1, v2 => by
    subst e; subst e'
    cases v1 with
    | cons p1 p2 => cases v2 with
      | cons q1 q2 =>
        obtain ⟨l, k⟩ := all2_run ih h2 a2 b2 p2 q2
        refine ⟨by simp [l], fun j j1 j2 => ?_⟩
        cases j with
        | zero => exact ih _ _ _ _ _ _ h1 a1 b1 p1 q1
        | succ j => exact k j (Nat.lt_of_succ_lt_succ j1) (Nat.lt_of_succ_lt_succ j2)
theorem hitsD_run (I : Inv X pins σ H s) {A : Around} {R : SD → SD → Bool → Prop} (ih : ∀ a b x y v u r, R a b r → Rep X.F H a x → Rep X.F H b y → RelV x v → RelV y u → SeqAt.EqP X.prog X.w A s v u r) {kws : List (SD × SD)} {ls : List (Key × V)} {vb : List (Key × Value)} (pb : Paired (PR X.F H R0) kws ls) (rb : KV ls vb) :
    ∀ {kvs : List (SD × SD)} {ks : List (Key × V)} {va : List (Key × Value)} {r : Bool}, M.HitsD R kws kvs r → Paired (PR X.F H R0) kvs ks → KV ks va → PySem.W.KeqHitsP X.prog X.w A s vb va r
  | [], _, _, r, h, pa, ra => by
    cases pa
    unfold KV at ra
    cases ra
    rw [show r = true from h]
    exact .nil
  | kv :: kvs, _, _, r, h, pa, ra => by
    cases pa with
    | @cons _ p _ ps hp tp =>
      unfold KV at ra
      cases ra with
      | @cons _ q _ qs hq tq =>
        obtain ⟨h1, h2⟩ := hq
        obtain ⟨key, v⟩ := q
        have h1' : p.1 = key := h1
        subst h1'
        have look := rb.val p.1
        have kg := kv_get kr0 pb (d := kv.1) (k := p.1) hp.1
        rcases h with ⟨e, rfl⟩ | ⟨u, e, r', e1, e2, e3, rfl⟩
        · rcases kg with ⟨_, g2⟩ | ⟨_, _, g1, _⟩
          · rw [g2] at look
            refine .miss ?_
            have := look.isSome_eq
            cases z : valueAt vb p.1 with
            | none => rfl
            | some _ => rw [z] at this; cases this
          · rw [e] at g1; cases g1
        · rcases kg with ⟨g1, _⟩ | ⟨d, w, g1, g2, g3⟩
          · rw [e1] at g1; cases g1
          · rw [e1] at g1; cases g1
            rw [g2] at look
            obtain ⟨y, hy, ry⟩ := look.some_of
            exact .hit hy (ih _ _ _ _ _ _ _ e2 hp.2 g3 h2 ry) (hitsD_run I ih pb rb e3 tp tq)
theorem eqS_run (I : Inv X pins σ H s) (rh : RH X.F H h) {A : Around} {R : SD → SD → Bool → Prop} (hu : A.units < cLine) (ih : ∀ a b x y v u r, R a b r → Rep X.F H a x → Rep X.F H b y → RelV x v → RelV y u → SeqAt.EqP X.prog X.w A.in1 s v u r) {a b : SD} {x y : V} {v u : Value} {r : Bool}
    (q : M.EqS R h a b r) (ra : Rep X.F H a x) (rb : Rep X.F H b y) (rx : RelV x v) (ry : RelV y u) (E Q : Value → Shared → Prop) (k : Q (.bool r) s) : wpAny (model X.prog X.w) A (richCompare .Eq v u) Q E s := by
  have ih2 : ∀ a b x y v u, R a b true → Rep X.F H a x → Rep X.F H b y → RelV x v → RelV y u → SeqAt.EqP X.prog X.w A.in1 s v u true := fun a b x y v u z => ih a b x y v u true z
  rcases q with ⟨xs, ys, rfl, rfl, al, rfl⟩ | ⟨p, q, xs, ys, rfl, rfl, ne, e1, e2, al, rfl⟩ | ⟨p, q, kvs, kws, r', rfl, rfl, ne, e1, e2, hits, rfl⟩
  · obtain ⟨a1, vs, e1, t1, s1⟩ := ra
    obtain ⟨a2, ws, e2, t2, s2⟩ := rb
    subst e1; subst e2
    cases (show v = Value.ref a1 from rx); cases (show u = Value.ref a2 from ry)
    obtain ⟨us1, w1, p1, _⟩ := I.tuple (show SqT X.F H a1 vs from t1.imp .inl id)
    obtain ⟨us2, w2, p2, _⟩ := I.tuple (show SqT X.F H a2 ws from t2.imp .inl id)
    obtain ⟨l, k2⟩ := all2_run ih2 al s1 s2 w1 w2
    refine GQ.rc_tupG (items := us1.toArray) (items2 := us2.toArray) (by simpa using l) hu (fun _ s' => s' = s) p1 p2 (fun i h1 h2 s' e => ?_) (fun s' e => by rw [e]; exact k) rfl
    subst e
    have := k2 i (by simpa using h1) (by simpa using h2) E (fun r s'' => r = true ∧ s'' = s') ⟨rfl, rfl⟩
    simpa using this
  · cases (show x = _ from ra); cases (show y = _ from rb)
    cases (show v = Value.ref p from rx); cases (show u = Value.ref q from ry)
    obtain ⟨vs, a1, r1⟩ := rh p _ e1
    obtain ⟨ws, a2, r2⟩ := rh q _ e2
    obtain ⟨us1, w1, p1, _⟩ := I.list (SqL.of (K := X.F) a1)
    obtain ⟨us2, w2, p2, _⟩ := I.list (SqL.of (K := X.F) a2)
    obtain ⟨l, k2⟩ := all2_run ih2 al r1 r2 w1 w2
    refine SeqAt.rcP_lists (e := fun _ => true) p1.isList p2.isList (by simpa using l) hu (fun j h1 h2 => ?_) E Q ?_
    · have := k2 j (by simpa using h1) (by simpa using h2)
      simpa using this
    · rw [show ((List.range us1.toArray.size).all fun _ => true) = true from List.all_eq_true.mpr fun _ _ => rfl]
      exact k
  · cases (show x = _ from ra); cases (show y = _ from rb)
    cases (show v = Value.ref p from rx); cases (show u = Value.ref q from ry)
    obtain ⟨ks, a1, pa⟩ := dct0.mp (rh p _ e1)
    obtain ⟨ls, a2, pb⟩ := dct0.mp (rh q _ e2)
    obtain ⟨_, ya, va, ka, da⟩ := dk_of I.hok a1
    obtain ⟨_, yb, vb, kb, db⟩ := dk_of I.hok a2
    have n1 : kvs.length = va.length := (Paired.length pa).trans ka.length
    have n2 : kws.length = vb.length := (Paired.length pb).trans kb.length
    refine PySem.W.rcP_dicts (knd := mixKind X.prog X.w) (r := r') ya yb da db hu (fun hl => hitsD_run I ih pb kb (hits (by omega)) pa ka) E Q ?_
    rw [← n1, ← n2]
    exact k
theorem eqD_run (I : Inv X pins σ H s) (rh : RH X.F H h) : ∀ (n : Nat) (A : Around), A.units + n + 179 < cLine → ∀ (a b : SD) (x y : V) (v u : Value) (r : Bool), M.EqD n h a b r → Rep X.F H a x → Rep X.F H b y → RelV x v → RelV y u → SeqAt.EqP X.prog X.w A s v u r
  | 0, _, _, _, _, _, _, _, _, _, h, _, _, _, _ => (show False from h).elim
  | n + 1, A, hu, a, b, x, y, v, u, r, q, ra, rb, rx, ry => by
    rcases q with ⟨p1, p2, dp, rfl⟩ | ⟨p, rfl, rfl, rfl⟩ | q
    · obtain ⟨as, r1⟩ := Dp.reads I _ x v (rep_dp p1 ra) rx
      obtain ⟨bs, r2⟩ := Dp.reads I _ y u (rep_dp p2 rb) ry
      rw [← eqv_py a b p1 p2]
      refine (SeqAt.eqAt_reads _ _ A s v u as bs r1 r2 (rep_can p1 ra) (rep_can p2 rb) ?_).eqP
      have : min (toPy a).depth (toPy b).depth ≤ 170 + n := by
        rcases dp with dp | dp
        · exact Nat.le_trans (Nat.min_le_left _ _) (py_depth _ _ dp)
        · exact Nat.le_trans (Nat.min_le_right _ _) (py_depth _ _ dp)
      omega
    · cases (show x = _ from ra); cases (show y = _ from rb)
      cases (show v = Value.ref p from rx); cases (show u = Value.ref p from ry)
      exact (SeqAt.EqAt.same _).eqP
    · have step := fun E Q k => eqS_run I rh (A := A) (by omega) (fun a b x y v u r z => eqD_run I rh n A.in1 (by show A.units + 1 + n + 179 < cLine; omega) a b x y v u r z) q ra rb rx ry E Q k
      rcases q with ⟨xs, ys, rfl, rfl, al, rfl⟩ | ⟨p, q, xs, ys, rfl, rfl, ne, e1, e2, al, rfl⟩ | ⟨p, q, kvs, kws, r', rfl, rfl, ne, e1, e2, hits, rfl⟩
      · obtain ⟨a1, vs, e1, t1, s1⟩ := ra
        obtain ⟨a2, ws, e2, t2, s2⟩ := rb
        subst e1; subst e2
        cases (show v = Value.ref a1 from rx); cases (show u = Value.ref a2 from ry)
        by_cases e : a1 = a2
        · subst e; exact (SeqAt.EqAt.same _).eqP
        · exact SeqAt.eqP_refs e step
      · cases (show x = _ from ra); cases (show y = _ from rb)
        cases (show v = Value.ref p from rx); cases (show u = Value.ref q from ry)
        exact SeqAt.eqP_refs ne step
      · cases (show x = _ from ra); cases (show y = _ from rb)
        cases (show v = Value.ref p from rx); cases (show u = Value.ref q from ry)
        exact SeqAt.eqP_refs ne step
end
theorem op_eqS {X : L2.Cx} (hu : X.A.units + 200 < cLine) : OpR X (compareOp .Eq) (rEqS X.F) := by
  intro pins s σ H x y v u Q I rx ry h
  obtain ⟨hh, a, b, r, rh, ra, rb, e, q⟩ := h
  exact eqS_run I rh (A := X.A) (by omega) (fun a b x y v u r z => eqD_run I rh 20 X.A.in1 (by show X.A.units + 1 + 20 + 179 < cLine; omega) a b x y v u r z) e ra rb rx ry _ _ ⟨.bl r, H, I, rfl, q⟩
/-! != of two dicts -/
def rNeS (K : Fr) : R2 := fun x y H Q => ∃ (h : M.AH) (a b : SD), RH K H h ∧ Rep K H a x ∧ Rep K H b y ∧ M.neD a b h fun r => Q (.bl r) H
theorem ne_dicts {κ : Type} [DecidableEq κ] {prog : Program} {w : World} {knd : PySem.KeyKind prog w κ} {A : Around} {s : Shared} {a b : Addr} {ka kb : List (κ × Value)} {r : Bool} (ha : (a == sysModules) = false) (hb : (b == sysModules) = false)
    (da : s.heap.DictOf knd a ka) (db : s.heap.DictOf knd b kb) (hu : A.units < cLine) (hits : ka.length = kb.length → PySem.W.KeqHitsP prog w A.in1 s kb ka r) {E Q : Value → Shared → Prop} (h : Q (.bool (!(ka.length == kb.length && r))) s) : wpAny (model prog w) A (compareOp .NotEq (.ref a) (.ref b)) Q E s := by
  have e1 := F.slot_dict_ne
  refine wpAny_richCompare_same_room (op := .NotEq) da.typeIs db.typeIs e1 (wpAny_call_entry e1 da.typeIs F.entry_dict_ne ?_ (F.args_dict_ne_2 _ _)) hu
  show wpAny _ _ (Builtin.Dict.dictSlotArgs "__ne__" ⟨[.ref a, .ref b], []⟩ >>= _) _ _ s
  refine wpAny_bind ?_
  unfold Builtin.Dict.dictSlotArgs
  refine wpAny_bind (wpAny_notOrdered_dict da.typeIs ?_)
  show wpAny _ _ (pure (Value.ref a, Value.ref b)) _ _ s
  refine wpAny_pure (wpAny_bind (wpAny_isInstance (T := "dict") db.typeIs F.sub_dict_dict ?_))
  simp only [Bool.not_true, Bool.false_eq_true, if_false]
  refine wpAny_bind (wpAny_pure (wpAny_bind (wpAny_pure (wpAny_bind (PySem.W.samePairsP ha hb da db hits ?_)))))
  refine wpAny_pure ⟨_, rfl, (fun x => nomatch x), ?_⟩
  simpa using h
theorem op_neS {X : L2.Cx} (hu : X.A.units + 200 < cLine) : OpR X (compareOp .NotEq) (rNeS X.F) := by
  intro pins s σ H x y v u Q I rx ry h
  obtain ⟨hh, a, b, rh, ra, rb, p, q, kvs, kws, r', rfl, rfl, e1, e2, hits, q0⟩ := h
  cases (show x = _ from ra); cases (show y = _ from rb)
  cases (show v = Value.ref p from rx); cases (show u = Value.ref q from ry)
  obtain ⟨ks, a1, pa⟩ := dct0.mp (rh p _ e1)
  obtain ⟨ls, a2, pb⟩ := dct0.mp (rh q _ e2)
  obtain ⟨_, ya, va, ka, da⟩ := dk_of I.hok a1
  obtain ⟨_, yb, vb, kb, db⟩ := dk_of I.hok a2
  have n1 : kvs.length = va.length := (Paired.length pa).trans ka.length
  have n2 : kws.length = vb.length := (Paired.length pb).trans kb.length
  refine ne_dicts (knd := mixKind X.prog X.w) (r := r') ya yb da db (by omega) (fun hl => hitsD_run I (fun a b x y v u r z => eqD_run I rh 20 X.A.in1 (by show X.A.units + 1 + 20 + 179 < cLine; omega) a b x y v u r z) pb kb (hits (by omega)) pa ka) ?_
  rw [← n1, ← n2]
  exact ⟨.bl _, H, I, rfl, q0⟩
/-! ### dicts with nested keys -/
mutual
theorem nK_inj : ∀ (a b : SD), M.pureD a = true → M.pureD b = true → nK a = nK b → a = b
  | .non, b, _, q, e => by cases b <;> simp [M.pureD, nK] at q e ⊢
  | .int i, b, _, q, e => by cases b <;> simp [M.pureD, nK] at q e ⊢; exact e
  | .str s, b, _, q, e => by cases b <;> simp [M.pureD, nK] at q e ⊢; exact sV_inj e
  | .tup xs, b, p, q, e => by
    cases b <;> simp [M.pureD, nK] at p q e ⊢
    exact nKs_inj xs _ p q e
  | .bl _, _, p, _, _ => by simp [M.pureD] at p
  | .ref _, _, p, _, _ => by simp [M.pureD] at p
  | .rol _, _, p, _, _ => by simp [M.pureD] at p
theorem nKs_inj : ∀ (as bs : List SD), M.pureDs as = true → M.pureDs bs = true → nKs as = nKs bs → as = bs
  | [], bs, _, _, e => by cases bs <;> simp [nKs] at e ⊢
  | a :: as, bs, p, q, e => by
    cases bs with
    | nil => simp [nKs] at e
    | cons b bs =>
      simp only [M.pureDs, Bool.and_eq_true] at p q
      simp only [nKs, List.cons.injEq] at e ⊢
      exact ⟨nK_inj a b p.1 q.1 e.1, nKs_inj as bs p.2 q.2 e.2⟩
end
mutual
theorem nk_depth : ∀ (n : Nat) (d : SD), M.plain n d = true → (nK d).depth ≤ n
  | _, .non, _ => by simp [nK, NestedKey.depth]
  | _, .int _, _ => by simp [nK, NestedKey.depth]
  | _, .str _, _ => by simp [nK, NestedKey.depth]
  | _, .bl _, _ => by simp [nK, NestedKey.depth]
  | _, .ref _, _ => by simp [nK, NestedKey.depth]
  | _, .rol _, _ => by simp [nK, NestedKey.depth]
  | 0, .tup ds, h => by simp [M.plain] at h
  | n + 1, .tup ds, h => by
    simp only [M.plain] at h
    simp only [nK, NestedKey.depth]
    exact Nat.succ_le_succ (nks_depth n ds h)
theorem nks_depth : ∀ (n : Nat) (ds : List SD), M.plains n ds = true → NestedKey.depthAll (nKs ds) ≤ n
  | _, [], _ => by simp [nKs, NestedKey.depthAll]
  | n, d :: ds, h => by
    simp only [M.plains, Bool.and_eq_true] at h
    simp only [nKs, NestedKey.depthAll]
    exact Nat.max_le.mpr ⟨nk_depth n d h.1, nks_depth n ds h.2⟩
end
section
variable {X : L2.Cx} {pins : List (Addr × Obj)} {σ : L2.St} {s : Shared}
mutual
theorem rep_ni (I : Inv X pins σ H s) : ∀ (d : SD) (v : V) (u : Value), M.pureD d = true → Rep X.F H d v → RelV v u → NestedIs s.heap (nK d) u
  | .non, v, u, _, r, ru => by cases (show v = _ from r); cases (show u = _ from ru); exact .none
  | .int i, v, u, _, r, ru => by
    cases (show v = _ from r)
    obtain ⟨t, rfl⟩ := (show ∃ t, u = Value.int i t from ru)
    exact .int i t
  | .str x, v, u, _, r, ru => by
    cases (show v = _ from r.1)
    obtain ⟨t, rfl⟩ := (show ∃ t, u = Value.str (sV x) t from ru)
    exact .text _ t
  | .tup ds, v, u, p, ⟨a, vs, e, t, rs⟩, ru => by
    subst e
    cases (show u = Value.ref a from ru)
    obtain ⟨us, w, ⟨o, h1, h2, n, h3⟩, _⟩ := I.tuple (show SqT X.K H a vs from t.imp .inl id)
    exact .tup h1 h2 h3 (reps_ni I ds vs us (by simpa only [M.pureD] using p) rs w)
  | .bl _, _, _, p, _, _ => by simp [M.pureD] at p
  | .ref _, _, _, p, _, _ => by simp [M.pureD] at p
  | .rol _, _, _, p, _, _ => by simp [M.pureD] at p
theorem reps_ni (I : Inv X pins σ H s) : ∀ (ds : List SD) (vs : List V) (us : List Value), M.pureDs ds = true → Reps X.F H ds vs → Vals vs us → NestedAll s.heap (nKs ds) us
  | [], vs, us, _, r, w => by cases (show vs = [] from r); cases w; exact .nil
  | d :: ds, _, us, p, ⟨v, r, e, a, b⟩, w => by
    subst e
    simp only [M.pureDs, Bool.and_eq_true] at p
    cases w with
    | cons w1 w2 => exact .cons (rep_ni I d v _ p.1 a w1) (reps_ni I ds r _ p.2 b w2)
end
theorem nk_pure {d : SD} (h : M.nkOk d = true) : M.pureD d = true ∧ M.plain 8 d = true := by
  cases d with
  | tup ds =>
    simp only [M.nkOk, Bool.and_eq_true] at h
    exact ⟨by simp only [M.pureD]; exact h.1, by simp only [M.plain]; exact h.2⟩
  | _ => simp [M.nkOk] at h
theorem nk_is (I : Inv X pins σ H s) {d : SD} {a : Addr} (h : M.nkOk d = true) (r : Rep X.F H d (.ref a)) : (nestedKind X.prog X.w).is s.heap (nK d) a :=
  ⟨rep_ni I d _ _ (nk_pure h).1 r rfl, nk_depth 8 d (nk_pure h).2⟩
end
abbrev PN (K : Fr) (H : Hp) := fun (x : SD × SD) (p : NestedKey × Addr × V) => p.1 = nK x.1 ∧ M.nkOk x.1 = true ∧ Rep K H x.1 (.ref p.2.1) ∧ Rep K H x.2 p.2.2
abbrev PY := fun (p : NestedKey × Addr × V) (q : NestedKey × Addr × Value) => p.1 = q.1 ∧ p.2.1 = q.2.1 ∧ RelV p.2.2 q.2.2
def putX (k : NestedKey) (v : V) (x : NestedKey × Addr × V) : NestedKey × Addr × V := if x.1 = k then (x.1, x.2.1, v) else x
def storedX (xs : List (NestedKey × Addr × V)) (k : NestedKey) (a : Addr) (v : V) : List (NestedKey × Addr × V) := if (xs.any fun x => decide (x.1 = k)) = true then xs.map (putX k v) else xs ++ [(k, a, v)]
theorem storedX_len {xs : List (NestedKey × Addr × V)} {k : NestedKey} {a : Addr} {v : V} : (storedX xs k a v).length ≤ xs.length + 1 := by
  unfold storedX
  split <;> simp
theorem ent_any {xs : List (NestedKey × Addr × V)} {ys : List (NestedKey × Addr × Value)} (r : Paired PY xs ys) (k : NestedKey) : (xs.any fun x => decide (x.1 = k)) = (atKey ys k).isSome := by
  induction r with
  | nil => rfl
  | @cons p q ps qs h t ih =>
    rw [List.any_cons, ih]
    unfold atKey
    rw [List.find?_cons]
    by_cases e : q.1 = k
    · simp [h.1, e]
    · simp [h.1, e]
theorem ent_stored {xs : List (NestedKey × Addr × V)} {ys : List (NestedKey × Addr × Value)} (r : Paired PY xs ys) (k : NestedKey) (a : Addr) {v : V} {u : Value} (ru : RelV v u) : Paired PY (storedX xs k a v) (storedH ys k a u) := by
  unfold storedX storedH
  rw [ent_any r k]
  split
  · have rep : ∀ {ps qs}, Paired PY ps qs → Paired PY (ps.map (putX k v)) (qs.map (putAt k u)) := by
      intro ps qs r
      induction r with
      | nil => exact .nil
      | @cons p q ps qs h t ih =>
        rw [List.map_cons, List.map_cons]
        refine .cons ?_ ih
        unfold putX putAt
        by_cases e : p.1 = k
        · rw [if_pos e, if_pos (h.1.symm.trans e)]; exact ⟨h.1, h.2.1, ru⟩
        · rw [if_neg e, if_neg (fun z => e (h.1.trans z))]; exact h
    exact rep r
  · exact Paired.snoc r ⟨rfl, rfl, ru⟩
theorem nkey_iff {d d' : SD} (h : M.nkOk d = true) (h' : M.nkOk d' = true) : nK d = nK d' ↔ d = d' := ⟨nK_inj _ _ (nk_pure h).1 (nk_pure h').1, fun e => by rw [e]⟩
theorem nk_get {kvs : List (SD × SD)} {xs : List (NestedKey × Addr × V)} {ys : List (NestedKey × Addr × Value)} (r : Paired (PN K H) kvs xs) (ry : Paired PY xs ys) {d : SD} (hd : M.nkOk d = true) :
    (M.kvGet kvs d = none ∧ atKey ys (nK d) = none) ∨ ∃ e v p, M.kvGet kvs d = some e ∧ atKey ys (nK d) = some p ∧ Rep K H e v ∧ RelV v p.2 := by
  induction r generalizing ys with
  | nil => cases ry; exact .inl ⟨rfl, rfl⟩
  | @cons x p ks ps h t ih =>
    cases ry with
    | @cons _ q _ qs hq tq =>
      by_cases e : x.1 = d
      · refine .inr ⟨x.2, p.2.2, q.2, by simp [M.kvGet, List.find?_cons, e], ?_, h.2.2.2, hq.2.2⟩
        have : q.1 = nK d := by rw [← hq.1, h.1, e]
        simp [atKey, List.find?_cons, this]
      · have ne : ¬ q.1 = nK d := fun z => e ((nkey_iff h.2.1 hd).mp (by rw [← h.1, hq.1, z]))
        have e3 : M.kvGet (x :: ks) d = M.kvGet ks d := by simp [M.kvGet, List.find?_cons, e]
        have e4 : atKey (q :: qs) (nK d) = atKey qs (nK d) := by simp [atKey, List.find?_cons, ne]
        rw [e3, e4]
        exact ih tq
theorem nk_put {kvs : List (SD × SD)} {xs : List (NestedKey × Addr × V)} (r : Paired (PN K H) kvs xs) {d e : SD} {a : Addr} {v : V} (hd : M.nkOk d = true) (rd : Rep K H d (.ref a)) (re : Rep K H e v) : Paired (PN K H) (M.kvPut kvs d e) (storedX xs (nK d) a v) := by
  have an : (kvs.any fun kv => decide (kv.1 = d)) = xs.any fun x => decide (x.1 = nK d) := by
    induction r with
    | nil => rfl
    | @cons x p ks ps h t ih =>
      rw [List.any_cons, List.any_cons, ih, h.1]
      congr 1
      rw [decide_eq_decide]
      exact (nkey_iff h.2.1 hd).symm
  unfold M.kvPut storedX
  rw [an]
  split
  · have rep : ∀ {ks ps}, Paired (PN K H) ks ps → Paired (PN K H) (ks.map fun kv => if kv.1 = d then (kv.1, e) else kv) (ps.map (putX (nK d) v)) := by
      intro ks ps r
      induction r with
      | nil => exact .nil
      | @cons x p ks ps h t ih =>
        rw [List.map_cons, List.map_cons]
        refine .cons ?_ ih
        unfold putX
        by_cases z : x.1 = d
        · rw [if_pos z, if_pos (by rw [h.1, z])]; exact ⟨h.1, h.2.1, h.2.2.1, re⟩
        · rw [if_neg z, if_neg (by rw [h.1]; exact fun y => z ((nkey_iff h.2.1 hd).mp y))]; exact h
    exact rep r
  · exact Paired.snoc r ⟨rfl, hd, rd, re⟩
section
variable {X : L2.Cx} {pins : List (Addr × Obj)} {σ : L2.St} {s : Shared}
theorem ent_ok {h1 h2 : Heap} {P : Program} {w : World} {a : Addr} {xs : List (NestedKey × Addr × V)} (e : EntO P w a xs h1) (st : ∀ o, h1.get? a = some o → h2.get? a = some o) : EntO P w a xs h2 := by
  obtain ⟨z, y, ys, r, o, es, ep, g, q⟩ := e
  exact ⟨z, y, ys, r, o, es, ep, st _ g, q⟩
theorem ent_dict (I : Inv X pins σ H s) {p : Addr} {kvs : List (SD × SD)} {xs : List (NestedKey × Addr × V)} (e : H p = some (.ext (EntO X.prog X.w p xs))) (pr : Paired (PN X.F H) kvs xs) :
    xs.length ≤ sizeLine ∧ (p == sysModules) = false ∧ ∃ ys, Paired PY xs ys ∧ s.heap.DictOfH (nestedKind X.prog X.w) p ys := by
  obtain ⟨⟨z, y, ys, r, o, es, ep, g, c, dd, ee, nd⟩, _⟩ := I.hok p _ e
  refine ⟨z, y, ys, r, o, es, ep, g, c, dd, ee, ?_, nd⟩
  have all : ∀ {ks ps qs}, Paired (PN X.F H) ks ps → Paired PY ps qs → ∀ q ∈ qs, (nestedKind X.prog X.w).is s.heap q.1 q.2.1 := by
    intro ks ps qs r
    induction r generalizing qs with
    | nil => intro r2; cases r2; exact fun q hq => nomatch hq
    | @cons x p ks ps h t ih =>
      intro r2
      cases r2 with
      | @cons _ q _ qs hq tq =>
        intro q' hq'
        rcases List.mem_cons.mp hq' with e | hq'
        · subst e
          rw [← hq.1, ← hq.2.1, h.1]
          exact nk_is I h.2.1 h.2.2.1
        · exact ih tq q' hq'
  exact all pr r
def rNin (K : Fr) (neg : Bool) : R2 := fun x y H Q => ∃ a kvs d b, y = .ref a ∧ x = .ref b ∧ ObRep K H a (.dcn kvs) ∧ M.nkOk d = true ∧ Rep K H d x ∧ Q (.bl (if neg then !(M.kvGet kvs d).isSome else (M.kvGet kvs d).isSome)) H
theorem op_nin {X : Cx} (hu : X.A.units + 200 < cLine) : OpR X (compareOp .In) (rNin X.F false) := by
  intro pins s σ H x y v u Q I rx ry h
  obtain ⟨a, kvs, d, b, rfl, rfl, ⟨xs, e, pr⟩, hd, rd, q⟩ := h
  obtain rfl : u = Value.ref a := ry
  obtain rfl : v = Value.ref b := rx
  obtain ⟨z, hy, ys, py, dd⟩ := ent_dict I e pr
  refine wpAny_in_heap (knd := nestedKind X.prog X.w) (by show X.A.units + 1 + 8 < cLine; omega) (nk_is I hd rd) hy dd ?_
  refine ⟨.bl _, H, I.tok _, rfl, ?_⟩
  rcases nk_get pr py hd with ⟨e1, e2⟩ | ⟨_, _, _, e1, e2, _⟩
  · rw [e1] at q; rw [e2]; exact q
  · rw [e1] at q; rw [e2]; exact q
theorem op_nnotin {X : Cx} (hu : X.A.units + 200 < cLine) : OpR X (compareOp .NotIn) (rNin X.F true) := by
  intro pins s σ H x y v u Q I rx ry h
  obtain ⟨a, kvs, d, b, rfl, rfl, ⟨xs, e, pr⟩, hd, rd, q⟩ := h
  obtain rfl : u = Value.ref a := ry
  obtain rfl : v = Value.ref b := rx
  obtain ⟨z, hy, ys, py, dd⟩ := ent_dict I e pr
  refine wpAny_notIn_heap (knd := nestedKind X.prog X.w) (by show X.A.units + 1 + 8 < cLine; omega) (nk_is I hd rd) hy dd ?_
  refine ⟨.bl _, H, I.tok _, rfl, ?_⟩
  rcases nk_get pr py hd with ⟨e1, e2⟩ | ⟨_, _, _, e1, e2, _⟩
  · rw [e1] at q; rw [e2]; exact q
  · rw [e1] at q; rw [e2]; exact q
end
/-! ### comparisons -/
def cop : M.Cop → CmpOp
  | .eq => .Eq | .ne => .NotEq | .lt => .Lt | .le => .LtE | .gt => .Gt | .ge => .GtE | .isin => .In | .notin => .NotIn | .is_ => .Is | .isnt => .IsNot | .nes => .NotEq | .neb => .NotEq
def rLtS : R2 := fun x y H Q => ∃ i j, x = .str i ∧ y = .str j ∧ Q (.bl (decide (i.cps.toList < j.cps.toList))) H
def rCmp (K : Fr) : M.Cop → R2
  | .eq => fun x y H Q => (scal x y = true ∧ Q (.bl (decide (x = y))) H) ∨ rEqP K x y H Q ∨ rEqS K x y H Q
  | .ne => fun x y H Q => (scal x y = true ∧ Q (.bl (!decide (x = y))) H) ∨ rNeP K x y H Q
  | .lt => fun x y H Q => (rI0 fun i j => .bl (decide (i < j))) x y H Q ∨ rLtS x y H Q ∨ rLtD K x y H Q
  | .le => rI0 fun i j => .bl (decide (i ≤ j))
  | .gt => rI0 fun i j => .bl (decide (j < i))
  | .ge => rI0 fun i j => .bl (decide (j ≤ i))
  | .isin => fun x y H Q => rDin false x y H Q ∨ rLin K false x y H Q ∨ rIn K false x y H Q ∨ rNin K false x y H Q
  | .notin => fun x y H Q => rDin true x y H Q ∨ rLin K true x y H Q ∨ rIn K true x y H Q ∨ rNin K true x y H Q
  | .is_ => fun x y H Q => (y = .non ∧ Q (.bl (decide (x = .non))) H) ∨ rIsB x y H Q
  | .isnt => fun x y H Q => (y = .non ∧ Q (.bl (!decide (x = .non))) H) ∨ rNotB x y H Q
  | .nes => rNeS K
  | .neb => rNeP K
theorem op_cmp {X : Cx} (hu : X.A.units + 200 < cLine) (o : M.Cop) : OpR X (compareOp (cop o)) (rCmp X.F o) := by
  cases o
  · exact op_eq.or ((op_eqP hu).or (op_eqS hu))
  · exact op_ne.or (op_neP hu)
  · exact op_lt.or (op_lt_str.or (op_ltD hu))
  · exact op_le
  · exact op_gt
  · exact op_ge
  · exact (op_din (by omega)).or ((op_lin hu).or (op_in_seq.or (op_nin hu)))
  · exact (op_dnotin (by omega)).or ((op_lnotin hu).or (op_notIn_seq.or (op_nnotin hu)))
  · exact op_isN.or op_isBl
  · exact op_notN.or op_notBl
  · exact op_neS hu
  · exact op_neP hu
theorem rep_non {d : SD} {v : V} (r : Rep K H d v) : decide (v = .non) = decide (d = .non) := by
  cases d with
  | non => cases (show v = _ from r); simp
  | bl _ => cases (show v = _ from r); simp
  | int _ => cases (show v = _ from r); simp
  | str _ => cases (show v = _ from r.1); simp
  | ref _ => cases (show v = _ from r); simp
  | tup _ => obtain ⟨a, vs, e, _⟩ := r; subst e; simp
  | rol _ => obtain ⟨a, vs, e, _⟩ := r; subst e; simp
theorem flat_eq {a b : SD} {x y : V} (fa : M.flat a = true) (fb : M.flat b = true) (ra : Rep K H a x) (rb : Rep K H b y) : flatV x = true ∧ eqV x y = decide (a = b) := by
  cases a <;> simp [M.flat] at fa
  · cases (show x = _ from ra)
    cases b <;> simp [M.flat] at fb
    · cases (show y = _ from rb); simp [flatV, eqV]
    · cases (show y = _ from rb); simp [flatV, eqV]
    · cases (show y = _ from rb.1); simp [flatV, eqV]
  · cases (show x = _ from ra)
    cases b <;> simp [M.flat] at fb
    · cases (show y = _ from rb); simp [flatV, eqV]
    · cases (show y = _ from rb); simp [flatV, eqV, Bool.beq_eq_decide_eq]
    · cases (show y = _ from rb.1); simp [flatV, eqV]
  · cases (show x = _ from ra.1)
    cases b <;> simp [M.flat] at fb
    · cases (show y = _ from rb); simp [flatV, eqV]
    · cases (show y = _ from rb); simp [flatV, eqV]
    · cases (show y = _ from rb.1)
      simp only [flatV, eqV, Bool.beq_eq_decide_eq, decide_eq_decide, true_and, M.D.str.injEq]
      exact ⟨sV_inj, fun e => by rw [e]⟩
theorem flat_any {x : SD} {v : V} (fx : M.flat x = true) (rx : Rep K H x v) : ∀ {xs : List SD} {vs : List V}, xs.all M.flat = true → Reps K H xs vs → vs.all flatV = true ∧ inV v vs = xs.any fun y => decide (y = x)
  | [], vs, _, r => by cases (show vs = _ from r); exact ⟨rfl, rfl⟩
  | y :: ys, vs, fa, ⟨w, r, e, a, b⟩ => by
    subst e
    rw [List.all_cons] at fa
    obtain ⟨f1, f2⟩ := ba fa
    obtain ⟨h1, h2⟩ := flat_any fx rx f2 b
    obtain ⟨h3, h4⟩ := flat_eq f1 fx a rx
    refine ⟨by rw [List.all_cons, h3, h1]; rfl, ?_⟩
    show (w :: r).any _ = _
    rw [List.any_cons, List.any_cons, h4]
    exact congrArg _ h2
theorem mem_ok {neg : Bool} {dx dy : SD} {x y : V} {P : Bool → Prop} (rh : RH K H h) (rx : Rep K H dx x) (ry : Rep K H dy y) (q : M.memOk dx dy h P) (k : ∀ b, P b → Q (.bl (if neg then !b else b)) H) :
    rDin neg x y H Q ∨ rLin K neg x y H Q ∨ rIn K neg x y H Q ∨ rNin K neg x y H Q := by
  cases dy with
  | ref p =>
    cases (show y = _ from ry)
    simp only [M.memOk] at q
    cases e : h p with
    | none => rw [e] at q; exact q.elim
    | some o =>
      rw [e] at q
      cases o with
      | dct kd kvs =>
        obtain ⟨kk, q⟩ := q
        obtain ⟨ov, g, r⟩ := dget_ok (rh p _ e) kk rx
        refine .inl ⟨p, ov, rfl, g, k _ ?_⟩
        rcases r with ⟨e1, e2⟩ | ⟨_, _, e1, e2, _⟩
        · rw [e1] at q; rw [e2]; exact q
        · rw [e1] at q; rw [e2]; exact q
      | rdct kd kvs =>
        obtain ⟨kk, q⟩ := q
        obtain ⟨ov, g, r⟩ := dget_rok (rh p _ e) kk rx
        refine .inl ⟨p, ov, rfl, g, k _ ?_⟩
        rcases r with ⟨e1, e2⟩ | ⟨_, _, e1, e2, _⟩
        · rw [e1] at q; rw [e2]; exact q
        · rw [e1] at q; rw [e2]; exact q
      | lst xs =>
        obtain ⟨p1, p2, dp, q⟩ := q
        obtain ⟨vs, a1, r1⟩ := rh p _ e
        refine .inr (.inl ⟨toPy dx, toPys xs, rep_dp p1 rx, .lst (SqL.of a1) (reps_dp p2 r1), rep_can p1 rx, reps_can p2 r1, ?_, ?_⟩)
        · rcases dp with dp | dp
          · exact .inl (Nat.le_succ_of_le (py_depth _ _ dp))
          · exact .inr (Nat.le_succ_of_le (pys_depth _ _ dp))
        · rw [any_py xs dx p2 p1]
          exact k _ q
      | dcn kvs =>
        obtain ⟨kk, q⟩ := q
        have rx' := rx
        cases dx with
        | tup ds =>
          obtain ⟨b, vs, rfl, _⟩ := rx
          refine .inr (.inr (.inr ⟨p, kvs, _, b, rfl, rfl, rh p _ e, kk, rx', k _ q⟩))
        | _ => simp [M.nkOk] at kk
      | _ => exact q.elim
  | tup xs =>
    obtain ⟨a, vs, e, t, rs⟩ := ry
    subst e
    obtain ⟨f1, f2, q⟩ := q
    obtain ⟨h1, h2⟩ := flat_any f1 rx f2 rs
    refine .inr (.inr (.inl ⟨a, vs, rfl, .inr (t.imp .inl id), ?_, h1, ?_⟩))
    · exact (flat_eq f1 f1 rx rx).1
    · rw [h2]
      exact k _ q
  | _ => exact False.elim q
theorem cmpInt_inv {f : Int → Int → Bool} {dx dy : SD} {P : Bool → Prop} (q : M.cmpInt f dx dy P) : ∃ a b, dx = .int a ∧ dy = .int b ∧ P (f a b) := by
  cases dx with
  | int a => cases dy with
    | int b => exact ⟨a, b, rfl, rfl, q⟩
    | _ => exact False.elim q
  | _ => exact False.elim q
theorem cmpLt_inv {dx dy : SD} {P : Bool → Prop} (q : M.cmpLt dx dy P) : (∃ a b, dx = .int a ∧ dy = .int b ∧ P (decide (a < b))) ∨ (∃ a b, dx = .str a ∧ dy = .str b ∧ P (decide (a < b))) ∨ ∃ xs ys, dx = .tup xs ∧ dy = .tup ys ∧ M.cmpbs xs ys = true ∧ M.pureDs xs = true ∧ M.pureDs ys = true ∧ (M.plains 190 xs = true ∨ M.plains 190 ys = true) ∧ P (M.ltDs xs ys) := by
  cases dx with
  | int a => cases dy with
    | int b => exact .inl ⟨a, b, rfl, rfl, q⟩
    | _ => exact False.elim q
  | str a => cases dy with
    | str b => exact .inr (.inl ⟨a, b, rfl, rfl, q⟩)
    | _ => exact False.elim q
  | tup a => cases dy with
    | tup b => exact .inr (.inr ⟨a, b, rfl, rfl, q⟩)
    | _ => exact False.elim q
  | _ => exact False.elim q
theorem isNon_inv {dx dy : SD} {P : Bool → Prop} (q : M.isNon dx dy P) : (dy = .non ∧ P (decide (dx = .non))) ∨ ∃ a b, dx = .bl a ∧ dy = .bl b ∧ P (decide (a = b)) := by
  cases dy with
  | non => exact .inl ⟨rfl, q⟩
  | bl b => cases dx with
    | bl a => exact .inr ⟨a, b, rfl, rfl, q⟩
    | _ => exact False.elim q
  | _ => exact False.elim q
theorem bls_vals : ∀ {bs : List Bool} {vs : List V}, Reps K H (bs.map .bl) vs → vs = bs.map .bl
  | [], _, r => r
  | b :: bs, _, ⟨v, r, e, a, rr⟩ => by
    subst e
    rw [show v = .bl b from a, bls_vals rr]
    rfl
theorem bls_dp : ∀ bs : List Bool, DpAll K H (bs.map .bl) (bs.map .bool)
  | [] => .nil
  | b :: bs => .cons (.bl b) (bls_dp bs)
theorem bls_can : ∀ bs : List Bool, PyData.canLayAll0 (bs.map .bool) = true
  | [] => rfl
  | b :: bs => by
    show (PyData.canLay0 (.bool b) && PyData.canLayAll0 (bs.map .bool)) = true
    rw [bls_can bs]
    rfl
theorem bls_depth : ∀ bs : List Bool, PyData.depthAll (bs.map .bool) ≤ 1
  | [] => by simp [PyData.depthAll]
  | b :: bs => by
    have := bls_depth bs
    simp only [List.map_cons, PyData.depthAll, PyData.depth]
    omega
theorem bls_eqv : ∀ as bs : List Bool, PyData.eqvAll (as.map .bool) (bs.map .bool) = decide (as = bs)
  | [], [] => by simp [PyData.eqvAll]
  | [], _ :: _ => by simp [PyData.eqvAll]
  | _ :: _, [] => by simp [PyData.eqvAll]
  | a :: as, b :: bs => by
    simp only [List.map_cons, PyData.eqvAll, PyData.eqv, bls_eqv as bs, List.cons.injEq, Bool.decide_and, Bool.beq_eq_decide_eq]
theorem cmp_ok {o : M.Cop} {dx dy : SD} {x y : V} {P : Bool → Prop} (rh : RH K H h) (rx : Rep K H dx x) (ry : Rep K H dy y) (q : M.opCmp o dx dy h P) (k : ∀ b, P b → Q (.bl b) H) : rCmp K o x y H Q := by
  cases o with
  | eq =>
    simp only [M.opCmp] at q
    rcases q with q | ⟨r, q, qq⟩
    · rcases eqk rh rx ry q with ⟨a, b, rfl, rfl, q⟩ | ⟨d, e, h1, h2, h3, h4, h5, q⟩
      · exact .inl ⟨rfl, k _ (by simpa using q)⟩
      · exact .inr (.inl ⟨d, e, h1, h2, h3, h4, h5, k _ q⟩)
    · exact .inr (.inr ⟨h, dx, dy, r, rh, rx, ry, q, k _ qq⟩)
  | ne =>
    simp only [M.opCmp] at q
    rcases eqk rh rx ry q with ⟨a, b, rfl, rfl, q⟩ | ⟨d, e, h1, h2, h3, h4, h5, q⟩
    · exact .inl ⟨rfl, k _ (by simpa using q)⟩
    · exact .inr ⟨d, e, h1, h2, h3, h4, h5, k _ q⟩
  | lt =>
    simp only [M.opCmp] at q
    rcases cmpLt_inv q with ⟨a, b, rfl, rfl, q⟩ | ⟨a, b, rfl, rfl, q⟩ | ⟨a, b, rfl, rfl, c, p1, p2, dp, q⟩
    · cases (show x = _ from rx); cases (show y = _ from ry)
      exact .inl ⟨a, b, rfl, rfl, k _ q⟩
    · cases (show x = _ from rx.1); cases (show y = _ from ry.1)
      exact .inr (.inl ⟨_, _, rfl, rfl, k _ (by rw [sV_cps, sV_cps]; exact q)⟩)
    · have p1' : M.pureD (.tup a) = true := by simpa only [M.pureD] using p1
      have p2' : M.pureD (.tup b) = true := by simpa only [M.pureD] using p2
      refine .inr (.inr ⟨.tup a, .tup b, by simpa only [M.cmpb] using c, p1', p2', rep_can p1' rx, rep_can p2' ry, ?_, rep_dp p1' rx, rep_dp p2' ry, ?_⟩)
      · rcases dp with dp | dp
        · exact .inl (Nat.le_trans (py_depth 191 _ (by simpa only [M.plain] using dp)) (by omega))
        · exact .inr (Nat.le_trans (py_depth 191 _ (by simpa only [M.plain] using dp)) (by omega))
      · have e : M.ltD (.tup a) (.tup b) = M.ltDs a b := by simp only [M.ltD]
        rw [e]
        exact k _ q
  | le =>
    simp only [M.opCmp] at q
    obtain ⟨a, b, rfl, rfl, q⟩ := cmpInt_inv q
    cases (show x = _ from rx); cases (show y = _ from ry)
    exact ⟨a, b, rfl, rfl, k _ q⟩
  | gt =>
    simp only [M.opCmp] at q
    obtain ⟨a, b, rfl, rfl, q⟩ := cmpInt_inv q
    cases (show x = _ from rx); cases (show y = _ from ry)
    exact ⟨a, b, rfl, rfl, k _ q⟩
  | ge =>
    simp only [M.opCmp] at q
    obtain ⟨a, b, rfl, rfl, q⟩ := cmpInt_inv q
    cases (show x = _ from rx); cases (show y = _ from ry)
    exact ⟨a, b, rfl, rfl, k _ q⟩
  | isin =>
    simp only [M.opCmp] at q
    exact mem_ok (neg := false) rh rx ry q fun b hb => k b hb
  | notin =>
    simp only [M.opCmp] at q
    exact mem_ok (neg := true) rh rx ry q fun b hb => k _ hb
  | is_ =>
    simp only [M.opCmp] at q
    rcases isNon_inv q with ⟨rfl, q⟩ | ⟨a, b, rfl, rfl, q⟩
    · cases (show y = _ from ry)
      exact .inl ⟨rfl, k _ (by rw [rep_non rx]; exact q)⟩
    · cases (show x = _ from rx); cases (show y = _ from ry)
      exact .inr ⟨a, b, rfl, rfl, k _ q⟩
  | isnt =>
    simp only [M.opCmp] at q
    rcases isNon_inv q with ⟨rfl, q⟩ | ⟨a, b, rfl, rfl, q⟩
    · cases (show y = _ from ry)
      exact .inl ⟨rfl, k _ (by rw [rep_non rx]; exact q)⟩
    · cases (show x = _ from rx); cases (show y = _ from ry)
      exact .inr ⟨a, b, rfl, rfl, k _ q⟩
  | nes =>
    simp only [M.opCmp] at q
    obtain ⟨p, p2, kvs, kws, r, e1, e2, e3, e4, e5, q⟩ := q
    exact ⟨h, dx, dy, rh, rx, ry, p, p2, kvs, kws, r, e1, e2, e3, e4, e5, k _ q⟩
  | neb =>
    simp only [M.opCmp] at q
    obtain ⟨p, p2, bs, cs, rfl, rfl, e1, e2, q⟩ := q
    cases (show x = _ from rx); cases (show y = _ from ry)
    obtain ⟨vs, a1, r1⟩ := rh _ _ e1
    obtain ⟨ws, a2, r2⟩ := rh _ _ e2
    cases bls_vals r1
    cases bls_vals r2
    refine ⟨.list (bs.map .bool), .list (cs.map .bool), .lst (SqL.of a1) (bls_dp bs), .lst (SqL.of a2) (bls_dp cs), bls_can bs, bls_can cs, .inl ?_, ?_⟩
    · have := bls_depth bs
      simp only [PyData.depth]
      omega
    · simp only [PyData.eqv, bls_eqv bs cs]
      exact k _ q
end
end Snd
end
section
/-! Sound4: items, slices, built-in functions, methods, stores. -/
namespace Snd
open PySem L2 PySem.Spec PyProof.Rows
variable [FrameP]
section
variable {K : Fr} {H H1 H' : Hp} {h h1 h' : M.AH} {Qa : M.VQ} {Q : VK} {qb : Bool → Prop}
theorem atI_eq {α : Type} (xs : List α) (i : Int) : M.atI xs i = L2.atI xs i := by
  unfold M.atI L2.atI ixN
  by_cases h0 : 0 ≤ i
  · rw [if_pos h0, if_pos h0]
    by_cases h1 : i < xs.length
    · rw [if_pos h1]; rfl
    · rw [if_neg h1]
      exact List.getElem?_eq_none (by omega)
  · rw [if_neg h0, if_neg h0]
    by_cases h1 : -(xs.length : Int) ≤ i
    · rw [if_pos h1, if_pos h1]; rfl
    · rw [if_neg h1, if_neg h1]; rfl
theorem atI_rep {ds : List SD} {vs : List V} {i : Int} {d : SD} (r : Reps K H ds vs) (e : M.atI ds i = some d) : ∃ v, L2.atI vs i = some v ∧ Rep K H d v := by
  rw [atI_eq] at e
  have hl := r.length
  unfold L2.atI at e ⊢
  rw [hl]
  cases z : ixN ds.length i with
  | none => rw [z] at e; cases e
  | some j =>
    rw [z] at e
    obtain ⟨v, h1, h2⟩ := r.get (i := j) (d := d) e
    exact ⟨v, h1, h2⟩
def rIxD : R2 := fun x y H Q => ∃ a v, x = .ref a ∧ DGet H a y (some v) ∧ Q v H
theorem ix_dict {X : Cx} (hu : X.A.units + 1 < cLine) : IxR X rIxD := by
  intro value slice pins s σ H x y v u Q I rx ry h hs
  obtain ⟨a, w, rfl, g, q⟩ := h
  cases rx
  exact tail_any (dict_typeIs I g) PySem.F.slot_dict_getitem.lookup (d_getItem hu I g ry fun w' s3 I3 rw' => ⟨w, H, I3, rw', q⟩) hs
/-- a dict with nested keys -/
def rIxN (K : Fr) : R2 := fun x y H Q => ∃ a b kvs d e, x = .ref a ∧ y = .ref b ∧ ObRep K H a (.dcn kvs) ∧ M.nkOk d = true ∧ Rep K H d y ∧ M.kvGet kvs d = some e ∧ ∀ v, Rep K H e v → Q v H
theorem ix_nest {X : Cx} (hu : X.A.units + 200 < cLine) : IxR X (rIxN X.F) := by
  intro value slice pins s σ H x y v u Q I rx ry h hs
  obtain ⟨a, b, kvs, d, e, rfl, rfl, ⟨xs, eo, pr⟩, hd, rd, ge, q⟩ := h
  cases rx
  cases (show u = Value.ref b from ry)
  obtain ⟨z, hy, ys, py, dd⟩ := ent_dict I eo pr
  rcases nk_get pr py hd with ⟨e1, _⟩ | ⟨e', v', p, e1, e2, re, rv⟩
  · rw [ge] at e1; cases e1
  · rw [ge] at e1
    cases e1
    exact tail_any dd.typeIs PySem.F.slot_dict_getitem.lookup (wpAny_getItem_heap (knd := nestedKind X.prog X.w) (by show X.A.units + 1 + 8 < cLine; omega) (nk_is I hd rd) dd e2 ⟨v', H, I.tok _, rv, q v' re⟩) hs
def rIx4 (K : Fr) : R2 := fun x y H Q => rIx K x y H Q ∨ rIxD x y H Q ∨ rIxN K x y H Q
theorem ix_all {X : Cx} (hu : X.A.units + 200 < cLine) : IxR X (rIx4 X.F) := ix_seq.or ((ix_dict (by omega)).or (ix_nest hu))
theorem ixAt_inv {ds : List SD} {dy : SD} (q : M.ixAt ds dy h Qa) : ∃ i d, dy = .int i ∧ M.atI ds i = some d ∧ Qa d h := by
  cases dy with
  | int i =>
    simp only [M.ixAt] at q
    cases e : M.atI ds i with
    | none => rw [e] at q; exact q.elim
    | some d => rw [e] at q; exact ⟨i, d, rfl, e, q⟩
  | _ => exact False.elim q
theorem rol_sql {a : Addr} {vs : List V} (t : (∃ o, H a = some (.frz o (.lst vs))) ∨ KLst K a vs) : SqL K H a vs := t.imp (fun ⟨o, e⟩ => .inr ⟨o, e⟩) id
theorem ix_ok {dx dy : SD} {x y : V} (rh : RH K H h) (rx : Rep K H dx x) (ry : Rep K H dy y) (q : M.opIx dx dy h Qa) (k : Kont K H h Qa Q) : rIx4 K x y H Q := by
  have hl := line_eq
  cases dx with
  | tup ds =>
    obtain ⟨a, vs, e, t, rs⟩ := rx
    subst e
    obtain ⟨i, d, rfl, e, q⟩ := ixAt_inv (show M.ixAt ds dy h Qa from q)
    cases (show y = _ from ry)
    obtain ⟨v, e2, r⟩ := atI_rep rs e
    exact .inl (.inr (.inl ⟨a, vs, i, v, rfl, rfl, t.imp .inl id, e2, k.now rh q r⟩))
  | rol ds =>
    obtain ⟨a, vs, e, t, rs⟩ := rx
    subst e
    obtain ⟨i, d, rfl, e, q⟩ := ixAt_inv (show M.ixAt ds dy h Qa from q)
    cases (show y = _ from ry)
    obtain ⟨v, e2, r⟩ := atI_rep rs e
    exact .inl (.inl ⟨a, vs, i, v, rfl, rfl, rol_sql t, e2, k.now rh q r⟩)
  | str s =>
    cases dy with
    | int i =>
      obtain ⟨rx, ok⟩ := rx
      subst rx
      cases (show y = _ from ry)
      obtain ⟨hz, q⟩ := (show s.length ≤ M.LINE ∧ _ from q)
      cases e : M.atI s i with
      | none => rw [e] at q; exact q.elim
      | some c =>
        rw [e] at q
        refine .inl (.inr (.inr ⟨sV s, i, c, rfl, rfl, by rw [sV_len, hl]; exact hz, ?_, k.now rh q ⟨rfl, ?_⟩⟩))
        · rw [sV_cps, ← atI_eq]; exact e
        · intro z hz2
          have : z = c := by simpa using hz2
          subst this
          rw [atI_eq] at e
          obtain ⟨j, _, hj, _⟩ := atI_get e
          exact ok _ (List.mem_of_getElem? hj)
    | _ => exact False.elim q
  | ref p =>
    cases (show x = _ from rx)
    simp only [M.opIx] at q
    cases e : h p with
    | none => rw [e] at q; exact q.elim
    | some o =>
      rw [e] at q
      cases o with
      | lst xs =>
        obtain ⟨vs, a1, r1⟩ := rh p _ e
        obtain ⟨i, d, rfl, e3, q⟩ := ixAt_inv (show M.ixAt xs dy h Qa from q)
        cases (show y = _ from ry)
        obtain ⟨v, e2, r⟩ := atI_rep r1 e3
        exact .inl (.inl ⟨p, vs, i, v, rfl, rfl, SqL.of a1, e2, k.now rh q r⟩)
      | dct kd kvs =>
        obtain ⟨kk, q⟩ := q
        obtain ⟨ov, g, r⟩ := dget_ok (rh p _ e) kk ry
        rcases r with ⟨e1, e2⟩ | ⟨d, w, e1, e2, r⟩
        · rw [e1] at q; exact q.elim
        · rw [e1] at q; subst e2
          exact .inr (.inl ⟨p, w, rfl, g, k.now rh q r⟩)
      | rdct kd kvs =>
        obtain ⟨kk, q⟩ := q
        obtain ⟨ov, g, r⟩ := dget_rok (rh p _ e) kk ry
        rcases r with ⟨e1, e2⟩ | ⟨d, w, e1, e2, r⟩
        · rw [e1] at q; exact q.elim
        · rw [e1] at q; subst e2
          exact .inr (.inl ⟨p, w, rfl, g, k.now rh q r⟩)
      | dcn kvs =>
        obtain ⟨kk, q⟩ := q
        have ry' := ry
        cases dy with
        | tup ds =>
          obtain ⟨b, vs, rfl, _⟩ := ry
          cases g : M.kvGet kvs (.tup ds) with
          | none => rw [g] at q; exact q.elim
          | some d =>
            rw [g] at q
            exact .inr (.inr ⟨p, b, kvs, _, d, rfl, rfl, rh p _ e, kk, ry', g, fun v rv => k.now rh q rv⟩)
        | _ => simp [M.nkOk] at kk
      | _ => exact q.elim
  | _ => exact False.elim q

/-! ### slices -/
theorem clip_lo (n d : Nat) (o : Option Int) : M.clip n d o = if o = none then d else HT.sIx n d o := by
  cases o with
  | none => rfl
  | some i =>
    rw [if_neg (by simp)]
    have e := HT.clip_eq i n d
    show (if i < 0 then (i + n).toNat else min i.toNat n) = _
    split
    · rename_i hi
      rw [if_pos hi] at e
      omega
    · rename_i hi
      rw [if_neg hi] at e
      omega
theorem cut_eq {α : Type} (xs : List α) (lo hi : Option Int) : M.cut xs lo hi = (xs.drop (HT.sIx xs.length 0 lo)).take (HT.sIx xs.length xs.length hi - HT.sIx xs.length 0 lo) := by
  have h1 : M.clip xs.length 0 lo = HT.sIx xs.length 0 lo := by
    rw [clip_lo]; split
    · rename_i e; rw [e, HT.sIx_none]
    · rfl
  have h2 : M.clip xs.length xs.length hi = HT.sIx xs.length xs.length hi := by
    rw [clip_lo]; split
    · rename_i e; rw [e, HT.sIx_none]
    · rfl
  unfold M.cut
  rw [h1, h2]
theorem cut_rep {ds : List SD} {vs : List V} {lo hi : Option Int} (r : Reps K H ds vs) : Reps K H (M.cut ds lo hi) (cutV vs lo hi) := by
  rw [cut_eq, ← r.length]
  exact (r.drop _).take _
def rSlTW (K : Fr) : V → Option Int → Option Int → Hp → VK → Prop := fun x lo hi H Q => ∃ a xs, x = .ref a ∧ SqT K H a xs ∧ (HT.sIx xs.length 0 lo = 0 ∧ HT.sIx xs.length xs.length hi = xs.length) ∧ Q (.ref a) H
def rSl (K : Fr) : V → Option Int → Option Int → Hp → VK → Prop := fun x lo hi H Q => rSlT K x lo hi H Q ∨ rSlL K x lo hi H Q ∨ rSlS x lo hi H Q
theorem sl_all {X : Cx} : SlR X (rSl X.F) := sl_tup.or (sl_list.or sl_str)
def slPart (ds : List SD) (lo hi : Option Int) : Prop := ¬ (M.clip ds.length 0 lo = 0 ∧ M.clip ds.length ds.length hi = ds.length)
theorem sl_ok {dx : SD} {x : V} {lo hi : Option Int} (rh : RH K H h) (rx : Rep K H dx x) (q : M.opSl dx lo hi h Qa) (k : Kont K H h Qa Q) : rSl K x lo hi H Q := by
  have hl := line_eq
  cases dx with
  | tup ds =>
    obtain ⟨a, vs, e, t, rs⟩ := rx
    subst e
    obtain ⟨np, q⟩ := q
    have ln := rs.length
    have h1 : M.clip ds.length 0 lo = HT.sIx ds.length 0 lo := by
      rw [clip_lo]; split
      · rename_i e; rw [e, HT.sIx_none]
      · rfl
    have h2 : M.clip ds.length ds.length hi = HT.sIx ds.length ds.length hi := by
      rw [clip_lo]; split
      · rename_i e; rw [e, HT.sIx_none]
      · rfl
    refine .inl ⟨a, vs, rfl, t.imp .inl id, by rw [ln, ← h1, ← h2]; exact np, fun p hn => ?_⟩
    exact k _ _ _ _ q (frm_hid hn) ⟨p, _, rfl, .inl upd_same, (cut_rep rs).kp (kp_new hn)⟩ (rh_hid rh hn)
  | rol ds =>
    obtain ⟨a, vs, e, t, rs⟩ := rx
    subst e
    refine .inr (.inl ⟨a, vs, rfl, rol_sql t, fun p hn => ?_⟩)
    exact k _ _ _ _ (q p (rh.none hn)) (frm_new hn) rfl (rh_new rh hn ⟨_, upd_same, (cut_rep rs).kp (kp_new hn)⟩)
  | str s =>
    obtain ⟨rx, ok⟩ := rx
    subst rx
    obtain ⟨hz, q⟩ := q
    refine .inr (.inr ⟨sV s, rfl, by rw [sV_len, hl]; exact hz, ?_⟩)
    have e : cutS (sV s) lo hi = sV (M.cut s lo hi) := by
      unfold cutS
      rw [sV_len, sV_cps, cut_eq]
      rfl
    rw [e]
    refine k.now rh q ⟨rfl, fun c hc => ok c ?_⟩
    unfold M.cut at hc
    exact List.mem_of_mem_drop (List.mem_of_mem_take hc)
  | ref p =>
    cases (show x = _ from rx)
    simp only [M.opSl] at q
    cases e : h p with
    | none => rw [e] at q; exact q.elim
    | some o =>
      rw [e] at q
      cases o with
      | lst xs =>
        obtain ⟨vs, a1, r1⟩ := rh p _ e
        refine .inr (.inl ⟨p, vs, rfl, SqL.of a1, fun l hn => ?_⟩)
        exact k _ _ _ _ (q l (rh.none hn)) (frm_new hn) rfl (rh_new rh hn ⟨_, upd_same, (cut_rep r1).kp (kp_new hn)⟩)
      | _ => exact q.elim
  | _ => exact False.elim q

/-! ### built-in functions -/
theorem arg1_inv {ds : List SD} {f : SD → Prop} (q : M.arg1 ds f) : ∃ d, ds = [d] ∧ f d := by
  match ds, q with
  | [d], q => exact ⟨d, rfl, q⟩
theorem arg2_inv {ds : List SD} {f : SD → SD → Prop} (q : M.arg2 ds f) : ∃ d e, ds = [d, e] ∧ f d e := by
  match ds, q with
  | [d, e], q => exact ⟨d, e, rfl, q⟩
theorem anInt_inv {d : SD} {f : Int → Prop} (q : M.anInt d f) : ∃ i, d = .int i ∧ f i := by
  cases d with
  | int i => exact ⟨i, rfl, q⟩
  | _ => exact False.elim q
theorem aSome_inv {α : Type} {o : Option α} {f : α → Prop} (q : M.aSome o f) : ∃ a, o = some a ∧ f a := by
  cases o with
  | some a => exact ⟨a, rfl, q⟩
  | none => exact False.elim q
theorem aLst_inv {d : SD} {f : Nat → List SD → Prop} (q : M.aLst d h f) : ∃ p xs, d = .ref p ∧ h p = some (.lst xs) ∧ f p xs := by
  cases d with
  | ref p =>
    simp only [M.aLst] at q
    cases e : h p with
    | none => rw [e] at q; exact q.elim
    | some o => rw [e] at q; cases o with
      | lst xs => exact ⟨p, xs, rfl, e, q⟩
      | _ => exact q.elim
  | _ => exact False.elim q
theorem aDct_inv {d : SD} {f : Nat → Nat → List (SD × SD) → Prop} (q : M.aDct d h f) : ∃ p k kvs, d = .ref p ∧ h p = some (.dct k kvs) ∧ f p k kvs := by
  cases d with
  | ref p =>
    simp only [M.aDct] at q
    cases e : h p with
    | none => rw [e] at q; exact q.elim
    | some o => rw [e] at q; cases o with
      | dct k xs => exact ⟨p, k, xs, rfl, e, q⟩
      | _ => exact q.elim
  | _ => exact False.elim q
theorem aDctR_inv {d : SD} {f : Nat → Nat → List (SD × SD) → Prop} (q : M.aDctR d h f) : ∃ p k kvs, d = .ref p ∧ (h p = some (.dct k kvs) ∨ h p = some (.rdct k kvs)) ∧ f p k kvs := by
  cases d with
  | ref p =>
    simp only [M.aDctR] at q
    cases e : h p with
    | none => rw [e] at q; exact q.elim
    | some o => rw [e] at q; cases o with
      | dct k xs => exact ⟨p, k, xs, rfl, .inl e, q⟩
      | rdct k xs => exact ⟨p, k, xs, rfl, .inr e, q⟩
      | _ => exact q.elim
  | _ => exact False.elim q
theorem toInt_inv {d : SD} {f : Int → Prop} (q : M.toInt d f) : (∃ i, d = .int i ∧ f i) ∨ ∃ b, d = .bl b ∧ f (if b then 1 else 0) := by
  cases d with
  | int i => exact .inl ⟨i, rfl, q⟩
  | bl b => exact .inr ⟨b, rfl, q⟩
  | _ => exact False.elim q
theorem seq_rep {d : SD} {v : V} {xs : List SD} (rh : RH K H h) (r : Rep K H d v) (e : M.seqOf d h = some xs) : ∃ p vs, v = .ref p ∧ ((SqL K H p vs ∧ ∀ zs, d ≠ .tup zs) ∨ (SqT K H p vs ∧ d = .tup xs)) ∧ Reps K H xs vs := by
  cases d with
  | tup ds =>
    simp only [M.seqOf, Option.some.injEq] at e
    subst e
    obtain ⟨a, vs, e, t, rs⟩ := r
    exact ⟨a, vs, e, .inr ⟨t.imp .inl id, rfl⟩, rs⟩
  | rol ds =>
    simp only [M.seqOf, Option.some.injEq] at e
    subst e
    obtain ⟨a, vs, e, t, rs⟩ := r
    exact ⟨a, vs, e, .inl ⟨rol_sql t, fun _ z => by cases z⟩, rs⟩
  | ref p =>
    simp only [M.seqOf] at e
    cases e1 : h p with
    | none => rw [e1] at e; cases e
    | some o => rw [e1] at e; cases o with
      | lst ys =>
        simp only [Option.some.injEq] at e
        subst e
        obtain ⟨vs, a1, r1⟩ := rh p _ e1
        exact ⟨p, vs, r, .inl ⟨SqL.of a1, fun _ z => by cases z⟩, r1⟩
      | _ => cases e
  | _ => simp [M.seqOf] at e
theorem ints_rep : ∀ {xs : List SD} {vs : List V} {ns : List Int}, M.intsOf xs = some ns → Reps K H xs vs → vs = ns.map V.int
  | [], vs, ns, e, r => by simp only [M.intsOf, Option.some.injEq] at e; subst e; exact r
  | d :: ds, vs, ns, e, ⟨v, w, ev, a, b⟩ => by
    subst ev
    cases d with
    | int i =>
      simp only [M.intsOf] at e
      cases z : M.intsOf ds with
      | none => rw [z] at e; cases e
      | some ms =>
        rw [z] at e
        simp only [Option.map_some, Option.some.injEq] at e
        subst e
        rw [ints_rep z b, show v = V.int i from a]
        rfl
    | _ => simp [M.intsOf] at e
theorem bls_rep : ∀ {xs : List SD} {vs : List V} {ns : List Bool}, M.bls xs = some ns → Reps K H xs vs → vs = ns.map V.bl
  | [], vs, ns, e, r => by simp only [M.bls, Option.some.injEq] at e; subst e; exact r
  | d :: ds, vs, ns, e, ⟨v, w, ev, a, b⟩ => by
    subst ev
    cases d with
    | bl i =>
      simp only [M.bls] at e
      cases z : M.bls ds with
      | none => rw [z] at e; cases e
      | some ms =>
        rw [z] at e
        simp only [Option.map_some, Option.some.injEq] at e
        subst e
        rw [bls_rep z b, show v = V.bl i from a]
        rfl
    | _ => simp [M.bls] at e
theorem reps1 {d : SD} {vs : List V} (r : Reps K H [d] vs) : ∃ v, vs = [v] ∧ Rep K H d v := by
  obtain ⟨v, w, e, a, b⟩ := r
  cases (show w = _ from b)
  exact ⟨v, e, a⟩
theorem reps2 {d e : SD} {vs : List V} (r : Reps K H [d, e] vs) : ∃ v w, vs = [v, w] ∧ Rep K H d v ∧ Rep K H e w := by
  obtain ⟨v, w, ev, a, b⟩ := r
  obtain ⟨u, e2, c⟩ := reps1 b
  subst e2
  exact ⟨v, u, ev, a, c⟩

theorem lenOk_inv {d : SD} {f : Nat → Prop} (q : M.lenOk d h f) : (∃ s, d = .str s ∧ s.length ≤ M.LINE ∧ f s.length) ∨ (∃ xs, M.seqOf d h = some xs ∧ f xs.length) ∨ ∃ p k kvs, d = .ref p ∧ (h p = some (.dct k kvs) ∨ h p = some (.rdct k kvs)) ∧ f kvs.length := by
  cases d with
  | str s => exact .inl ⟨s, rfl, q.1, q.2⟩
  | non => exact .inr (.inl (aSome_inv (o := M.seqOf .non h) (f := fun xs => f xs.length) q))
  | bl b => exact .inr (.inl (aSome_inv (o := M.seqOf (.bl b) h) (f := fun xs => f xs.length) q))
  | int b => exact .inr (.inl (aSome_inv (o := M.seqOf (.int b) h) (f := fun xs => f xs.length) q))
  | tup b => exact .inr (.inl (aSome_inv (o := M.seqOf (.tup b) h) (f := fun xs => f xs.length) q))
  | rol b => exact .inr (.inl (aSome_inv (o := M.seqOf (.rol b) h) (f := fun xs => f xs.length) q))
  | ref b =>
    simp only [M.lenOk] at q
    cases e : h b with
    | none => rw [e] at q; exact q.elim
    | some o => rw [e] at q; cases o with
      | lst xs => exact .inr (.inl ⟨xs, by simp only [M.seqOf, e], q⟩)
      | dct k xs => exact .inr (.inr ⟨b, k, xs, rfl, .inl e, q⟩)
      | rdct k xs => exact .inr (.inr ⟨b, k, xs, rfl, .inr e, q⟩)
      | _ => exact q.elim
theorem call_lenD {X : L2.Cx} : CallR X (.builtin "len") (fun xs H Q => (∃ x n, xs = [x] ∧ LenV X.F x H n ∧ Q (.int n) H) ∨ ∃ (a : Addr) (kvs : List (Key × V)), xs = [.ref a] ∧ Rd H a (.dK kvs) ∧ Q (.int kvs.length) H) := by
  intro pins s σ H xs us Q I rv h
  rcases h with h | ⟨a, kvs, rfl, rd, q⟩
  · exact call_len pins s σ H xs us Q I rv h
  · obtain ⟨u, rfl, ru⟩ := rv.one
    obtain rfl : u = Value.ref a := ru
    exact d_len I rd fun t s3 I3 => ⟨.int _, H, I3, ⟨t, rfl⟩, q⟩
theorem keys_rep {H' : Hp} : ∀ {kvs : List (SD × SD)} {ps : List (Key × V)}, Paired (PR K H R0) kvs ps → Reps K H' (kvs.map (·.1)) (ps.map fun kv => kV kv.1)
  | _, _, .nil => rfl
  | _, _, @Paired.cons _ _ _ x p xs ps h t => by
    refine ⟨kV p.1, _, rfl, ?_, keys_rep t⟩
    obtain ⟨⟨h1, h2⟩, _⟩ := h
    obtain ⟨a, b⟩ := x
    cases a <;> simp [keyV] at h1
    · rw [← h1]; rfl
    · rw [← h1]; exact ⟨rfl, h2 _ rfl⟩
theorem keys_strs : ∀ {kvs : List (SD × SD)} {ps : List (Key × V)} {ss : List M.Sx}, Paired (PR K H R0) kvs ps → M.strsOf (kvs.map (·.1)) = some ss → ps.map (·.1) = (ss.map sV).map Sum.inr ∧ ∀ s ∈ ss, sOk s
  | _, _, ss, .nil, e => by
    have e : M.strsOf [] = some ss := e
    simp only [M.strsOf, Option.some.injEq] at e
    subst e
    exact ⟨rfl, fun _ h => nomatch h⟩
  | _, _, ss, @Paired.cons _ _ _ x p xs ps h t, e => by
    obtain ⟨⟨h1, h2⟩, h3⟩ := h
    clear h3
    obtain ⟨a, b⟩ := x
    rw [List.map_cons] at e
    cases a <;> try (simp [M.strsOf] at e; done)
    rename_i s
    simp only [M.strsOf] at e
    cases z : M.strsOf (xs.map (·.1)) with
    | none => rw [z] at e; cases e
    | some r =>
      rw [z] at e
      simp only [Option.map_some, Option.some.injEq] at e
      subst e
      obtain ⟨i1, i2⟩ := keys_strs t z
      simp only [keyV, Option.some.injEq] at h1
      refine ⟨by rw [List.map_cons, List.map_cons, List.map_cons, i1, ← h1], fun y hy => ?_⟩
      rcases List.mem_cons.mp hy with e | hy
      · rw [e]; exact h2 s rfl
      · exact i2 y hy
theorem perm_sV {ys : List Str} {ss : List M.Sx} (h : ys.Perm (ss.map sV)) : ∃ ys' : List M.Sx, ys = ys'.map sV ∧ ys'.Perm ss := by
  refine ⟨ys.map fun s => s.cps.toList, ?_, ?_⟩
  · rw [List.map_map]
    have : (sV ∘ fun s : Str => s.cps.toList) = id := by funext s; cases s; simp [sV]
    rw [this, List.map_id]
  · have := h.map fun s : Str => s.cps.toList
    rw [List.map_map] at this
    have e : ((fun s : Str => s.cps.toList) ∘ sV) = id := by funext s; simp [sV]
    rw [e, List.map_id] at this
    exact this
theorem reps_strs {H' : Hp} : ∀ {ss : List M.Sx}, (∀ s ∈ ss, sOk s) → Reps K H' (ss.map M.D.str) (ss.map (V.str ∘ sV))
  | [], _ => rfl
  | s :: ss, h => ⟨_, _, rfl, ⟨rfl, h s List.mem_cons_self⟩, reps_strs fun t ht => h t (List.mem_cons_of_mem _ ht)⟩
inductive BK where | b (id : String) | t (T : String)
def bltK : M.Blt → Option BK
  | .len => some (.b "len") | .min2 => some (.b "min") | .max2 => some (.b "max") | .int1 => some (.t "int") | .abs => some (.b "abs") | .sum => some (.b "sum") | .all => some (.b "all") | .any => some (.b "any")
  | .list => some (.t "list") | .tuple => some (.t "tuple") | .dict1 => some (.t "dict") | .klist => some (.t "list") | .max1 => some (.b "max") | .sorted => some (.b "sorted") | .sortd => some (.b "sorted") | _ => none
def BK.val : BK → Value
  | .b id => .builtin id
  | .t T => .type T
def BK.name : BK → Str
  | .b id => Str.ofString id
  | .t T => Str.ofString T
/-- a list of less than two items -/
def rSortO (K : Fr) : List V → Hp → VK → Prop := fun xs H Q => ∃ (a : Addr) (vs : List V), xs = [V.ref a] ∧ SqL K H a vs ∧ vs.length < 2 ∧ ∀ p, H p = none → Q (.ref p) (upd H p (.lst vs))
theorem perm_short {α : Type} {l m : List α} (p : l.Perm m) (h : m.length < 2) : l = m := by
  match m, h with
  | [], _ => exact List.perm_nil.mp p
  | [x], _ => exact List.perm_singleton.mp p
  | _ :: _ :: l, h => exact absurd h (by simp)
theorem cr_sortO {X : L2.Cx} : CallR X (.builtin "sorted") (rSortO X.F) := by
  intro pins s σ H xs us Q I r h
  obtain ⟨a, vs, rfl, hs, h2, q⟩ := h
  obtain ⟨its, rv, hl, hz⟩ := I.list hs
  obtain ⟨u, rfl, ru⟩ := vals1 r
  obtain rfl : u = Value.ref a := ru
  refine SrtO.sorted_ord (ltv := fun _ _ => false) ⟨(fun _ _ h => by cases h), (fun _ _ _ _ _ => rfl)⟩ hl.isList (by rw [← rv.length]; exact hz) (fun h3 => absurd h3 (by rw [← rv.length]; omega)) fun out hs hb => ?_
  have e := perm_short hb.perm (by rw [← rv.length]; exact h2)
  subst e
  obtain ⟨n, hn⟩ := sortedAll_at s.heap out out.toArray
  exact ⟨.ref _, upd H (s.heap.objs.size + 1) (.lst vs), I.laid (t' := s.toks) (fun _ _ => sortedAll_old) (Nat.le_succ _) ⟨hz, out, n, rv, hn⟩, rfl, q _ (I.hok.fresh (Nat.le_succ _))⟩
def rSortDS : List V → Hp → VK → Prop := fun xs H Q => ∃ (a : Addr) (kvs : List (Key × V)) (ks : List Str), xs = [.ref a] ∧ Rd H a (.dK kvs) ∧ kvs.map (·.1) = ks.map Sum.inr ∧ ks.length < 64 ∧ ∀ ys p, ys.Perm ks → sortedS ys = true → H p = none → Q (.ref p) (upd H p (.lst (ys.map V.str)))
def rSortD (K : Fr) : List V → Hp → VK → Prop := fun xs H Q => rSortO K xs H Q ∨ rSortedS K xs H Q ∨ rSortedI K xs H Q ∨ rSortT K xs H Q ∨ rSortDS xs H Q
def rBlt (K : Fr) : M.Blt → List V → Hp → VK → Prop
  | .len => fun xs H Q => (∃ x n, xs = [x] ∧ LenV K x H n ∧ Q (.int n) H) ∨ ∃ (a : Addr) (kvs : List (Key × V)), xs = [.ref a] ∧ Rd H a (.dK kvs) ∧ Q (.int kvs.length) H
  | .min2 => fun xs H Q => ∃ i j, xs = [.int i, .int j] ∧ Q (.int (if j < i then j else i)) H
  | .max2 => fun xs H Q => ∃ i j, xs = [.int i, .int j] ∧ Q (.int (if j > i then j else i)) H
  | .int1 => fun xs H Q => (∃ i, xs = [.int i] ∧ Q (.int i) H) ∨ ∃ k, xs = [.bl k] ∧ Q (.int (if k then 1 else 0)) H
  | .abs => fun xs H Q => ∃ i, xs = [.int i] ∧ Q (.int (if i < 0 then -i else i)) H
  | .sum => rSum K
  | .all => rAll K
  | .any => rAny K
  | .list => fun xs H Q => ∃ p ys, xs = [.ref p] ∧ (SqL K H p ys ∨ SqT K H p ys) ∧ ∀ l, H l = none → Q (.ref l) (upd H l (.lst ys))
  | .tuple => fun xs H Q => ∃ p ys, xs = [.ref p] ∧ ((SqL K H p ys ∧ ∀ l, H l = none → Q (.ref l) (upd H l (.tup ys))) ∨ (SqT K H p ys ∧ Q (.ref p) H))
  | .dict1 => fun xs H Q => ∃ (a : Addr) (kvs : List (Key × V)), xs = [.ref a] ∧ Rd H a (.dK kvs) ∧ ∀ p, H p = none → Q (.ref p) (upd H p (.dK kvs))
  | .klist => fun xs H Q => ∃ (a : Addr) (kvs : List (Key × V)), xs = [.ref a] ∧ Rd H a (.dK kvs) ∧ ∀ p, H p = none → Q (.ref p) (upd H p (.lst (kvs.map fun kv => kV kv.1)))
  | .max1 => rMax K
  | .sorted => fun xs H Q => ∃ (a : Addr) (kvs : List (Key × V)) (ks : List Str), xs = [.ref a] ∧ Rd H a (.dK kvs) ∧ kvs.map (·.1) = ks.map Sum.inr ∧ ks.length < 64 ∧ ∀ ys p, ys.Perm ks → sortedS ys = true → H p = none → Q (.ref p) (upd H p (.lst (ys.map V.str)))
  | .sortd => rSortD K
  | _ => fun _ _ _ => False
theorem call_blt {X : Cx} (hc : X.calm = true) (hu : X.A.units + 200 < cLine) (b : M.Blt) {bk : BK} (e : bltK b = some bk) : CallR X bk.val (rBlt X.F b) := by
  cases b <;> simp only [bltK, Option.some.injEq, reduceCtorEq] at e <;> subst e
  · exact call_lenD
  · exact call_min2 hc
  · exact call_max2 hc
  · exact call_int1
  · exact call_abs
  · exact cr_sum hc
  · exact cr_all hc
  · exact cr_any hc
  · exact call_list_of
  · exact call_tuple_of
  · exact call_sortedD hc
  · exact call_dictD
  · exact cr_max hc
  · exact call_listD hc
  · exact cr_sortO.or (cr_sortedS.or (cr_sortedI.or ((cr_sortT hu).or (call_sortedD hc))))
theorem strs_rep : ∀ {xs : List SD} {vs : List V} {ns : List M.Sx}, M.strsOf xs = some ns → Reps K H xs vs → (vs = ns.map fun s => V.str (sV s)) ∧ ∀ s ∈ ns, sOk s
  | [], vs, ns, e, r => by simp only [M.strsOf, Option.some.injEq] at e; subst e; exact ⟨r, fun s hs => nomatch hs⟩
  | d :: ds, vs, ns, e, ⟨v, w, ev, a, b⟩ => by
    subst ev
    cases d with
    | str i =>
      simp only [M.strsOf] at e
      cases z : M.strsOf ds with
      | none => rw [z] at e; cases e
      | some ms =>
        rw [z] at e
        simp only [Option.map_some, Option.some.injEq] at e
        subst e
        obtain ⟨h1, h2⟩ := strs_rep z b
        refine ⟨by rw [h1, show v = V.str (sV i) from a.1]; rfl, fun s hs => ?_⟩
        rcases List.mem_cons.mp hs with q | q
        · subst q; exact a.2
        · exact h2 s q
    | _ => simp [M.strsOf] at e
theorem sorted_pw : ∀ {ss : List M.Sx}, sortedS (ss.map sV) = true → (ss.map M.D.str).Pairwise (fun a b => M.ltD b a = false)
  | [], _ => List.Pairwise.nil
  | [x], _ => List.pairwise_singleton _ _
  | x :: y :: r, h => by
    have h' : (!ltCps (sV y).cps.toList (sV x).cps.toList && risingS (sV y) (r.map sV)) = true := h
    obtain ⟨h1, h2⟩ := ba h'
    have ih := sorted_pw (ss := y :: r) h2
    have e1 : ¬ y < x := by simpa [ltCps_eq, sV_cps] using h1
    refine List.pairwise_cons.mpr ⟨fun z hz => ?_, ih⟩
    rcases List.mem_cons.mp (show z ∈ M.D.str y :: r.map M.D.str from hz) with e | hz
    · subst e; simpa [M.ltD] using e1
    · have h3 := List.rel_of_pairwise_cons ih hz
      obtain ⟨t, _, rfl⟩ := List.mem_map.mp hz
      have e2 : ¬ t < y := by simpa [M.ltD] using h3
      have : ¬ t < x := fun z => by
        have a1 : x ≤ y := e1
        have a2 : y ≤ t := e2
        exact (List.le_trans a1 a2) z
      simpa [M.ltD] using this
theorem perm_strs {ys : List Str} {ss : List M.Sx} (h : ys.Perm (ss.map sV)) : ∃ ys' : List M.Sx, ys = ys'.map sV ∧ ys'.Perm ss := perm_sV h
theorem ints_pw {ns : List Int} (h : ns.Pairwise (· ≤ ·)) : (ns.map M.D.int).Pairwise (fun a b => M.ltD b a = false) :=
  List.pairwise_map.mpr (h.imp fun z => by simpa [M.ltD] using z)
theorem reps_zip : ∀ {ds : List SD} {vs : List V}, Reps K H ds vs → vs.length = ds.length ∧ ∀ p ∈ vs.zip ds, Rep K H p.2 p.1
  | [], vs, r => by cases (show vs = [] from r); exact ⟨rfl, fun p h => nomatch h⟩
  | d :: ds, vs, ⟨v, us, e, a, b⟩ => by
    subst e
    obtain ⟨h1, h2⟩ := reps_zip b
    refine ⟨by simp [h1], fun p hp => ?_⟩
    rcases List.mem_cons.mp (show p ∈ (v, d) :: us.zip ds from hp) with z | z
    · subst z; exact a
    · exact h2 p z
theorem reps_of : ∀ {ps : List (V × SD)}, (∀ p ∈ ps, Rep K H p.2 p.1) → Reps K H (ps.map (·.2)) (ps.map (·.1))
  | [], _ => rfl
  | p :: ps, h => ⟨_, _, rfl, h p List.mem_cons_self, reps_of fun q hq => h q (List.mem_cons_of_mem _ hq)⟩
theorem strs_map : ∀ {xs : List SD} {ss : List M.Sx}, M.strsOf xs = some ss → xs = ss.map M.D.str
  | [], ss, e => by simp only [M.strsOf, Option.some.injEq] at e; subst e; rfl
  | x :: xs, ss, e => by
    cases x <;> try (simp [M.strsOf] at e; done)
    simp only [M.strsOf] at e
    cases z : M.strsOf xs with
    | none => rw [z] at e; cases e
    | some r =>
      rw [z] at e
      simp only [Option.map_some, Option.some.injEq] at e
      subst e
      rw [strs_map z]
      rfl
theorem ints_map : ∀ {xs : List SD} {ns : List Int}, M.intsOf xs = some ns → xs = ns.map M.D.int
  | [], ss, e => by simp only [M.intsOf, Option.some.injEq] at e; subst e; rfl
  | x :: xs, ss, e => by
    cases x <;> try (simp [M.intsOf] at e; done)
    simp only [M.intsOf] at e
    cases z : M.intsOf xs with
    | none => rw [z] at e; cases e
    | some r =>
      rw [z] at e
      simp only [Option.map_some, Option.some.injEq] at e
      subst e
      rw [ints_map z]
      rfl
theorem reps_intsL : ∀ ns : List Int, Reps K H (ns.map M.D.int) (ns.map V.int)
  | [] => rfl
  | n :: ns => ⟨_, _, rfl, rfl, reps_intsL ns⟩
theorem pw_short {xs : List SD} (h : xs.length < 2) : xs.Pairwise (fun a b => M.ltD b a = false) := by
  match xs, h with
  | [], _ => exact List.Pairwise.nil
  | [x], _ => exact List.pairwise_singleton _ _
  | _ :: _ :: l, h => exact absurd h (by simp)
theorem sortP_inv {d : SD} {f : List SD → Prop} (q : M.sortP d h f) : ∃ p, d = .ref p ∧ ((∃ xs, h p = some (.lst xs) ∧ M.sortOk xs ∧ f xs) ∨ ∃ kvs, (h p = some (.dct 0 kvs) ∨ h p = some (.rdct 0 kvs)) ∧ (∃ ss, M.strsOf (kvs.map (·.1)) = some ss ∧ ss.length < 64) ∧ f (kvs.map (·.1))) := by
  cases d with
  | ref p =>
    refine ⟨p, rfl, ?_⟩
    cases e : h p with
    | none => simp only [M.sortP, e] at q
    | some o =>
      cases o with
      | lst xs => simp only [M.sortP, e] at q; exact .inl ⟨xs, rfl, q⟩
      | dct kd kvs =>
        cases kd with
        | zero => simp only [M.sortP, e] at q; exact .inr ⟨kvs, .inl rfl, q⟩
        | succ n => simp only [M.sortP, e] at q
      | rdct kd kvs =>
        cases kd with
        | zero => simp only [M.sortP, e] at q; exact .inr ⟨kvs, .inr rfl, q⟩
        | succ n => simp only [M.sortP, e] at q
      | _ => simp only [M.sortP, e] at q
  | _ => exact False.elim q
theorem sortd_ok {ds : List SD} {vs : List V} (rh : RH K H h) (r : Reps K H ds vs) (q : M.opBlt .sortd ds h Qa) (k : Kont K H h Qa Q) : rSortD K vs H Q := by
  simp only [M.opBlt] at q
  obtain ⟨d, rfl, q⟩ := arg1_inv q
  obtain ⟨v, rfl, rv⟩ := reps1 r
  obtain ⟨p, rfl, z0⟩ := sortP_inv q
  cases (show v = _ from rv)
  clear q
  rcases z0 with ⟨xs, e, so, q⟩ | ⟨kvs, e, ⟨ss, e2, l64⟩, q⟩
  · obtain ⟨vs, a1, r1⟩ := rh p _ e
    have fin : ∀ (ys : List SD) (ws : List V), ys.Perm xs → ys.Pairwise (fun a b => M.ltD b a = false) → Reps K H ys ws → ∀ l, H l = none → Q (.ref l) (upd H l (.lst ws)) := fun ys ws pm pw rw l hn =>
      k _ _ _ _ (q ys pm pw l (rh.none hn)) (frm_new hn) rfl (rh_new rh hn ⟨_, upd_same, rw.kp (kp_new hn)⟩)
    rcases so with so | ⟨ss, e2, l64⟩ | ⟨ns, e2⟩ | so
    · exact .inl ⟨p, vs, rfl, SqL.of a1, by rw [r1.length]; exact so, fin xs vs (.refl _) (pw_short so) r1⟩
    · obtain ⟨ev, ok⟩ := strs_rep e2 r1
      have ex := strs_map e2
      refine .inr (.inl ⟨p, ss.map sV, rfl, ?_, by simpa using l64, fun ys l pm so hn => ?_⟩)
      · rw [List.map_map]
        have : vs = ss.map (V.str ∘ sV) := ev
        rw [← this]; exact SqL.of a1
      · obtain ⟨ys', rfl, pm'⟩ := perm_sV pm
        have := fin (ys'.map M.D.str) (ys'.map (V.str ∘ sV)) (by rw [ex]; exact pm'.map _) (sorted_pw so) (reps_strs fun s hs => ok s (pm'.mem_iff.mp hs)) l hn
        rw [List.map_map]
        exact this
    · have ev := ints_rep e2 r1
      subst ev
      have ex := ints_map e2
      exact .inr (.inr (.inl ⟨p, ns, rfl, SqL.of a1, fun ys l pm so hn => fin (ys.map M.D.int) (ys.map V.int) (by rw [ex]; exact pm.map _) (ints_pw so) (reps_intsL ys) l hn⟩))
    · obtain ⟨z1, z2⟩ := reps_zip r1
      refine .inr (.inr (.inr (.inl ⟨p, vs, xs, rfl, SqL.of a1, reps_dp so.1 r1, so, reps_can so.1 r1, fun ps pm sp l hn => ?_⟩)))
      refine fin (ps.map (·.2)) (ps.map (·.1)) ?_ sp (reps_of fun x hx => z2 x (pm.mem_iff.mp hx)) l hn
      have := pm.map (·.2)
      rw [List.map_snd_zip (by omega)] at this
      exact this
  · obtain ⟨_, ps, a1, pr⟩ := rd_dct (e.imp (rh p _) (rh p _))
    obtain ⟨k1, k2⟩ := keys_strs pr e2
    have ex := strs_map e2
    refine .inr (.inr (.inr (.inr ⟨p, ps, ss.map sV, rfl, a1, k1, by simpa using l64, fun ys l hp so hn => ?_⟩)))
    obtain ⟨ys', rfl, hp'⟩ := perm_sV hp
    refine k _ _ _ _ (q (ys'.map M.D.str) (by rw [ex]; exact hp'.map _) (sorted_pw so) l (rh.none hn)) (frm_new hn) rfl (rh_new rh hn ⟨_, upd_same, ?_⟩)
    rw [List.map_map]
    exact reps_strs fun s hs => k2 s (hp'.mem_iff.mp hs)
theorem blt_ok {b : M.Blt} {ds : List SD} {vs : List V} (rh : RH K H h) (r : Reps K H ds vs) (q : M.opBlt b ds h Qa) (k : Kont K H h Qa Q) : rBlt K b vs H Q := by
  have hl := line_eq
  by_cases bs : b = .sortd
  · subst bs
    exact sortd_ok rh r q k
  cases b <;> simp only [M.opBlt] at q
  case len =>
    obtain ⟨d, rfl, q1⟩ := arg1_inv q
    obtain ⟨v, rfl, rv⟩ := reps1 r
    rcases lenOk_inv q1 with ⟨s, rfl, hz, q⟩ | ⟨xs, e, q⟩ | ⟨p, kd, kvs, rfl, e, q⟩
    · refine .inl ⟨v, s.length, rfl, ?_, k.now rh q rfl⟩
      cases (show v = _ from rv.1)
      exact ⟨by rw [sV_len, hl]; exact hz, (sV_len s).symm⟩
    · obtain ⟨p, ws, ev, t, rs⟩ := seq_rep rh rv e
      subst ev
      refine .inl ⟨_, xs.length, rfl, ?_, k.now rh q rfl⟩
      rcases t with ⟨t, _⟩ | ⟨t, _⟩
      · exact .inl ⟨ws, t, rs.length.symm⟩
      · exact .inr ⟨ws, t, rs.length.symm⟩
    · cases (show v = _ from rv)
      obtain ⟨rfl, ps, rd, pr⟩ := rd_dct (e.imp (rh p _) (rh p _))
      have ln := Paired.length pr
      exact .inr ⟨p, ps, rfl, rd, k.now rh q (by show V.int _ = V.int _; rw [ln])⟩
  case min2 =>
    obtain ⟨d, e, rfl, q⟩ := arg2_inv q
    obtain ⟨v, w, rfl, rv, rw'⟩ := reps2 r
    obtain ⟨i, rfl, q⟩ := anInt_inv q
    obtain ⟨j, rfl, q⟩ := anInt_inv q
    cases (show v = _ from rv); cases (show w = _ from rw')
    exact ⟨i, j, rfl, k.now rh q rfl⟩
  case max2 =>
    obtain ⟨d, e, rfl, q⟩ := arg2_inv q
    obtain ⟨v, w, rfl, rv, rw'⟩ := reps2 r
    obtain ⟨i, rfl, q⟩ := anInt_inv q
    obtain ⟨j, rfl, q⟩ := anInt_inv q
    cases (show v = _ from rv); cases (show w = _ from rw')
    exact ⟨i, j, rfl, k.now rh q rfl⟩
  case int1 =>
    obtain ⟨d, rfl, q⟩ := arg1_inv q
    obtain ⟨v, rfl, rv⟩ := reps1 r
    rcases toInt_inv q with ⟨i, rfl, q⟩ | ⟨i, rfl, q⟩
    · cases (show v = _ from rv)
      exact .inl ⟨i, rfl, k.now rh q rfl⟩
    · cases (show v = _ from rv)
      exact .inr ⟨i, rfl, k.now rh q rfl⟩
  case abs =>
    obtain ⟨d, rfl, q⟩ := arg1_inv q
    obtain ⟨v, rfl, rv⟩ := reps1 r
    obtain ⟨i, rfl, q⟩ := anInt_inv q
    cases (show v = _ from rv)
    exact ⟨i, rfl, k.now rh q rfl⟩
  case sum =>
    obtain ⟨d, rfl, q⟩ := arg1_inv q
    obtain ⟨v, rfl, rv⟩ := reps1 r
    obtain ⟨p, xs, rfl, e, q⟩ := aLst_inv q
    obtain ⟨ns, e2, q⟩ := aSome_inv q
    cases (show v = _ from rv)
    obtain ⟨vs, a1, r1⟩ := rh p _ e
    have := ints_rep e2 r1
    subst this
    exact ⟨p, ns, rfl, SqL.of a1, k.now rh q rfl⟩
  case all =>
    obtain ⟨d, rfl, q⟩ := arg1_inv q
    obtain ⟨v, rfl, rv⟩ := reps1 r
    obtain ⟨p, xs, rfl, e, q⟩ := aLst_inv q
    obtain ⟨ns, e2, q⟩ := aSome_inv q
    cases (show v = _ from rv)
    obtain ⟨vs, a1, r1⟩ := rh p _ e
    have := bls_rep e2 r1
    subst this
    exact ⟨p, ns, rfl, SqL.of a1, k.now rh q rfl⟩
  case any =>
    obtain ⟨d, rfl, q⟩ := arg1_inv q
    obtain ⟨v, rfl, rv⟩ := reps1 r
    obtain ⟨p, xs, rfl, e, q⟩ := aLst_inv q
    obtain ⟨ns, e2, q⟩ := aSome_inv q
    cases (show v = _ from rv)
    obtain ⟨vs, a1, r1⟩ := rh p _ e
    have := bls_rep e2 r1
    subst this
    exact ⟨p, ns, rfl, SqL.of a1, k.now rh q rfl⟩
  case list =>
    obtain ⟨d, rfl, q⟩ := arg1_inv q
    obtain ⟨v, rfl, rv⟩ := reps1 r
    obtain ⟨xs, e, q⟩ := aSome_inv q
    obtain ⟨p, ws, ev, t, rs⟩ := seq_rep rh rv e
    subst ev
    refine ⟨p, ws, rfl, t.imp (·.1) (·.1), fun l hn => ?_⟩
    exact k _ _ _ _ (q l (rh.none hn)) (frm_new hn) rfl (rh_new rh hn ⟨_, upd_same, rs.kp (kp_new hn)⟩)
  case tuple =>
    obtain ⟨d, rfl, q⟩ := arg1_inv q
    obtain ⟨v, rfl, rv⟩ := reps1 r
    obtain ⟨xs, e, q⟩ := aSome_inv q
    obtain ⟨p, ws, ev, t, rs⟩ := seq_rep rh rv e
    subst ev
    refine ⟨p, ws, rfl, ?_⟩
    rcases t with ⟨t, _⟩ | ⟨t, e3⟩
    · refine .inl ⟨t, fun l hn => ?_⟩
      exact k _ _ _ _ q (frm_hid hn) ⟨l, ws, rfl, .inl upd_same, rs.kp (kp_new hn)⟩ (rh_hid rh hn)
    · subst e3
      exact .inr ⟨t, k.now rh q rv⟩
  case dict1 =>
    obtain ⟨d, rfl, q⟩ := arg1_inv q
    obtain ⟨v, rfl, rv⟩ := reps1 r
    obtain ⟨p, kd, kvs, rfl, e1, q⟩ := aDctR_inv q
    cases (show v = _ from rv)
    obtain ⟨rfl, ps, a1, pr⟩ := rd_dct (e1.imp (rh p _) (rh p _))
    refine ⟨p, ps, rfl, a1, fun l hn => ?_⟩
    exact k _ _ _ _ (q l (rh.none hn)) (frm_new hn) rfl (rh_new rh hn (dct0.mpr ⟨ps, upd_same, Paired.mapP pr fun _ _ z => ⟨z.1, z.2.kp (kp_new hn)⟩⟩))
  case klist =>
    obtain ⟨d, rfl, q⟩ := arg1_inv q
    obtain ⟨v, rfl, rv⟩ := reps1 r
    obtain ⟨p, kd, kvs, rfl, e1, q⟩ := aDctR_inv q
    cases (show v = _ from rv)
    obtain ⟨rfl, ps, a1, pr⟩ := rd_dct (e1.imp (rh p _) (rh p _))
    refine ⟨p, ps, rfl, a1, fun l hn => ?_⟩
    exact k _ _ _ _ (q l (rh.none hn)) (frm_new hn) rfl (rh_new rh hn ⟨_, upd_same, keys_rep pr⟩)
  case max1 =>
    obtain ⟨d, rfl, q⟩ := arg1_inv q
    obtain ⟨v, rfl, rv⟩ := reps1 r
    obtain ⟨p, xs, rfl, e, q⟩ := aLst_inv q
    obtain ⟨ns, e2, q0, q⟩ := aSome_inv q
    cases (show v = _ from rv)
    obtain ⟨vs, a1, r1⟩ := rh p _ e
    have := ints_rep e2 r1
    subst this
    exact ⟨p, ns, rfl, SqL.of a1, List.length_pos_iff.mpr q0, fun m h1 h2 => k.now rh (q m h1 h2) rfl⟩
  case sortd => exact absurd rfl bs
  case sorted =>
    obtain ⟨d, rfl, q⟩ := arg1_inv q
    obtain ⟨v, rfl, rv⟩ := reps1 r
    obtain ⟨p, kd, kvs, rfl, e1, q⟩ := aDctR_inv q
    obtain ⟨ss, e2, q0, q⟩ := aSome_inv q
    cases (show v = _ from rv)
    obtain ⟨rfl, ps, a1, pr⟩ := rd_dct (e1.imp (rh p _) (rh p _))
    obtain ⟨k1, k2⟩ := keys_strs pr e2
    refine ⟨p, ps, ss.map sV, rfl, a1, k1, by simpa using q0, fun ys l hp _ hn => ?_⟩
    obtain ⟨ys', rfl, hp'⟩ := perm_sV hp
    refine k _ _ _ _ (q ys' hp' l (rh.none hn)) (frm_new hn) rfl (rh_new rh hn ⟨_, upd_same, ?_⟩)
    rw [List.map_map]
    exact reps_strs fun s hs => k2 s (hp'.mem_iff.mp hs)

/-! ### isinstance -/
def tyS : M.Ty → String
  | .int => "int" | .bool => "bool" | .tuple => "tuple" | .str => "str" | .list => "list" | .dict => "dict"
theorem isi_ok {d : SD} {t : M.Ty} {v : V} {b : Bool} (rh : RH K H h) (r : Rep K H d v) (e : M.opIsi d t h = some b) (q : Q (.bl b) H) : rIsi K [v, .ty (tyS t)] H Q := by
  have go : ∀ (T : String), TyX K H v (.type T) → kitB T (tyS t) = some b → rIsi K [v, .ty (tyS t)] H Q := fun T ty k => ⟨v, _, _, _, b, rfl, .ty _, ty, kit_ty k, q⟩
  cases d with
  | non =>
    cases (show v = _ from r)
    refine ⟨_, _, _, _, b, rfl, .ty _, .base .non, ?_, q⟩
    cases t <;> simp only [M.opIsi, Option.some.injEq] at e <;> subst e <;> rfl
  | bl y =>
    cases (show v = _ from r)
    refine go "bool" (.base (.bl y)) ?_
    cases t <;> simp only [M.opIsi, Option.some.injEq] at e <;> subst e <;> decide +kernel
  | int y =>
    cases (show v = _ from r)
    refine go "int" (.base (.int y)) ?_
    cases t <;> simp only [M.opIsi, Option.some.injEq] at e <;> subst e <;> decide +kernel
  | str y =>
    cases (show v = _ from r.1)
    refine go "str" (.base (.str _)) ?_
    cases t <;> simp only [M.opIsi, Option.some.injEq] at e <;> subst e <;> decide +kernel
  | tup y =>
    obtain ⟨a, vs, e1, tt, rs⟩ := r
    subst e1
    refine go "tuple" ?_ ?_
    · rcases tt with tt | ⟨o, its, n, e1, e2, _⟩
      · exact .base (.tup tt)
      · exact .kTuple e1 e2
    · cases t <;> simp only [M.opIsi, Option.some.injEq] at e <;> subst e <;> decide +kernel
  | ref p =>
    cases (show v = _ from r)
    simp only [M.opIsi] at e
    cases z : h p with
    | none => rw [z] at e; cases e
    | some o =>
      rw [z] at e
      cases o with
      | lst xs =>
        obtain ⟨vs, a1, r1⟩ := rh p _ z
        refine go "list" (.base (.lst a1)) ?_
        cases t <;> simp only [Option.some.injEq] at e <;> subst e <;> decide +kernel
      | dct kd kvs =>
        cases kd with
        | succ _ => cases e
        | zero =>
          obtain ⟨ps, a1, _⟩ := dct0.mp (rh p _ z)
          refine go "dict" (.base (.dK a1)) ?_
          cases t <;> simp only [Option.some.injEq] at e <;> subst e <;> decide +kernel
      | _ => cases e
  | rol _ => simp [M.opIsi] at e

/-! ### methods -/
/-- list.extend by a tuple, whatever else the tuple's object holds -/
theorem ext_tup (l b : Addr) (xs ys : Array Value) (n m : Nat) (dd : Option Addr) (sl : Array (Option Value)) (h1 : ¬(!xs.isEmpty && Builtin.List.listTooLong (xs.size + ys.size)) = true) (h2 : xs.size ≤ sizeLine) (h3 : xs.size + ys.size ≤ sizeLine + 1) :
    Meets (Builtin.«list.extend» ⟨[.ref l, .ref b], []⟩) (fun _ R s => s.heap.get? l = some { cls := .type "list", dict := none, data := .seq xs n, slots := #[] } ∧
      s.heap.get? b = some { cls := .type "tuple", dict := dd, data := .seq ys m, slots := sl } ∧
      R (.ok (.ret Value.none)) { s with heap := s.heap.update l (Obj.mapSeq fun x => x ++ ys), toks := s.toks }) := .of_wp fun prog w A R s h => by
    obtain ⟨hp, g, d, tk, os⟩ := s
    obtain ⟨hl, hb, h⟩ := h
    have f1 := AutoSeq1.idx_int
    have f2 := AutoSeq1.sub_tuple_tuple
    have f3 := AutoSeq1.sub_list_list
    have f4 := AutoSeq1.sub_tuple_list
    have f5 := AutoSeq1.sub_list_tuple
    have h4 : (xs ++ ys).size ≤ sizeLine + 1 := by rw [Array.size_append]; exact h3
    wp_walk using (wpAny_updateSeq hl rfl (hz := h2) (_hz' := h4)), AutoSeq1.wpAny_loadPart' hl, AutoSeq1.wpAny_loadPart' hb
    exact ⟨_, rfl, h⟩
def rExtT (K : Fr) : V → List V → Hp → VK → Prop := fun x vs H Q => ∃ l b xs zs, x = .ref l ∧ vs = [.ref b] ∧ H l = some (.lst xs) ∧ SqT K H b zs ∧ xs.length + zs.length ≤ sizeLine ∧ Q .non (upd H l (.lst (xs ++ zs)))
theorem mt_extT {X : Cx} : MtR X "list.extend" (rExtT X.F) := by
  intro pins s σ H x vs v us Q I rx rv h
  obtain ⟨l, b, xs, zs, rfl, rfl, hH, hB, hz, q⟩ := h
  cases rx
  obtain ⟨u, rfl, ru⟩ := rv.one
  cases ru
  obtain ⟨z, its, n, r, hl, e⟩ := I.lstM hH
  obtain ⟨its2, r2, ⟨o, e2, c2, m, d2⟩, _⟩ := I.tuple hB
  obtain ⟨oc, od, dt, osl⟩ := o
  dsimp only at c2 d2
  subst c2 d2
  have hsz : its.toArray.size + its2.toArray.size ≤ sizeLine := by
    have a1 := r.length
    have a2 := r2.length
    rw [List.size_toArray, List.size_toArray]; omega
  have hlong : ¬ (!its.toArray.isEmpty && Builtin.List.listTooLong (its.toArray.size + its2.toArray.size)) = true := by
    rw [notLongL hsz, Bool.and_false]
    exact Bool.false_ne_true
  refine call_meets F.slot_list_extend ⟨_, e, rfl⟩ F.entry_list_extend (F.args_list_extend_2 _ _) (ext_tup l b its.toArray its2.toArray n m od osl hlong (by omega) (by omega)) ⟨e, e2, ?_⟩
  refine ⟨.non, _, I.lset (its' := its ++ its2) hH e (by simp) (r.append r2) ?_, rfl, q⟩
  rw [List.length_append]
  omega
def mthT : M.Mth → Option (String × String × Str)
  | .append => some ("list", "list.append", "append") | .pop => some ("list", "list.pop", "pop") | .popAt => some ("list", "list.pop", "pop") | .extend => some ("list", "list.extend", "extend")
  | .reverse => some ("list", "list.reverse", "reverse") | .clear => some ("list", "list.clear", "clear") | .get1 => some ("dict", "dict.get", "get") | .get2 => some ("dict", "dict.get", "get")
  | .update => some ("dict", "dict.update", "update") | .insert => some ("list", "list.insert", "insert") | .dclear => some ("dict", "dict.clear", "clear") | .join => some ("str", "str.join", "join") | .sindex => some ("str", "str.index", "index") | .index => some ("list", "list.index", "index") | .extendT => some ("list", "list.extend", "extend") | _ => none
def rUpd : V → List V → Hp → VK → Prop := fun x vs H Q => ∃ (a b : Addr) (ks ls : List (Key × V)), x = .ref a ∧ vs = [.ref b] ∧ a ≠ b ∧ H a = some (.dK ks) ∧ H b = some (.dK ls) ∧ ks.length + ls.length ≤ sizeLine ∧ Q .non (upd H a (.dK (mergeK ks ls)))
theorem mt_update {X : Cx} : MtR X "dict.update" rUpd := by
  intro pins s σ H x vs v us Q I rx rv h
  obtain ⟨a, b, ks, ls, rfl, rfl, hne, ha, hb, hz, q⟩ := h
  cases rx
  obtain ⟨u, rfl, ru⟩ := rv.one
  obtain rfl : u = Value.ref b := ru
  obtain ⟨_, ya, va, ra, da⟩ := dk_of I.hok ha
  obtain ⟨_, yb, vb, rb, db⟩ := dk_of I.hok hb
  refine call_meetsIn PySem.F.slot_dict_update da.typeIs PySem.F.entry_dict_update (PySem.F.args_dict_update_2 _ _) (meets_dict_update (mixKind X.prog X.w) a b hne yb) ⟨va, vb, da, db, by rw [← ra.length, ← rb.length]; exact hz, fun h' d1 d2 hs => ?_⟩
  have rm := KV.merge rb ra
  have hl : (mergeK ks ls).length ≤ sizeLine := by have := length_mergeK ls ks; omega
  obtain ⟨o1, ho1, _⟩ := Heap.dictOf_iff.mp d1
  exact ⟨.non, _, d_write I (by rw [ha]; trivial) hs ⟨_, ho1⟩ (dk_new hl ya rm d1), rfl, q⟩
def rGet1 : V → List V → Hp → VK → Prop := fun x vs H Q => ∃ a y o, x = .ref a ∧ vs = [y] ∧ DGet H a y o ∧ Q (o.getD .non) H
def rGet2 : V → List V → Hp → VK → Prop := fun x vs H Q => ∃ a y z o, x = .ref a ∧ vs = [y, z] ∧ DGet H a y o ∧ Q (o.getD z) H
theorem mt_get1 {X : Cx} (hu : X.A.units + 1 < cLine) : MtR X "dict.get" rGet1 := by
  intro pins s σ H x vs v us Q I rx rv h
  obtain ⟨a, y, o, rfl, rfl, g, q⟩ := h
  cases rx
  obtain ⟨u, rfl, ru⟩ := rv.one
  exact d_get1 hu I g ru fun w' s3 I3 rw' => ⟨_, H, I3, rw', q⟩
theorem mt_get2 {X : Cx} (hu : X.A.units + 1 < cLine) : MtR X "dict.get" rGet2 := by
  intro pins s σ H x vs v us Q I rx rv h
  obtain ⟨a, y, z, o, rfl, rfl, g, q⟩ := h
  cases rx
  obtain ⟨u, u2, rfl, ru, ru2⟩ := rv.two
  exact d_get2 hu I g ru ru2 fun w' s3 I3 rw' => ⟨_, H, I3, rw', q⟩
def rMth (K : Fr) : M.Mth → V → List V → Hp → VK → Prop
  | .append => rAppend | .pop => rPop | .popAt => rPopAt | .extend => rExtend | .reverse => rReverse | .clear => rClear | .get1 => rGet1 | .get2 => rGet2 | .update => rUpd
  | .insert => fun x vs H Q => ∃ (l : Addr) (xs : List V) (i : Int) (y : V), x = .ref l ∧ vs = [.int i, y] ∧ H l = some (.lst xs) ∧ xs.length < sizeLine ∧ 0 ≤ i ∧ i < 2 ^ 63 ∧ Q .non (upd H l (.lst (xs.take i.toNat ++ [y] ++ xs.drop i.toNat)))
  | .dclear => rDClear
  | .extendT => rExtT K
  | .index => rIndex K
  | .sindex => fun x xs H Q => ∃ a b i rest, x = .str a ∧ xs = [.str b] ∧ Builtin.Str.occurrences a b 0 a.length 1 = i :: rest ∧ Q (.int (i : Nat)) H
  | .join => fun x xs H Q => ∃ a p, ∃ ys : List Str, x = .str a ∧ xs = [.ref p] ∧ (SqL K H p (ys.map V.str) ∨ SqT K H p (ys.map V.str)) ∧ (ys.map (·.length)).sum + ys.length * a.length ≤ 16777216 ∧ Q (.str (Txt.join a ys)) H
  | _ => fun _ _ _ _ => False
structure MFact (m : M.Mth) (T id : String) (nm : Str) : Prop where
  pa : PlainAttrs T
  slot : Slot T nm id
  ty : typeOf (.builtin id) = pure (.type "method_descriptor")
theorem mth_fact {m : M.Mth} {T id : String} {nm : Str} (e : mthT m = some (T, id, nm)) : MFact m T id nm := by
  cases m <;> simp only [mthT, Option.some.injEq, Prod.mk.injEq, reduceCtorEq] at e <;> obtain ⟨rfl, rfl, rfl⟩ := e
  · exact ⟨PySem.F.plainAttrs_list, PySem.F.slot_list_append, PySem.F.type_list_append⟩
  · exact ⟨PySem.F.plainAttrs_list, PySem.F.slot_list_pop, PySem.F.type_list_pop⟩
  · exact ⟨PySem.F.plainAttrs_list, PySem.F.slot_list_pop, PySem.F.type_list_pop⟩
  · exact ⟨PySem.F.plainAttrs_list, PySem.F.slot_list_extend, PySem.F.type_list_extend⟩
  · exact ⟨PySem.F.plainAttrs_list, PySem.F.slot_list_insert, PySem.F.type_list_insert⟩
  · exact ⟨PySem.F.plainAttrs_list, PySem.F.slot_list_reverse, PySem.F.type_list_reverse⟩
  · exact ⟨PySem.F.plainAttrs_list, PySem.F.slot_list_clear, PySem.F.type_list_clear⟩
  · exact ⟨PySem.F.plainAttrs_dict, PySem.F.slot_dict_get, PySem.F.type_dict_get⟩
  · exact ⟨PySem.F.plainAttrs_dict, PySem.F.slot_dict_get, PySem.F.type_dict_get⟩
  · exact ⟨PySem.F.plainAttrs_dict, PySem.F.slot_dict_update, PySem.F.type_dict_update⟩
  · exact ⟨PySem.F.plainAttrs_str, PySem.F.slot_str_join, PySem.F.type_str_join⟩
  · exact ⟨PySem.F.plainAttrs_str, PySem.F.slot_str_index, PySem.F.type_str_index⟩
  · exact ⟨PySem.F.plainAttrs_list, PySem.F.slot_list_index, PySem.F.type_list_index⟩
  · exact ⟨PySem.F.plainAttrs_dict, PySem.F.slot_dict_clear, PySem.F.type_dict_clear⟩
  · exact ⟨PySem.F.plainAttrs_list, PySem.F.slot_list_extend, PySem.F.type_list_extend⟩
theorem mth_rule {X : Cx} (hu : X.A.units + 1 < cLine) {m : M.Mth} {T id : String} {nm : Str} (e : mthT m = some (T, id, nm)) : MtR X id (rMth X.F m) := by
  cases m <;> simp only [mthT, Option.some.injEq, Prod.mk.injEq, reduceCtorEq] at e <;> obtain ⟨rfl, rfl, rfl⟩ := e
  · exact mt_append
  · exact mt_pop
  · exact mt_popAt
  · exact mt_extend
  · exact mt_insert
  · exact mt_reverse
  · exact mt_clear
  · exact mt_get1 hu
  · exact mt_get2 hu
  · exact mt_update
  · exact mt_join
  · exact mt_sindex
  · exact mt_index
  · exact mtd_clear
  · exact mt_extT
theorem recv_ok {m : M.Mth} {T id : String} {nm : Str} (e : mthT m = some (T, id, nm)) {d : SD} {v : V} (rh : RH K H h) (r : Rep K H d v) (q : M.recvOk m d h) : tyV K T v H := by
  have lst : M.aLst d h (fun _ _ => True) → tyV K "list" v H := fun q => by
    obtain ⟨p, xs, rfl, e1, _⟩ := aLst_inv q
    cases (show v = _ from r)
    obtain ⟨vs, a1, r1⟩ := rh p _ e1
    exact .inl ⟨rfl, vs, SqL.of a1⟩
  have dct : M.aDct d h (fun _ _ _ => True) → tyV K "dict" v H := fun q => by
    obtain ⟨p, kd, xs, rfl, e1, _⟩ := aDct_inv q
    cases (show v = _ from r)
    have o := rh p _ e1
    match kd, o with
    | 0, ⟨ps, a1, _⟩ => exact .inr (.inr (.inl ⟨rfl, .inl ⟨ps, a1⟩⟩))
  cases m <;> simp only [mthT, Option.some.injEq, Prod.mk.injEq, reduceCtorEq] at e <;> obtain ⟨rfl, rfl, rfl⟩ := e
  · exact lst q
  · exact lst q
  · exact lst q
  · exact lst q
  · exact lst q
  · exact lst q
  · exact lst q
  · exact dct q
  · exact dct q
  · exact dct q
  · cases d with
    | str s => cases (show v = _ from r.1); exact rfl
    | _ => exact False.elim q
  · cases d with
    | str s => cases (show v = _ from r.1); exact rfl
    | _ => exact False.elim q
  · exact lst q
  · exact dct q
  · exact lst q
theorem lst_put {p : Addr} {xs ys : List SD} {ws : List V} {d : SD} {v : V} (rh : RH K H h) (e : h p = some (.lst xs)) (q : Qa d (M.up h p (.lst ys))) (k : Kont K H h Qa Q) (rd : Rep K H d v) (rs : Reps K H ys ws) :
    Q v (upd H p (.lst ws)) := by
  have kp : Kp H (upd H p (.lst ws)) := kp_put rh e
  exact k _ _ _ _ q (frm_put e) (rd.kp kp) (rh_put rh e ⟨_, upd_same, rs.kp kp⟩)
theorem Reps.erase : ∀ (n : Nat) {ds : List SD} {vs : List V}, Reps K H ds vs → Reps K H (ds.eraseIdx n) (vs.eraseIdx n)
  | _, [], _, r => by cases (show _ = _ from r); exact rfl
  | 0, d :: ds, _, ⟨v, r, e, a, b⟩ => by subst e; exact b
  | n + 1, d :: ds, _, ⟨v, r, e, a, b⟩ => by subst e; exact ⟨v, _, rfl, a, Reps.erase n b⟩
theorem kv_merge : ∀ {more kvs : List (SD × SD)} {ls ks : List (Key × V)}, Paired (PR K H R0) more ls → Paired (PR K H R0) kvs ks → Paired (PR K H R0) (M.mergeL kvs more) (mergeK ks ls) := by
  intro more kvs ls ks r
  induction r generalizing kvs ks with
  | nil => intro q; exact q
  | @cons x p xs ps h t ih =>
    intro q
    exact ih (kv_put kr0 q h.1 h.2)
theorem joinS_eq (s : M.Sx) : ∀ ss : List M.Sx, TL.joinL s ss = M.joinS s ss
  | [] => rfl
  | [_] => rfl
  | p :: q :: r => by
    show p ++ (s ++ TL.joinL s (q :: r)) = p ++ (s ++ M.joinS s (q :: r))
    rw [joinS_eq s (q :: r)]
theorem joinS_ok {s : M.Sx} (os : sOk s) : ∀ {ss : List M.Sx}, (∀ t ∈ ss, sOk t) → sOk (M.joinS s ss)
  | [], _ => fun c hc => nomatch hc
  | [p], h => h p List.mem_cons_self
  | p :: q :: r, h => fun c hc => by
    rcases List.mem_append.mp hc with z | z
    · exact h p List.mem_cons_self c z
    · rcases List.mem_append.mp z with z | z
      · exact os c z
      · exact joinS_ok os (fun t ht => h t (List.mem_cons_of_mem _ ht)) c z
theorem mth_ok {m : M.Mth} {d : SD} {v : V} {ds : List SD} {vs : List V} (rh : RH K H h) (rd : Rep K H d v) (r : Reps K H ds vs) (q : M.opMth m d ds h Qa) (k : Kont K H h Qa Q) : rMth K m v vs H Q := by
  have hl := line_eq
  cases m <;> simp only [M.opMth] at q
  case append =>
    obtain ⟨e, rfl, q⟩ := arg1_inv q
    obtain ⟨w, rfl, rw'⟩ := reps1 r
    obtain ⟨p, xs, rfl, e1, hz, q⟩ := aLst_inv q
    cases (show v = _ from rd)
    obtain ⟨ws, a1, r1⟩ := rh p _ e1
    have ln := r1.length
    exact ⟨p, ws, w, rfl, rfl, a1, by omega, lst_put rh e1 q k rfl (r1.append (.one rw'))⟩
  case pop =>
    obtain ⟨rfl, q⟩ := q
    cases (show vs = _ from r)
    obtain ⟨p, xs, rfl, e1, q⟩ := aLst_inv q
    obtain ⟨y, e2, q⟩ := aSome_inv q
    cases (show v = _ from rd)
    obtain ⟨ws, a1, r1⟩ := rh p _ e1
    have ln := r1.length
    obtain ⟨w, e3, ry⟩ := r1.get e2
    exact ⟨p, ws, w, rfl, rfl, a1, by rw [ln]; exact e3, lst_put rh e1 q k ry r1.dropLast⟩
  case popAt =>
    obtain ⟨e, rfl, q⟩ := arg1_inv q
    obtain ⟨i, rfl, q⟩ := anInt_inv q
    obtain ⟨w, rfl, rw'⟩ := reps1 r
    cases (show w = _ from rw')
    obtain ⟨p, xs, rfl, e1, ⟨i0, i1⟩, q⟩ := aLst_inv q
    obtain ⟨y, e2, q⟩ := aSome_inv q
    cases (show v = _ from rd)
    obtain ⟨ws, a1, r1⟩ := rh p _ e1
    have ln := r1.length
    obtain ⟨w, e3, ry⟩ := r1.get e2
    have hlt : i.toNat < ws.length := (List.getElem?_eq_some_iff.mp e3).1
    refine ⟨p, ws, i, i.toNat, w, rfl, rfl, a1, by omega, by omega, ?_, e3, lst_put rh e1 q k ry (r1.erase _)⟩
    exact seqIndex_of (by omega) (by omega)
  case update =>
    obtain ⟨e, rfl, q⟩ := arg1_inv q
    obtain ⟨w, rfl, rw'⟩ := reps1 r
    obtain ⟨p, kd, kvs, rfl, e1, q⟩ := aDct_inv q
    obtain ⟨p2, kd2, more, rfl, e2, hne, rfl, rfl, hz, q⟩ := aDct_inv q
    cases (show v = _ from rd); cases (show w = _ from rw')
    obtain ⟨ks, a1, r1⟩ := dct0.mp (rh p _ e1)
    obtain ⟨ls, a2, r2⟩ := dct0.mp (rh p2 _ e2)
    have n1 := Paired.length r1
    have n2 := Paired.length r2
    have kp : Kp H (upd H p (.dK (mergeK ks ls))) := kp_put rh e1
    refine ⟨p, p2, ks, ls, rfl, rfl, hne, a1, a2, by omega, k _ _ _ _ q (frm_put e1) rfl (rh_put rh e1 (dct0.mpr ⟨_, upd_same, ?_⟩))⟩
    exact Paired.mapP (kv_merge r2 r1) fun _ _ z => ⟨z.1, z.2.kp kp⟩
  case insert =>
    obtain ⟨y, e, rfl, q⟩ := arg2_inv q
    obtain ⟨i, rfl, q⟩ := anInt_inv q
    obtain ⟨w, u, rfl, rw', ru⟩ := reps2 r
    cases (show w = _ from rw')
    obtain ⟨p, xs, rfl, e1, ⟨i0, i1⟩, hz, q⟩ := aLst_inv q
    cases (show v = _ from rd)
    obtain ⟨ws, a1, r1⟩ := rh p _ e1
    have ln := r1.length
    exact ⟨p, ws, i, u, rfl, rfl, a1, by omega, i0, by omega, lst_put rh e1 q k rfl (((r1.take _).append (.one ru)).append (r1.drop _))⟩
  case index =>
    obtain ⟨e, rfl, q⟩ := arg1_inv q
    obtain ⟨i, rfl, q⟩ := anInt_inv q
    obtain ⟨w, rfl, rw'⟩ := reps1 r
    cases (show w = _ from rw')
    obtain ⟨p, xs, rfl, e1, q⟩ := aLst_inv q
    obtain ⟨ns, e2, hi, q⟩ := aSome_inv q
    cases (show v = _ from rd)
    obtain ⟨ws, a1, r1⟩ := rh p _ e1
    obtain rfl := ints_rep e2 r1
    have hlt := List.idxOf_lt_length_of_mem hi
    have hz : ns[ns.idxOf i]? = some i := by
      rw [List.getElem?_eq_getElem hlt]
      simp
    refine ⟨p, _, _, ns.idxOf i, V.int i, rfl, rfl, SqL.of a1, rfl, ?_, by rw [List.getElem?_map, hz]; rfl, ?_, ?_, k.now rh q rfl⟩
    · simp [flatV]
    · simp [eqV]
    · intro m z' hm hz'
      rw [List.getElem?_map] at hz'
      cases e3 : ns[m]? with
      | none => rw [e3] at hz'; cases hz'
      | some j =>
        rw [e3] at hz'
        cases hz'
        have : j ≠ i := fun c => by
          subst c
          obtain ⟨l, e4⟩ := List.getElem?_eq_some_iff.mp e3
          have := List.not_of_lt_findIdx (p := (· == j)) (xs := ns) (i := m) hm
          simp [e4] at this
        simp [eqV, this]
  case dclear =>
    obtain ⟨rfl, q⟩ := q
    cases (show vs = _ from r)
    obtain ⟨p, kd, kvs, rfl, e1, rfl, q⟩ := aDct_inv q
    cases (show v = _ from rd)
    obtain ⟨ks, a1, r1⟩ := dct0.mp (rh p _ e1)
    exact ⟨p, ks, rfl, rfl, a1, k _ _ _ _ q (frm_put e1) rfl (rh_put rh e1 (dct0.mpr ⟨[], upd_same, .nil⟩))⟩
  case join =>
    obtain ⟨e, rfl, q⟩ := arg1_inv q
    obtain ⟨w, rfl, rw'⟩ := reps1 r
    cases d with
    | str s =>
      obtain ⟨xs, e1, q⟩ := aSome_inv q
      obtain ⟨ss, e2, hz, q⟩ := aSome_inv q
      obtain ⟨rd, os⟩ := rd
      cases (show v = _ from rd)
      obtain ⟨p, ws, ev, t, rs⟩ := seq_rep rh rw' e1
      subst ev
      obtain ⟨e3, oks⟩ := strs_rep e2 rs
      subst e3
      refine ⟨sV s, p, ss.map sV, rfl, rfl, ?_, ?_, ?_⟩
      · have : (ss.map sV).map V.str = ss.map fun s => V.str (sV s) := by rw [List.map_map]; rfl
        rw [this]
        exact t.imp (·.1) (·.1)
      · rw [List.map_map, List.length_map, sV_len]
        have : (ss.map ((fun x : Str => x.length) ∘ sV)) = ss.map (·.length) := List.map_congr_left fun x _ => sV_len x
        rw [this]
        exact hz
      · have : Txt.join (sV s) (ss.map sV) = sV (M.joinS s ss) := (SX.join_S s ss).trans (by rw [joinS_eq]; rfl)
        rw [this]
        refine k.now rh q ⟨rfl, ?_⟩
        exact joinS_ok os oks
    | _ => exact False.elim q
  case sindex =>
    obtain ⟨dt, rfl, q8⟩ := arg1_inv q
    obtain ⟨u, rfl, r2⟩ := reps1 r
    cases dt with
    | str t =>
      cases d with
      | str s =>
        obtain ⟨c, e1, hc, q9⟩ := (show ∃ c, t = [c] ∧ c ∈ s ∧ ∀ i : Nat, s[i]? = some c → Qa (.int (i : Nat)) h from q8)
        subst e1
        cases (show v = _ from rd.1)
        cases (show u = _ from r2.1)
        have ne := empty_one (sV s) c
        have hm : decide (c ∈ (sV s).cps.toList) = true := by simpa [sV_cps] using hc
        rw [hm] at ne
        cases eo : Builtin.Str.occurrences (sV s) (sV [c]) 0 (sV s).length 1 with
        | nil =>
          have : Builtin.Str.occurrences (sV s) ⟨#[c]⟩ 0 (sV s).length 1 = [] := eo
          rw [this] at ne
          cases ne
        | cons i rest =>
          obtain ⟨l1, l2⟩ := StrLaws.occ_spec (sV s) (sV [c]) 0 (sV s).length 1 i (by rw [eo]; exact List.mem_cons_self)
          refine ⟨sV s, sV [c], i, rest, rfl, rfl, eo, k.now rh (q9 i ?_) rfl⟩
          have l3 : (s.toArray.extract i (i + 1)) = #[c] := eq_of_beq l2
          have l4 := congrArg Array.toList l3
          simp only [Array.toList_extract] at l4
          have l5 : (s.drop i).take 1 = [c] := by simpa [List.extract_eq_take_drop] using l4
          have l6 := congrArg (fun l : List Nat => l[0]?) l5
          simpa [List.getElem?_take, List.getElem?_drop] using l6
      | _ => exact False.elim q
    | _ => exact False.elim q
  case extend =>
    obtain ⟨e, rfl, q⟩ := arg1_inv q
    obtain ⟨w, rfl, rw'⟩ := reps1 r
    obtain ⟨p, xs, rfl, e1, q⟩ := aLst_inv q
    obtain ⟨p2, ys, rfl, e2, hz, q⟩ := aLst_inv q
    cases (show v = _ from rd); cases (show w = _ from rw')
    obtain ⟨ws, a1, r1⟩ := rh p _ e1
    obtain ⟨zs, a2, r2⟩ := rh p2 _ e2
    have ln := r1.length
    have ln2 := r2.length
    exact ⟨p, p2, ws, zs, rfl, rfl, a1, a2, by omega, lst_put rh e1 q k rfl (r1.append r2)⟩
  case extendT =>
    obtain ⟨e, rfl, q⟩ := arg1_inv q
    obtain ⟨w, rfl, rw'⟩ := reps1 r
    obtain ⟨p, xs, rfl, e1, q⟩ := aLst_inv q
    cases (show v = _ from rd)
    cases e with
    | tup ys =>
      obtain ⟨hz, q⟩ := (show xs.length + ys.length ≤ M.LINE ∧ _ from q)
      obtain ⟨a, zs, e2, t, r2⟩ := rw'
      subst e2
      obtain ⟨ws, a1, r1⟩ := rh p _ e1
      have ln := r1.length
      have ln2 := r2.length
      exact ⟨p, a, ws, zs, rfl, rfl, a1, t.imp .inl id, by omega, lst_put rh e1 q k rfl (r1.append r2)⟩
    | _ => exact False.elim q
  case reverse =>
    obtain ⟨rfl, q⟩ := q
    cases (show vs = _ from r)
    obtain ⟨p, xs, rfl, e1, q⟩ := aLst_inv q
    cases (show v = _ from rd)
    obtain ⟨ws, a1, r1⟩ := rh p _ e1
    exact ⟨p, ws, rfl, rfl, a1, lst_put rh e1 q k rfl r1.rev⟩
  case clear =>
    obtain ⟨rfl, q⟩ := q
    cases (show vs = _ from r)
    obtain ⟨p, xs, rfl, e1, q⟩ := aLst_inv q
    cases (show v = _ from rd)
    obtain ⟨ws, a1, r1⟩ := rh p _ e1
    exact ⟨p, ws, rfl, rfl, a1, lst_put rh e1 q k rfl rfl⟩
  case get1 =>
    obtain ⟨e, rfl, q⟩ := arg1_inv q
    obtain ⟨w, rfl, rw'⟩ := reps1 r
    obtain ⟨p, kd, kvs, rfl, e1, kk, q⟩ := aDct_inv q
    cases (show v = _ from rd)
    obtain ⟨ov, g, z⟩ := dget_ok (rh p _ e1) kk rw'
    refine ⟨p, w, ov, rfl, rfl, g, ?_⟩
    rcases z with ⟨z1, z2⟩ | ⟨x, y, z1, z2, z3⟩
    · rw [z1] at q; rw [z2]; exact k.now rh q rfl
    · rw [z1] at q; rw [z2]; exact k.now rh q z3
  case get2 =>
    obtain ⟨e, f, rfl, q⟩ := arg2_inv q
    obtain ⟨w, u, rfl, rw', ru⟩ := reps2 r
    obtain ⟨p, kd, kvs, rfl, e1, kk, q⟩ := aDct_inv q
    cases (show v = _ from rd)
    obtain ⟨ov, g, z⟩ := dget_ok (rh p _ e1) kk rw'
    refine ⟨p, w, u, ov, rfl, rfl, g, ?_⟩
    rcases z with ⟨z1, z2⟩ | ⟨x, y, z1, z2, z3⟩
    · rw [z1] at q; rw [z2]; exact k.now rh q ru
    · rw [z1] at q; rw [z2]; exact k.now rh q z3

/-! ### o[i] = v -/
def rSetD : TSet := fun o i v H Q => ∃ p H', o = .ref p ∧ DPut H p i v H' ∧ Q H'
theorem PSet.or {X : Cx} {t t' : TSet} (a : PSet X t) (b : PSet X t') : PSet X (fun o i v H Q => t o i v H Q ∨ t' o i v H Q) := by
  intro pins s σ H o i v ov iv u Q I r1 r2 r3 q
  rcases q with q | q
  · exact a pins s σ H o i v ov iv u Q I r1 r2 r3 q
  · exact b pins s σ H o i v ov iv u Q I r1 r2 r3 q
theorem set_dict {X : Cx} (hu : X.A.units + 1 < cLine) : PSet X rSetD := by
  intro pins s σ H o i v ov iv u Q I r1 r2 r3 q
  obtain ⟨p, H', rfl, g, q⟩ := q
  cases r1
  exact d_setItem hu I g r2 r3 fun s4 I4 => ⟨H', I4, q⟩
/-- a dict with nested keys -/
def rSetN (K : Fr) : TSet := fun o i v H Q => ∃ a b kvs d e, o = .ref a ∧ i = .ref b ∧ ObRep K H a (.dcn kvs) ∧ M.nkOk d = true ∧ Rep K H d i ∧ Rep K H e v ∧ kvs.length < M.LINE ∧ ∀ H' : Hp, (∃ u, H' = upd H a u ∧ (∀ vs, u ≠ .tup vs)) → ObRep K H' a (.dcn (M.kvPut kvs d e)) → Q H'
theorem set_nest {X : Cx} (hu : X.A.units + 200 < cLine) : PSet X (rSetN X.F) := by
  intro pins s σ H o i v ov iv u Q I r1 r2 r3 q
  obtain ⟨a, b, kvs, d, e, rfl, rfl, ⟨xs, eo, pr⟩, hd, rd, re, hz, q⟩ := q
  cases r1
  cases (show iv = Value.ref b from r2)
  obtain ⟨z, hy, ys, py, dd⟩ := ent_dict I eo pr
  have hl := line_eq
  have n1 := Paired.length pr
  have n2 := Paired.length py
  refine wpAny_setItem_heap (knd := nestedKind X.prog X.w) (hsz := by omega) (by show X.A.units + 1 + 8 < cLine; omega) (nk_is I hd rd) dd fun h' dd' hs => ?_
  obtain ⟨q1, es, ep, hq, h2, h3, h4, _, h5⟩ := dd'
  have ln := storedX_len (xs := xs) (k := nK d) (a := b) (v := v)
  have en : EntO X.prog X.w a (storedX xs (nK d) b v) h' := ⟨by omega, hy, _, ent_stored py (nK d) b r3, q1, es, ep, hq, h2, h3, h4, h5⟩
  have I2 := d_write (t' := s.toks + (nestedKind X.prog X.w).draws (nK d)) (ob := .ext (EntO X.prog X.w a (storedX xs (nK d) b v))) I (by rw [eo]; exact True.intro) hs ⟨q1, hq⟩ ⟨en, ⟨q1, hq⟩, fun h1 h2 e st => ent_ok e st⟩
  have kp : Kp H (upd H a (.ext (EntO X.prog X.w a (storedX xs (nK d) b v)))) := ⟨fun c vs ec => by rw [upd_ne (ne_of ec eo (fun z => nomatch z))]; exact ec, fun c o u ec => by rw [upd_ne (ne_of ec eo (fun z => nomatch z))]; exact ec⟩
  exact ⟨_, I2, q _ ⟨_, rfl, fun vs z => by cases z⟩ ⟨_, upd_same, Paired.mapP (nk_put pr hd rd re) fun _ _ z => ⟨z.1, z.2.1, z.2.2.1.kp kp, z.2.2.2.kp kp⟩⟩⟩
def rSet (K : Fr) : TSet := fun o i v H Q => rSetL o i v H Q ∨ rSetD o i v H Q ∨ rSetN K o i v H Q
theorem set_all {X : Cx} (hu : X.A.units + 200 < cLine) : PSet X (rSet X.F) := PSet.or set_list (PSet.or (set_dict (by omega)) (set_nest hu))
def KontH (K : Fr) (H : Hp) (h : M.AH) (Qa : M.AH → Prop) (Q : Hp → Prop) : Prop := ∀ h' H', Qa h' → Frm H h H' h' → RH K H' h' → Q H'
theorem set_ok {Qa : M.AH → Prop} {Q : Hp → Prop} {dx dy dv : SD} {x y v : V} (rh : RH K H h) (rx : Rep K H dx x) (ry : Rep K H dy y) (rv : Rep K H dv v) (q : M.opSet dx dy dv h Qa) (k : KontH K H h Qa Q) : rSet K x y v H Q := by
  cases dx with
  | ref p =>
    cases (show x = _ from rx)
    simp only [M.opSet] at q
    cases e : h p with
    | none => rw [e] at q; exact q.elim
    | some o => rw [e] at q; cases o with
      | lst xs =>
        obtain ⟨i, rfl, ⟨h0, h1⟩, q⟩ := anInt_inv q
        cases (show y = _ from ry)
        obtain ⟨ws, a1, r1⟩ := rh p _ e
        have ln := r1.length
        have kp : Kp H (upd H p (.lst (ws.set i.toNat v))) := kp_put rh e
        refine .inl ⟨p, ws, i, i.toNat, rfl, rfl, a1, ?_, k _ _ q (frm_put e) (rh_put rh e ⟨_, upd_same, (Reps.set rv _ r1).kp kp⟩)⟩
        unfold ixN
        rw [if_pos h0, if_pos (by omega)]
      | dct kd kvs =>
        obtain ⟨kk, hz, q⟩ := q
        obtain ⟨H', g, f, rh'⟩ := dput_ok (rh p _ e) kk ry rv hz e rh
        exact .inr (.inl ⟨p, H', rfl, g, k _ _ q f rh'⟩)
      | dcn kvs =>
        obtain ⟨kk, hz, q⟩ := q
        have ry' := ry
        cases dy with
        | tup ds =>
          obtain ⟨b, vs, rfl, _⟩ := ry
          refine .inr (.inr ⟨p, b, kvs, _, dv, rfl, rfl, rh p _ e, kk, ry', rv, hz, fun H' ⟨u, eu, nt⟩ ob => ?_⟩)
          subst eu
          exact k _ _ q (frm_put e) (rh_put rh e ob)
        | _ => simp [M.nkOk] at kk
      | _ => exact q.elim
  | _ => exact False.elim q
end
end Snd
end
section
/-! ZipL: list(zip(a, b)) of two tuples. -/
namespace ZL
open PySem PySem.Calls PyProof.Rows PySem.Spec PySem.W
section
variable {prog : Program} {w : World} {A : Around} {E : Value → Shared → Prop} {s : Shared}
/-- next of a zip of tuples whose last tuple is still held -/
theorem held_item {z TI TO T i1 i2 l1 l2 : Addr} {f : Bool} {oT : Obj} {k1 k2 : Nat} {xs ys : Array Value} {x y : Value} {Q : Value → Shared → Prop} (D : ZipApart z TI TO i1 i2 l1 l2)
    (hz : IsZipHeld s.heap z TI TO T f) (hT : s.heap.get? T = some oT) (tI : IsPair s.heap TI (.ref i1) (.ref i2))
    (g1 : s.heap.IsTupleIter i1 l1 k1) (g2 : s.heap.IsTupleIter i2 l2 k2) (t1 : s.heap.IsTuple l1 xs) (t2 : s.heap.IsTuple l2 ys) (hx : xs[k1]? = some x) (hy : ys[k2]? = some y)
    (hQ : ∀ h', IsZipHeld h' z TI TO T true → h'.IsTupleIter i1 l1 (k1 + 1) → h'.IsTupleIter i2 l2 (k2 + 1) → IsPair h' s.heap.objs.size x y → h'.objs.size = s.heap.objs.size + 1 →
      (∀ c o, c ≠ z → c ≠ i1 → c ≠ i2 → s.heap.get? c = some o → h'.get? c = some o) → Q (.ref s.heap.objs.size) { s with heap := h' }) :
    wpAny (model prog w) A (Builtin.«zip.__next__» ⟨[.ref z], []⟩) (fun fin r => ∃ v, fin = .done (.ret v) ∧ Q v r) E s := by
  show wpAny _ _ (field (.ref z) 2 >>= _) _ _ _; refine wpAny_bind (wpAny_field hz rfl (x := .bool false) rfl ?_)
  show wpAny _ _ (field (.ref z) 3 >>= _) _ _ _; refine wpAny_bind (wpAny_field hz rfl (x := .ref TI) rfl ?_); refine wpAny_bind (wpAny_seqItems tI rfl ?_)
  show wpAny _ _ (Builtin.SmallTypes.ownedTupleIsFree (.ref z) >>= _) _ _ _; refine wpAny_bind (wpAny_tupleHeld_zip hz hT fun m1 z1 s1 => ?_)
  simp only [Bool.false_eq_true, if_false]; refine wpAny_bind ?_; rw [← Array.forIn_toList]; simp only [List.forIn_cons, List.forIn_nil]
  refine wpAny_bind (wpAny_bind (wpAny_holding ?_)); show wpAny _ _ (Builtin.SmallTypes.nextOf (.ref i1) >>= _) _ _ _
  refine wpAny_bind (RZ.nextOf_tuple_item (s := { s with heap := m1 }) (g1.extBut s1.extBut D.i1z) (t1.extBut s1.extBut D.l1z) hx fun m2 g1' s2 => wpAny_pure (wpAny_pure ?_))
  refine wpAny_bind (wpAny_bind (wpAny_holding ?_)); show wpAny _ _ (Builtin.SmallTypes.nextOf (.ref i2) >>= _) _ _ _
  refine wpAny_bind (RZ.nextOf_tuple_item (s := { s with heap := m2 }) ((g2.extBut s1.extBut D.i2z).extBut s2.extBut D.i12.symm) ((t2.extBut s1.extBut D.l2z).extBut s2.extBut D.l2i1) hy fun m3 g2' s3 => wpAny_pure (wpAny_pure (wpAny_pure ?_)))
  show wpAny _ _ (newTuple [x, y] >>= _) _ _ _; refine wpAny_bind (wpAny_newTuple ?_)
  have hsz : m3.objs.size = s.heap.objs.size := by rw [s3.1, s2.1, s1.1]
  have z3 : IsZipHeld m3 z TI TO T true := s3.extBut _ _ D.i2z.symm (s2.extBut _ _ D.i1z.symm z1)
  have kp : ∀ c o, c ≠ z → c ≠ i1 → c ≠ i2 → s.heap.get? c = some o → m3.get? c = some o := fun c o a b d e => s3.extBut _ _ d (s2.extBut _ _ b (s1.extBut _ _ a e))
  have g13 : m3.IsTupleIter i1 l1 (k1 + 1) := g1'.extBut s3.extBut D.i12
  refine wpAny_pure ⟨_, rfl, ?_⟩; show Q (.ref m3.objs.size) _
  have hp : IsPair (m3.push { cls := .type "tuple", data := .seq #[x, y] }) m3.objs.size x y := Heap.get?_push_size _ rfl
  have hn : (m3.push { cls := .type "tuple", data := .seq #[x, y] }).objs.size = m3.objs.size + 1 := Heap.size_push ..
  rw [hsz] at hp hn ⊢
  exact hQ _ (Heap.get?_push_of_some _ z3) (g13.at fun o e => Heap.get?_push_of_some _ e) (g2'.at fun o e => Heap.get?_push_of_some _ e) hp hn fun c o a b d e => Heap.get?_push_of_some _ (kp c o a b d e)
theorem held_end {z TI TO T i1 i2 l1 l2 : Addr} {f : Bool} {oT : Obj} {k1 k2 : Nat} {xs ys : Array Value} {Q : Fin → Shared → Prop} (hh : A.handled = none) (D : ZipApart z TI TO i1 i2 l1 l2)
    (hz : IsZipHeld s.heap z TI TO T f) (hT : s.heap.get? T = some oT) (tI : IsPair s.heap TI (.ref i1) (.ref i2))
    (g1 : s.heap.IsTupleIter i1 l1 k1) (g2 : s.heap.IsTupleIter i2 l2 k2) (t1 : s.heap.IsTuple l1 xs) (t2 : s.heap.IsTuple l2 ys) (hend : xs[k1]? = none ∨ ys[k2]? = none)
    (hE : ∀ h' e, (∀ c o, c ≠ z → c ≠ i1 → c ≠ i2 → s.heap.get? c = some o → h'.get? c = some o) → (∃ o, h'.get? e = some o ∧ o.cls = .type "StopIteration") → E (.ref e) { s with heap := h' }) :
    wpAny (model prog w) A (Builtin.«zip.__next__» ⟨[.ref z], []⟩) Q E s := by
  show wpAny _ _ (field (.ref z) 2 >>= _) _ _ _; refine wpAny_bind (wpAny_field hz rfl (x := .bool false) rfl ?_)
  show wpAny _ _ (field (.ref z) 3 >>= _) _ _ _; refine wpAny_bind (wpAny_field hz rfl (x := .ref TI) rfl ?_); refine wpAny_bind (wpAny_seqItems tI rfl ?_)
  show wpAny _ _ (Builtin.SmallTypes.ownedTupleIsFree (.ref z) >>= _) _ _ _; refine wpAny_bind (wpAny_tupleHeld_zip hz hT fun m1 z1 s1 => ?_)
  simp only [Bool.false_eq_true, if_false]; refine wpAny_bind ?_; rw [← Array.forIn_toList]; simp only [List.forIn_cons, List.forIn_nil]
  refine wpAny_bind (wpAny_bind (wpAny_holding ?_)); show wpAny _ _ (Builtin.SmallTypes.nextOf (.ref i1) >>= _) _ _ _
  cases hx : xs[k1]? with
  | none => exact wpAny_bind (RZ.nextOf_tuple_end (s := { s with heap := m1 }) hh (g1.extBut s1.extBut D.i1z) (t1.extBut s1.extBut D.l1z) hx fun m2 e s2 he => hE m2 e (fun c o a b _ q => s2 _ _ b (s1.extBut _ _ a q)) he)
  | some x =>
    have hy : ys[k2]? = none := hend.resolve_left fun q => by rw [hx] at q; cases q
    refine wpAny_bind (RZ.nextOf_tuple_item (s := { s with heap := m1 }) (g1.extBut s1.extBut D.i1z) (t1.extBut s1.extBut D.l1z) hx fun m2 g1' s2 => wpAny_pure (wpAny_pure ?_))
    refine wpAny_bind (wpAny_bind (wpAny_holding ?_)); show wpAny _ _ (Builtin.SmallTypes.nextOf (.ref i2) >>= _) _ _ _
    exact wpAny_bind (RZ.nextOf_tuple_end (s := { s with heap := m2 }) hh ((g2.extBut s1.extBut D.i2z).extBut s2.extBut D.i12.symm) ((t2.extBut s1.extBut D.l2z).extBut s2.extBut D.l2i1) hy fun m3 e s3 he => hE m3 e (fun c o a b d q => s3 _ _ d (s2.extBut _ _ b (s1.extBut _ _ a q))) he)
/-- how far a zip of two tuples is -/
def Zst (z TI TO i1 i2 l1 l2 S : Addr) (xs ys : Array Value) (i : Nat) (h : Heap) : Prop :=
  IsPair h TI (.ref i1) (.ref i2) ∧ h.IsTupleIter i1 l1 i ∧ h.IsTupleIter i2 l2 i ∧ h.IsTuple l1 xs ∧ h.IsTuple l2 ys ∧
  ((i = 0 ∧ IsZip h z TI TO .none ∧ ∃ a b, IsPair h TO a b) ∨ ∃ T f oT, IsZipHeld h z TI TO T f ∧ h.get? T = some oT ∧ S < T)
def Out (wr : List Addr) (h h' : Heap) : Prop := ∀ b o, b ∉ wr → h.get? b = some o → h'.get? b = some o
theorem z_item {z TI TO i1 i2 l1 l2 S : Addr} {xs ys : Array Value} {i : Nat} {x y : Value} {Q : Option Value → Shared → Prop} (D : ZipApart z TI TO i1 i2 l1 l2) (hzS : z < S) (hi1S : i1 < S) (hi2S : i2 < S) (st : Zst z TI TO i1 i2 l1 l2 S xs ys i s.heap)
    (hS : S < s.heap.objs.size) (hx : xs[i]? = some x) (hy : ys[i]? = some y)
    (hQ : ∀ h', Zst z TI TO i1 i2 l1 l2 S xs ys (i + 1) h' → h'.get? s.heap.objs.size = some { cls := .type "tuple", data := .seq #[x, y] } → s.heap.objs.size < h'.objs.size → Out [z, TO, i1, i2] s.heap h' → Q (some (.ref s.heap.objs.size)) { s with heap := h' }) :
    wpAny (model prog w) A (pyNext (.ref z)) Q E s := by
  obtain ⟨tI, g1, g2, t1, t2, st⟩ := st
  rcases st with ⟨rfl, hz, a, b, tO⟩ | ⟨T, f, oT, hz, hT, hST⟩
  · refine RZ.pyNext_zipT_item D hz tI tO g1 g2 t1 t2 hx hy fun h' a1 a2 a3 a4 a5 a6 hk => hQ h' ⟨hk _ _ D.TIz D.TITO D.TIi1 D.TIi2 tI, a3, a4, t1.at fun o e => hk _ o D.l1z D.l1TO D.l1i1 D.l1i2 e, t2.at fun o e => hk _ o D.l2z D.l2TO D.l2i1 D.l2i2 e, .inr ⟨_, false, _, a1, a5, hS⟩⟩ a5 (by omega) fun c o hc e => ?_
    simp only [List.mem_cons, List.not_mem_nil, or_false, not_or] at hc
    exact hk c o hc.1 hc.2.1 hc.2.2.1 hc.2.2.2 e
  · have hTy : s.TypeIs (.ref z) "zip" := ⟨_, hz, rfl⟩
    unfold pyNext
    refine wpAny_bind (wpAny_attempt (wpAny_callSpecial?_slot (name := Str.ofString "__next__") hTy F.slot_zip_next (wpAny_call_entry F.slot_zip_next hTy F.entry_zip_next (held_item D hz hT tI g1 g2 t1 t2 hx hy fun h' a1 a3 a4 a5 a6 hk => wpAny_pure ?_) (F.args_zip_next_1 _))))
    have nz : T ≠ z ∧ T ≠ i1 ∧ T ≠ i2 := ⟨Nat.ne_of_gt (Nat.lt_trans hzS hST), Nat.ne_of_gt (Nat.lt_trans hi1S hST), Nat.ne_of_gt (Nat.lt_trans hi2S hST)⟩
    refine hQ h' ⟨hk _ _ D.TIz D.TIi1 D.TIi2 tI, a3, a4, t1.at fun o e => hk _ o D.l1z D.l1i1 D.l1i2 e, t2.at fun o e => hk _ o D.l2z D.l2i1 D.l2i2 e, .inr ⟨T, true, oT, a1, hk _ _ nz.1 nz.2.1 nz.2.2 hT, hST⟩⟩ a5 (by omega) fun c o hc e => ?_
    simp only [List.mem_cons, List.not_mem_nil, or_false, not_or] at hc
    exact hk c o hc.1 hc.2.2.1 hc.2.2.2 e
theorem z_done {z TI TO i1 i2 l1 l2 S : Addr} {xs ys : Array Value} {i : Nat} {Q : Option Value → Shared → Prop} (hh : A.handled = none) (D : ZipApart z TI TO i1 i2 l1 l2) (st : Zst z TI TO i1 i2 l1 l2 S xs ys i s.heap) (he : xs[i]? = none ∨ ys[i]? = none)
    (hQ : ∀ h', Out [z, TO, i1, i2] s.heap h' → Q none { s with heap := h' }) : wpAny (model prog w) A (pyNext (.ref z)) Q E s := by
  obtain ⟨tI, g1, g2, t1, t2, st⟩ := st
  rcases st with ⟨rfl, hz, a, b, tO⟩ | ⟨T, f, oT, hz, hT, hST⟩
  · refine RZ.pyNext_zipT_end hh D hz tI tO g1 g2 t1 t2 he fun h' hk => hQ h' fun c o hc e => ?_
    simp only [List.mem_cons, List.not_mem_nil, or_false, not_or] at hc
    exact hk c o hc.1 hc.2.1 hc.2.2.1 hc.2.2.2 e
  · have hTy : s.TypeIs (.ref z) "zip" := ⟨_, hz, rfl⟩
    unfold pyNext
    refine wpAny_bind (wpAny_attempt (wpAny_callSpecial?_slot (name := Str.ofString "__next__") hTy F.slot_zip_next (wpAny_call_entry F.slot_zip_next hTy F.entry_zip_next (held_end hh D hz hT tI g1 g2 t1 t2 he fun h' e hk ho => ?_) (F.args_zip_next_1 _))))
    obtain ⟨o, ho, hc⟩ := ho
    refine wpAny_bind (wpAny_isInstance (T := "StopIteration") (b := true) ⟨o, ho, hc⟩ isSubtype_stop (wpAny_pure (hQ _ fun c o hc e => ?_)))
    simp only [List.mem_cons, List.not_mem_nil, or_false, not_or] at hc
    exact hk c o hc.1 hc.2.2.1 hc.2.2.2 e
theorem Zst.keep {z TI TO i1 i2 l1 l2 S : Addr} {xs ys : Array Value} {i : Nat} {h h' : Heap} (st : Zst z TI TO i1 i2 l1 l2 S xs ys i h) (k : ∀ b o, b ≠ S → h.get? b = some o → h'.get? b = some o) (n : ∀ b, b ∈ [z, TI, TO, i1, i2, l1, l2] → b ≠ S) : Zst z TI TO i1 i2 l1 l2 S xs ys i h' := by
  obtain ⟨tI, g1, g2, t1, t2, st⟩ := st
  refine ⟨k _ _ (n _ (by simp)) tI, g1.at fun o e => k _ o (n _ (by simp)) e, g2.at fun o e => k _ o (n _ (by simp)) e, t1.at fun o e => k _ o (n _ (by simp)) e, t2.at fun o e => k _ o (n _ (by simp)) e, ?_⟩
  rcases st with ⟨e, hz, a, b, tO⟩ | ⟨T, f, oT, hz, hT, hST⟩
  · exact .inl ⟨e, k _ _ (n _ (by simp)) hz, a, b, k _ _ (n _ (by simp)) tO⟩
  · exact .inr ⟨T, f, oT, k _ _ (n _ (by simp)) hz, k _ _ (Nat.ne_of_gt hST) hT, hST⟩
end
/-- the tuples made so far: rising, above S, of the pairs -/
structure Made (xs ys : Array Value) (S : Addr) (h : Heap) (as : List Addr) : Prop where
  up : as.Pairwise (· < ·)
  hi : ∀ a ∈ as, S < a ∧ a < h.objs.size
  at_ : ∀ (j : Nat) (a : Addr), as[j]? = some a → ∃ x y, xs[j]? = some x ∧ ys[j]? = some y ∧ h.get? a = some { cls := .type "tuple", data := .seq #[x, y] }
section
variable {prog : Program} {w : World} {A : Around} {E : Value → Shared → Prop} {s : Shared} {R : Result → Shared → Prop}
theorem z_loop {z TI TO i1 i2 l1 l2 S : Addr} {xs ys : Array Value} (hh : A.handled = none) (D : ZipApart z TI TO i1 i2 l1 l2) (lt : ∀ b, b ∈ [z, TI, TO, i1, i2, l1, l2] → b < S) (hn : min xs.size ys.size ≤ sizeLine) (res : Value) {h₁ : Heap} (hS1 : S < h₁.objs.size)
    (hR : ∀ h' tk acc c as, (∀ b o, b ≠ S → b ∉ [z, TO, i1, i2] → h₁.get? b = some o → h'.get? b = some o) → h'.get? S = some { cls := .type "list", dict := none, data := .seq acc c, slots := #[] } → as.length = min xs.size ys.size → Made xs ys S h' as →
      acc.toList = as.map Value.ref → R (.ok (.ret res)) { s with heap := h', toks := tk }) :
    ∀ (k i : Nat) (h : Heap) (tk c : Nat) (acc : Array Value) (as : List Addr), min xs.size ys.size - i = k → i ≤ min xs.size ys.size → Zst z TI TO i1 i2 l1 l2 S xs ys i h → (∀ b o, b ≠ S → b ∉ [z, TO, i1, i2] → h₁.get? b = some o → h.get? b = some o) →
      h.get? S = some { cls := .type "list", dict := none, data := .seq acc c, slots := #[] } → acc.toList = as.map Value.ref → as.length = i → Made xs ys S h as →
      codeAny (model prog w) A (.builtin "list.extend.loop" ⟨[.ref S, .ref z, res], []⟩) R { s with heap := h, toks := tk } := by
  have nS : ∀ b, b ∈ [z, TI, TO, i1, i2, l1, l2] → b ≠ S := fun b hb => Nat.ne_of_lt (lt b hb)
  have wS : ∀ b, S ≤ b → b ∉ [z, TO, i1, i2] := fun b hb hm => by
    have : b ∈ [z, TI, TO, i1, i2, l1, l2] := by simp at hm ⊢; rcases hm with q | q | q | q <;> simp [q]
    exact absurd (lt b this) (Nat.not_lt.mpr hb)
  intro k
  induction k with
  | zero =>
    intro i h tk c acc as hk hi st hkeep hS hacc hal hG
    have hin : i = min xs.size ys.size := by omega
    refine codeAny_builtin PySem.F.entry_extend_loop ?_; rw [Around.under_plainId PySem.F.plain_extend_loop _]; show wpAny _ A.in1 (pyNext (.ref z) >>= _) _ _ _
    have he : xs[i]? = none ∨ ys[i]? = none := by
      rcases Nat.le_total xs.size ys.size with q | q
      · exact .inl (Array.getElem?_eq_none (by omega))
      · exact .inr (Array.getElem?_eq_none (by omega))
    refine wpAny_bind (z_done (s := { s with heap := h, toks := tk }) (A := A.in1) hh D st he fun h' ho => ?_)
    refine wpAny_pure (hR h' tk acc c as (fun b o b1 b2 e => ho b o b2 (hkeep b o b1 b2 e)) (ho S _ (wS S (Nat.le_refl _)) hS) (by omega) ⟨hG.up, fun a ha => ⟨(hG.hi a ha).1, ?_⟩, fun j a hj => ?_⟩ hacc)
    · obtain ⟨j, hj⟩ := List.mem_iff_getElem?.mp ha
      obtain ⟨x, y, _, _, e3⟩ := hG.at_ j a hj
      exact Heap.lt_size (ho a _ (wS a (Nat.le_of_lt (hG.hi a ha).1)) e3)
    · obtain ⟨x, y, e1, e2, e3⟩ := hG.at_ j a hj
      exact ⟨x, y, e1, e2, ho a _ (wS a (Nat.le_of_lt (hG.hi a (List.mem_of_getElem? hj)).1)) e3⟩
  | succ k ih =>
    intro i h tk c acc as hk hi st hkeep hS hacc hal hG
    have hix : i < xs.size := by omega
    have hiy : i < ys.size := by omega
    have ex := Array.getElem?_eq_getElem hix
    have ey := Array.getElem?_eq_getElem hiy
    have hsz : acc.size = i := by rw [← Array.length_toList, hacc, List.length_map, hal]
    have hSl : S < h.objs.size := Heap.lt_size hS
    refine codeAny_builtin PySem.F.entry_extend_loop ?_; rw [Around.under_plainId PySem.F.plain_extend_loop _]; show wpAny _ A.in1 (pyNext (.ref z) >>= _) _ _ _
    refine wpAny_bind (z_item (s := { s with heap := h, toks := tk }) D (lt z (by simp)) (lt i1 (by simp)) (lt i2 (by simp)) st hSl ex ey fun h' st' ht hz ho => ?_)
    dsimp only at ht hz ho ⊢
    have hS' := ho S _ (wS S (Nat.le_refl _)) hS
    have up : ∀ b o, b ≠ S → h'.get? b = some o → (h'.update S (Obj.mapSeq (·.push (Value.ref h.objs.size)))).get? b = some o := fun b o hb e => (Heap.get?_update_other _ _ (Ne.symm hb)).trans e
    show wpAny _ A.in1 (updateSeq S (·.push (Value.ref h.objs.size)) >>= _) _ _ _
    refine wpAny_bind ?_
    refine wpAny_updateSeq hS' rfl (wpAny_pure ⟨plainId_quiet PySem.F.plain_extend_loop _, ih (i + 1) _ tk _ (acc.push (Value.ref h.objs.size)) (as ++ [h.objs.size]) (by omega) (by omega) (st'.keep up nS)
      (fun b o b1 b2 e => up b o b1 (ho b o b2 (hkeep b o b1 b2 e))) (Heap.get?_update_self _ hS' rfl) (by rw [Array.toList_push, hacc, List.map_append]; rfl) (by rw [List.length_append, hal]; rfl) ⟨?_, ?_, ?_⟩⟩) (by rw [hsz]; omega) (by show (acc.push (Value.ref h.objs.size)).size ≤ sizeLine + 1; rw [Array.size_push, hsz]; omega)
    · refine List.pairwise_append.mpr ⟨hG.up, List.pairwise_singleton _ _, fun a ha b hb => ?_⟩
      rw [List.mem_singleton.mp hb]; exact (hG.hi a ha).2
    · intro a ha
      have sz : (h'.update S (Obj.mapSeq (·.push (Value.ref h.objs.size)))).objs.size = h'.objs.size := (Heap.SameBut.update ..).1
      rw [sz]
      rcases List.mem_append.mp ha with ha | ha
      · exact ⟨(hG.hi a ha).1, Nat.lt_trans (hG.hi a ha).2 hz⟩
      · rw [List.mem_singleton.mp ha]; exact ⟨hSl, hz⟩
    · intro j b hj
      rcases Nat.lt_trichotomy j as.length with q | q | q
      · rw [List.getElem?_append_left q] at hj
        obtain ⟨x, y, e1, e2, e3⟩ := hG.at_ j b hj
        have hb := (hG.hi b (List.mem_of_getElem? hj)).1
        exact ⟨x, y, e1, e2, up b _ (Nat.ne_of_gt hb) (ho b _ (wS b (Nat.le_of_lt hb)) e3)⟩
      · subst q
        have hb : h.objs.size = b := by simpa using hj
        subst hb
        exact ⟨_, _, by rw [hal]; exact ex, by rw [hal]; exact ey, up _ _ (Nat.ne_of_gt hSl) ht⟩
      · rw [List.getElem?_eq_none (by rw [List.length_append, List.length_singleton]; omega)] at hj; cases hj
theorem z_nolen : typeLookup (.type "zip") "__len__" = pure none := by rw [typeLookup_type, builtinLookup_eq_fast]; kernel_rfl
theorem z_nohint : typeLookup (.type "zip") "__length_hint__" = pure none := by rw [typeLookup_type, builtinLookup_eq_fast]; kernel_rfl
theorem z_hint {z : Addr} (hT : s.TypeIs (.ref z) "zip") {Q : Bool → Shared → Prop} (h : Q true s) : wpAny (model prog w) A (Builtin.List.listLengthHint (.ref z)) Q E s := by
  unfold Builtin.List.listLengthHint
  refine wpAny_bind (wpAny_specialOf hT z_nolen ?_)
  show wpAny _ A (specialOf (Value.ref z) (Str.ofString "__length_hint__") >>= _) _ _ _
  refine wpAny_bind (wpAny_specialOf hT z_nohint ?_)
  exact wpAny_pure h
theorem z_extend {z TI TO i1 i2 l1 l2 S : Addr} {xs ys : Array Value} (hh : A.handled = none) (D : ZipApart z TI TO i1 i2 l1 l2) (lt : ∀ b, b ∈ [z, TI, TO, i1, i2, l1, l2] → b < S) (hn : min xs.size ys.size ≤ sizeLine) (res : Value) (c₀ : Nat) (hS : s.heap.get? S = some { cls := .type "list", data := .seq #[] c₀ })
    (st : Zst z TI TO i1 i2 l1 l2 S xs ys 0 s.heap) (hz : ∃ f0, IsZip s.heap z TI TO f0)
    (hR : ∀ h' tk acc c as, (∀ b o, b ≠ S → b ∉ [z, TO, i1, i2] → s.heap.get? b = some o → h'.get? b = some o) → h'.get? S = some { cls := .type "list", dict := none, data := .seq acc c, slots := #[] } → as.length = min xs.size ys.size → Made xs ys S h' as →
      acc.toList = as.map Value.ref → R (.ok (.ret res)) { s with heap := h', toks := tk }) :
    wpAny (model prog w) A.in1 (Builtin.List.listExtendWith (.ref S) (.ref z) res)
      (fun fin s' => match fin with | .done f => R (.ok f) s' | .again c' => c'.quiet = true ∧ codeAny (model prog w) A c' R s') (fun e s' => R (.error e) s') s := by
  obtain ⟨f0, hz⟩ := hz
  have hT : s.TypeIs (.ref z) "zip" := ⟨_, hz, rfl⟩
  have nS : ∀ b, b ∈ [z, TI, TO, i1, i2, l1, l2] → b ≠ S := fun b hb => Nat.ne_of_lt (lt b hb)
  unfold Builtin.List.listExtendWith
  refine wpAny_bind (wpAny_typeOf hT ?_)
  have h1 : Builtin.List.listSameRef (.ref S) (.ref z) = false := by simp [Builtin.List.listSameRef, (nS z (by simp)).symm]
  have h2 : (Value.type "zip" == Value.type "list") = false := by decide
  have h3 : (Value.type "zip" == Value.type "tuple") = false := by decide
  simp only [h1, h2, h3, Bool.or_false, Bool.false_eq_true, if_false]
  refine wpAny_bind (wpAny_pyIter_zip hz ?_)
  refine wpAny_bind (wpAny_holding (z_hint hT ?_))
  simp only [Bool.true_or, if_true]
  refine wpAny_bind (wpAny_rule ?_)
  refine wpAny_bind ?_
  show wpAny _ _ (updateSeq S (·.push .none) >>= fun _ => updateSeq S (·.pop)) _ _ _
  refine wpAny_bind (wpAny_updateSeq hS rfl ?_)
  have hS₂ := Heap.get?_update_self (Obj.mapSeq (·.push Value.none)) hS rfl
  refine wpAny_updateSeq (hz := by seq_fits) hS₂ rfl ?_
  have hS₃ := Heap.get?_update_self (Obj.mapSeq (·.pop)) hS₂ rfl
  have oth : ∀ b o, b ≠ S → s.heap.get? b = some o → ((s.heap.update S (Obj.mapSeq (·.push Value.none))).update S (Obj.mapSeq (·.pop))).get? b = some o := fun b o hb e => (Heap.get?_update_other _ _ (Ne.symm hb)).trans ((Heap.get?_update_other _ _ (Ne.symm hb)).trans e)
  refine wpAny_pure ⟨plainId_quiet PySem.F.plain_extend_loop _, ?_⟩
  exact z_loop (s := s) (h₁ := s.heap) hh D lt hn res (Heap.lt_size hS) hR _ 0 _ _ _ _ [] rfl (Nat.zero_le _) (st.keep oth nS) (fun b o hb _ e => oth b o hb e) hS₃ rfl rfl ⟨List.Pairwise.nil, (fun a ha => nomatch ha), fun j a hj => by simp at hj⟩
theorem z_init {z TI TO i1 i2 l1 l2 S : Addr} {xs ys : Array Value} (hh : A.handled = none) (D : ZipApart z TI TO i1 i2 l1 l2) (lt : ∀ b, b ∈ [z, TI, TO, i1, i2, l1, l2] → b < S) (hn : min xs.size ys.size ≤ sizeLine) (hS : s.heap.get? S = some { cls := .type "list", data := .seq #[] })
    (st : Zst z TI TO i1 i2 l1 l2 S xs ys 0 s.heap) (hz : ∃ f0, IsZip s.heap z TI TO f0)
    (hR : ∀ h' tk acc c as, (∀ b o, b ≠ S → b ∉ [z, TO, i1, i2] → s.heap.get? b = some o → h'.get? b = some o) → h'.get? S = some { cls := .type "list", dict := none, data := .seq acc c, slots := #[] } → as.length = min xs.size ys.size → Made xs ys S h' as →
      acc.toList = as.map Value.ref → R (.ok (.ret .none)) { s with heap := h', toks := tk }) :
    wpAny (model prog w) A.in1 (Builtin.«list.__init__» ⟨[.ref S, .ref z], []⟩)
      (fun fin s' => match fin with | .done f => R (.ok f) s' | .again c' => c'.quiet = true ∧ codeAny (model prog w) A c' R s') (fun e s' => R (.error e) s') s := by
  have nS : ∀ b, b ∈ [z, TI, TO, i1, i2, l1, l2] → b ≠ S := fun b hb => Nat.ne_of_lt (lt b hb)
  show wpAny _ _ (do let old ← Builtin.List.listItems (.ref S); Builtin.List.listUpdate (.ref S) (fun _ => #[]); letGo old.toList.reverse; Builtin.List.listExtendWith (.ref S) (.ref z) .none) _ _ s
  refine wpAny_bind ?_; unfold Builtin.List.listItems; refine wpAny_bind (wpAny_seqItems hS rfl (wpAny_pure ?_))
  show wpAny _ _ (updateSeq S (fun _ => #[]) >>= fun _ => letGo (#[] : Array Value).toList.reverse >>= fun _ => Builtin.List.listExtendWith (.ref S) (.ref z) .none) _ _ s
  refine wpAny_bind (wpAny_updateSeq hS rfl ?_)
  have hS₂ := Heap.get?_update_self (Obj.mapSeq (fun _ => (#[] : Array Value))) hS rfl
  have oth : ∀ b o, b ≠ S → s.heap.get? b = some o → (s.heap.update S (Obj.mapSeq (fun _ => (#[] : Array Value)))).get? b = some o := fun b o hb e => (Heap.get?_update_other _ _ (Ne.symm hb)).trans e
  refine wpAny_bind (wpAny_letGo ?_)
  refine z_extend hh D lt hn .none _ hS₂ (st.keep oth nS) (hz.imp fun f0 e => oth z _ (nS z (by simp)) e) fun h' tk acc c as hk hS' hl hG hacc => ?_
  exact hR h' tk acc c as (fun b o b1 b2 e => hk b o b1 b2 (oth b o b1 e)) hS' hl hG hacc
theorem z_call {z TI TO i1 i2 l1 l2 : Addr} {xs ys : Array Value} {Q : Value → Shared → Prop} (hh : A.handled = none) (D : ZipApart z TI TO i1 i2 l1 l2) (lt : ∀ b, b ∈ [z, TI, TO, i1, i2, l1, l2] → b < s.heap.objs.size) (hn : min xs.size ys.size ≤ sizeLine)
    (hz : IsZip s.heap z TI TO .none) (tI : IsPair s.heap TI (.ref i1) (.ref i2)) (tO : IsPair s.heap TO .none .none) (g1 : s.heap.IsTupleIter i1 l1 0) (g2 : s.heap.IsTupleIter i2 l2 0) (t1 : s.heap.IsTuple l1 xs) (t2 : s.heap.IsTuple l2 ys)
    (hQ : ∀ h' tk acc c as, (∀ b o, b ∉ [z, TO, i1, i2] → s.heap.get? b = some o → h'.get? b = some o) → h'.get? s.heap.objs.size = some { cls := .type "list", dict := none, data := .seq acc c, slots := #[] } → as.length = min xs.size ys.size → Made xs ys s.heap.objs.size h' as →
      acc.toList = as.map Value.ref → Q (.ref s.heap.objs.size) { s with heap := h', toks := tk }) :
    wpAny (model prog w) A (call (.type "list") [.ref z]) Q E s := by
  refine callType_codes (Q₁ := fun obj r => obj = .ref s.heap.objs.size ∧ r = { s with heap := s.heap.push { cls := .type "list", data := .seq #[] } }) PySem.F.called_list (PySem.F.typeCall_list_1 _) PySem.F.entry_list_init (code_list_new _ ⟨rfl, rfl⟩) fun obj r hr => ?_
  obtain ⟨rfl, rfl⟩ := hr
  have hS : (s.heap.push { cls := .type "list", data := .seq #[] }).get? s.heap.objs.size = some { cls := .type "list", data := .seq #[] } := Heap.get?_push_size _ rfl
  have up : ∀ b o, s.heap.get? b = some o → (s.heap.push { cls := .type "list", data := .seq #[] }).get? b = some o := fun b o e => Heap.get?_push_of_some _ e
  refine ⟨⟨_, hS, rfl⟩, PySem.F.args_list_init_2 _ _, z_init (A := A.in1) hh D lt hn hS ⟨up _ _ tI, g1.at fun o e => up _ o e, g2.at fun o e => up _ o e, t1.at fun o e => up _ o e, t2.at fun o e => up _ o e, .inl ⟨rfl, up _ _ hz, _, _, up _ _ tO⟩⟩ ⟨_, up _ _ hz⟩ fun h' tk acc c as hk hS' hl hG hacc => ?_⟩
  exact ⟨rfl, hQ h' tk acc c as (fun b o hb e => hk b o (Nat.ne_of_lt (Heap.lt_size e)) hb (up b o e)) hS' hl hG hacc⟩
end
open L2
/-- the pairs, laid at their addresses -/
def putP : Hp → List Addr → List (V × V) → Hp
  | H, a :: as, p :: ps => putP (upd H a (.tup [p.1, p.2])) as ps
  | H, _, _ => H
theorem putP_off {b : Addr} : ∀ (as : List Addr) (ps : List (V × V)) (H : Hp), b ∉ as → putP H as ps b = H b
  | [], _, _, _ => rfl
  | _ :: _, [], _, _ => rfl
  | a :: as, p :: ps, H, h => by
    unfold putP
    rw [putP_off as ps _ (fun z => h (.tail _ z)), upd_ne (fun z => h (by rw [z]; exact .head _))]
theorem putP_at : ∀ (as : List Addr) (ps : List (V × V)) (H : Hp), as.length = ps.length → as.Nodup → Paired (fun (t : Addr) (p : V × V) => putP H as ps t = some (.tup [p.1, p.2])) as ps
  | [], [], _, _, _ => .nil
  | [], _ :: _, _, h, _ => nomatch h
  | _ :: _, [], _, h, _ => nomatch h
  | a :: as, p :: ps, H, h, hn => by
    obtain ⟨n1, n2⟩ := List.nodup_cons.mp hn
    have ih := putP_at as ps (upd H a (.tup [p.1, p.2])) (Nat.succ.inj h) n2
    exact .cons (by unfold putP; rw [putP_off as ps _ n1, upd_same]) ih
def rZipL (K : PySem.W.Frag) : V → V → Hp → VK → Prop := fun x y H Q => ∃ (a b : Addr) (xs ys : List V), x = .ref a ∧ y = .ref b ∧ SqT K H a xs ∧ SqT K H b ys ∧
  ∀ (H' : Hp) (p : Addr) (ts : List Addr), (∀ c o, H c = some o → H' c = some o) → H p = none → (∀ t ∈ ts, H t = none) → p ∉ ts → H' p = some (.lst (ts.map V.ref)) → Paired (fun (t : Addr) (q : V × V) => H' t = some (.tup [q.1, q.2])) ts (xs.zip ys) →
    (∀ c, H' c ≠ none → c = p ∨ c ∈ ts ∨ H c ≠ none) → Q (.ref p) H'
section
variable {X : Cx}
theorem vals_at {xs : List V} {us : List Value} (r : Vals xs us) : ∀ {j : Nat} {u : Value}, us[j]? = some u → ∃ x, xs[j]? = some x ∧ RelV x u := by
  unfold Vals at r
  induction r with
  | nil => intro j u e; simp at e
  | @cons a b as bs h t ih =>
    intro j u e
    cases j with
    | zero => simp at e; subst e; exact ⟨_, rfl, h⟩
    | succ j => exact ih (by simpa using e)
theorem pairs_laid {pins : List (Addr × Obj)} {σ : L2.St} {H : Hp} {s : Shared} {h' : Heap} {tk : Nat} {xs ys : List V} {us ws : List Value} {acc : Array Value} {c : Nat} {S : Addr} {as : List Addr} (I : Inv X pins σ H s) (hz : min xs.length ys.length ≤ sizeLine) (rx : Vals xs us) (ry : Vals ys ws)
    (hS0 : s.heap.objs.size ≤ S) (hk : ∀ b o, s.heap.get? b = some o → h'.get? b = some o) (hS : h'.get? S = some { cls := .type "list", dict := none, data := .seq acc c, slots := #[] }) (hl : as.length = min us.toArray.size ws.toArray.size) (hG : Made us.toArray ws.toArray S h' as) (hacc : acc.toList = as.map Value.ref) :
    ∃ H' : Hp, (∀ b o, H b = some o → H' b = some o) ∧ H S = none ∧ (∀ t ∈ as, H t = none) ∧ S ∉ as ∧ H' S = some (.lst (as.map V.ref)) ∧ Paired (fun (t : Addr) (q : V × V) => H' t = some (.tup [q.1, q.2])) as (xs.zip ys) ∧
      (∀ b, H' b ≠ none → b = S ∨ b ∈ as ∨ H b ≠ none) ∧ Inv X pins σ H' { s with heap := h', toks := tk } := by
  have lx := rx.length
  have ly := ry.length
  have lz : (xs.zip ys).length = as.length := by rw [List.length_zip, hl, List.size_toArray, List.size_toArray, lx, ly]
  have hSn : S ∉ as := fun z => Nat.lt_irrefl _ (hG.hi _ z).1
  have nd : as.Nodup := List.Pairwise.imp (fun {a b} (h : a < b) => Nat.ne_of_lt h) hG.up
  have new : ∀ t ∈ as, H t = none := fun t ht => I.hok.fresh (Nat.le_trans hS0 (Nat.le_of_lt (hG.hi t ht).1))
  have newS : H S = none := I.hok.fresh hS0
  have atP := putP_at as (xs.zip ys) (upd H S (.lst (as.map V.ref))) lz.symm nd
  have off : ∀ b, b ∉ as → b ≠ S → putP (upd H S (.lst (as.map V.ref))) as (xs.zip ys) b = H b := fun b h1 h2 => by rw [putP_off as _ _ h1, upd_ne h2]
  have low : ∀ b o, s.heap.get? b = some o → b ∉ as ∧ b ≠ S := fun b o e => ⟨fun z => absurd (Heap.lt_size e) (Nat.not_lt.mpr (Nat.le_trans hS0 (Nat.le_of_lt (hG.hi b z).1))), Nat.ne_of_lt (Nat.lt_of_lt_of_le (Heap.lt_size e) hS0)⟩
  have kp : ∀ b u, H b = some u → (putP (upd H S (.lst (as.map V.ref))) as (xs.zip ys)) b = some u := fun b u e => by
    rw [off b (fun z => by rw [new b z] at e; cases e) (fun z => by rw [z, newS] at e; cases e)]; exact e
  have eS : putP (upd H S (.lst (as.map V.ref))) as (xs.zip ys) S = some (.lst (as.map V.ref)) := by rw [putP_off as _ _ hSn, upd_same]
  refine ⟨putP (upd H S (.lst (as.map V.ref))) as (xs.zip ys), kp, newS, new, hSn, eS, atP, fun b hb => ?_, ?_⟩
  · by_cases h1 : b ∈ as
    · exact .inr (.inl h1)
    · by_cases h2 : b = S
      · exact .inl h2
      · rw [off b h1 h2] at hb; exact .inr (.inr hb)
  refine I.call' (ch := []) rfl ⟨fun b o q _ _ _ => hk b o q, fun b o q _ _ _ => ⟨o.slots, hk b o q⟩, fun b o q n _ => ?_, fun b o q _ => ⟨o, hk b o q⟩, fun b xs q => kp b _ q, fun b o u q => kp b _ q, fun b ps q => ⟨#[], by rw [kp b _ q]; simp⟩⟩ (fun b u q => ?_) I.bare fun b z => by simp at z
  · obtain ⟨z1, z2⟩ := low b o q
    rw [off b z1 z2]; exact n
  · by_cases hb : b ∈ as
    · obtain ⟨j, pk, e1, e2, e3⟩ := LiI.paired_ix atP hb
      rw [e3] at q; cases q
      obtain ⟨x, y, f1, f2, f3⟩ := hG.at_ j b e1
      obtain ⟨x', g1, g2⟩ := vals_at rx (by simpa using f1)
      obtain ⟨y', g3, g4⟩ := vals_at ry (by simpa using f2)
      have : pk = (x', y') := by
        rw [show (xs.zip ys)[j]? = some (x', y') from List.getElem?_zip_eq_some.mpr ⟨g1, g3⟩] at e2
        exact (Option.some.inj e2).symm
      subst this
      exact ⟨by show 2 ≤ sizeLine; decide, [x, y], .cons g2 (.cons g4 .nil), ⟨_, f3, rfl, _, rfl⟩⟩
    · by_cases hb2 : b = S
      · subst hb2
        rw [eS] at q; cases q
        refine ⟨by rw [List.length_map, hl, List.size_toArray, List.size_toArray, ← lx, ← ly]; exact hz, acc.toList, c, by rw [hacc]; exact LiI.vals_refs as, ?_⟩
        rw [Array.toArray_toList]; exact hS
      · rw [off b hb hb2] at q
        exact (I.hok b u q).stay (fun d v _ y => hk d v y) (fun d y => kp d _ y) fun d xs y => kp d _ y
theorem lt7 {n m a b c : Nat} (hm : m = n + 5) (la : a < n) (lb : b < n) (h : c = n + 4 ∨ c = n + 2 ∨ c = n + 3 ∨ c = n ∨ c = n + 1 ∨ c = a ∨ c = b) : c < m := by omega
theorem lt4 {n c : Nat} (h : c < n) (z : c = n + 4 ∨ c = n + 3 ∨ c = n ∨ c = n + 1) : False := by omega
def tZipL (K : PySem.W.Frag) (ta : TA) : TE := fun σ H Q => ta σ H fun vs H1 => ∃ x y, vs = [x, y] ∧ rZipL K x y H1 Q
theorem pe_lzip {e e2 : Expr} {ta : TA} {p p2 cpos pos : Pos} (hc : X.calm = true) (hg : Gl X "list") (hm : X.mg "list" = none) (hgz : Gl X "zip") (hmz : X.mg "zip" = none) (ha : PA X [e, e2] ta)
    (hs : starEach [e, e2] X.env = (false, eval e X.env) :: starEach [e2] X.env) (hpl : (backTo cpos (starEach [e2] X.env)).any (·.1) = false)
    (hso : starEach [.Call (.Name "zip" p2) [e, e2] [] cpos] X.env = (false, eval (.Call (.Name "zip" p2) [e, e2] [] cpos) X.env) :: starEach [] X.env := by rfl) :
    PE X (.Call (.Name "list" p) [.Call (.Name "zip" p2) [e, e2] [] cpos] [] pos) (tZipL X.K ta) := by
  refine ⟨fun pins s σ H Q I hq => ?_⟩
  refine wpAny_Call_Name_kw (ld_blt I hg hm (by decide +kernel : bootBuiltins "list" = some (.type "list")) ?_)
  refine PyProof.Rows.callWith_type1 ?_ hso rfl
  rw [hso]
  show wpAny _ _ (spliced ((false, eval (.Call (.Name "zip" p2) [e, e2] [] cpos) X.env) :: backTo pos (starEach [] X.env))) _ _ s
  refine Calls.spliced_cons ?_
  refine Call_ (ld_blt I hgz hmz PyProof.Rows.boot_zip (PyProof.Rows.callWith_type1 (thn (ha.run cpos pins s σ H _ I hq) fun us s1 ⟨vs, H1, I1, r1, q1⟩ => ?_) hs hpl))
  obtain ⟨x, y, rfl, a, b, xs, ys, rfl, rfl, hqx, hqy, q⟩ := q1
  cases r1 with
  | cons r rr =>
    cases rr with
    | cons r' rr =>
      cases rr
      cases r
      cases r'
      obtain ⟨us, ru, pu, hzu⟩ := I1.tuple hqx
      obtain ⟨ws, rw', pw, hzw⟩ := I1.tuple hqy
      obtain ⟨o1, ho1, _⟩ := id pu
      obtain ⟨o2, ho2, _⟩ := id pw
      have la := Heap.lt_size ho1
      have lb := Heap.lt_size ho2
      refine RZ.call_zipT (show s1.heap.IsTuple a us.toArray from pu) (show s1.heap.IsTuple b ws.toArray from pw) fun h5 hz tI tO g1 g2 hsz hk => ?_
      refine Calls.spliced_nil ?_
      have D := PySem.W.ktu_apart s1.heap.objs.size a b la lb
      have lt : ∀ c, c ∈ [s1.heap.objs.size + 4, s1.heap.objs.size + 2, s1.heap.objs.size + 3, s1.heap.objs.size, s1.heap.objs.size + 1, a, b] → c < h5.objs.size := by
        intro c hc
        simp only [List.mem_cons, List.not_mem_nil, or_false] at hc
        exact lt7 hsz la lb hc
      have hn : min us.toArray.size ws.toArray.size ≤ sizeLine := Nat.le_trans (Nat.min_le_left _ _) (by rw [List.size_toArray, ← ru.length]; exact hzu)
      refine z_call (s := { s1 with heap := h5 }) (I1.ok.hd hc) D lt hn hz tI tO g1 g2 (Heap.IsTuple.at pu fun o e => hk a o e) (Heap.IsTuple.at pw fun o e => hk b o e) fun h' tk acc c as hk' hS hl hG hacc => ?_
      have out : ∀ c o, s1.heap.get? c = some o → h'.get? c = some o := fun c o e => hk' c o (fun z => by
        have := Heap.lt_size e
        simp only [List.mem_cons, List.not_mem_nil, or_false] at z
        exact lt4 this z) (hk c o e)
      obtain ⟨H', k1, k2, k3, k4, k5, k6, k7, J⟩ := pairs_laid (tk := tk) I1 (by rw [ru.length, rw'.length]; simpa using hn) ru rw' (by show s1.heap.objs.size ≤ h5.objs.size; rw [hsz]; exact Nat.le_add_right _ _) out hS hl hG hacc
      exact ⟨.ref _, H', J, rfl, q H' _ as k1 k2 k3 k4 k5 k6 k7⟩
end
end ZL
end
section
/-! RevL: list(reversed(a list)). -/
namespace RL
open PySem PySem.Calls PyProof.Rows PySem.Spec PySem.W RT
section
variable {prog : Program} {w : World} {A : Around} {E : Value → Shared → Prop} {s : Shared}
theorem extend_rev {it l S : Addr} {items : Array Value} {c₀ : Nat} {R : Result → Shared → Prop} (res : Value) (hh : A.handled = none) (hit : s.heap.IsRevIter it l ((items.size : Int) - 1)) (hl : s.heap.IsList l items) (hne : l ≠ it) (hSi : S ≠ it) (hSl : S ≠ l) (hn : items.size ≤ sizeLine)
    (hS : s.heap.get? S = some { cls := .type "list", data := .seq #[] c₀ })
    (hR : ∀ (h' : Heap) (tk : Nat) (acc : Array Value) (c : Nat), (∀ b o, b ≠ it → b ≠ S → s.heap.get? b = some o → h'.get? b = some o) → h'.get? S = some { cls := .type "list", dict := none, data := .seq acc c, slots := #[] } → ItemsOf (fun i v => items[items.size - 1 - i]? = some v) acc items.size → R (.ok (.ret res)) { s with heap := h', toks := tk }) :
    wpAny (model prog w) A.in1 (Builtin.List.listExtendWith (.ref S) (.ref it) res)
      (fun fin s' => match fin with | .done f => R (.ok f) s' | .again c' => c'.quiet = true ∧ codeAny (model prog w) A c' R s') (fun e s' => R (.error e) s') s := by
  have W := (Walks.listRev (prog := prog) (w := w) (A := A.in1) hh it l hne items).toS
  have hSf : S ∉ [it, l] := by simp only [List.mem_cons, List.not_mem_nil, or_false, not_or]; exact ⟨hSi, hSl⟩
  have hT : s.TypeIs (.ref it) "list_reverseiterator" := hit.typeIs
  have h1 : Builtin.List.listSameRef (.ref S) (.ref it) = false := by simp [Builtin.List.listSameRef, hSi]
  unfold Builtin.List.listExtendWith
  refine wpAny_bind (wpAny_typeOf hT ?_)
  rw [if_neg (by rw [h1]; decide)]
  refine wpAny_bind (wpAny_pyIter_revIter hit ?_)
  refine wpAny_bind (wpAny_holding ?_)
  unfold Builtin.List.listLengthHint
  refine wpAny_bind (wpAny_specialOf hT nolen_lri ?_)
  show wpAny _ A.in1 (specialOf (Value.ref it) (Str.ofString "__length_hint__") >>= _) _ _ _
  refine wpAny_bind (wpAny_specialOf hT hint_lri ?_)
  generalize hid : ("list_reverseiterator.__length_hint__" : String) = id0
  wp_delta
  rw [show splitId id0 = some ("list_reverseiterator", "__length_hint__") from by subst hid; decide +kernel]
  subst hid
  refine wpAny_bind (wpAny_isInstance (b := true) hT (by rw [isSubtype_type]; kernel_rfl) ?_)
  refine wpAny_pure ?_
  rw [if_neg (by decide)]
  have e0 : ((items.size : Nat) : Int) - 1 - ((0 : Nat) : Int) = (items.size : Int) - 1 := by omega
  refine wpAny_pure ⟨plainId_quiet PySem.F.plain_extend_loop _, codeAny_extend_loopS W hn _ hSf _ items.size 0 _ _ _ rfl (Nat.zero_le _) ⟨Nat.zero_le _, by rw [e0]; exact hit, hl⟩ hS (ItemsOf.nil _) fun s' acc' c' hm hS' hacc => ?_⟩
  rw [Moved.eq_with hm]
  refine hR s'.heap s'.toks acc' c' (fun b o b1 b2 e => hm.heap b o (fun hmem => ?_) e) hS' hacc
  rcases List.mem_cons.mp hmem with e' | hmem
  · exact b2 e'
  · exact b1 (List.mem_singleton.mp hmem)
theorem init_rev {it l S : Addr} {items : Array Value} {R : Result → Shared → Prop} (hh : A.handled = none) (hit : s.heap.IsRevIter it l ((items.size : Int) - 1)) (hl : s.heap.IsList l items) (hne : l ≠ it) (hSi : S ≠ it) (hSl : S ≠ l) (hn : items.size ≤ sizeLine)
    (hS : s.heap.get? S = some { cls := .type "list", data := .seq #[] })
    (hR : ∀ (h' : Heap) (tk : Nat) (acc : Array Value) (c : Nat), (∀ b o, b ≠ it → b ≠ S → s.heap.get? b = some o → h'.get? b = some o) → h'.get? S = some { cls := .type "list", dict := none, data := .seq acc c, slots := #[] } → ItemsOf (fun i v => items[items.size - 1 - i]? = some v) acc items.size → R (.ok (.ret .none)) { s with heap := h', toks := tk }) :
    wpAny (model prog w) A.in1 (Builtin.«list.__init__» ⟨[.ref S, .ref it], []⟩)
      (fun fin s' => match fin with | .done f => R (.ok f) s' | .again c' => c'.quiet = true ∧ codeAny (model prog w) A c' R s') (fun e s' => R (.error e) s') s := by
  show wpAny _ _ (do let old ← Builtin.List.listItems (.ref S); Builtin.List.listUpdate (.ref S) (fun _ => #[]); letGo old.toList.reverse; Builtin.List.listExtendWith (.ref S) (.ref it) .none) _ _ s
  refine wpAny_bind ?_
  unfold Builtin.List.listItems
  refine wpAny_bind (wpAny_seqItems hS rfl (wpAny_pure ?_))
  show wpAny _ _ (updateSeq S (fun _ => #[]) >>= fun _ => letGo (#[] : Array Value).toList.reverse >>= fun _ => Builtin.List.listExtendWith (.ref S) (.ref it) .none) _ _ s
  refine wpAny_bind (wpAny_updateSeq hS rfl ?_)
  have hS₂ := Heap.get?_update_self (Obj.mapSeq (fun _ => (#[] : Array Value))) hS rfl
  have oth : ∀ b o, b ≠ S → s.heap.get? b = some o → (s.heap.update S (Obj.mapSeq (fun _ => (#[] : Array Value)))).get? b = some o := fun b o hb e => (Heap.get?_update_other _ _ (Ne.symm hb)).trans e
  refine wpAny_bind (wpAny_letGo ?_)
  obtain ⟨ol, hol, c1⟩ := id hl
  refine extend_rev .none hh (hit.at fun o e => oth it o (Ne.symm hSi) e) ⟨ol, oth l _ (Ne.symm hSl) hol, c1⟩ hne hSi hSl hn hS₂ fun h' tk acc c hk hS' hacc => ?_
  exact hR h' tk acc c (fun b o b1 b2 e => hk b o b1 b2 (oth b o b2 e)) hS' hacc
theorem call_rev {it l : Addr} {items : Array Value} {Q : Value → Shared → Prop} (hh : A.handled = none) (hit : s.heap.IsRevIter it l ((items.size : Int) - 1)) (hl : s.heap.IsList l items) (hne : l ≠ it) (hn : items.size ≤ sizeLine)
    (hQ : ∀ (h' : Heap) (tk : Nat) (acc : Array Value) (c : Nat), (∀ b o, b ≠ it → s.heap.get? b = some o → h'.get? b = some o) → h'.get? s.heap.objs.size = some { cls := .type "list", dict := none, data := .seq acc c, slots := #[] } → ItemsOf (fun i v => items[items.size - 1 - i]? = some v) acc items.size →
      Q (.ref s.heap.objs.size) { s with heap := h', toks := tk }) :
    wpAny (model prog w) A (call (.type "list") [.ref it]) Q E s := by
  obtain ⟨oi, hoi, _⟩ := id hit
  obtain ⟨ol, hol, c1⟩ := id hl
  have hSi : s.heap.objs.size ≠ it := Nat.ne_of_gt (Heap.lt_size hoi)
  have hSl : s.heap.objs.size ≠ l := Nat.ne_of_gt (Heap.lt_size hol)
  refine callType_codes (Q₁ := fun obj r => obj = .ref s.heap.objs.size ∧ r = { s with heap := s.heap.push { cls := .type "list", data := .seq #[] } }) PySem.F.called_list (PySem.F.typeCall_list_1 _) PySem.F.entry_list_init (code_list_new _ ⟨rfl, rfl⟩) fun obj r hr => ?_
  obtain ⟨rfl, rfl⟩ := hr
  have hS : (s.heap.push { cls := .type "list", data := .seq #[] }).get? s.heap.objs.size = some { cls := .type "list", data := .seq #[] } := Heap.get?_push_size _ rfl
  have up : ∀ b o, s.heap.get? b = some o → (s.heap.push { cls := .type "list", data := .seq #[] }).get? b = some o := fun b o e => Heap.get?_push_of_some _ e
  refine ⟨⟨_, hS, rfl⟩, PySem.F.args_list_init_2 _ _, init_rev (A := A.in1) hh (hit.at fun o e => up _ o e) (hl.push _) hne hSi hSl hn hS fun h' tk acc c hk hS' hacc => ?_⟩
  exact ⟨rfl, hQ h' tk acc c (fun b o hb e => hk b o hb (Nat.ne_of_lt (Heap.lt_size e)) (up b o e)) hS' hacc⟩
end
open L2
section
variable {X : L2.Cx}
/-- list(reversed(x)), x a list: a new list -/
def tListRev (K : PySem.W.Frag) (te : TE) : TE := fun σ H Q => te σ H fun v H1 => ∃ (a : Addr) (xs : List V), v = .ref a ∧ SqL K H1 a xs ∧ ∀ q, H1 q = none → Q (.ref q) (upd H1 q (.lst xs.reverse))
theorem pe_listRev {e : Expr} {te : TE} {p p2 pos pos2 : Pos} (hc : X.calm = true) (hg : Gl X "list") (hm : X.mg "list" = none) (hg2 : Gl X "reversed") (hm2 : X.mg "reversed" = none) (he : PE X e te)
    (hs : starEach [e] X.env = (false, eval e X.env) :: starEach [] X.env := by rfl)
    (hs2 : starEach [.Call (.Name "reversed" p2) [e] [] pos2] X.env = (false, eval (.Call (.Name "reversed" p2) [e] [] pos2) X.env) :: starEach [] X.env := by rfl) :
    PE X (.Call (.Name "list" p) [.Call (.Name "reversed" p2) [e] [] pos2] [] pos) (tListRev X.K te) := by
  refine ⟨fun pins s σ H Q I h => ?_⟩
  refine Call_ (ld_blt I hg hm (by decide +kernel : bootBuiltins "list" = some (.type "list")) (PyProof.Rows.callWith_type1 (args_cons (Call_ (ld_blt I hg2 hm2 PyProof.Rows.boot_reversed (PyProof.Rows.callWith_type1 (args_cons (thn (he.run pins s σ H _ I h) fun u s1 ⟨v, H1, I1, r1, q1⟩ => args_nil ?_) hs) hs rfl))) hs2) hs2 rfl))
  obtain ⟨a, xs, ev, hq, q⟩ := q1
  subst ev
  obtain rfl : u = Value.ref a := r1
  obtain ⟨its, rv, p', hz⟩ := I1.list hq
  refine call_reversed_list p'.isList (args_nil ?_)
  have I2 : Inv X pins σ H1 { s1 with heap := s1.heap.push (revObj a ((its.toArray.size : Int) - 1)) } := I1.kept (t' := s1.toks) fun b o e => Heap.get?_push_of_some _ e
  obtain ⟨f0, f1, f2, f3, f4, f5⟩ := I1.fpOk (H' := H1) (b := s1.heap.objs.size) (Nat.le_refl _) (I1.hok.fresh (Nat.le_refl _))
  obtain ⟨ol, hol, c1⟩ := id p'.isList
  have hne : a ≠ s1.heap.objs.size := Nat.ne_of_lt (Heap.lt_size hol)
  have hn : its.toArray.size ≤ sizeLine := by rw [List.size_toArray, ← rv.length]; exact hz
  refine call_rev (s := { s1 with heap := s1.heap.push (revObj a ((its.toArray.size : Int) - 1)) }) (I1.ok.hd hc) ⟨_, Heap.get?_push_size _ rfl, rfl, rfl⟩ (p'.isList.push _) hne hn fun h' tk acc c hk hS hi => ?_
  have out : ∀ b o, s1.heap.get? b = some o → h'.get? b = some o := fun b o e => hk b o (Nat.ne_of_lt (Heap.lt_size e)) (Heap.get?_push_of_some _ e)
  have hsz : s1.heap.objs.size ≤ (s1.heap.push (revObj a ((its.toArray.size : Int) - 1))).objs.size := by simp [Heap.push]
  refine ⟨.ref _, upd H1 _ (.lst xs.reverse), I1.laid (t' := tk) out hsz (show ObjOk X.prog X.w _ _ _ (.lst xs.reverse) from ⟨by rw [List.length_reverse]; exact hz, acc.toList, c, vals_rev rv hi, ?_⟩), rfl, q _ (I1.hok.fresh hsz)⟩
  rw [Array.toArray_toList]
  exact hS
end
end RL
end
section
/-! RevT: for c in reversed(a text). -/
namespace RX
open PySem PySem.Spec PyProof.Rows L2 RT
theorem norev_str : typeLookup (.type "str") "__reversed__" = pure none := by rw [typeLookup_type, builtinLookup_eq_fast]; kernel_rfl
theorem get_str : typeLookup (.type "str") "__getitem__" = pure (some (.builtin "str.__getitem__")) := by rw [typeLookup_type, builtinLookup_eq_fast]; kernel_rfl
theorem sub_str_dict : isSubtype (.type "str") (.type "dict") = pure false := by rw [isSubtype_type]; kernel_rfl
/-- reversed(x), the next place i -/
def IsRx (h : Heap) (a : Addr) (x : Str) (t : Tok) (i : Int) : Prop := ∃ o, h.get? a = some o ∧ o.cls = .type "reversed" ∧ o.data = .fields #[.str x t, rawInt i]
theorem IsRx.at {h h' : Heap} {a : Addr} {x : Str} {t : Tok} {i : Int} (r : IsRx h a x t i) (e : ∀ o, h.get? a = some o → h'.get? a = some o) : IsRx h' a x t i := let ⟨o, ho, z⟩ := r; ⟨o, e _ ho, z⟩
def rxObj (x : Str) (t : Tok) (i : Int) : Obj := { cls := .type "reversed", data := .fields #[.str x t, rawInt i] }
section
variable {prog : Program} {w : World} {A : Around} {E : Value → Shared → Prop} {s : Shared}
theorem IsRx.typeIs {a : Addr} {x : Str} {t : Tok} {i : Int} (r : IsRx s.heap a x t i) : s.TypeIs (.ref a) "reversed" := let ⟨o, ho, hc, _⟩ := r; ⟨o, ho, hc⟩
theorem code_rx {x : Str} {t : Tok} {Q₁ : Value → Shared → Prop} (hfit : ¬ (x.length : Int) ≥ 2 ^ 63)
    (h : Q₁ (.ref s.heap.objs.size) { s with heap := s.heap.push (rxObj x t ((x.length : Int) - 1)), toks := s.toks + 1 + 1 }) :
    codeAny (model prog w) A (.call (.builtin "reversed.__new__") ⟨[.type "reversed", .str x t], []⟩) (wants Q₁ E) s := by
  have hT : s.TypeIs (.str x t) "str" := typeIs_str s x t
  refine codeAny_of_tree ?_
  show wpAny _ A.in1 (do checkBuiltinCall "reversed.__new__" ⟨[.type "reversed", .str x t], []⟩; again (.builtin "reversed.__new__" ⟨[.type "reversed", .str x t], []⟩)) _ _ s
  refine wpAny_bind (wpAny_of_eq (F.newCall_reversed_1 _) (wpAny_pure ⟨plainId_quiet F.plain_reversed_new _, codeAny_builtin F.entry_reversed_new ?_⟩))
  rw [Around.under_plainId F.plain_reversed_new _]
  unfold Builtin.«reversed.__new__»
  refine wpAny_bind (wpAny_of_eq (newClass_reversed _) ?_)
  try dsimp only
  refine wpAny_bind (wpAny_of_eq (a := ()) (by first | rfl | kernel_rfl) ?_)
  try dsimp only
  refine wpAny_bind (wpAny_of_eq (a := ()) (by first | rfl | kernel_rfl) ?_)
  try dsimp only
  refine wpAny_bind (wpAny_specialOf hT norev_str ?_)
  try dsimp only
  refine wpAny_bind ?_
  wp_delta
  refine wpAny_bind (wpAny_isInstance (T := "str") (U := "dict") (b := false) hT sub_str_dict ?_)
  try dsimp only
  try rw [if_neg Bool.false_ne_true]
  try dsimp only
  refine wpAny_bind (wpAny_specialOf hT get_str ?_)
  try dsimp only
  try rw [if_pos (by decide +kernel)]
  refine wpAny_pure ?_
  try dsimp only
  try rw [if_neg (by decide)]
  try dsimp only
  refine wpAny_bind (PySem.P.len_str hfit ?_)
  refine wpAny_bind (wpAny_of_eq (a := some ((x.length : Nat) : Int)) rfl ?_)
  try dsimp only
  refine wpAny_bind ?_
  show wpAny _ _ (newObj (.type "reversed") (.fields #[.str x t, rawInt ((x.length : Int) - 1)])) _ _ _
  refine wpAny_newObj_type ?_
  exact wpAny_pure h
theorem call_rx {x : Str} {t : Tok} {Q : Value → Shared → Prop} (hfit : ¬ (x.length : Int) ≥ 2 ^ 63)
    (h : Q (.ref s.heap.objs.size) { s with heap := s.heap.push (rxObj x t ((x.length : Int) - 1)), toks := s.toks + 1 + 1 }) : wpAny (model prog w) A (call (.type "reversed") [.str x t]) Q E s := by
  refine callType_codes (Q₁ := fun obj s₁ => s₁.TypeIs obj "reversed" ∧ Q obj s₁) called_rt (F.typeCall_reversed_1 _) F.entry_object_init
    (code_rx (A := A.in1) hfit ⟨⟨_, Heap.get?_push_size _ rfl, rfl⟩, h⟩) fun obj s₁ h₁ => ?_
  exact ⟨h₁.1, F.args_object_init_2 obj _, object_init_meets called_rt.init.lookup called_rt.made (by decide) prog w A.in1 _ s₁ ⟨h₁.1, rfl, h₁.2⟩⟩
theorem next_rx {it : Addr} {x : Str} {t : Tok} {i c : Nat} {Q : Option Value → Shared → Prop} (hit : IsRx s.heap it x t (i : Int)) (hc : x.cps[i]? = some c) (hsz : x.length < 2 ^ 62)
    (hQ : ∀ h', IsRx h' it x t ((i : Int) - 1) → Heap.SameBut it s.heap h' → Q (some (.str ⟨#[c]⟩ (s.toks + 1))) { s with heap := h', toks := s.toks + 1 + 1 }) : wpAny (model prog w) A (pyNext (.ref it)) Q E s := by
  obtain ⟨o, ho, hcl, hd⟩ := id hit
  have hi : i < x.length := (Array.getElem?_eq_some_iff.mp hc).1
  have hT : s.TypeIs (.str x t) "str" := typeIs_str s x t
  unfold pyNext
  refine wpAny_bind (wpAny_attempt (wpAny_callSpecial?_slot (name := Str.ofString "__next__") hit.typeIs slot_rt_next
    (wpAny_call_entry slot_rt_next hit.typeIs entry_rt_next ?_ (args_rt_next _))))
  unfold Builtin.«reversed.__next__»
  refine wpAny_bind (wpAny_of_eq (a := (Value.ref it, [])) rfl ?_)
  try dsimp only
  refine wpAny_bind (wpAny_field ho hd (x := .str x t) rfl ?_)
  try dsimp only
  refine wpAny_bind (wpAny_field ho hd (x := rawInt (i : Int)) rfl ?_)
  show wpAny _ _ (if (i : Int) < 0 then _ else _) _ _ s
  rw [if_neg (by omega)]
  try dsimp only
  refine wpAny_bind (wpAny_specialOf hT get_str ?_)
  try dsimp only
  try rw [if_neg (by decide)]
  try dsimp only
  refine wpAny_bind (wpAny_mkInt ?_)
  refine wpAny_bind (wpAny_attempt ?_)
  have fin : seqIndex? (i : Int) x.length = some i := seqIndex_of (by omega) (by omega)
  refine PySem.P.getItem_str (s := { s with toks := s.toks + 1 }) (c := c) (by simp; omega) (by rw [fin]; exact hc) ?_
  try dsimp only
  refine wpAny_bind (wpAny_field (s := { s with toks := s.toks + 1 + 1 }) ho hd (x := rawInt (i : Int)) rfl ?_)
  try dsimp only
  refine wpAny_bind (wpAny_setField (s := { s with toks := s.toks + 1 + 1 }) ho hd (by simp) ?_)
  first
  | refine wpAny_pure ⟨_, rfl, wpAny_pure (hQ _ ?_ (Heap.SameBut.update ..))⟩
  | refine wpAny_bind (wpAny_pure (wpAny_pure ⟨_, rfl, wpAny_pure (hQ _ ?_ (Heap.SameBut.update ..))⟩))
  exact ⟨_, Heap.get?_update_self _ ho (Obj.isFreed_of_fields (Obj.data_mapFields hd _)), (Obj.cls_mapFields ..).trans hcl, by
    rw [Obj.data_mapFields hd]; simp⟩
theorem next_rx_end {it : Addr} {x : Str} {t : Tok} {Q : Option Value → Shared → Prop} (hh : A.handled = none) (hit : IsRx s.heap it x t (-1))
    (hQ : ∀ h', Heap.ExtBut it s.heap h' → Q none { s with heap := h' }) : wpAny (model prog w) A (pyNext (.ref it)) Q E s := by
  obtain ⟨o, ho, hc, hd⟩ := id hit
  unfold pyNext
  refine wpAny_bind (wpAny_attempt (wpAny_callSpecial?_slot (name := Str.ofString "__next__") hit.typeIs slot_rt_next
    (wpAny_call_entry slot_rt_next hit.typeIs entry_rt_next ?_ (args_rt_next _))))
  unfold Builtin.«reversed.__next__»
  refine wpAny_bind (wpAny_of_eq (a := (Value.ref it, [])) rfl ?_)
  try dsimp only
  refine wpAny_bind (wpAny_field ho hd (x := .str x t) rfl ?_)
  try dsimp only
  refine wpAny_bind (wpAny_field ho hd (x := rawInt (-1)) rfl ?_)
  show wpAny _ _ (if (-1 : Int) < 0 then _ else _) _ _ s
  rw [if_pos (by decide)]
  try dsimp only
  refine wpAny_bind (wpAny_rule ?_)
  refine wpAny_bind ?_
  wp_delta
  refine wpAny_bind (wpAny_setField ho hd (by simp) ?_)
  have ho2 := Heap.get?_update_self (Obj.mapFields (·.setIfInBounds 1 (rawInt (-1)))) ho (Obj.isFreed_of_fields (Obj.data_mapFields hd _))
  refine wpAny_setField (s := { s with heap := s.heap.update it (Obj.mapFields (·.setIfInBounds 1 (rawInt (-1)))) }) ho2 (Obj.data_mapFields hd _) (by simp) ?_
  try dsimp only
  first
  | show wpAny _ _ (newExc (.type "StopIteration") [] >>= _) _ _ _
  | (refine wpAny_bind ?_; show wpAny _ _ (newExc (.type "StopIteration") [] >>= _) _ _ _)
  | (refine wpAny_bind ?_; wp_delta; show wpAny _ _ (newExc (.type "StopIteration") [] >>= _) _ _ _)
  refine wpAny_bind ?_
  simp only [newExc, newTuple]
  refine wpAny_bind (wpAny_newObj_type ?_ (by size_fits))
  refine wpAny_bind (m := firstArgMember _ _) (wpAny_of_eq (a := Value.none) (by first | rfl | (simp only [firstArgMember]; rfl)) ?_)
  refine wpAny_newObj_type ?_ (by size_fits)
  simp only [raiseNew]
  refine wpAny_bind (wpAny_handled ?_)
  first | rw [show A.in1.handled = none from hh] | rw [hh]
  refine wpAny_bind (wpAny_pure (wpAny_throw ?_))
  refine wpAny_bind (wpAny_isInstance (T := "StopIteration") (b := true) ⟨_, Heap.get?_push_size _ rfl, rfl⟩ isSubtype_stop ?_)
  refine wpAny_pure (hQ _ ?_)
  refine ((?_ : Heap.ExtBut it s.heap _).push _).push _
  exact fun b ob hb e => (Heap.get?_update_other _ _ (Ne.symm hb)).trans ((Heap.get?_update_other _ _ (Ne.symm hb)).trans e)
theorem iter_rx {it : Addr} {x : Str} {t : Tok} {i : Int} {Q : Value → Shared → Prop} (hit : IsRx s.heap it x t i) (h : Q (.ref it) s) : wpAny (model prog w) A (pyIter (.ref it)) Q E s := by
  refine wpAny_pyIter_slot hit.typeIs slot_rt_iter (wpAny_call_entry slot_rt_iter hit.typeIs entry_rt_iter ?_ (args_rt_iter _))
  show wpAny _ _ (ret (.ref it)) _ _ s
  exact wpAny_pure ⟨_, rfl, "reversed", _, hit.typeIs, slot_rt_next.lookup, h⟩
end
/-- the text's signs from its end -/
def Itx (x : Str) : It := ⟨fun i _ => i < x.cps.size, fun i H v H' => H' = H ∧ ∃ c, x.cps[x.cps.size - 1 - i]? = some c ∧ v = .str ⟨#[c]⟩, fun i _ => x.cps.size ≤ i⟩
theorem turn_rx {P : Program} {w : World} {K : PySem.W.Frag} {tg : Expr} (it : Addr) (x : Str) (t : Tok) (hsz : x.length < 2 ^ 62) : Turn P w K tg (Itx x) [it] it (fun i h => i ≤ x.cps.size ∧ IsRx h it x t ((x.cps.size : Int) - 1 - (i : Nat))) where
  mem := by simp
  obj := fun i h st b hb => by
    have e : b = it := by simpa using hb
    subst e
    obtain ⟨_, o, e, c, d⟩ := st
    exact ⟨o, e, fun v z => by rw [d] at z; cases z⟩
  keep := fun i h h' st k => ⟨st.1, st.2.at fun o e => k it (by simp) o e⟩
  item := by
    intro X hP hw hK hc i pins s σ H E I hf st hg
    subst hP hw hK
    have hg : i < x.cps.size := hg
    obtain ⟨f0, f1, f2, f3, f4, f5⟩ := hf it (by simp)
    obtain ⟨hin, hit⟩ := st
    have e1 : (x.cps.size : Int) - 1 - ((i : Nat) : Int) = ((x.cps.size - 1 - i : Nat) : Int) := by omega
    rw [e1] at hit
    obtain ⟨c, hcx⟩ : ∃ c, x.cps[x.cps.size - 1 - i]? = some c := ⟨_, Array.getElem?_eq_getElem (by omega)⟩
    refine next_rx hit hcx hsz fun h' st' sb => ?_
    have e2 : ((x.cps.size - 1 - i : Nat) : Int) - 1 = (x.cps.size : Int) - 1 - ((i + 1 : Nat) : Int) := by omega
    rw [e2] at st'
    have I1 : Inv X pins σ H { s with heap := h', toks := s.toks + 1 + 1 } := I.turned (t' := s.toks + 1 + 1) (fun b o hb e => (sb.2 b hb).trans e) f0 f1 f3 f4 f5
    obtain ⟨o, e, cc, d⟩ := id st'
    exact ⟨_, rfl, go_of (s := { s with heap := h', toks := s.toks + 1 + 1 }) e cc d (by decide) ⟨.str ⟨#[c]⟩, H, I1, ⟨_, rfl⟩, ⟨rfl, c, hcx, rfl⟩, ⟨hg, st'⟩, fun b hb => (hf b hb).1⟩⟩
  done := by
    intro X hP hw hK hc i pins s σ H E I hf st hg
    subst hP hw hK
    obtain ⟨f0, f1, f2, f3, f4, f5⟩ := hf it (by simp)
    obtain ⟨hin, hit⟩ := st
    have hge : x.cps.size ≤ i := hg
    have e1 : (x.cps.size : Int) - 1 - ((i : Nat) : Int) = -1 := by omega
    rw [e1] at hit
    exact next_rx_end (I.ok.hd hc) hit fun h' eb => ⟨rfl, I.turned (t' := s.toks) (fun b o hb e => eb b o hb e) f0 f1 f3 f4 f5⟩
  self := fun A i s Q E st h => iter_rx st.2 h
/-- reversed(x), x a list, a tuple or a text -/
def iRevX (K : PySem.W.Frag) (te : TE) : TI := fun σ H R => te σ H fun v H1 => (∃ (a : Addr) (xs : List V), v = .ref a ∧ ((SqL K H1 a xs ∧ R (Itv K a xs.length) H1) ∨ (SqT K H1 a xs ∧ R (ItvT K a xs.length) H1))) ∨ ∃ x : Str, v = .str x ∧ x.length < 2 ^ 62 ∧ R (Itx x) H1
section
variable {X : Cx} {tg : Expr}
theorem pi_revX {e : Expr} {te : TE} {p pos : Pos} (hg : Gl X "reversed") (hm : X.mg "reversed" = none) (he : PE X e te) (hs : starEach [e] X.env = (false, eval e X.env) :: starEach [] X.env := by rfl) : PI X tg (.Call (.Name "reversed" p) [e] [] pos) (iRevX X.K te) := by
  refine ⟨fun pins s σ H R I h => ?_⟩
  refine Call_ (ld_blt I hg hm PyProof.Rows.boot_reversed (PyProof.Rows.callWith_type1 (args_cons (thn (he.run pins s σ H _ I h) fun u s1 ⟨v, H1, I1, r1, q1⟩ => args_nil ?_) hs) hs rfl))
  rcases q1 with ⟨a, xs, ev, q⟩ | ⟨x, ev, hx, q⟩
  · subst ev
    obtain rfl : u = Value.ref a := r1
    rcases q with ⟨hq, q⟩ | ⟨hq, q⟩
    · obtain ⟨its, rv, p', hz⟩ := I1.list hq
      have hl := rv.length
      have e1 : ((its.toArray.size : Nat) : Int) - 1 = (xs.length : Int) - 1 - ((0 : Nat) : Int) := by simp only [List.size_toArray]; omega
      refine call_reversed_list p'.isList (wpAny_pyIter_revIter (l := a) (i := ((its.toArray.size : Nat) : Int) - 1) ⟨_, Heap.get?_push_size _ rfl, rfl, rfl⟩ ?_)
      refine pi_one (tk := s1.toks) I1 _ (turn_rev a _ xs.length) ⟨Nat.zero_le _, ?_⟩ q
      rw [← e1]
      exact ⟨_, Heap.get?_push_size _ rfl, rfl, rfl⟩
    · obtain ⟨its, rv, p', hz⟩ := I1.tuple hq
      have hl := rv.length
      have hn := line63
      have e1 : ((its.toArray.size : Nat) : Int) - 1 = (xs.length : Int) - 1 - ((0 : Nat) : Int) := by simp only [List.size_toArray]; omega
      refine call_reversed_tup p' (fun A E Q k => len_tuple p' (by simp only [List.size_toArray] <;> omega) k) (iter_rt (t := a) (i := ((its.toArray.size : Nat) : Int) - 1) ⟨_, Heap.get?_push_size _ rfl, rfl, rfl⟩ ?_)
      refine pi_one (tk := s1.toks + 1 + 1) I1 _ (turn_rt a _ xs.length) ⟨Nat.zero_le _, ?_⟩ q
      rw [← e1]
      exact ⟨_, Heap.get?_push_size _ rfl, rfl, rfl⟩
  · subst ev
    obtain ⟨t, rfl⟩ := r1
    have e1 : (x.length : Int) - 1 = (x.cps.size : Int) - 1 - ((0 : Nat) : Int) := by show (x.cps.size : Int) - 1 = _; omega
    refine call_rx (by omega) (iter_rx (x := x) (t := t) (i := (x.length : Int) - 1) ⟨_, Heap.get?_push_size _ rfl, rfl, rfl⟩ ?_)
    refine pi_one (tk := s1.toks + 1 + 1) I1 _ (turn_rx _ x t hx) ⟨Nat.zero_le _, ?_⟩ q
    rw [← e1]
    exact ⟨_, Heap.get?_push_size _ rfl, rfl, rfl⟩
end
end RX
end
section
/-! UnpL: a, b = a list. -/
namespace Snd
open PySem L2 PySem.Spec PyProof.Rows
open Sem (wp)
section
variable {prog : Program} {w : World} {A : Around} {E : Value → Shared → Prop} {s : Shared}
theorem draw_list {it t : Addr} {items : Array Value} (hne : t ≠ it) : ∀ (n i : Nat) (s : Shared) (Q : List Value → Shared → Prop), s.heap.IsListIter it t i → s.heap.IsList t items → i + n ≤ items.size →
    (∀ h' : Heap, h'.IsListIter it t (i + n) → Heap.SameBut it s.heap h' → Q ((items.toList.drop i).take n) { s with heap := h' }) → wpAny (model prog w) A (draw (.ref it) n) Q E s
  | 0, i, s, Q, hit, _, _, hQ => by
    show wpAny _ _ (pure []) Q E s
    exact wpAny_pure (by simpa using hQ s.heap hit (Heap.SameBut.refl ..))
  | n + 1, i, s, Q, hit, ht, hle, hQ => by
    have hlt : i < items.size := by omega
    show wpAny _ _ (pyNext (.ref it) >>= _) Q E s
    refine wpAny_bind (wpAny_pyNext_list_item hit ht (x := items[i]) (by simp [hlt]) fun h₁ hit₁ hs₁ => ?_)
    refine wpAny_bind (wpAny_holding (draw_list hne n (i + 1) _ _ hit₁ (ht.extBut hs₁.extBut hne) (by omega) fun h₂ hit₂ hs₂ => wpAny_pure ?_))
    have hd : items.toList.drop i = items[i] :: items.toList.drop (i + 1) := by simp [List.drop_eq_getElem_cons, hlt]
    have := hQ h₂ (by rw [show i + (n + 1) = i + 1 + n by omega]; exact hit₂) (hs₁.trans hs₂)
    rw [hd, List.take_succ_cons] at this
    exact this
theorem unpackItems_list {t : Addr} {items : Array Value} {Q : List Value → Shared → Prop} (hh : A.handled = none) (ht : s.heap.IsList t items)
    (hQ : ∀ h', Heap.ExtBut s.heap.objs.size s.heap h' → Q items.toList { s with heap := h' }) : wpAny (model prog w) A (unpackItems (.ref t) items.size none) Q E s := by
  have hlt : t ≠ s.heap.objs.size := by obtain ⟨o, ho, _⟩ := ht; exact Nat.ne_of_lt (Heap.lt_size ho)
  unfold unpackItems
  refine wpAny_bind ?_
  · unfold notIterableAtAll
    refine wpAny_bind (wpAny_specialOf ht.typeIs slot_list_iter.lookup ?_)
    refine wpAny_pure ?_
    simp only [Bool.false_eq_true, if_false]
    refine wpAny_bind (wpAny_holding (wpAny_pyIter_list ht ?_))
    refine wpAny_bind (wpAny_holding (draw_list hlt items.size 0 _ _ ⟨_, Heap.get?_push_size _ rfl, rfl, rfl⟩ (ht.push _) (by omega) fun h₁ hit₁ hs₁ => ?_))
    have hall : List.take items.size (List.drop 0 items.toList) = items.toList := by
      rw [List.drop_zero]; exact List.take_of_length_le (by simp)
    rw [hall]
    rw [if_neg (by simp)]
    have ht₁ : h₁.IsList t items := (ht.push _).extBut hs₁.extBut hlt
    refine wpAny_bind (wpAny_holding (wpAny_pyNext_list_end hh hit₁ ht₁ (by simp) fun h₂ he₂ => ?_))
    simp only [Option.isSome_none, Bool.false_eq_true, if_false]
    refine wpAny_pure (hQ h₂ fun b o hb e => he₂ b o hb (hs₁.extBut b o hb (Heap.get?_push_of_some _ e)))
theorem assign_Tuple_list {env : Env} {elts : List Expr} {x1} {pos : Pos} {t : Addr} {items : Array Value} {Q : Unit → Shared → Prop} (hh : A.handled = none) (ht : s.heap.IsList t items)
    (hn : (assignEach elts env).length = items.size) (hstar : (assignEach elts env).findIdx? (·.1) = none)
    (h : ∀ h', Heap.ExtBut s.heap.objs.size s.heap h' → wpAny (model prog w) A (assignInOrder ((assignEach elts env).map (·.2)) items.toList) Q E { s with heap := h' }) :
    wpAny (model prog w) A (assign (.Tuple elts x1 pos) env (.ref t)) Q E s := by
  rw [assign_Tuple]
  refine wpAny_bind (wpAny_standAt ?_)
  unfold unpack
  rw [hn, hstar]
  exact wpAny_bind (wpAny_holding (unpackItems_list hh ht h))
end
/-- (a, b, ..) = a list of that length -/
def gLstT (K : PySem.W.Frag) (n : Nat) (t : TGs) : TG := fun v σ H Q => ∃ a xs, v = .ref a ∧ SqL K H a xs ∧ xs.length = n ∧ t xs σ H Q
theorem pg_lst {X : L2.Cx} {pos : Pos} {es : List Expr} {k : Nat} {t : TGs} {n : Nat} (hc : X.calm = true) (h : PGs X es t)
    (hn : (assignEach es X.env).length = n) (hst : (assignEach es X.env).findIdx? (·.1) = none) : PG X (.Tuple es k pos) (gLstT X.K n t) := by
  refine ⟨fun pins s σ H v u Q I r hw => ?_⟩
  obtain ⟨a, xs, e1, hq, hl, hw⟩ := hw
  subst e1
  cases r
  obtain ⟨its, rv, ht, hz⟩ := I.list hq
  refine assign_Tuple_list (I.ok.hd hc) ht.isList (by simp [hn, ← hl, rv.length]) hst fun h' hx => ?_
  have I1 : Inv X pins σ H { s with heap := h' } := I.kept (t' := s.toks) fun b o e => hx b o (Nat.ne_of_lt (Heap.lt_size e)) e
  exact h.run pins _ σ H xs _ Q I1 (by simpa using rv) hw
end Snd
end
section
/-! Sound5: expressions: the readings of the IR over those of the model. -/
namespace Snd
open PySem L2 PySem.Spec PyProof.Rows
variable [FrameP]
abbrev WE := M.St → M.AH → M.VQ → Prop
abbrev WA := M.St → M.AH → (List SD → M.AH → Prop) → Prop
abbrev WO := M.St → M.AH → (Option Int → M.AH → Prop) → Prop
/-- a reading of the IR as one of the model -/
def lift (K : Fr) (w : WE) : TE := fun σ H Q => ∃ σa h Qa, RS K H σ σa ∧ RH K H h ∧ w σa h Qa ∧ Kont K H h Qa Q
def liftT (K : Fr) (w : WE) : TT := fun σ H Q => ∃ σa h Qa, RS K H σ σa ∧ RH K H h ∧ w σa h Qa ∧ ∀ d h', Qa d h' → ∃ b, d = .bl b ∧ ∀ H', Frm H h H' h' → RH K H' h' → Q b H'
def KontA (K : Fr) (H : Hp) (h : M.AH) (Qa : List SD → M.AH → Prop) (Q : List V → Hp → Prop) : Prop := ∀ ds h' vs H', Qa ds h' → Frm H h H' h' → Reps K H' ds vs → RH K H' h' → Q vs H'
def liftA (K : Fr) (w : WA) : TA := fun σ H Q => ∃ σa h Qa, RS K H σ σa ∧ RH K H h ∧ w σa h Qa ∧ KontA K H h Qa Q
def liftO (K : Fr) (w : WO) : TO := fun σ H Q => ∃ σa h Qa, RS K H σ σa ∧ RH K H h ∧ w σa h Qa ∧ ∀ o h' H', Qa o h' → Frm H h H' h' → RH K H' h' → Q o H'

theorem _root_.L2.PE.imp {X : L2.Cx} {e : Expr} {t t' : TE} (a : PE X e t) (i : ∀ σ H Q, t' σ H Q → t σ H Q) : PE X e t' := ⟨fun pins s σ H Q I h => a.run pins s σ H Q I (i σ H Q h)⟩
theorem _root_.L2.PT.imp {X : L2.Cx} {e : Expr} {t t' : TT} (a : PT X e t) (i : ∀ σ H Q, t' σ H Q → t σ H Q) : PT X e t' := ⟨fun pins s σ H Q I h => a.run pins s σ H Q I (i σ H Q h)⟩
theorem _root_.L2.PW.imp {X : L2.Cx} {e : Expr} {t t' : TT} (a : PW X e t) (i : ∀ σ H Q, t' σ H Q → t σ H Q) : PW X e t' := ⟨fun wh pins s σ H Q I h => a.run wh pins s σ H Q I (i σ H Q h)⟩
theorem _root_.L2.PA.imp {X : L2.Cx} {e : List Expr} {t t' : TA} (a : PA X e t) (i : ∀ σ H Q, t' σ H Q → t σ H Q) : PA X e t' := ⟨fun pos pins s σ H Q I h => a.run pos pins s σ H Q I (i σ H Q h)⟩
theorem _root_.L2.PO.imp {X : L2.Cx} {e : Option Expr} {t t' : TO} (a : PO X e t) (i : ∀ σ H Q, t' σ H Q → t σ H Q) : PO X e t' := ⟨fun pins s σ H Q I h => a.run pins s σ H Q I (i σ H Q h)⟩

section
variable {X : L2.Cx} {K : Fr} {σ : L2.St} {σa : M.St} {H H1 : Hp} {h h1 : M.AH} {w wa wb wc : WE} {Qa : M.VQ} {a b c e : Expr} {pos : Pos}
theorem lift_go {R : VK} (rs : RS K H σ σa) (rh : RH K H h) (q : w σa h Qa) (k : ∀ d h' v H', Qa d h' → Frm H h H' h' → Rep K H' d v → RH K H' h' → RS K H' σ σa → R v H') : lift K w σ H R :=
  ⟨σa, h, Qa, rs, rh, q, fun d h' v H' q f r rh' => k d h' v H' q f r rh' (rs.kp (f.kp rh))⟩
theorem liftA_go {w : WA} {Qa : List SD → M.AH → Prop} {R : List V → Hp → Prop} (rs : RS K H σ σa) (rh : RH K H h) (q : w σa h Qa) (k : ∀ d h' v H', Qa d h' → Frm H h H' h' → Reps K H' d v → RH K H' h' → RS K H' σ σa → R v H') : liftA K w σ H R :=
  ⟨σa, h, Qa, rs, rh, q, fun d h' v H' q f r rh' => k d h' v H' q f r rh' (rs.kp (f.kp rh))⟩

/-! ### names and constants -/
theorem s_var {i : Nat} {x : Str} (hN : X.N[i]? = some x) (hv : Vis X.env.scope x) (hd : (x == ("__debug__" : Str)) = false) (hcd : (x == ("__classdict__" : Str)) = false) :
    PE X (.Name x pos) (lift X.F fun σ h Q => match σ[i]? with | some (some d) => Q d h | _ => False) := by
  refine (pe_var hN hv hd hcd).imp fun σ H Q ⟨σa, h, Qa, rs, rh, q, k⟩ => ?_
  dsimp only at q
  cases e : σa[i]? with
  | none => rw [e] at q; exact q.elim
  | some o => cases o with
    | none => rw [e] at q; exact q.elim
    | some d =>
      rw [e] at q
      obtain ⟨v, e2, r⟩ := rs.2 i d e
      exact ⟨v, e2, k.now rh q r⟩
theorem s_const {v : V} {d : SD} (p : PE X e (tC v)) (r : ∀ H, Rep X.F H d v) : PE X e (lift X.F fun _ h Q => Q d h) :=
  p.imp fun σ H Q ⟨σa, h, Qa, rs, rh, q, k⟩ => k.now rh q (r H)

/-! ### operators -/
theorem s_bin {o : M.Bop} (ha : PE X a (lift X.F wa)) (hb : PE X b (lift X.F wb)) : PE X (.BinOp a (bop o) b pos) (lift X.F fun σ h Q => wa σ h fun x h1 => wb σ h1 fun y h2 => M.opBin o x y h2 Q) := by
  refine (pe_op (op_bin o) ha hb).imp fun σ H Q ⟨σa, h, Qa, rs, rh, q, k⟩ => ?_
  exact lift_go rs rh q fun dx h1 x H1 q1 f1 r1 rh1 rs1 => lift_go rs1 rh1 q1 fun dy h2 y H2 q2 f2 r2 rh2 rs2 =>
    bin_ok rh2 (r1.kp (f2.kp rh1)) r2 q2 (k.go (f1.trans f2))
theorem s_neg (ha : PE X a (lift X.F wa)) : PE X (.UnaryOp .USub a pos) (lift X.F fun σ h Q => wa σ h fun x h1 => match x with | .int i => Q (.int (-i)) h1 | _ => False) := by
  refine (pe_un un_neg ha).imp fun σ H Q ⟨σa, h, Qa, rs, rh, q, k⟩ => ?_
  refine lift_go rs rh q fun dx h1 x H1 q1 f1 r1 rh1 rs1 => ?_
  cases dx with
  | int i =>
    cases (show x = _ from r1)
    exact ⟨i, rfl, (k.go f1).now rh1 q1 rfl⟩
  | _ => exact q1.elim
theorem s_not (ha : PE X a (lift X.F wa)) : PE X (.UnaryOp .Not a pos) (lift X.F fun σ h Q => wa σ h fun x h1 => match x with | .bl b => Q (.bl (!b)) h1 | _ => False) := by
  refine (pe_not ha).imp fun σ H Q ⟨σa, h, Qa, rs, rh, q, k⟩ => ?_
  refine lift_go rs rh q fun dx h1 x H1 q1 f1 r1 rh1 rs1 => ?_
  cases dx with
  | bl i =>
    cases (show x = _ from r1)
    exact ⟨i, rfl, (k.go f1).now rh1 q1 rfl⟩
  | _ => exact q1.elim
theorem t_not (ha : PT X a (liftT X.F wa)) : PT X (.UnaryOp .Not a pos) (liftT X.F fun σ h Q => wa σ h fun x h1 => match x with | .bl b => Q (.bl (!b)) h1 | _ => False) := by
  refine (pt_not ha).imp fun σ H Q ⟨σa, h, Qa, rs, rh, q, k⟩ => ?_
  refine ⟨σa, h, _, rs, rh, q, fun d h' q1 => ?_⟩
  cases d with
  | bl b =>
    obtain ⟨b', e, kk⟩ := k _ _ q1
    cases e
    exact ⟨b, rfl, fun H' f rh' => kk H' f rh'⟩
  | _ => exact q1.elim
theorem s_cmp (hu : X.A.units + 200 < cLine) {o : M.Cop} (hm : behindInMarks (cop o) b = false) (ha : PE X a (lift X.F wa)) (hb : PE X b (lift X.F wb)) :
    PE X (.Compare a [cop o] [b] pos) (lift X.F fun σ h Q => wa σ h fun x h1 => wb σ h1 fun y h2 => M.opCmp o x y h2 fun c => Q (.bl c) h2) := by
  refine (pe_cmpR (op_cmp hu o) ha hb hm).imp fun σ H Q ⟨σa, h, Qa, rs, rh, q, k⟩ => ?_
  exact lift_go rs rh q fun dx h1 x H1 q1 f1 r1 rh1 rs1 => lift_go rs1 rh1 q1 fun dy h2 y H2 q2 f2 r2 rh2 rs2 =>
    cmp_ok rh2 (r1.kp (f2.kp rh1)) r2 q2 fun b hb => (k.go (f1.trans f2)).now rh2 hb rfl
theorem t_cmp (hu : X.A.units + 200 < cLine) {o : M.Cop} (hm : behindInMarks (cop o) b = false) (ha : PE X a (lift X.F wa)) (hb : PE X b (lift X.F wb)) :
    PT X (.Compare a [cop o] [b] pos) (liftT X.F fun σ h Q => wa σ h fun x h1 => wb σ h1 fun y h2 => M.opCmp o x y h2 fun c => Q (.bl c) h2) := by
  refine (pt_cmpR (op_cmp hu o) ha hb hm).imp fun σ H Q ⟨σa, h, Qa, rs, rh, q, k⟩ => ?_
  exact lift_go rs rh q fun dx h1 x H1 q1 f1 r1 rh1 rs1 => lift_go rs1 rh1 q1 fun dy h2 y H2 q2 f2 r2 rh2 rs2 =>
    cmp_ok rh2 (r1.kp (f2.kp rh1)) r2 q2 fun b hb => by
      obtain ⟨b', e, kk⟩ := k _ _ hb
      cases e
      exact ⟨b, rfl, kk H2 (f1.trans f2) rh2⟩
theorem s_chn (hu : X.A.units + 200 < cLine) {o o' : M.Cop} (hm : lastMarks [cop o, cop o'] [b, c] = false) (ha : PE X a (lift X.F wa)) (hb : PE X b (lift X.F wb)) (hc : PE X c (lift X.F wc)) :
    PE X (.Compare a [cop o, cop o'] [b, c] pos) (lift X.F fun σ h Q => wa σ h fun x h1 => wb σ h1 fun y h2 => M.opCmp o x y h2 fun k => match k with
    | true => wc σ h2 fun z h3 => M.opCmp o' y z h3 fun k' => Q (.bl k') h3
    | false => Q (.bl false) h2) := by
  refine (pe_chain (op_cmp hu o) (op_cmp hu o') ha hb hc hm).imp fun σ H Q ⟨σa, h, Qa, rs, rh, q, k⟩ => ?_
  exact lift_go rs rh q fun dx h1 x H1 q1 f1 r1 rh1 rs1 => lift_go rs1 rh1 q1 fun dy h2 y H2 q2 f2 r2 rh2 rs2 =>
    cmp_ok rh2 (r1.kp (f2.kp rh1)) r2 q2 fun b hb => ⟨b, rfl, by
      cases b with
      | true =>
        refine lift_go rs2 rh2 hb fun dz h3 z H3 q3 f3 r3 rh3 rs3 => ?_
        exact cmp_ok rh3 (r2.kp (f3.kp rh2)) r3 q3 fun b' hb' => (k.go ((f1.trans f2).trans f3)).now rh3 hb' rfl
      | false => exact (k.go (f1.trans f2)).now rh2 hb rfl⟩
theorem t_chn (hu : X.A.units + 200 < cLine) {o o' : M.Cop} (hm : lastMarks [cop o, cop o'] [b, c] = false) (ha : PE X a (lift X.F wa)) (hb : PE X b (lift X.F wb)) (hc : PE X c (lift X.F wc)) :
    PT X (.Compare a [cop o, cop o'] [b, c] pos) (liftT X.F fun σ h Q => wa σ h fun x h1 => wb σ h1 fun y h2 => M.opCmp o x y h2 fun k => match k with
    | true => wc σ h2 fun z h3 => M.opCmp o' y z h3 fun k' => Q (.bl k') h3
    | false => Q (.bl false) h2) := by
  refine (pt_chain (op_cmp hu o) (op_cmp hu o') ha hb hc hm).imp fun σ H Q ⟨σa, h, Qa, rs, rh, q, k⟩ => ?_
  exact lift_go rs rh q fun dx h1 x H1 q1 f1 r1 rh1 rs1 => lift_go rs1 rh1 q1 fun dy h2 y H2 q2 f2 r2 rh2 rs2 =>
    cmp_ok rh2 (r1.kp (f2.kp rh1)) r2 q2 fun b hb => ⟨b, rfl, by
      cases b with
      | true =>
        refine lift_go rs2 rh2 hb fun dz h3 z H3 q3 f3 r3 rh3 rs3 => ?_
        exact cmp_ok rh3 (r2.kp (f3.kp rh2)) r3 q3 fun b' hb' => by
          obtain ⟨b'', e, kk⟩ := k _ _ hb'
          cases e
          exact ⟨b', rfl, kk H3 ((f1.trans f2).trans f3) rh3⟩
      | false =>
        obtain ⟨b'', e, kk⟩ := k _ _ hb
        cases e
        exact ⟨false, rfl, kk H2 (f1.trans f2) rh2⟩⟩
theorem s_ite (hc : PT X c (liftT X.F wc)) (ha : PE X a (lift X.F wa)) (hb : PE X b (lift X.F wb)) :
    PE X (.IfExp c a b pos) (lift X.F fun σ h Q => wc σ h fun x h1 => match x with
    | .bl true => wa σ h1 Q
    | .bl false => wb σ h1 Q
    | _ => False) := by
  refine (pe_ifExp hc ha hb).imp fun σ H Q ⟨σa, h, Qa, rs, rh, q, k⟩ => ?_
  refine ⟨σa, h, _, rs, rh, q, fun d h' q1 => ?_⟩
  cases d with
  | bl b =>
    refine ⟨b, rfl, fun H' f rh' => ?_⟩
    cases b with
    | true => exact lift_go (rs.kp (f.kp rh)) rh' q1 fun d h2 v H2 q2 f2 r2 rh2 _ => k _ _ _ _ q2 (f.trans f2) r2 rh2
    | false => exact lift_go (rs.kp (f.kp rh)) rh' q1 fun d h2 v H2 q2 f2 r2 rh2 _ => k _ _ _ _ q2 (f.trans f2) r2 rh2
  | _ => exact q1.elim
theorem pt_plain (ha : PE X e (lift X.F wa)) (he : ∀ whole, isTrue e X.env whole = (do let v ← whole; standAt e.pos; holding [v] (truthy v))) : PT X e (liftT X.F wa) := by
  refine (pt_val ha he).imp fun σ H Q ⟨σa, h, Qa, rs, rh, q, k⟩ => ?_
  refine ⟨σa, h, Qa, rs, rh, q, fun d h' v H' q1 f r rh' => ?_⟩
  obtain ⟨b, rfl, kk⟩ := k d h' q1
  exact ⟨b, r, kk H' f rh'⟩

/-! ### items, slices -/
theorem s_ix (hu : X.A.units + 200 < cLine) (hs : PlainIx b) (ha : PE X a (lift X.F wa)) (hb : PE X b (lift X.F wb)) : PE X (.Subscript a b pos) (lift X.F fun σ h Q => wa σ h fun x h1 => wb σ h1 fun y h2 => M.opIx x y h2 Q) := by
  refine (pe_ix (ix_all (by omega)) ha hb hs).imp fun σ H Q ⟨σa, h, Qa, rs, rh, q, k⟩ => ?_
  exact lift_go rs rh q fun dx h1 x H1 q1 f1 r1 rh1 rs1 => lift_go rs1 rh1 q1 fun dy h2 y H2 q2 f2 r2 rh2 rs2 =>
    ix_ok rh2 (r1.kp (f2.kp rh1)) r2 q2 (k.go (f1.trans f2))
theorem s_part (he : PE X e (lift X.F w)) : PO X (some e) (liftO X.F fun σ h Q => w σ h fun d h1 => match d with | .int n => Q (some n) h1 | _ => False) := by
  refine (po_some he).imp fun σ H Q ⟨σa, h, Qa, rs, rh, q, k⟩ => ?_
  refine lift_go rs rh q fun d h1 v H1 q1 f1 r1 rh1 _ => ?_
  cases d with
  | int i =>
    cases (show v = _ from r1)
    exact ⟨i, rfl, k _ _ _ q1 f1 rh1⟩
  | _ => exact q1.elim
theorem s_nopart : PO X none (liftO X.F fun _ h Q => Q none h) := po_none.imp fun σ H Q ⟨σa, h, Qa, rs, rh, q, k⟩ => k _ _ _ q .refl rh
theorem s_sl {lo hi : Option Expr} {wl wh : WO} {p2 : Pos} (ha : PE X a (lift X.F wa)) (hl : PO X lo (liftO X.F wl)) (hh : PO X hi (liftO X.F wh)) :
    PE X (.Subscript a (.Slice lo hi none p2) pos) (lift X.F fun σ h Q => wa σ h fun x h1 => wl σ h1 fun l h2 => wh σ h2 fun u h3 => M.opSl x l u h3 Q) := by
  refine (pe_slice sl_all ha hl hh).imp fun σ H Q ⟨σa, h, Qa, rs, rh, q, k⟩ => ?_
  refine lift_go rs rh q fun dx h1 x H1 q1 f1 r1 rh1 rs1 => ?_
  refine ⟨σa, h1, _, rs1, rh1, q1, fun l h2 H2 q2 f2 rh2 => ?_⟩
  refine ⟨σa, h2, _, rs1.kp (f2.kp rh1), rh2, q2, fun u h3 H3 q3 f3 rh3 => ?_⟩
  exact sl_ok rh3 ((r1.kp (f2.kp rh1)).kp (f3.kp rh2)) q3 (k.go ((f1.trans f2).trans f3))

theorem s_rev {p1 p2 p3 : Pos} {k0 : Nat} (ha : PE X a (lift X.F wa)) : PE X (.Subscript a (.Slice none none (some (.UnaryOp .USub (.Constant (.int 1) k0 p1) p2)) p3) pos) (lift X.F fun σ h Q => wa σ h fun x h1 => M.aLst x h1 fun _ xs => ∀ r, h1 r = none → Q (.ref r) (M.up h1 r (.lst xs.reverse))) := by
  refine (pe_revL ha).imp fun σ H Q ⟨σa, h, Qa, rs, rh, q, k⟩ => ?_
  refine lift_go rs rh q fun dx h1 x H1 q1 f1 r1 rh1 rs1 => ?_
  obtain ⟨p, xs, rfl, e1, q⟩ := aLst_inv q1
  cases (show x = _ from r1)
  obtain ⟨ws, a1, r2⟩ := rh1 p _ e1
  refine ⟨p, ws, rfl, SqL.of a1, fun l hn => ?_⟩
  exact k _ _ _ _ (q l (rh1.none hn)) (f1.trans (frm_new hn)) rfl (rh_new rh1 hn ⟨_, upd_same, r2.rev.kp (kp_new hn)⟩)

theorem s_lrev {p p2 cpos : Pos} (hc : X.calm = true) (hg : Gl X "list") (hm : X.mg "list" = none) (hg2 : Gl X "reversed") (hm2 : X.mg "reversed" = none) (hs : starEach [a] X.env = (false, eval a X.env) :: starEach [] X.env) (ha : PE X a (lift X.F wa)) :
    PE X (.Call (.Name "list" p) [.Call (.Name "reversed" p2) [a] [] cpos] [] pos) (lift X.F fun σ h Q => wa σ h fun x h1 => M.aLst x h1 fun _ xs => ∀ r, h1 r = none → Q (.ref r) (M.up h1 r (.lst xs.reverse))) := by
  refine (RL.pe_listRev hc hg hm hg2 hm2 ha hs).imp fun σ H Q ⟨σa, h, Qa, rs, rh, q, k⟩ => ?_
  refine lift_go rs rh q fun dx h1 x H1 q1 f1 r1 rh1 rs1 => ?_
  obtain ⟨p, xs, rfl, e1, q⟩ := aLst_inv q1
  cases (show x = _ from r1)
  obtain ⟨ws, a1, r2⟩ := rh1 p _ e1
  refine ⟨p, ws, rfl, SqL.of a1, fun l hn => ?_⟩
  exact k _ _ _ _ (q l (rh1.none hn)) (f1.trans (frm_new hn)) rfl (rh_new rh1 hn ⟨_, upd_same, r2.rev.kp (kp_new hn)⟩)
/-! ### argument lists, displays -/
theorem s_nil : PA X [] (liftA X.F fun _ h Q => Q [] h) := pa_nil.imp fun σ H Q ⟨σa, h, Qa, rs, rh, q, k⟩ => k _ _ _ _ q .refl rfl rh
theorem s_cons {es : List Expr} {wr : WA} (hs : starEach (e :: es) X.env = (false, eval e X.env) :: starEach es X.env) (he : PE X e (lift X.F w)) (hr : PA X es (liftA X.F wr)) :
    PA X (e :: es) (liftA X.F fun σ h Q => w σ h fun d h1 => wr σ h1 fun ds h2 => Q (d :: ds) h2) := by
  refine (pa_cons he hr hs).imp fun σ H Q ⟨σa, h, Qa, rs, rh, q, k⟩ => ?_
  exact lift_go rs rh q fun d h1 v H1 q1 f1 r1 rh1 rs1 => liftA_go rs1 rh1 q1 fun ds h2 vs H2 q2 f2 r2 rh2 _ => k _ _ _ _ q2 (f1.trans f2) (Reps.cons (r1.kp (f2.kp rh1)) r2) rh2
theorem s_tup {es : List Expr} {wr : WA} {x1} (hr : PA X es (liftA X.F wr)) : PE X (.Tuple es x1 pos) (lift X.F fun σ h Q => wr σ h fun ds h1 => ds.length ≤ M.LINE ∧ Q (.tup ds) h1) := by
  refine (pe_tup hr).imp fun σ H Q ⟨σa, h, Qa, rs, rh, q, k⟩ => ?_
  refine liftA_go rs rh q fun ds h1 vs H1 ⟨hz, q1⟩ f1 r1 rh1 _ => ⟨by rw [r1.length, line_eq]; exact hz, fun p hn => ?_⟩
  exact k _ _ _ _ q1 (f1.trans (frm_hid hn)) ⟨p, vs, rfl, .inl upd_same, r1.kp (kp_new hn)⟩ (rh_hid rh1 hn)
theorem s_lst {es : List Expr} {wr : WA} (hr : PA X es (liftA X.F wr)) : PE X (.List es pos) (lift X.F fun σ h Q => wr σ h fun ds h1 => ds.length ≤ M.LINE ∧ ∀ r, h1 r = none → Q (.ref r) (M.up h1 r (.lst ds))) := by
  refine (pe_lst hr).imp fun σ H Q ⟨σa, h, Qa, rs, rh, q, k⟩ => ?_
  refine liftA_go rs rh q fun ds h1 vs H1 ⟨hz, q1⟩ f1 r1 rh1 _ => ⟨by rw [r1.length, line_eq]; exact hz, fun p hn => ?_⟩
  exact k _ _ _ _ (q1 p (rh1.none hn)) (f1.trans (frm_new hn)) rfl (rh_new rh1 hn ⟨_, upd_same, r1.kp (kp_new hn)⟩)
theorem s_dct : PE X (.Dict [] [] pos) (lift X.F fun _ h Q => ∀ r, h r = none → Q (.ref r) (M.up h r (.dct 0 []))) := by
  refine pe_dnewK.imp fun σ H Q ⟨σa, h, Qa, rs, rh, q, k⟩ => ?_
  intro d hn
  exact k _ _ _ _ (q d (rh.none hn)) (frm_new hn) rfl (rh_new rh hn (dct0.mpr ⟨[], upd_same, .nil⟩))

def tDNewN (P : Program) (w : World) : TE := fun _ H Q => ∀ p, H p = none → Q (.ref p) (upd H p (.ext (EntO P w p [])))
theorem ent_empty {P : Program} {w : World} {H : Hp} (h : Heap) (hb : sysModules < h.objs.size) : ObjOk P w H (h.push { cls := .type "dict", data := .dict #[] }) h.objs.size (.ext (EntO P w h.objs.size [])) := by
  obtain ⟨o, es, ep, h1, h2, h3, h4, _, h5⟩ := Heap.DictOfH.new (knd := nestedKind P w) h
  exact ⟨⟨Nat.zero_le _, beq_eq_false_iff_ne.mpr (Ne.symm (Nat.ne_of_lt hb)), [], .nil, o, es, ep, h1, h2, h3, h4, h5⟩, ⟨o, h1⟩, fun _ _ e st => ent_ok e st⟩
theorem pe_dnewN : PE X (.Dict [] [] pos) (tDNewN X.prog X.w) := ⟨fun pins s σ H Q I h =>
  wpAny_Dict_empty ⟨.ref s.heap.objs.size, _, I.laid (a := s.heap.objs.size) (o := .ext (EntO X.prog X.w s.heap.objs.size [])) (t' := s.toks) (fun _ _ q => Heap.get?_push_of_some _ q) (Nat.le_refl _) (ent_empty s.heap I.big), rfl, h _ (I.hok.fresh (Nat.le_refl _))⟩⟩
theorem s_dcn : PE X (.Dict [] [] pos) (lift X.F fun _ h Q => ∀ r, h r = none → Q (.ref r) (M.up h r (.dcn []))) := by
  refine pe_dnewN.imp fun σ H Q ⟨σa, h, Qa, rs, rh, q, k⟩ => ?_
  intro d hn
  exact k _ _ _ _ (q d (rh.none hn)) (frm_new hn) rfl (rh_new rh hn ⟨[], upd_same, .nil⟩)
theorem frm_ext {H' : Hp} {p : Addr} {ob : M.Ob} (k1 : ∀ c o, H c = some o → H' c = some o) (hp : H p = none) : Frm H h H' (M.up h p ob) := fun a o e n => ⟨k1 a o e, up_ne (ne_of_none e hp)⟩
theorem rh_ext {H' : Hp} {p : Addr} {ob : M.Ob} (r : RH K H h) (k1 : ∀ c o, H c = some o → H' c = some o) (hp : H p = none) (o : ObRep K H' p ob) : RH K H' (M.up h p ob) := ⟨fun a u e => by
  by_cases z : a = p
  · subst z; rw [up_same] at e; cases e; exact o
  · rw [up_ne z] at e
    have x := r a u e
    obtain ⟨w, e1, _⟩ := x.some
    exact x.kp ⟨fun b vs q => k1 b _ q, fun b o w q => k1 b _ q⟩ (fun b ps q => k1 b _ q) (by rw [e1]; exact k1 a _ e1), FrameP.c r.fr (frm_ext k1 hp)⟩
theorem zip_rep {H' : Hp} : ∀ {ds es : List SD} {xs ys : List V} {ts : List Addr}, Reps K H' ds xs → Reps K H' es ys → Paired (fun (t : Addr) (q : V × V) => H' t = some (.tup [q.1, q.2])) ts (xs.zip ys) → Reps K H' (M.zipL ds es) (ts.map V.ref) := by
  intro ds
  induction ds with
  | nil =>
    intro es xs ys ts r1 r2 pr
    cases (show xs = _ from r1)
    cases pr
    exact rfl
  | cons d ds ih =>
    intro es xs ys ts r1 r2 pr
    obtain ⟨v, r, e, a, b⟩ := r1
    subst e
    cases es with
    | nil =>
      cases (show ys = _ from r2)
      cases pr
      exact rfl
    | cons d2 es =>
      obtain ⟨v2, r', e, a2, b2⟩ := r2
      subst e
      cases pr with
      | cons h t => exact ⟨_, _, rfl, ⟨_, _, rfl, .inl h, .cons a (.one a2)⟩, ih b b2 t⟩
theorem aTup_inv {d : SD} {f : List SD → Prop} (q : M.aTup d f) : ∃ xs, d = .tup xs ∧ f xs := by
  cases d with
  | tup i => exact ⟨i, rfl, q⟩
  | _ => exact False.elim q
theorem s_lzip {e e2 : Expr} {p p2 cpos : Pos} {wr : WA} (hc : X.calm = true) (hg : Gl X "list") (hm : X.mg "list" = none) (hgz : Gl X "zip") (hmz : X.mg "zip" = none) (ha : PA X [e, e2] (liftA X.F wr))
    (hs : starEach [e, e2] X.env = (false, eval e X.env) :: starEach [e2] X.env) (hpl : (backTo cpos (starEach [e2] X.env)).any (·.1) = false) :
    PE X (.Call (.Name "list" p) [.Call (.Name "zip" p2) [e, e2] [] cpos] [] pos) (lift X.F fun σ h Q => wr σ h fun ds h2 => M.arg2 ds fun x y => M.aTup x fun xs => M.aTup y fun ys => ∀ r, h2 r = none → Q (.ref r) (M.up h2 r (.lst (M.zipL xs ys)))) := by
  refine (ZL.pe_lzip hc hg hm hgz hmz ha hs hpl).imp fun σ H Q ⟨σa, h, Qa, rs, rh, q, k⟩ => ?_
  refine ⟨σa, h, _, rs, rh, q, ?_⟩
  rintro ds h2 vs H2 q f r rh2
  obtain ⟨x, y, rfl, q⟩ := arg2_inv q
  obtain ⟨xs, rfl, q⟩ := aTup_inv q
  obtain ⟨ys, rfl, q⟩ := aTup_inv q
  obtain ⟨v, w, rfl, ⟨a1, us, rfl, t1, r1⟩, ⟨a2, ws, rfl, t2, r2⟩⟩ := reps2 r
  refine ⟨_, _, rfl, a1, a2, us, ws, rfl, rfl, t1.imp .inl id, t2.imp .inl id, fun H' p ts k1 k2 k3 k4 k5 k6 k7 => ?_⟩
  have kp : Kp H2 H' := ⟨fun b vs q => k1 b _ q, fun b o w q => k1 b _ q⟩
  exact k _ _ _ _ (q p (rh2.none k2)) (f.trans (frm_ext k1 k2)) rfl (rh_ext rh2 k1 k2 ⟨_, k5, zip_rep (r1.kp kp) (r2.kp kp) k6⟩)
/-! ### list(range(..)) -/
theorem rgV_rep (lo hi : Int) : Reps K H (M.rangeL lo hi) (rgV lo hi) := by
  unfold M.rangeL rgV
  generalize List.range (hi - lo).toNat = l
  induction l with
  | nil => exact rfl
  | cons i l ih => exact ⟨_, _, rfl, rfl, ih⟩
theorem aRng_inv1 {d : SD} {f : Int → Int → Prop} (q : M.aRng [d] f) : ∃ n, d = .int n ∧ -(2 ^ 62) ≤ n ∧ n ≤ M.LINE ∧ f 0 n := by
  cases d with
  | int n => exact ⟨n, rfl, q.1.1, q.1.2, q.2⟩
  | _ => exact False.elim q
theorem aRng_inv2 {d e : SD} {f : Int → Int → Prop} (q : M.aRng [d, e] f) : ∃ a b, d = .int a ∧ e = .int b ∧ -(2 ^ 62) ≤ a ∧ a ≤ M.LINE ∧ -(2 ^ 62) ≤ b ∧ b ≤ M.LINE ∧ (b - a).toNat ≤ M.LINE ∧ f a b := by
  cases d with
  | int a => cases e with
    | int b => exact ⟨a, b, rfl, rfl, q.1.1.1, q.1.1.2, q.1.2.1, q.1.2.2.1, q.1.2.2.2, q.2⟩
    | _ => exact False.elim q
  | _ => exact False.elim q
theorem s_lrng1 {p p2 cpos : Pos} (hc : X.calm = true) (hg : Gl X "list") (hm : X.mg "list" = none) (hgr : Gl X "range") (hmr : X.mg "range" = none) (ha : PE X a (lift X.F wa)) (hs : starEach [a] X.env = (false, eval a X.env) :: starEach [] X.env) :
    PE X (.Call (.Name "list" p) [.Call (.Name "range" p2) [a] [] cpos] [] pos) (lift X.F fun σ h Q => wa σ h fun d h1 => M.aRng [d] fun lo hi => ∀ r, h1 r = none → Q (.ref r) (M.up h1 r (.lst (M.rangeL lo hi)))) := by
  refine (pe_listRg hc hg hm (prg_1 hgr hmr ha hs)).imp fun σ H Q ⟨σa, h, Qa, rs, rh, q, k⟩ => ?_
  refine lift_go rs rh q fun d h1 v H1 q1 f1 r1 rh1 _ => ?_
  have hl : M.LINE = 16777216 := rfl
  obtain ⟨n, rfl, n0, n1, q1⟩ := aRng_inv1 q1
  cases (show v = _ from r1)
  exact ⟨n, rfl, ⟨by omega, by omega, by omega, by omega, by omega⟩, fun l hn => k _ _ _ _ (q1 l (rh1.none hn)) (f1.trans (frm_new hn)) rfl (rh_new rh1 hn ⟨_, upd_same, rgV_rep 0 n⟩)⟩
theorem s_lrng2 {p p2 cpos : Pos} (hc : X.calm = true) (hg : Gl X "list") (hm : X.mg "list" = none) (hgr : Gl X "range") (hmr : X.mg "range" = none) (ha : PE X a (lift X.F wa)) (hb : PE X b (lift X.F wb)) (hs : starEach [a, b] X.env = (false, eval a X.env) :: starEach [b] X.env) (hs2 : starEach [b] X.env = (false, eval b X.env) :: starEach [] X.env) (hp : (backTo cpos (starEach [b] X.env)).any (·.1) = false) :
    PE X (.Call (.Name "list" p) [.Call (.Name "range" p2) [a, b] [] cpos] [] pos) (lift X.F fun σ h Q => wa σ h fun d h1 => wb σ h1 fun e h2 => M.aRng [d, e] fun lo hi => ∀ r, h2 r = none → Q (.ref r) (M.up h2 r (.lst (M.rangeL lo hi)))) := by
  refine (pe_listRg hc hg hm (prg_2 hgr hmr ha hb hs hs2 hp)).imp fun σ H Q ⟨σa, h, Qa, rs, rh, q, k⟩ => ?_
  refine lift_go rs rh q fun d h1 v H1 q1 f1 r1 rh1 rs1 => lift_go rs1 rh1 q1 fun e h2 w H2 q2 f2 r2 rh2 _ => ?_
  have hl : M.LINE = 16777216 := rfl
  obtain ⟨m, n, rfl, rfl, n0, n1, n2, n3, n4, q2⟩ := aRng_inv2 q2
  cases (show v = _ from r1); cases (show w = _ from r2)
  exact ⟨m, n, rfl, rfl, ⟨by omega, by omega, by omega, by omega, by omega⟩, fun l hn => k _ _ _ _ (q2 l (rh2.none hn)) ((f1.trans f2).trans (frm_new hn)) rfl (rh_new rh2 hn ⟨_, upd_same, rgV_rep m n⟩)⟩
/-! ### dict displays -/
theorem keys_get : ∀ {kvs : List (SD × SD)}, M.keysOk 0 kvs = true → ∀ {ps : List (V × V)}, Paired (fun (x : SD × SD) (p : V × V) => Rep K H x.1 p.1 ∧ Rep K H x.2 p.2) kvs ps → ∃ ks : List (Key × V), ps = ks.map (fun kv => (kV kv.1, kv.2)) ∧ Paired (PR K H R0) kvs ks
  | [], _, _, r => by cases r; exact ⟨[], rfl, .nil⟩
  | x :: kvs, ok, _, r => by
    cases r with
    | @cons _ p _ ps h t =>
      simp only [M.keysOk] at ok
      obtain ⟨o1, o2⟩ := ba ok
      obtain ⟨ks, e, pr⟩ := keys_get o2 t
      obtain ⟨k, ek⟩ := keyOk0 o1
      have ev := keyV_rep ek h.1
      refine ⟨(k, p.2) :: ks, ?_, .cons ⟨⟨ek, rep_str h.1⟩, h.2⟩ pr⟩
      rw [List.map_cons, ← e, ← ev]
def wPs : List (WE × WE) → WA
  | [], _, h, Q => Q [] h
  | (wk, wv) :: r, σ, h, Q => wk σ h fun d h1 => wv σ h1 fun e h2 => wPs r σ h2 fun ds h3 => Q (d :: e :: ds) h3
theorem tp_go : ∀ (ws : List (WE × WE)) {σ : L2.St} {σa : M.St} {H : Hp} {h : M.AH} {Qa : List SD → M.AH → Prop} {R : List (V × V) → Hp → Prop}, RS K H σ σa → RH K H h → wPs ws σa h Qa →
    (∀ ds h' H' ps kvs, Qa ds h' → Frm H h H' h' → RH K H' h' → M.pairUp ds = some kvs → Paired (fun (x : SD × SD) (p : V × V) => Rep K H' x.1 p.1 ∧ Rep K H' x.2 p.2) kvs ps → ps.length = ws.length → R ps H') →
    tPairs (ws.map fun w => (lift K w.1, lift K w.2)) σ H R
  | [], σ, σa, H, h, Qa, R, rs, rh, q, k => k [] h H [] [] q .refl rh rfl .nil rfl
  | (wk, wv) :: r, σ, σa, H, h, Qa, R, rs, rh, q, k => by
    show lift K wk σ H _
    refine lift_go rs rh q fun d h1 x H1 q1 f1 r1 rh1 rs1 => ?_
    refine lift_go rs1 rh1 q1 fun e h2 y H2 q2 f2 r2 rh2 rs2 => ?_
    refine tp_go r rs2 rh2 q2 fun ds h3 H3 ps kvs q3 f3 rh3 pu pr ln => ?_
    have k3 := f3.kp rh2
    have k2 := f2.kp rh1
    refine k (d :: e :: ds) h3 H3 ((x, y) :: ps) ((d, e) :: kvs) q3 ((f1.trans f2).trans f3) rh3 (by simp only [M.pairUp, pu]; rfl) (.cons ⟨(r1.kp k2).kp k3, r2.kp k3⟩ pr) (by simp [ln])
theorem s_dsp {ks : List (Option Expr)} {vs : List Expr} {ws : List (WE × WE)} (hp : PPs X pos ks vs (ws.map fun w => (lift X.F w.1, lift X.F w.2))) (hall : ks.all (·.isSome) = true) (hl : ks.length = vs.length) (h0 : ks ≠ []) (h15 : ks.length ≤ 15) (hw : ws.length ≤ 15) :
    PE X (.Dict ks vs pos) (lift X.F fun σ h Q => ∀ r, h r = none → wPs ws σ (M.up h r (.dct 0 [])) fun ds h2 => h2 r = some (.dct 0 []) ∧ M.aSome (M.pairUp ds) fun kvs => M.keysOk 0 kvs = true ∧ Q (.ref r) (M.up h2 r (.dct 0 (M.mergeL [] kvs)))) := by
  refine (pe_disp hp hall hl h0 h15).imp fun σ H Q ⟨σa, h, Qa, rs, rh, q, k⟩ => ?_
  intro p hn
  have f0 : Frm H h (upd H p (.dK [])) (M.up h p (.dct 0 [])) := frm_new hn
  have rh0 : RH X.F (upd H p (.dK [])) (M.up h p (.dct 0 [])) := rh_new rh hn (dct0.mpr ⟨[], upd_same, .nil⟩)
  refine tp_go ws (rs.kp (f0.kp rh)) rh0 (q p (rh.none hn)) fun ds h2 H2 ps kvs q2 f2 rh2 pu pr ln => ?_
  obtain ⟨e2, q2⟩ := q2
  rw [pu] at q2
  obtain ⟨ok, q2⟩ := q2
  obtain ⟨ks2, e3, pk⟩ := keys_get ok pr
  obtain ⟨qs, e4, pe4⟩ := dct0.mp (rh2 p _ e2)
  cases pe4
  refine ⟨e4, ks2, e3, by rw [e3, List.length_map] at ln; omega, ?_⟩
  have kp : Kp H2 (upd H2 p (.dK (mergeK [] ks2))) := kp_put rh2 e2
  exact k _ _ _ _ q2 ((f0.trans f2).trans (frm_put e2)) rfl (rh_put rh2 e2 (dct0.mpr ⟨_, upd_same, Paired.mapP (kv_merge pk .nil) fun _ _ z => ⟨z.1, z.2.kp kp⟩⟩))
/-! ### calls -/
theorem s_blt {x : Str} {p : Pos} {es : List Expr} {wr : WA} {b : M.Blt} {bk : BK} (hcalm : X.calm = true) (hu : X.A.units + 200 < cLine) (eb : bltK b = some bk) (hx : x = bk.name) (hg : Gl X x) (hm : X.mg x = none)
    (he : starEach (e :: es) X.env = (false, eval e X.env) :: starEach es X.env) (hpl : (backTo pos (starEach es X.env)).any (·.1) = false) (hr : PA X (e :: es) (liftA X.F wr)) :
    PE X (.Call (.Name x p) (e :: es) [] pos) (lift X.F fun σ h Q => wr σ h fun ds h1 => M.opBlt b ds h1 Q) := by
  subst hx
  have key : PE X (.Call (.Name bk.name p) (e :: es) [] pos) (tCB (rBlt X.F b) (liftA X.F wr)) := by
    have cr := call_blt (X := X) hcalm hu b eb
    cases b <;> simp only [bltK, Option.some.injEq, reduceCtorEq] at eb <;> subst eb
    all_goals first
      | exact pe_callB cr hg hm (by decide +kernel) hr (by decide +kernel) (by decide +kernel) he hpl
      | exact pe_callTy cr hg hm (by decide +kernel) hr (by decide +kernel) (by decide +kernel) he hpl
  refine key.imp fun σ H Q ⟨σa, h, Qa, rs, rh, q, k⟩ => ?_
  exact liftA_go rs rh q fun ds h1 vs H1 q1 f1 r1 rh1 _ => blt_ok rh1 r1 q1 (k.go f1)
theorem s_isi {t : M.Ty} {p p2 : Pos} {xt : Str} (hg : Gl X "isinstance") (hm : X.mg "isinstance" = none) (hxt : xt = Str.ofString (tyS t)) (hg2 : Gl X xt) (hm2 : X.mg xt = none)
    (he : starEach [a, .Name xt p2] X.env = (false, eval a X.env) :: starEach [.Name xt p2] X.env) (ha : PE X a (lift X.F wa)) :
    PE X (.Call (.Name "isinstance" p) [a, .Name xt p2] [] pos) (lift X.F fun σ h Q => wa σ h fun x h1 => match M.opIsi x t h1 with | some b => Q (.bl b) h1 | none => False) := by
  subst hxt
  have pt : PE X (.Name (Str.ofString (tyS t)) p2) (tC (.ty (tyS t))) := by
    cases t <;> exact pe_bltn (v := .ty _) hg2 hm2 (u := .type _) (by decide +kernel) rfl (by decide +kernel) (by decide +kernel)
  refine (pe_callB call_isi hg hm (by decide +kernel) (pa_cons ha (pa_cons pt pa_nil) he) (by decide +kernel) (by decide +kernel) he rfl).imp fun σ H Q ⟨σa, h, Qa, rs, rh, q, k⟩ => ?_
  refine lift_go rs rh q fun dx h1 x H1 q1 f1 r1 rh1 rs1 => ?_
  cases e : M.opIsi dx t h1 with
  | none => rw [e] at q1; exact q1.elim
  | some b =>
    rw [e] at q1
    exact isi_ok rh1 r1 e ((k.go f1).now rh1 q1 rfl)
theorem s_mth0 (hu : X.A.units + 200 < cLine) {m : M.Mth} {T id : String} {nm nm2 : Str} {apos cpos : Pos} (em : mthT m = some (T, id, nm)) (hnm : nm2 = nm) (hbase : attributeBase a nm X.env (eval a X.env) = eval a X.env) (hline : (apos.endLine == cpos.line) = true) (ha : PE X a (lift X.F wa)) :
    PE X (.Call (.Attribute a nm2 apos) [] [] cpos) (lift X.F fun σ h Q => wa σ h fun x h1 => M.recvOk m x h1 ∧ M.opMth m x [] h1 Q) := by
  subst hnm
  have F := mth_fact em
  refine (pe_bm0 F.pa F.slot F.ty (mth_rule (by omega) em) ha hbase hline).imp fun σ H Q ⟨σa, h, Qa, rs, rh, q, k⟩ => ?_
  exact lift_go rs rh q fun dx h1 x H1 ⟨q0, q1⟩ f1 r1 rh1 rs1 => ⟨recv_ok em rh1 r1 q0, mth_ok (ds := []) (vs := []) rh1 r1 rfl q1 (k.go f1)⟩
theorem s_mth (hu : X.A.units + 200 < cLine) {m : M.Mth} {T id : String} {nm nm2 : Str} {apos cpos : Pos} {es : List Expr} {wr : WA} (em : mthT m = some (T, id, nm)) (hnm : nm2 = nm) (hbase : attributeBase a nm X.env (eval a X.env) = eval a X.env)
    (hfew : ((backTo cpos (starEach (e :: es) X.env)).all (fun x => !x.1) && (backToKw cpos (keywordEach [] X.env)).all (fun x => x.1.isSome)
      && decide ((e :: es).length + ([] : List Keyword).length + (if ([] : List Keyword).isEmpty then 0 else 1) < 30)) = true)
    (hline : (apos.endLine == cpos.line) = true) (hs : starEach (e :: es) X.env = (false, eval e X.env) :: starEach es X.env) (hplain : (backTo cpos (starEach es X.env)).any (·.1) = false) (ha : PE X a (lift X.F wa)) (hr : PA X (e :: es) (liftA X.F wr)) :
    PE X (.Call (.Attribute a nm2 apos) (e :: es) [] cpos) (lift X.F fun σ h Q => wa σ h fun x h1 => M.recvOk m x h1 ∧ wr σ h1 fun ds h2 => M.opMth m x ds h2 Q) := by
  subst hnm
  have F := mth_fact em
  refine (pe_bm F.pa F.slot F.ty (mth_rule (by omega) em) ha hr hbase hfew hline hs hplain).imp fun σ H Q ⟨σa, h, Qa, rs, rh, q, k⟩ => ?_
  refine lift_go rs rh q fun dx h1 x H1 ⟨q0, q1⟩ f1 r1 rh1 rs1 => ⟨recv_ok em rh1 r1 q0, ?_⟩
  exact liftA_go rs1 rh1 q1 fun ds h2 vs H2 q2 f2 r2 rh2 _ => mth_ok rh2 (r1.kp (f2.kp rh1)) r2 q2 (k.go (f1.trans f2))
/-- an exception of the program's class c, its class object and its dict, as the heap has it while it is in the air -/
def XD (K : Fr) (H : Hp) (c : M.Sx) (fs : List (M.Sx × SD)) (cls : Value) (d : Option Addr) : Prop := ∃ (C dd : Addr) (ps : List (Str × V)), cls = .ref C ∧ d = some dd ∧ K.mg (sV c) = some (.ref C) ∧ H dd = some (.xd ps) ∧ XFs K H fs ps ∧ XCls K.K C (fs.map (·.1))
def KontX (K : Fr) (H : Hp) (h : M.AH) (xx : M.XP) (E : XK) : Prop := ∀ c fs h' H' cls d, xx c fs h' → Frm H h H' h' → RP K H' h' → XD K H' c fs cls d → E cls d H'
/-- the wish of exceptions in a body -/
def WXx (K : Fr) (ex : M.St → M.XP) : WX := fun cls d σ H => ∃ σa c fs h, ex σa c fs h ∧ RS K H σ σa ∧ RH K H h ∧ XD K H c fs cls d
theorem kontX_at {ex : M.St → M.XP} (rs : RS K H σ σa) (rh : RH K H h) : KontX K H h (ex σa) (xAt (WXx K ex) σ) := fun c fs h' H' cls d hx f rp xd => ⟨σa, c, fs, h', hx, rs.kp (f.kp rh), ⟨rp, FrameP.c rh.fr f⟩, xd⟩
/-- a callee's end, told without the caller's frame -/
def KontP (K : Fr) (H : Hp) (h : M.AH) (Qa : M.VQ) (Q : VK) : Prop := ∀ d h' v H', Qa d h' → Frm H h H' h' → Rep K H' d v → RP K H' h' → Q v H'
theorem Kont.pl {Qa : M.VQ} {Q : VK} (k : Kont K H h Qa Q) (rh : RH K H h) : KontP K H h Qa Q := fun d h' v H' q f r rp => k d h' v H' q f r ⟨rp, FrameP.c rh.fr f⟩
/-- what a def of the program promises -/
def spC (K : Fr) (P : M.Prog) (n : Nat) (f : M.Sx) : Sp := fun vs H Q E => ∃ ds h Qa xx, Reps K H ds vs ∧ RP K H h ∧ M.run P n f ds h Qa xx ∧ KontP K H h Qa Q ∧ KontX K H h xx E
theorem s_call {x : Str} {p : Pos} {es : List Expr} {wr : WA} {P : M.Prog} {n : Nat} {f : M.Sx} {fa : Addr} {fd : FuncData} {ps : List Str} {ex : M.St → M.XP} (F : FnX X.prog X.w X.F X.mg X.base (n + 2) fa fd ps (spC X.F P n f)) (hgd : X.A.guards = some []) (tk : Takes X (WXx X.F ex)) (hroom : Room (n + 2) X.A) (hg : Gl X x) (hm : X.mg x = some (.ref fa))
    (hk : PySem.W.keepIn X.F (.ref fa) = true) (hb : Binds X.F fd ps []) (hdb : (x == ("__debug__" : Str)) = false)
    (he : starEach (e :: es) X.env = (false, eval e X.env) :: starEach es X.env) (hpl : (backTo pos (starEach es X.env)).any (·.1) = false) (hr : PA X (e :: es) (liftA X.F wr)) :
    PE X (.Call (.Name x p) (e :: es) [] pos) (lift X.F fun σ h Q => wr σ h fun ds h1 => M.run P n f ds h1 Q (ex σ)) := by
  refine (pe_cX F hgd hroom hg hm hk hb .nil tk hr hdb he hpl).imp fun σ H Q ⟨σa, h, Qa, rs, rh, q, k⟩ => ?_
  refine liftA_go rs rh q fun ds h1 vs H1 q1 f1 r1 rh1 rs1 => ?_
  exact ⟨ds, h1, Qa, ex σa, by rw [List.append_nil]; exact r1, rh1.f, q1, (k.go f1).pl rh1, kontX_at rs1 rh1⟩
theorem s_call0 {x : Str} {p : Pos} {P : M.Prog} {n : Nat} {f : M.Sx} {fa : Addr} {fd : FuncData} {ps : List Str} {ex : M.St → M.XP} (F : FnX X.prog X.w X.F X.mg X.base (n + 2) fa fd ps (spC X.F P n f)) (hgd : X.A.guards = some []) (tk : Takes X (WXx X.F ex)) (hroom : Room (n + 2) X.A) (hg : Gl X x) (hm : X.mg x = some (.ref fa))
    (hk : PySem.W.keepIn X.F (.ref fa) = true) (hb : Binds X.F fd ps []) (hdb : (x == ("__debug__" : Str)) = false) :
    PE X (.Call (.Name x p) [] [] pos) (lift X.F fun σ h Q => M.run P n f [] h Q (ex σ)) := by
  refine (pe_cX0 F hgd hroom hg hm hk hb .nil tk hdb).imp fun σ H Q ⟨σa, h, Qa, rs, rh, q, k⟩ => ?_
  exact ⟨[], h, Qa, ex σa, rfl, rh.f, q, k.pl rh, kontX_at rs rh⟩
theorem reps_nons {K : Fr} {H : Hp} : ∀ k : Nat, Reps K H (List.replicate k .non) (List.replicate k V.non)
  | 0 => rfl
  | k + 1 => ⟨_, _, rfl, rfl, reps_nons k⟩
theorem s_callD {x : Str} {p : Pos} {es : List Expr} {wr : WA} {P : M.Prog} {n k : Nat} {f : M.Sx} {fa : Addr} {fd : FuncData} {ps : List Str} {ds0 : List Value} {ex : M.St → M.XP} (F : FnX X.prog X.w X.F X.mg X.base (n + 2) fa fd ps (spC X.F P n f)) (hgd : X.A.guards = some []) (tk : Takes X (WXx X.F ex)) (hroom : Room (n + 2) X.A) (hg : Gl X x) (hm : X.mg x = some (.ref fa))
    (hk : PySem.W.keepIn X.F (.ref fa) = true) (hd : Vals (List.replicate k V.non) ds0) (hb : Binds X.F fd ps ds0) (hdb : (x == ("__debug__" : Str)) = false)
    (he : starEach (e :: es) X.env = (false, eval e X.env) :: starEach es X.env) (hpl : (backTo pos (starEach es X.env)).any (·.1) = false) (hr : PA X (e :: es) (liftA X.F wr)) :
    PE X (.Call (.Name x p) (e :: es) [] pos) (lift X.F fun σ h Q => wr σ h fun ds h1 => M.run P n f (ds ++ List.replicate k .non) h1 Q (ex σ)) := by
  refine (pe_cX F hgd hroom hg hm hk hb hd tk hr hdb he hpl).imp fun σ H Q ⟨σa, h, Qa, rs, rh, q, k⟩ => ?_
  refine liftA_go rs rh q fun ds h1 vs H1 q1 f1 r1 rh1 rs1 => ?_
  exact ⟨_, h1, Qa, ex σa, r1.append (reps_nons _), rh1.f, q1, (k.go f1).pl rh1, kontX_at rs1 rh1⟩
end
end Snd
end
section
/-! Sound6: what is walked, targets, comprehensions, statements. -/
namespace Snd
open PySem L2 PySem.Spec PyProof.Rows
variable [FrameP]
section
variable {X : L2.Cx} {K : Fr} {σ : L2.St} {σa : M.St} {H H1 : Hp} {h h1 : M.AH} {w wa wb wc : WE} {Qa : M.VQ} {a b c e : Expr} {pos : Pos} {tg : Expr}
/-- an iterator of the model bears the items xs, as long as ok holds -/
def Walks (K : Fr) (H1 : Hp) (J : It) (xs : List SD) (ok : M.AH → Prop) : Prop := ∀ (i : Nat) (H : Hp) (h : M.AH), Kp H1 H → Fz H1 H → RH K H h → ok h →
  (i < xs.length → J.go i H) ∧ (xs.length ≤ i → J.stop i H) ∧ ∀ x H', J.yld i H x H' → ∀ d, xs[i]? = some d → Rep K H' d x ∧ Frm H h H' h ∧ RH K H' h
theorem PI.imp' {t t' : TI} (a : PI X tg e t) (i : ∀ σ H Q, t' σ H Q → t σ H Q) : PI X tg e t' := ⟨fun pins s σ H Q I h => a.run pins s σ H Q I (i σ H Q h)⟩
def liftI (K : Fr) (k : M.Itk) (w : WA) : TI := fun σ H R => ∃ σa h Qd, RS K H σ σa ∧ RH K H h ∧ w σa h Qd ∧ ∀ ds h1, Qd ds h1 → ∃ QW : List SD → (M.AH → Prop) → Prop, M.walk k ds h1 QW ∧
  ∀ xs ok J H1, QW xs ok → Frm H h H1 h1 → RH K H1 h1 → Walks K H1 J xs ok → R J H1
/-- a list, a tuple, a text -/
def iSeq (K : Fr) (tl : TE) : TI := fun σ H R => tl σ H fun x H1 => (∃ a, x = .ref a ∧ (∃ xs, SqL K H1 a xs) ∧ R (Itl K a) H1) ∨ (∃ a, x = .ref a ∧ (∃ xs, SqT K H1 a xs) ∧ R (Itt K a) H1) ∨ ∃ z, x = .str z ∧ R (Its z) H1
theorem pi_seq {l : Expr} {tl : TE} (hl : PE X l tl) : PI X tg l (iSeq X.F tl) := by
  refine ⟨fun pins s σ H R I hw => thn (hl.run pins s σ H _ I hw) ?_⟩
  rintro v s1 ⟨x, H1, J, rv, q⟩
  rcases q with ⟨ad, rfl, ⟨xs, hx⟩, q⟩ | ⟨ad, rfl, ⟨xs, hx⟩, q⟩ | ⟨z, rfl, q⟩
  · cases rv
    obtain ⟨its, r, p, hz⟩ := J.list hx
    exact wpAny_pyIter_list p.isList (pi_one (tk := s1.toks) J _ (turn_list ad _) ⟨_, Heap.get?_push_size _ rfl, rfl, rfl⟩ q)
  · cases rv
    obtain ⟨its, r, p, hz⟩ := J.tuple hx
    exact wpAny_pyIter_tuple (show s1.heap.IsTuple ad its.toArray from p) (pi_one (tk := s1.toks) J _ (turn_tuple ad _) ⟨_, Heap.get?_push_size _ rfl, rfl, rfl⟩ q)
  · obtain ⟨t, rfl⟩ := rv
    cases wide : z.cps.all (· < 128)
    · exact wpAny_pyIter_wide wide (pi_one (tk := s1.toks) J _ (turn_str _ z t "str_iterator" (.inr rfl)) ⟨_, Heap.get?_push_size _ rfl, rfl, rfl⟩ q)
    · exact wpAny_pyIter_ascii wide (pi_one (tk := s1.toks) J _ (turn_str _ z t "str_ascii_iterator" (.inl rfl)) ⟨_, Heap.get?_push_size _ rfl, rfl, rfl⟩ q)
theorem sql_inj {p : Addr} {vs ws : List V} (e : H p = some (.lst vs)) (h : SqL K H p ws) (no : ¬ KLst K p ws) : ws = vs := by
  rcases h with (h | ⟨o, h⟩) | h
  · rw [e] at h; cases h; rfl
  · rw [e] at h; cases h
  · exact absurd h no
/-- a list's items at a turn: what the walk yields is what stands there -/
theorem walks_lst {p : Addr} {xs : List SD} : Walks K H1 (Itl K p) xs (fun h' => h' p = some (.lst xs)) := by
  intro i H h kp fz rh ok
  obtain ⟨vs, e, r⟩ := rh p _ ok
  have ln := r.length
  refine ⟨fun hi => ⟨vs, vs[i]'(by omega), SqL.of e, by simp⟩, fun hi => ⟨vs, SqL.of e, by omega⟩, ?_⟩
  rintro x H' ⟨rfl, y⟩ d hd
  obtain ⟨v, h1, h2⟩ := r.get hd
  have := y vs (SqL.of e)
  rw [h1] at this
  cases this
  exact ⟨h2, .refl, rh⟩
theorem walks_rol {p : Addr} {xs : List SD} {vs : List V} (t : (∃ o, H1 p = some (.frz o (.lst vs))) ∨ KLst K p vs) (r : Reps K H1 xs vs) : Walks K H1 (Itl K p) xs (fun _ => True) := by
  intro i H h kp fz rh ok
  have ln := r.length
  have hs : SqL K H p vs := rol_sql (t.imp (fun ⟨o, e⟩ => ⟨o, kp.2 _ _ _ e⟩) id)
  refine ⟨fun hi => ⟨vs, vs[i]'(by omega), hs, by simp⟩, fun hi => ⟨vs, hs, by omega⟩, ?_⟩
  rintro x H' ⟨rfl, y⟩ d hd
  obtain ⟨v, h1, h2⟩ := (r.kp kp).get hd
  have := y vs hs
  rw [h1] at this
  cases this
  exact ⟨h2, .refl, rh⟩
theorem walks_tup {p : Addr} {xs : List SD} {vs : List V} (t : H1 p = some (.tup vs) ∨ KTup K p vs) (r : Reps K H1 xs vs) : Walks K H1 (Itt K p) xs (fun _ => True) := by
  intro i H h kp fz rh ok
  have ln := r.length
  have hs : SqT K H p vs := (t.imp (kp.1 _ _) id).imp .inl id
  refine ⟨fun hi => ⟨vs, vs[i]'(by omega), hs, by simp⟩, fun hi => ⟨vs, hs, by omega⟩, ?_⟩
  rintro x H' ⟨rfl, y⟩ d hd
  obtain ⟨v, h1, h2⟩ := (r.kp kp).get hd
  have := y vs hs
  rw [h1] at this
  cases this
  exact ⟨h2, .refl, rh⟩
theorem walks_str {s : M.Sx} (ok : sOk s) : Walks K H1 (Its (sV s)) (s.map fun c => .str [c]) (fun _ => True) := by
  intro i H h kp fz rh _
  have sz : (sV s).cps.size = s.length := by simp [sV]
  refine ⟨fun hi => by show i < (sV s).cps.size; rw [sz]; simpa using hi, fun hi => by show (sV s).cps.size ≤ i; rw [sz]; simpa using hi, ?_⟩
  rintro x H' ⟨rfl, c, hc, rfl⟩ d hd
  rw [List.getElem?_map] at hd
  have e : s[i]? = some c := by
    rw [← Array.getElem?_toList, sV_cps] at hc
    exact hc
  rw [e] at hd
  simp only [Option.map_some, Option.some.injEq] at hd
  subst hd
  exact ⟨⟨rfl, fun z hz => by
    have : z = c := by simpa using hz
    subst this
    exact ok _ (List.mem_of_getElem? e)⟩, .refl, rh⟩
theorem walks_rng (lo hi : Int) (n : Nat) (hn : n = (hi - lo).toNat) : Walks K H1 (Itr lo n) (M.rangeL lo hi) (fun _ => True) := by
  intro i H h kp fz rh _
  have ln : (M.rangeL lo hi).length = n := by simp [M.rangeL, hn]
  refine ⟨fun q => by show i < n; omega, fun q => by show n ≤ i; omega, ?_⟩
  rintro x H' ⟨rfl, rfl⟩ d hd
  have hi : i < n := by rw [← ln]; exact (List.getElem?_eq_some_iff.mp hd).1
  simp only [M.rangeL, List.getElem?_map] at hd
  rw [List.getElem?_range (by omega)] at hd
  simp only [Option.map_some, Option.some.injEq] at hd
  subst hd
  exact ⟨rfl, .refl, rh⟩
theorem enumL_get : ∀ (xs : List SD) (k i : Nat) (d : SD), (M.enumL k xs)[i]? = some d → ∃ x, xs[i]? = some x ∧ d = .tup [.int ((k + i : Nat) : Int), x]
  | [], k, i, d, e => by simp [M.enumL] at e
  | x :: xs, k, 0, d, e => by
    simp only [M.enumL, List.getElem?_cons_zero, Option.some.injEq] at e
    exact ⟨x, rfl, e.symm⟩
  | x :: xs, k, i + 1, d, e => by
    simp only [M.enumL, List.getElem?_cons_succ] at e
    obtain ⟨y, h1, h2⟩ := enumL_get xs (k + 1) i d e
    refine ⟨y, by simpa using h1, ?_⟩
    rw [h2]
    have : k + 1 + i = k + (i + 1) := by omega
    rw [this]
theorem enumL_len : ∀ (xs : List SD) (k : Nat), (M.enumL k xs).length = xs.length
  | [], _ => rfl
  | x :: xs, k => by simp [M.enumL, enumL_len xs (k + 1)]
theorem walks_enum {p : Addr} {xs : List SD} : Walks K H1 (Ite K p) (M.enumL 0 xs) (fun h' => h' p = some (.lst xs)) := by
  intro i H h kp fz rh ok
  obtain ⟨vs, e, r⟩ := rh p _ ok
  have ln := r.length
  have ln2 := enumL_len xs 0
  refine ⟨fun hi => ⟨vs, vs[i]'(by omega), SqL.of e, by simp⟩, fun hi => ⟨vs, SqL.of e, by omega⟩, ?_⟩
  rintro x H' ⟨T, y, rfl, hn, rfl, hy⟩ d hd
  obtain ⟨z, h1, rfl⟩ := enumL_get xs 0 i d hd
  obtain ⟨v, h2, h3⟩ := r.get h1
  have := hy vs (SqL.of e)
  rw [h2] at this
  cases this
  refine ⟨⟨T, _, rfl, .inl upd_same, Reps.cons (by simp [Rep]) (.one (h3.kp (kp_new hn)))⟩, frm_hid hn, rh_hid rh hn⟩

theorem i_seq (hl : PE X e (lift X.F w)) : PI X tg e (liftI X.F .seq fun σ h Q => w σ h fun d h1 => Q [d] h1) := by
  refine PI.imp' (pi_seq hl) fun σ H R ⟨σa, h, Qd, rs, rh, q, k⟩ => ?_
  refine lift_go rs rh q fun d h1 v H1 q1 f1 r1 rh1 _ => ?_
  obtain ⟨QW, hw, kk⟩ := k _ _ q1
  cases d with
  | tup xs =>
    obtain ⟨ad, vs, ev, t, rr⟩ := r1
    exact .inr (.inl ⟨ad, ev, ⟨vs, t.imp .inl id⟩, kk _ _ _ _ hw f1 rh1 (walks_tup t rr)⟩)
  | rol xs =>
    obtain ⟨ad, vs, ev, t, rr⟩ := r1
    exact .inl ⟨ad, ev, ⟨vs, rol_sql t⟩, kk _ _ _ _ hw f1 rh1 (walks_rol t rr)⟩
  | str s => exact .inr (.inr ⟨sV s, r1.1, kk _ _ _ _ hw f1 rh1 (walks_str r1.2)⟩)
  | ref p =>
    simp only [M.walk] at hw
    cases e1 : h1 p with
    | none => rw [e1] at hw; exact hw.elim
    | some o => rw [e1] at hw; cases o with
      | lst xs =>
        obtain ⟨vs, e2, rr⟩ := rh1 p _ e1
        exact .inl ⟨p, r1, ⟨vs, SqL.of e2⟩, kk _ _ _ _ hw f1 rh1 walks_lst⟩
      | _ => exact hw.elim
  | _ => exact hw.elim
theorem walk_rng_inv {ds : List SD} {QW : List SD → (M.AH → Prop) → Prop} (q : M.walk .rng ds h QW) : (∃ n, ds = [.int n] ∧ -(2 ^ 62) ≤ n ∧ n < 2 ^ 62 ∧ QW (M.rangeL 0 n) fun _ => True) ∨
    (∃ a b, ds = [.int a, .int b] ∧ (-(2 ^ 62) ≤ a ∧ a < 2 ^ 62 ∧ -(2 ^ 62) ≤ b ∧ b < 2 ^ 62) ∧ QW (M.rangeL a b) fun _ => True) ∨
    ∃ a b c, ds = [.int a, .int b, .int c] ∧ (c = -1 ∧ -(2 ^ 62) ≤ a ∧ a < 2 ^ 62 ∧ -(2 ^ 62) ≤ b ∧ b < 2 ^ 62) ∧ QW (M.rangeL (b + 1) (a + 1)).reverse fun _ => True := by
  match ds with
  | [] => exact False.elim q
  | [d] => cases d with
    | int n => exact .inl ⟨n, rfl, q⟩
    | _ => exact False.elim q
  | [d, e] => cases d with
    | int a => cases e with
      | int b => exact .inr (.inl ⟨a, b, rfl, q⟩)
      | _ => exact False.elim q
    | _ => cases e <;> exact False.elim q
  | [d, e, f] => cases d with
    | int a => cases e with
      | int b => cases f with
        | int c => exact .inr (.inr ⟨a, b, c, rfl, q⟩)
        | _ => exact False.elim q
      | _ => cases f <;> exact False.elim q
    | _ => cases e <;> cases f <;> exact False.elim q
  | d :: e :: f :: g :: r => cases d <;> cases e <;> cases f <;> exact False.elim q
theorem i_rng1 {p : Pos} (hg : Gl X "range") (hm : X.mg "range" = none) (hs : starEach [a] X.env = [(false, eval a X.env)]) (ha : PE X a (lift X.F wa)) :
    PI X tg (.Call (.Name "range" p) [a] [] pos) (liftI X.F .rng fun σ h Q => wa σ h fun d h1 => Q [d] h1) := by
  refine PI.imp' (pi_range1 hg hm (pa_cons ha pa_nil hs) hs) fun σ H R ⟨σa, h, Qd, rs, rh, q, k⟩ => ?_
  refine lift_go rs rh q fun d h1 v H1 q1 f1 r1 rh1 _ => ?_
  obtain ⟨QW, hw, kk⟩ := k _ _ q1
  rcases walk_rng_inv hw with ⟨n, e, h1, h2, hw2⟩ | ⟨x, y, e, _⟩ | ⟨x, y, z, e, _⟩
  · cases e
    cases (show v = _ from r1)
    exact ⟨n, rfl, h1, h2, kk _ _ _ _ hw2 f1 rh1 (walks_rng 0 n _ (by simp))⟩
  · cases e
  · cases e
theorem i_rng2 {p : Pos} (hg : Gl X "range") (hm : X.mg "range" = none) (hs : starEach [a, b] X.env = [(false, eval a X.env), (false, eval b X.env)]) (hs2 : starEach [b] X.env = [(false, eval b X.env)]) (ha : PE X a (lift X.F wa)) (hb : PE X b (lift X.F wb)) :
    PI X tg (.Call (.Name "range" p) [a, b] [] pos) (liftI X.F .rng fun σ h Q => wa σ h fun d h1 => wb σ h1 fun d2 h2 => Q [d, d2] h2) := by
  refine PI.imp' (pi_range2 hg hm (pa_cons ha (pa_cons hb pa_nil hs2) (by rw [hs, hs2])) hs hs2) fun σ H R ⟨σa, h, Qd, rs, rh, q, k⟩ => ?_
  refine lift_go rs rh q fun d h1 v H1 q1 f1 r1 rh1 rs1 => lift_go rs1 rh1 q1 fun d2 h2 v2 H2 q2 f2 r2 rh2 rs2 => ?_
  obtain ⟨QW, hw, kk⟩ := k _ _ q2
  rcases walk_rng_inv hw with ⟨n, e, h1, h2, hw2⟩ | ⟨x, y, e, hb, hw2⟩ | ⟨x, y, z, e, _⟩
  · cases e
  · cases e
    cases (show v = _ from r1); cases (show v2 = _ from r2)
    exact ⟨x, y, rfl, hb, kk _ _ _ _ hw2 (f1.trans f2) rh2 (walks_rng x y _ rfl)⟩
  · cases e
theorem walks_rng3 (a b : Int) : Walks K H1 (Itc a (-1) (a - b).toNat) (M.rangeL (b + 1) (a + 1)).reverse (fun _ => True) := by
  intro i H h kp fz rh _
  have lr : (M.rangeL (b + 1) (a + 1)).length = (a - b).toNat := by simp [M.rangeL]; omega
  have ln : (M.rangeL (b + 1) (a + 1)).reverse.length = (a - b).toNat := by rw [List.length_reverse, lr]
  refine ⟨fun q => by show i < (a - b).toNat; omega, fun q => by show (a - b).toNat ≤ i; omega, ?_⟩
  rintro x H' ⟨rfl, rfl⟩ d hd
  have hi : i < (a - b).toNat := by rw [← ln]; exact (List.getElem?_eq_some_iff.mp hd).1
  rw [List.getElem?_reverse (by omega), lr] at hd
  simp only [M.rangeL, List.getElem?_map] at hd
  rw [List.getElem?_range (by omega)] at hd
  simp only [Option.map_some, Option.some.injEq] at hd
  subst hd
  have : a + ((i : Nat) : Int) * (-1) = b + 1 + (((a - b).toNat - 1 - i : Nat) : Int) := by omega
  rw [this]
  exact ⟨rfl, .refl, rh⟩
theorem i_rng3 {p : Pos} (hg : Gl X "range") (hm : X.mg "range" = none) (hs : starEach [a, b, c] X.env = [(false, eval a X.env), (false, eval b X.env), (false, eval c X.env)]) (hs2 : starEach [b, c] X.env = [(false, eval b X.env), (false, eval c X.env)]) (hs3 : starEach [c] X.env = [(false, eval c X.env)])
    (ha : PE X a (lift X.F wa)) (hb : PE X b (lift X.F wb)) (hc : PE X c (lift X.F wc)) :
    PI X tg (.Call (.Name "range" p) [a, b, c] [] pos) (liftI X.F .rng fun σ h Q => wa σ h fun d h1 => wb σ h1 fun d2 h2 => wc σ h2 fun d3 h3 => Q [d, d2, d3] h3) := by
  refine PI.imp' (pi_range3 hg hm (pa_cons ha (pa_cons hb (pa_cons hc pa_nil hs3) (by rw [hs2, hs3])) (by rw [hs, hs2])) (by rw [hs, hs2]) (by rw [hs2]; rfl)) fun σ H R ⟨σa, h, Qd, rs, rh, q, k⟩ => ?_
  refine lift_go rs rh q fun d h1 v H1 q1 f1 r1 rh1 rs1 => lift_go rs1 rh1 q1 fun d2 h2 v2 H2 q2 f2 r2 rh2 rs2 => lift_go rs2 rh2 q2 fun d3 h3 v3 H3 q3 f3 r3 rh3 rs3 => ?_
  obtain ⟨QW, hw, kk⟩ := k _ _ q3
  rcases walk_rng_inv hw with ⟨n, e, h1, h2, hw2⟩ | ⟨x, y, e, _⟩ | ⟨x, y, z, e, ⟨hz, h1, h2, h4, h5⟩, hw2⟩
  · cases e
  · cases e
  · cases e
    cases (show v = _ from r1); cases (show v2 = _ from r2); cases (show v3 = _ from r3)
    subst hz
    exact ⟨x, y, -1, (x - y).toNat, rfl, RgC.neg h1 h2 h4 h5, kk _ _ _ _ hw2 ((f1.trans f2).trans f3) rh3 (walks_rng3 x y)⟩
theorem walk_enum_inv {ds : List SD} {QW : List SD → (M.AH → Prop) → Prop} (q : M.walk .enum ds h QW) : ∃ p xs, ds = [.ref p] ∧ h p = some (.lst xs) ∧ QW (M.enumL 0 xs) fun h' => h' p = some (.lst xs) := by
  match ds with
  | [] => exact False.elim q
  | [d] => cases d with
    | ref p =>
      simp only [M.walk] at q
      cases e : h p with
      | none => rw [e] at q; exact q.elim
      | some o => rw [e] at q; cases o with
        | lst xs => exact ⟨p, xs, rfl, e, q⟩
        | _ => exact q.elim
    | _ => exact False.elim q
  | d :: e :: r => cases d <;> exact False.elim q
theorem i_enum {p tpos : Pos} {elts : List Expr} {kk : Nat} (hg : Gl X "enumerate") (hm : X.mg "enumerate" = none) (hs : starEach [a] X.env = [(false, eval a X.env)]) (ha : PE X a (lift X.F wa)) :
    PI X (.Tuple elts kk tpos) (.Call (.Name "enumerate" p) [a] [] pos) (liftI X.F .enum fun σ h Q => wa σ h fun d h1 => Q [d] h1) := by
  refine PI.imp' (pi_enum hg hm (pa_cons ha pa_nil hs) hs) fun σ H R ⟨σa, h, Qd, rs, rh, q, k⟩ => ?_
  refine lift_go rs rh q fun d h1 v H1 q1 f1 r1 rh1 _ => ?_
  obtain ⟨QW, hw, kk⟩ := k _ _ q1
  obtain ⟨p, xs, e, e1, hw2⟩ := walk_enum_inv hw
  cases e
  cases (show v = _ from r1)
  obtain ⟨vs, e2, rr⟩ := rh1 p _ e1
  exact ⟨p, vs, rfl, SqL.of e2, kk _ _ _ _ hw2 f1 rh1 walks_enum⟩

/-! ### targets -/
def gNames : List Nat → TGs
  | [] => gNil
  | i :: is => gCons (gName i) (gNames is)
def gOf (K : Fr) : M.Tgt → TG
  | .nm i => gName i
  | .tp ts => gTup K ts.length (gNames ts)
theorem rs_set {i : Nat} {d : SD} {v : V} (rs : RS K H σ σa) (r : Rep K H d v) : RS K H (σ.set i (some v)) (σa.set i (some d)) := by
  refine ⟨by simpa using rs.1, fun j e q => ?_⟩
  by_cases z : i = j
  · subst z
    by_cases hl : i < σa.length
    · rw [List.getElem?_set_self hl] at q
      cases q
      exact ⟨v, by rw [List.getElem?_set_self (by rw [rs.1]; exact hl)], r⟩
    · rw [List.getElem?_eq_none (by simpa using hl)] at q; cases q
  · rw [List.getElem?_set_ne z] at q
    obtain ⟨u, e1, e2⟩ := rs.2 j e q
    exact ⟨u, by rw [List.getElem?_set_ne z]; exact e1, e2⟩
theorem setTs_ok : ∀ {is : List Nat} {ds : List SD} {vs : List V} {σ : L2.St} {σa σb : M.St} {Q : L2.St → Hp → Prop}, M.setT.setTs is ds σa = some σb → RS K H σ σa → Reps K H ds vs → (∀ σ', RS K H σ' σb → Q σ' H) → gNames is vs σ H Q
  | [], [], vs, σ, σa, σb, Q, e, rs, r, k => by
    simp only [M.setT.setTs, Option.some.injEq] at e
    subst e
    exact ⟨r, k σ rs⟩
  | [], _ :: _, vs, σ, σa, σb, Q, e, _, _, _ => by simp [M.setT.setTs] at e
  | _ :: _, [], vs, σ, σa, σb, Q, e, _, _, _ => by simp [M.setT.setTs] at e
  | i :: is, d :: ds, vs, σ, σa, σb, Q, e, rs, ⟨v, r, ev, r1, r2⟩, k => by
    simp only [M.setT.setTs] at e
    exact ⟨v, r, ev, setTs_ok e (rs_set rs r1) r2 k⟩
theorem setTs_len : ∀ {is : List Nat} {ds : List SD} {σa σb : M.St}, M.setT.setTs is ds σa = some σb → is.length = ds.length
  | [], [], _, _, _ => rfl
  | [], _ :: _, _, _, e => by simp [M.setT.setTs] at e
  | _ :: _, [], _, _, e => by simp [M.setT.setTs] at e
  | i :: is, d :: ds, _, _, e => by simp only [M.setT.setTs] at e; simp [setTs_len e]
theorem setT_ok {t : M.Tgt} {d : SD} {v : V} {σb : M.St} {Q : L2.St → Hp → Prop} (e : M.setT t d σa = some σb) (rs : RS K H σ σa) (r : Rep K H d v) (k : ∀ σ', RS K H σ' σb → Q σ' H) : gOf K t v σ H Q := by
  cases t with
  | nm i =>
    simp only [M.setT, Option.some.injEq] at e
    subst e
    exact k _ (rs_set rs r)
  | tp ts =>
    cases d with
    | tup ds =>
      obtain ⟨ad, vs, ev, t, rr⟩ := r
      exact ⟨ad, vs, ev, t.imp .inl id, by rw [rr.length, setTs_len e], setTs_ok e rs rr k⟩
    | _ => simp [M.setT] at e
theorem wipe_rs (rs : RS K H σ σa) : ∀ vs : List Nat, RS K H (wipe σ vs) (M.forget σa vs)
  | [] => rs
  | v :: vs => by
    have ih := wipe_rs rs vs
    unfold wipe M.forget
    refine ⟨by simpa using ih.1, fun j e q => ?_⟩
    by_cases z : v = j
    · subst z
      by_cases hl : v < (M.forget σa vs).length
      · rw [List.getElem?_set_self hl] at q; cases q
      · rw [List.getElem?_eq_none (by simpa using hl)] at q; cases q
    · rw [List.getElem?_set_ne z] at q
      obtain ⟨u, e1, e2⟩ := ih.2 j e q
      exact ⟨u, by rw [List.getElem?_set_ne z]; exact e1, e2⟩
/-- storing to a comprehension's own names, then forgetting them -/
theorem wipe_set {i : Nat} {v : Option V} : ∀ {vs : List Nat} {σ : L2.St}, i ∈ vs → wipe (σ.set i v) vs = wipe σ vs
  | j :: vs, σ, hm => by
    unfold wipe
    by_cases z : i ∈ vs
    · rw [wipe_set z]
    · have e : j = i := by
        rcases List.mem_cons.mp hm with e | e
        · exact e.symm
        · exact absurd e z
      subst e
      have : ∀ {ws : List Nat} {τ : L2.St}, j ∉ ws → wipe (τ.set j v) ws = (wipe τ ws).set j v := by
        intro ws
        induction ws with
        | nil => intro τ _; rfl
        | cons k ws ih =>
          intro τ hk
          unfold wipe
          rw [ih (fun q => hk (List.mem_cons_of_mem _ q)), List.set_comm]
          exact fun q => hk (by rw [← q]; exact List.mem_cons_self)
      rw [this z, List.set_set]
theorem wipe_wipe : ∀ {vs : List Nat} {σ : L2.St}, wipe (wipe σ vs) vs = wipe σ vs := by
  have gen : ∀ {ws vs : List Nat} {σ : L2.St}, (∀ i ∈ ws, i ∈ vs) → wipe (wipe σ ws) vs = wipe σ vs := by
    intro ws
    induction ws with
    | nil => intro vs σ _; rfl
    | cons k ws ih =>
      intro vs σ hk
      show wipe ((wipe σ ws).set k none) vs = _
      rw [wipe_set (hk k List.mem_cons_self), ih (fun i hi => hk i (List.mem_cons_of_mem _ hi))]
  intro vs σ
  exact gen fun i hi => hi
def tgtIn (own : List Nat) : M.Tgt → Bool
  | .nm i => own.contains i
  | .tp ts => ts.all fun i => own.contains i
theorem gNames_wipe {own : List Nat} : ∀ {is : List Nat} {vs : List V} {σ : L2.St} {Q : L2.St → Hp → Prop}, (is.all fun i => own.contains i) = true → gNames is vs σ H Q → gNames is vs σ H fun σ' H' => wipe σ' own = wipe σ own ∧ Q σ' H'
  | [], _, _, _, _, ⟨e, q⟩ => ⟨e, rfl, q⟩
  | i :: is, vs, σ, Q, hi, ⟨v, r, e, q⟩ => by
    rw [List.all_cons] at hi
    obtain ⟨h1, h2⟩ := ba hi
    refine ⟨v, r, e, ?_⟩
    have q' := gNames_wipe h2 (show gNames is r (σ.set i (some v)) H Q from q)
    have e2 : wipe (σ.set i (some v)) own = wipe σ own := wipe_set (by simpa using h1)
    rw [e2] at q'
    exact q'
theorem gOf_wipe {own : List Nat} {t : M.Tgt} {v : V} {Q : L2.St → Hp → Prop} (ht : tgtIn own t = true) (q : gOf K t v σ H Q) : gOf K t v σ H fun σ' H' => wipe σ' own = wipe σ own ∧ Q σ' H' := by
  cases t with
  | nm i => exact ⟨wipe_set (by simpa [tgtIn] using ht), q⟩
  | tp ts =>
    obtain ⟨ad, xs, e, s, hl, q⟩ := q
    exact ⟨ad, xs, e, s, hl, gNames_wipe ht q⟩

/-! ### a comprehension -/
def tWith (K : Fr) (w : WE) : TT := liftT K w
theorem lc_ok {k : M.Itk} {wsrc : WA} {wif : WE} {welt : WE} {t : M.Tgt} {own : List Nat} {Q : VK} (ht : tgtIn own t = true)
    (q : lift K (fun σ h Q => wsrc σ h fun ds h1 => M.walk k ds h1 fun xs ok =>
      M.compW xs ok (fun x h2 yes no => match M.setT t x (M.forget σ own) with
        | some σ' => wif σ' h2 fun c h3 => match c with
          | .bl true => welt σ' h3 yes
          | .bl false => no h3
          | _ => False
        | none => False) (fun acc h2 => ∀ r, h2 r = none → Q (.ref r) (M.up h2 r (.lst acc))) h1) σ H Q) :
    tLc (liftI K k wsrc) (gOf K t) (liftT K wif) (lift K welt) own σ H Q := by
  obtain ⟨σa, h, Qa, rs, rh, q, kk⟩ := q
  have hl := line_eq
  refine ⟨σa, h, _, rs, rh, q, fun ds h1 q1 => ⟨_, q1, fun xs ok J H1 cw f1 rh1 wk => ?_⟩⟩
  intro D hD
  obtain ⟨P, p0, pok, hz, step, done⟩ := cw
  have rs1 := rs.kp (f1.kp rh)
  have kp0 : Kp H1 (upd H1 D (.lst [])) := kp_new hD
  have hD1 : h1 D = none := rh1.none hD
  -- the invariant: the new list is hidden
  let W : Nat → Nat → Hp → Prop := fun i m H' => m = xs.length - i ∧ i ≤ xs.length ∧ ∃ h' acc av, RH K H' h' ∧ Frm (upd H1 D (.lst [])) h1 (upd H' D (.lst [])) h' ∧ H' D = some (.lst av) ∧ h' D = none ∧ Reps K H' acc av ∧ P i acc h'
  have kpW : ∀ {H' : Hp} {h' : M.AH} {av : List V}, Frm (upd H1 D (.lst [])) h1 (upd H' D (.lst [])) h' → RH K (upd H1 D (.lst [])) h1 → Kp H1 H' := fun {H' h' av} f r => by
    refine ⟨fun ad vs e => ?_, fun ad ob u e => ?_⟩
    · have ne := ne_of_none e hD
      have := (f.kp r).1 ad vs (by rw [upd_ne ne]; exact e)
      rw [upd_ne ne] at this; exact this
    · have ne := ne_of_none e hD
      have := (f.kp r).2 ad ob u (by rw [upd_ne ne]; exact e)
      rw [upd_ne ne] at this; exact this
  have rh1' : RH K (upd H1 D (.lst [])) h1 := rh_hid rh1 hD
  refine ⟨W, ⟨xs.length, by simp, Nat.zero_le _, h1, [], [], rh1', by rw [upd_upd]; exact .refl, upd_same, hD1, rfl, p0⟩, ?_⟩
  rintro i m H' ⟨rfl, hi, h', acc, av, rh', f', hDv, hDn, ra, p⟩
  obtain ⟨hok, hacc⟩ := pok i acc h' p
  have kp' : Kp H1 H' := kpW (av := av) f' rh1'
  have fz' : Fz H1 H' := fun ad ob u e => by
    have ne := ne_of_none e hD
    have := (f'.fz rh1') ad ob u (by rw [upd_ne ne]; exact e)
    rw [upd_ne ne] at this; exact this
  have frBack : ∀ {H2 : Hp} {h2 : M.AH} {o : HO}, Frm (upd H1 D (.lst [])) h1 (upd H2 D (.lst [])) h2 → FrameP.p (upd H2 D o) h2 := fun {H2 h2 o} f => FrameP.c rh1.fr fun ad ob e n => by
    have ne := ne_of_none e hD
    obtain ⟨e1, n1⟩ := f ad ob (by rw [upd_ne ne]; exact e) n
    rw [upd_ne ne] at e1
    exact ⟨by rw [upd_ne ne]; exact e1, n1⟩
  obtain ⟨wg, ws, wy⟩ := wk i H' h' kp' fz' rh' hok
  have frmBack : ∀ {H2 : Hp} {h2 : M.AH}, Frm H' h' H2 h2 → Frm (upd H1 D (.lst [])) h1 (upd H2 D (.lst [])) h2 := fun {H2 h2} f2 ad o e n => by
    obtain ⟨e1, n1⟩ := f' ad o e n
    by_cases z : ad = D
    · subst z
      obtain ⟨_, n2⟩ := f2 ad _ hDv (.none hDn)
      rw [upd_same] at e1
      exact ⟨by rw [upd_same]; exact e1, n2.trans n1⟩
    · rw [upd_ne z] at e1 ⊢
      obtain ⟨e2, n2⟩ := f2 ad o e1 (n.eq n1)
      exact ⟨e2, n2.trans n1⟩
  by_cases hlt : i < xs.length
  · refine .inr ⟨wg hlt, fun H2 => W (i + 1) (xs.length - (i + 1)) H2, fun H2 hw => ⟨_, by omega, hw⟩, fun x H2 y => ?_⟩
    obtain ⟨rx, f2, rh2⟩ := wy x H2 y _ (List.getElem?_eq_getElem hlt)
    have sp := step i _ acc h' (List.getElem?_eq_getElem hlt) p
    dsimp only at sp
    cases e : M.setT t xs[i] (M.forget σa own) with
    | none => rw [e] at sp; exact sp.elim
    | some σb =>
      rw [e] at sp
      have rsw : RS K H2 (wipe σ own) (M.forget σa own) := wipe_rs ((rs1.kp kp').kp (f2.kp rh')) own
      have g := setT_ok (Q := fun σ2 H3 => H3 = H2 ∧ RS K H2 σ2 σb) e rsw rx fun σ' r' => ⟨rfl, r'⟩
      have g2 := gOf_wipe ht g
      have gmono : ∀ {Q1 Q2 : L2.St → Hp → Prop} {τ : L2.St} {v : V}, (∀ s Hh, Q1 s Hh → Q2 s Hh) → gOf K t v τ H2 Q1 → gOf K t v τ H2 Q2 := by
        intro Q1 Q2 τ v imp g
        have gn : ∀ {is : List Nat} {vs : List V} {τ : L2.St}, gNames is vs τ H2 Q1 → gNames is vs τ H2 Q2 := by
          intro is
          induction is with
          | nil => intro vs τ ⟨e, q⟩; exact ⟨e, imp _ _ q⟩
          | cons j js ih => intro vs τ ⟨v, r, e, q⟩; exact ⟨v, r, e, ih q⟩
        cases t with
        | nm j => exact imp _ _ g
        | tp ts => obtain ⟨ad, ys, e1, e2, e3, g⟩ := g; exact ⟨ad, ys, e1, e2, e3, gn g⟩
      refine gmono ?_ g2
      rintro σ2 H3 ⟨wp, rfl, rsb⟩
      refine ⟨wp.trans wipe_wipe, ?_⟩
      refine ⟨σb, h', _, rsb, rh2, sp, fun c h3 q3 => ?_⟩
      have fD : ∀ {H4 : Hp} {h4 : M.AH}, Frm H3 h' H4 h4 → Frm H' h' H4 h4 := fun f4 => f2.trans f4
      cases c with
      | bl b =>
        refine ⟨b, rfl, fun H4 f4 rh4 => ?_⟩
        cases b with
        | true =>
          rw [if_pos rfl]
          refine lift_go (rsb.kp (f4.kp rh2)) rh4 q3 fun d h5 v H5 q5 f5 r5 rh5 _ => ?_
          have ft := (fD f4).trans f5
          obtain ⟨e5, n5⟩ := ft D _ hDv (.none hDn)
          rw [hDn] at n5
          have ra5 := ra.kp (ft.kp rh')
          have ln := ra.length
          refine ⟨av, e5, by omega, rfl, by omega, h5, acc ++ [d], av ++ [v], ?_, ?_, upd_same, n5, ?_, q5⟩
          · refine ⟨fun ad o ea => (rh5 ad o ea).kp ?_ (fun ad ps e => by rw [upd_ne (fun z => by subst z; rw [e5] at e; cases e)]; exact e) ?_, ?_⟩
            · refine ⟨fun ad vs e => ?_, fun ad ob u e => ?_⟩
              · rw [upd_ne (fun z => by subst z; rw [e5] at e; cases e)]; exact e
              · rw [upd_ne (fun z => by subst z; rw [e5] at e; cases e)]; exact e
            · exact upd_ne (fun z => by subst z; rw [n5] at ea; cases ea)
            · exact frBack (frmBack ft)
          · rw [upd_upd]; exact frmBack ft
          · have kp5 : Kp H5 (upd H5 D (.lst (av ++ [v]))) := by
              refine ⟨fun ad vs e => ?_, fun ad ob u e => ?_⟩
              · rw [upd_ne (fun z => by subst z; rw [e5] at e; cases e)]; exact e
              · rw [upd_ne (fun z => by subst z; rw [e5] at e; cases e)]; exact e
            exact (ra5.append (.one r5)).kp kp5
        | false =>
          rw [if_neg Bool.false_ne_true]
          have ft := fD f4
          obtain ⟨e4, n4⟩ := ft D _ hDv (.none hDn)
          rw [hDn] at n4
          exact ⟨rfl, by omega, h3, acc, av, rh4, frmBack ft, e4, n4, ra.kp (ft.kp rh'), q3⟩
      | _ => exact q3.elim
  · have e : i = xs.length := by omega
    subst e
    refine .inl ⟨ws (Nat.le_refl _), ?_⟩
    have dn := done acc h' p D hDn
    have fin : Frm H h H' (M.up h' D (.lst acc)) := by
      intro ad o e n
      obtain ⟨e1, n1⟩ := f1 ad o e n
      have ne := ne_of_none e1 hD
      obtain ⟨e2, n2⟩ := f' ad o (by rw [upd_ne ne]; exact e1) (n.eq n1)
      rw [upd_ne ne] at e2
      exact ⟨e2, by rw [up_ne ne, n2, n1]⟩
    refine kk _ _ _ _ dn fin rfl ⟨fun ad o e => ?_, FrameP.c rh.fr fin⟩
    by_cases z : ad = D
    · subst z
      rw [up_same] at e
      cases e
      exact ⟨av, hDv, ra⟩
    · rw [up_ne z] at e
      exact rh' ad o e

/-! ### statements -/
structure KontS (K : Fr) (H : Hp) (h : M.AH) (R : M.Ends) (D : L2.Ends) : Prop where
  nx : ∀ σa h' σ H', R.nx σa h' → Frm H h H' h' → RS K H' σ σa → RH K H' h' → D.nx σ H'
  rt : Kont K H h R.rt D.rt
  bk : ∀ σa h' σ H', R.bk σa h' → Frm H h H' h' → RS K H' σ σa → RH K H' h' → D.bk σ H'
  ct : ∀ σa h' σ H', R.ct σa h' → Frm H h H' h' → RS K H' σ σa → RH K H' h' → D.ct σ H'
theorem KontS.go {R : M.Ends} {D : L2.Ends} (k : KontS K H h R D) (f : Frm H h H1 h1) : KontS K H1 h1 R D :=
  ⟨fun σa h' σ H' q f' => k.nx σa h' σ H' q (f.trans f'), k.rt.go f, fun σa h' σ H' q f' => k.bk σa h' σ H' q (f.trans f'), fun σa h' σ H' q f' => k.ct σa h' σ H' q (f.trans f')⟩
abbrev WS := M.Ends → M.St → M.AH → Prop
def liftS (K : Fr) (w : WS) : TS := fun D σ H => ∃ σa h R, RS K H σ σa ∧ RH K H h ∧ w R σa h ∧ KontS K H h R D
theorem _root_.L2.PS.imp {X : L2.Cx} {e : Stmt} {t t' : TS} (a : PS X e t) (i : ∀ D σ H, t' D σ H → t D σ H) : PS X e t' := ⟨fun pins s σ H D I h => a.run pins s σ H D I (i D σ H h)⟩
theorem _root_.L2.PSs.imp {X : L2.Cx} {e : List Stmt} {t t' : TS} (a : PSs X e t) (i : ∀ D σ H, t' D σ H → t D σ H) : PSs X e t' := ⟨fun pins s σ H D I h => a.run pins s σ H D I (i D σ H h)⟩
variable {st : Stmt} {ss : List Stmt} {ws ws2 : WS}
theorem liftS_go {R : M.Ends} {D : L2.Ends} (rs : RS K H σ σa) (rh : RH K H h) (q : ws R σa h) (k : KontS K H h R D) : liftS K ws D σ H := ⟨σa, h, R, rs, rh, q, k⟩
theorem ss_nil : PSs X [] (liftS X.F fun R σ h => R.nx σ h) := pss_nil.imp fun D σ H ⟨σa, h, R, rs, rh, q, k⟩ => k.nx _ _ _ _ q .refl rs rh
theorem ss_cons (h1 : PS X st (liftS X.F ws)) (h2 : PSs X ss (liftS X.F ws2)) : PSs X (st :: ss) (liftS X.F fun R σ h => ws { R with nx := fun σ' h' => ws2 R σ' h' } σ h) := by
  refine (pss_cons h1 h2).imp fun D σ H ⟨σa, h, R, rs, rh, q, k⟩ => ?_
  exact liftS_go rs rh q ⟨fun σb h' σ' H' q' f rs' rh' => liftS_go rs' rh' q' (k.go f), k.rt, k.bk, k.ct⟩
theorem ss_pass : PS X (.Pass pos) (liftS X.F fun R σ h => R.nx σ h) := ps_pass.imp fun D σ H ⟨σa, h, R, rs, rh, q, k⟩ => k.nx _ _ _ _ q .refl rs rh
theorem ss_brk : PS X (.Break pos) (liftS X.F fun R σ h => R.bk σ h) := ps_break.imp fun D σ H ⟨σa, h, R, rs, rh, q, k⟩ => k.bk _ _ _ _ q .refl rs rh
theorem ss_cont : PS X (.Continue pos) (liftS X.F fun R σ h => R.ct σ h) := ps_continue.imp fun D σ H ⟨σa, h, R, rs, rh, q, k⟩ => k.ct _ _ _ _ q .refl rs rh
theorem ss_expr (hs : swapsWith e none pos.line X.env = pure false) (he : PE X e (lift X.F w)) : PS X (.Expr e pos) (liftS X.F fun R σ h => w σ h fun _ h1 => R.nx σ h1) := by
  refine (ps_expr he hs).imp fun D σ H ⟨σa, h, R, rs, rh, q, k⟩ => ?_
  exact lift_go rs rh q fun d h1 v H1 q1 f1 r1 rh1 rs1 => k.nx _ _ _ _ q1 f1 rs1 rh1
theorem ss_ret (he : PE X e (lift X.F w)) : PS X (.Return (some e) pos) (liftS X.F fun R σ h => w σ h R.rt) := by
  refine (ps_ret he).imp fun D σ H ⟨σa, h, R, rs, rh, q, k⟩ => ?_
  exact lift_go rs rh q fun d h1 v H1 q1 f1 r1 rh1 rs1 => k.rt _ _ _ _ q1 f1 r1 rh1
theorem ss_retN : PS X (.Return none pos) (liftS X.F fun R σ h => R.rt .non h) := ps_retN.imp fun D σ H ⟨σa, h, R, rs, rh, q, k⟩ => k.rt _ _ _ _ q .refl rfl rh
theorem ss_ife {ls rs' : List Stmt} (hc : PT X c (liftT X.F wc)) (ha : PSs X ls (liftS X.F ws)) (hb : PSs X rs' (liftS X.F ws2)) : PS X (.If c ls rs' pos) (liftS X.F fun R σ h => wc σ h fun d h1 => match d with
    | .bl b => (match b with
      | true => ws R σ h1
      | false => ws2 R σ h1)
    | _ => False) := by
  refine (ps_if hc ha hb).imp fun D σ H ⟨σa, h, R, rs, rh, q, k⟩ => ?_
  refine ⟨σa, h, _, rs, rh, q, fun d h' q1 => ?_⟩
  cases d with
  | bl b =>
    refine ⟨b, rfl, fun H' f rh' => ?_⟩
    cases b with
    | true => exact liftS_go (rs.kp (f.kp rh)) rh' q1 (k.go f)
    | false => exact liftS_go (rs.kp (f.kp rh)) rh' q1 (k.go f)
  | _ => exact q1.elim
theorem ss_whl (hp : PassesOwn (model X.prog X.w) X.A X.env X.xe) (hc : PT X c (liftT X.F wc)) (hb : PSs X ss (liftS X.F ws)) : PS X (.While c ss [] pos) (liftS X.F fun R σ h => ∃ W : Nat → M.St → M.AH → Prop, (∃ m, W m σ h) ∧ ∀ m σ h, W m σ h → wc σ h fun d h1 => match d with
    | .bl b => (match b with
      | true => ws { nx := fun σ' h' => ∃ m', m' < m ∧ W m' σ' h', ct := fun σ' h' => ∃ m', m' < m ∧ W m' σ' h', bk := R.nx, rt := R.rt } σ h1
      | false => R.nx σ h1)
    | _ => False) := by
  refine (ps_while hp hc hb).imp fun D σ H ⟨σa, h, R, rs, rh, ⟨W, ⟨m, w0⟩, step⟩, k⟩ => ?_
  refine ⟨fun m σ H' => ∃ σa h', RS X.F H' σ σa ∧ RH X.F H' h' ∧ Frm H h H' h' ∧ W m σa h', ⟨m, σa, h, rs, rh, .refl, w0⟩, ?_⟩
  rintro m σ H' ⟨σa, h', rs, rh, f, w⟩
  refine ⟨σa, h', _, rs, rh, step m σa h' w, fun d h1 q1 => ?_⟩
  cases d with
  | bl b =>
    refine ⟨b, rfl, fun H1 f1 rh1 => ?_⟩
    have rs1 := rs.kp (f1.kp rh)
    cases b with
    | true =>
      refine iteT ?_
      refine ⟨fun σ2 H2 => ∃ m', m' < m ∧ ∃ σa h', RS X.F H2 σ2 σa ∧ RH X.F H2 h' ∧ Frm H h H2 h' ∧ W m' σa h', fun σ2 H2 z => z, ?_⟩
      refine liftS_go rs1 rh1 q1 ⟨?_, k.rt.go (f.trans f1), ?_, ?_⟩
      · rintro σb h2 σ2 H2 ⟨m', hm, w'⟩ f2 rs2 rh2
        exact ⟨m', hm, σb, h2, rs2, rh2, (f.trans f1).trans f2, w'⟩
      · intro σb h2 σ2 H2 z f2 rs2 rh2
        exact k.nx _ _ _ _ z ((f.trans f1).trans f2) rs2 rh2
      · rintro σb h2 σ2 H2 ⟨m', hm, w'⟩ f2 rs2 rh2
        exact ⟨m', hm, σb, h2, rs2, rh2, (f.trans f1).trans f2, w'⟩
    | false =>
      refine iteF ?_
      exact k.nx _ _ _ _ q1 (f.trans f1) rs1 rh1
  | _ => exact q1.elim
theorem gOf_mono {t : M.Tgt} {Q1 Q2 : L2.St → Hp → Prop} {τ : L2.St} {v : V} (imp : ∀ s, Q1 s H → Q2 s H) (g : gOf K t v τ H Q1) : gOf K t v τ H Q2 := by
  have gn : ∀ {is : List Nat} {vs : List V} {τ : L2.St}, gNames is vs τ H Q1 → gNames is vs τ H Q2 := by
    intro is
    induction is with
    | nil => intro vs τ ⟨e, q⟩; exact ⟨e, imp _ q⟩
    | cons j js ih => intro vs τ ⟨v, r, e, q⟩; exact ⟨v, r, e, ih q⟩
  cases t with
  | nm j => exact imp _ g
  | tp ts => obtain ⟨ad, ys, e1, e2, e3, g⟩ := g; exact ⟨ad, ys, e1, e2, e3, gn g⟩
theorem ss_for {k : M.Itk} {t : M.Tgt} {wsrc : WA} {iter : Expr} (hp : PassesOwn (model X.prog X.w) X.A X.env X.xe) (hcalm : X.calm = true) (hi : PI X tg iter (liftI X.F k wsrc)) (hg : PG X tg (gOf X.F t)) (hb : PSs X ss (liftS X.F ws)) (hs : ∀ x, foldedSetIterable iter X.env x = pure x) :
    PS X (.For tg iter ss [] pos) (liftS X.F fun R σ h => wsrc σ h fun ds h1 => M.walk k ds h1 fun xs ok =>
      M.loopW xs ok (fun x σ h P => match M.setT t x σ with
        | some σ' => ws { nx := P, ct := P, bk := R.nx, rt := R.rt } σ' h
        | none => False) R.nx σ h1) := by
  refine (ps_for hp hcalm hi hg hb hs).imp fun D σ H ⟨σa, h, R, rs, rh, q, kk⟩ => ?_
  refine ⟨σa, h, _, rs, rh, q, fun ds h1 q1 => ⟨_, q1, fun xs ok J H1 lw f1 rh1 wk => ?_⟩⟩
  obtain ⟨P, p0, pok, step, done⟩ := lw
  let W : Nat → Nat → L2.St → Hp → Prop := fun i m σ2 H' => m = xs.length - i ∧ i ≤ xs.length ∧ ∃ σb h', RS X.F H' σ2 σb ∧ RH X.F H' h' ∧ Frm H1 h1 H' h' ∧ P i σb h'
  refine ⟨W, ⟨xs.length, by simp, Nat.zero_le _, σa, h1, rs.kp (f1.kp rh), rh1, .refl, p0⟩, ?_⟩
  rintro i m σ2 H' ⟨rfl, hi, σb, h', rs2, rh2, f2, p⟩
  have hok := pok i σb h' p
  obtain ⟨wg, wst, wy⟩ := wk i H' h' (f2.kp rh1) (f2.fz rh1) rh2 hok
  by_cases hlt : i < xs.length
  · refine .inr ⟨wg hlt, fun σ3 H3 => W (i + 1) (xs.length - (i + 1)) σ3 H3, fun σ3 H3 z => ⟨_, by omega, z⟩, fun x H3 y => ?_⟩
    obtain ⟨rx, f3, rh3⟩ := wy x H3 y _ (List.getElem?_eq_getElem hlt)
    have sp := step i _ σb h' (List.getElem?_eq_getElem hlt) p
    dsimp only at sp
    cases e : M.setT t xs[i] σb with
    | none => rw [e] at sp; exact sp.elim
    | some σc =>
      rw [e] at sp
      have rs3 := rs2.kp (f3.kp rh2)
      refine setT_ok e rs3 rx fun σ4 rs4 => ?_
      have ft := (f1.trans f2).trans f3
      refine liftS_go rs4 rh3 sp ⟨?_, kk.rt.go ft, ?_, ?_⟩
      · intro σd h4 σ5 H5 z f5 rs5 rh5
        exact ⟨rfl, by omega, σd, h4, rs5, rh5, (f2.trans f3).trans f5, z⟩
      · intro σd h4 σ5 H5 z f5 rs5 rh5
        exact kk.nx _ _ _ _ z (ft.trans f5) rs5 rh5
      · intro σd h4 σ5 H5 z f5 rs5 rh5
        exact ⟨rfl, by omega, σd, h4, rs5, rh5, (f2.trans f3).trans f5, z⟩
  · have e : i = xs.length := by omega
    subst e
    exact .inl ⟨wst (Nat.le_refl _), kk.nx _ _ _ _ (done _ _ p) (f1.trans f2) rs2 rh2⟩
theorem ss_asg {t : M.Tgt} (he : PE X e (lift X.F w)) (hg : PG X tg (gOf X.F t)) (hs : swapsWithSole [tg] e pos.line X.env = pure false) (hw : swappedStores [tg] e X.env = pure none) (h1 : (assignEach [tg] X.env).map (·.2) = [assign tg X.env]) :
    PS X (.Assign [tg] e pos) (liftS X.F fun R σ h => w σ h fun d h1 => match M.setT t d σ with | some σ' => R.nx σ' h1 | none => False) := by
  refine (ps_asg he hg hs hw h1).imp fun D σ H ⟨σa, h, R, rs, rh, q, k⟩ => ?_
  refine lift_go rs rh q fun d h1 v H1 q1 f1 r1 rh1 rs1 => ?_
  cases e1 : M.setT t d σa with
  | none => rw [e1] at q1; exact q1.elim
  | some σb =>
    rw [e1] at q1
    exact setT_ok e1 rs1 r1 fun σ' rs' => k.nx _ _ _ _ q1 f1 rs' rh1
theorem ss_six {o i : Expr} {wo wi : WE} {p' : Pos} (hu : X.A.units + 200 < cLine) (he : PE X e (lift X.F w)) (ho : PE X o (lift X.F wo)) (hi : PE X i (lift X.F wi))
    (ha : ∀ v, assign (.Subscript o i p') X.env v = (do
      let ov ← holding [v] (eval o X.env)
      let iv ← holding [v, ov] (eval i X.env)
      standAt p'
      holding [v, ov, iv] (setItem ov iv v)
      release [v, ov, iv] [])) (hs : swapsWithSole [.Subscript o i p'] e pos.line X.env = pure false) (hw : swappedStores [.Subscript o i p'] e X.env = pure none) (h1 : (assignEach [.Subscript o i p'] X.env).map (·.2) = [assign (.Subscript o i p') X.env]) :
    PS X (.Assign [.Subscript o i p'] e pos) (liftS X.F fun R σ h => w σ h fun v h1 => wo σ h1 fun x h2 => wi σ h2 fun y h3 => M.opSet x y v h3 fun h4 => R.nx σ h4) := by
  refine (ps_asg he (pg_sub ho hi (set_all (by omega)) ha) hs hw h1).imp fun D σ H ⟨σa, h, R, rs, rh, q, k⟩ => ?_
  refine lift_go rs rh q fun dv h1 v H1 q1 f1 r1 rh1 rs1 => lift_go rs1 rh1 q1 fun dx h2 x H2 q2 f2 r2 rh2 rs2 => lift_go rs2 rh2 q2 fun dy h3 y H3 q3 f3 r3 rh3 rs3 => ?_
  refine set_ok rh3 (r2.kp (f3.kp rh2)) r3 ((r1.kp (f2.kp rh1)).kp (f3.kp rh2)) q3 fun h4 H4 q4 f4 rh4 => ?_
  exact k.nx _ _ _ _ q4 (((f1.trans f2).trans f3).trans f4) (rs3.kp (f4.kp rh3)) rh4
def iop : M.Bop → Operator := bop
theorem op_iadd : OpR X (inplaceOp .Add) (fun x y H Q => (rI0 fun i j => .int (i + j)) x y H Q ∨ rAddS x y H Q) := iop_add.or iop_add_str
end
end Snd
end
section
/-! Sound6b: locked dicts and their walks; reversed; zip. -/
namespace Snd
open PySem L2 PySem.Spec PyProof.Rows
variable [FrameP]
section
variable {X : L2.Cx} {K : Fr} {σ : L2.St} {σa : M.St} {H H1 : Hp} {h h1 : M.AH} {w wa wb wc : WE} {Qa : M.VQ} {a b c e : Expr} {pos : Pos} {tg : Expr}
theorem walks_rev {p : Addr} {xs : List SD} {vs : List V} (e0 : H1 p = some (.lst vs)) (r0 : Reps K H1 xs vs) : Walks K H1 (Itv K p vs.length) xs.reverse (fun h' => h' p = some (.lst xs)) := by
  intro i H h kp fz rh ok
  obtain ⟨ws, e, r⟩ := rh p _ ok
  have ln := r.length
  have ln0 := r0.length
  refine ⟨fun hi => ⟨by simp at hi; omega, ws, ws[vs.length - 1 - i]'(by simp at hi; omega), SqL.of e, by simp⟩, fun hi => by simp at hi; show vs.length ≤ i; omega, ?_⟩
  rintro x H' ⟨rfl, y⟩ d hd
  have hi : i < xs.length := by have := (List.getElem?_eq_some_iff.mp hd).1; simpa using this
  rw [List.getElem?_reverse hi] at hd
  obtain ⟨v, h1, h2⟩ := r.get hd
  have := y ws (SqL.of e)
  rw [show vs.length - 1 - i = xs.length - 1 - i by omega, h1] at this
  cases this
  exact ⟨h2, .refl, rh⟩
theorem walks_revT {p : Addr} {xs : List SD} {vs : List V} (t : H1 p = some (.tup vs) ∨ KTup K p vs) (r : Reps K H1 xs vs) : Walks K H1 (RT.ItvT K p vs.length) xs.reverse (fun _ => True) := by
  intro i H h kp fz rh ok
  have ln := r.length
  have hs : SqT K H p vs := (t.imp (kp.1 _ _) id).imp .inl id
  refine ⟨fun hi => ⟨by simp at hi; omega, vs, vs[vs.length - 1 - i]'(by simp at hi; omega), hs, by simp⟩, fun hi => by simp at hi; show vs.length ≤ i; omega, ?_⟩
  rintro x H' ⟨rfl, y⟩ d hd
  have hi : i < xs.length := by have := (List.getElem?_eq_some_iff.mp hd).1; simpa using this
  rw [List.getElem?_reverse hi] at hd
  obtain ⟨v, h1, h2⟩ := (r.kp kp).get hd
  have := y vs hs
  rw [show vs.length - 1 - i = xs.length - 1 - i by omega, h1] at this
  cases this
  exact ⟨h2, .refl, rh⟩
theorem zipL_get : ∀ (xs ys : List SD) (i : Nat) (d : SD), (M.zipL xs ys)[i]? = some d → ∃ x y, xs[i]? = some x ∧ ys[i]? = some y ∧ d = .tup [x, y]
  | [], _, i, d, e => by simp [M.zipL] at e
  | _ :: _, [], i, d, e => by simp [M.zipL] at e
  | x :: xs, y :: ys, 0, d, e => by simp [M.zipL] at e; exact ⟨x, y, rfl, rfl, e.symm⟩
  | x :: xs, y :: ys, i + 1, d, e => by
    obtain ⟨a, b, h1, h2, h3⟩ := zipL_get xs ys i d (by simpa [M.zipL] using e)
    exact ⟨a, b, by simpa using h1, by simpa using h2, h3⟩
theorem zipL_len : ∀ (xs ys : List SD), (M.zipL xs ys).length = min xs.length ys.length
  | [], _ => by simp [M.zipL]
  | _ :: _, [] => by simp [M.zipL]
  | x :: xs, y :: ys => by simp [M.zipL, zipL_len xs ys]
theorem walks_zipT {p q : Addr} {xs ys : List SD} {vs ws : List V} (t1 : H1 p = some (.tup vs) ∨ KTup K p vs) (t2 : H1 q = some (.tup ws) ∨ KTup K q ws) (r1 : Reps K H1 xs vs) (r2 : Reps K H1 ys ws) : Walks K H1 (RZ.ItzT K p q) (M.zipL xs ys) (fun _ => True) := by
  intro i H h kp fz rh ok
  have ln1 := r1.length
  have ln2 := r2.length
  have lz := zipL_len xs ys
  have hs1 : SqT K H p vs := (t1.imp (kp.1 _ _) id).imp .inl id
  have hs2 : SqT K H q ws := (t2.imp (kp.1 _ _) id).imp .inl id
  refine ⟨fun hi => ⟨vs, ws, vs[i]'(by omega), ws[i]'(by omega), hs1, hs2, by simp, by simp⟩, fun hi => ⟨vs, ws, hs1, hs2, by omega⟩, ?_⟩
  rintro x H' ⟨T, y, z, rfl, hn, rfl, hy, hz⟩ d hd
  obtain ⟨d1, d2, g1, g2, rfl⟩ := zipL_get xs ys i d hd
  obtain ⟨v1, g3, g4⟩ := (r1.kp kp).get g1
  obtain ⟨v2, g5, g6⟩ := (r2.kp kp).get g2
  have e1 := hy vs hs1
  have e2 := hz ws hs2
  rw [g3] at e1; cases e1
  rw [g5] at e2; cases e2
  exact ⟨⟨T, _, rfl, .inl upd_same, Reps.cons (g4.kp (kp_new hn)) (.one (g6.kp (kp_new hn)))⟩, frm_hid hn, rh_hid rh hn⟩
section
variable {p : Addr} {od : Obj} {kvs : List (SD × SD)} {ps : List (Key × V)}
theorem pr_get (pr : Paired (PR K H R0) kvs ps) {i : Nat} {x : SD × SD} (e : kvs[i]? = some x) : ∃ q, ps[i]? = some q ∧ R0 x.1 q.1 ∧ Rep K H x.2 q.2 := by
  obtain ⟨y, h1, h2⟩ := LiI.paired_get pr e
  exact ⟨y, h1, h2.1, h2.2⟩
theorem R0.rep {d : SD} {k : Key} (r : R0 d k) : Rep K H d (kV k) := by
  obtain ⟨e, s⟩ := r
  cases d <;> simp [keyV] at e
  · subst e; exact rfl
  · subst e; exact ⟨rfl, s _ rfl⟩
theorem walks_keys (e0 : H1 p = some (.frz od (.dK ps))) (pr : Paired (PR K H1 R0) kvs ps) : Walks K H1 (Itk p od ps) (kvs.map (·.1)) (fun _ => True) := by
  intro i H h kp fz rh ok
  have ln := Paired.length pr
  have e := fz _ _ _ e0
  refine ⟨fun hi => ⟨e, by simp at hi; omega⟩, fun hi => ⟨e, by simp at hi; omega⟩, ?_⟩
  rintro x H' ⟨rfl, k, v, h1, rfl⟩ d hd
  rw [List.getElem?_map] at hd
  cases hk : kvs[i]? with
  | none => rw [hk] at hd; cases hd
  | some kv =>
    rw [hk] at hd
    cases hd
    obtain ⟨q, g1, g2, g3⟩ := pr_get pr hk
    rw [g1] at h1; cases h1
    exact ⟨g2.rep, .refl, rh⟩
theorem walks_vals (e0 : H1 p = some (.frz od (.dK ps))) (pr : Paired (PR K H1 R0) kvs ps) : Walks K H1 (Itd p od ps) (kvs.map (·.2)) (fun _ => True) := by
  intro i H h kp fz rh ok
  have ln := Paired.length pr
  have e := fz _ _ _ e0
  refine ⟨fun hi => ⟨e, by simp at hi; omega⟩, fun hi => ⟨e, by simp at hi; omega⟩, ?_⟩
  rintro x H' ⟨rfl, k, h1⟩ d hd
  rw [List.getElem?_map] at hd
  cases hk : kvs[i]? with
  | none => rw [hk] at hd; cases hd
  | some kv =>
    rw [hk] at hd
    cases hd
    obtain ⟨q, g1, g2, g3⟩ := pr_get pr hk
    rw [g1] at h1; cases h1
    exact ⟨g3.kp kp, .refl, rh⟩
theorem walks_items (e0 : H1 p = some (.frz od (.dK ps))) (pr : Paired (PR K H1 R0) kvs ps) : Walks K H1 (Iti p od ps) (kvs.map fun kv => .tup [kv.1, kv.2]) (fun _ => True) := by
  intro i H h kp fz rh ok
  have ln := Paired.length pr
  have e := fz _ _ _ e0
  refine ⟨fun hi => ⟨e, by simp at hi; omega⟩, fun hi => ⟨e, by simp at hi; omega⟩, ?_⟩
  rintro x H' ⟨T, k, v, h1, rfl, hn, rfl⟩ d hd
  rw [List.getElem?_map] at hd
  cases hk : kvs[i]? with
  | none => rw [hk] at hd; cases hd
  | some kv =>
    rw [hk] at hd
    cases hd
    obtain ⟨q, g1, g2, g3⟩ := pr_get pr hk
    rw [g1] at h1; cases h1
    exact ⟨⟨T, _, rfl, .inl upd_same, Reps.cons g2.rep (.one ((g3.kp kp).kp (kp_new hn)))⟩, frm_hid hn, rh_hid rh hn⟩
end
theorem walk_dct_inv {k : M.Itk} {ds : List SD} {f : List (SD × SD) → List SD} {QW : List SD → (M.AH → Prop) → Prop} (hk : ∀ d, M.walk k [d] h QW = match d with | .ref p => (match h p with | some (.rdct _ kvs) => QW (f kvs) fun _ => True | _ => False) | _ => False) {d : SD} (q : M.walk k [d] h QW) :
    ∃ p kd kvs, d = .ref p ∧ h p = some (.rdct kd kvs) ∧ QW (f kvs) fun _ => True := by
  rw [hk] at q
  cases d with
  | ref p =>
    simp only at q
    cases e : h p with
    | none => rw [e] at q; exact q.elim
    | some o => rw [e] at q; cases o with
      | rdct kd kvs => exact ⟨p, kd, kvs, rfl, e, q⟩
      | _ => exact q.elim
  | _ => exact False.elim q
theorem rdct_any {p : Addr} {kd : Nat} {kvs : List (SD × SD)} (o : ObRep K H p (.rdct kd kvs)) : ∃ (od : Obj) (ps : List (Key × V)), H p = some (.frz od (.dK ps)) ∧ Paired (PR K H R0) kvs ps := by
  match kd, o with
  | 0, o => exact rdct0.mp o
theorem i_keys (ha : PE X a (lift X.F wa)) : PI X tg a (liftI X.F .keys fun σ h Q => wa σ h fun d h1 => Q [d] h1) := by
  refine PI.imp' (pi_keys ha) fun σ H R ⟨σa, h, Qd, rs, rh, q, k⟩ => ?_
  refine lift_go rs rh q fun d h1 v H1 q1 f1 r1 rh1 _ => ?_
  obtain ⟨QW, hw, kk⟩ := k _ _ q1
  obtain ⟨p, kd, kvs, rfl, e1, hw2⟩ := walk_dct_inv (k := .keys) (ds := []) (f := fun kvs => kvs.map (·.1)) (fun d => by cases d <;> rfl) hw
  cases (show v = _ from r1)
  obtain ⟨od, ps, e2, pr⟩ := rdct_any (rh1 p _ e1)
  exact ⟨p, od, rfl, .inl ⟨ps, e2, kk _ _ _ _ hw2 f1 rh1 (walks_keys e2 pr)⟩⟩
theorem i_vals {apos cpos : Pos} (hbase : attributeBase a "values" X.env (eval a X.env) = eval a X.env) (hline : (apos.endLine == cpos.line) = true) (ha : PE X a (lift X.F wa)) :
    PI X tg (.Call (.Attribute a "values" apos) [] [] cpos) (liftI X.F .values fun σ h Q => wa σ h fun d h1 => Q [d] h1) := by
  refine PI.imp' (pi_values ha hbase hline) fun σ H R ⟨σa, h, Qd, rs, rh, q, k⟩ => ?_
  refine lift_go rs rh q fun d h1 v H1 q1 f1 r1 rh1 _ => ?_
  obtain ⟨QW, hw, kk⟩ := k _ _ q1
  obtain ⟨p, kd, kvs, rfl, e1, hw2⟩ := walk_dct_inv (k := .values) (ds := []) (f := fun kvs => kvs.map (·.2)) (fun d => by cases d <;> rfl) hw
  cases (show v = _ from r1)
  obtain ⟨od, ps, e2, pr⟩ := rdct_any (rh1 p _ e1)
  exact ⟨p, od, ps, rfl, e2, kk _ _ _ _ hw2 f1 rh1 (walks_vals e2 pr)⟩
theorem i_items {apos cpos tpos : Pos} {elts : List Expr} {kn : Nat} (hbase : attributeBase a "items" X.env (eval a X.env) = eval a X.env) (hline : (apos.endLine == cpos.line) = true) (ha : PE X a (lift X.F wa)) :
    PI X (.Tuple elts kn tpos) (.Call (.Attribute a "items" apos) [] [] cpos) (liftI X.F .items fun σ h Q => wa σ h fun d h1 => Q [d] h1) := by
  refine PI.imp' (pi_items ha hbase hline) fun σ H R ⟨σa, h, Qd, rs, rh, q, k⟩ => ?_
  refine lift_go rs rh q fun d h1 v H1 q1 f1 r1 rh1 _ => ?_
  obtain ⟨QW, hw, kk⟩ := k _ _ q1
  obtain ⟨p, kd, kvs, rfl, e1, hw2⟩ := walk_dct_inv (k := .items) (ds := []) (f := fun kvs => kvs.map fun kv => .tup [kv.1, kv.2]) (fun d => by cases d <;> rfl) hw
  cases (show v = _ from r1)
  obtain ⟨od, ps, e2, pr⟩ := rdct_any (rh1 p _ e1)
  exact ⟨p, od, ps, rfl, e2, kk _ _ _ _ hw2 f1 rh1 (walks_items e2 pr)⟩
theorem walks_revS {s : M.Sx} (ok : sOk s) : Walks K H1 (RX.Itx (sV s)) (s.map fun c => .str [c]).reverse (fun _ => True) := by
  intro i H h kp fz rh _
  have sz : (sV s).cps.size = s.length := by simp [sV]
  have ln : (s.map fun c => (.str [c] : SD)).reverse.length = s.length := by simp
  refine ⟨fun hi => by show i < (sV s).cps.size; rw [sz]; rw [ln] at hi; exact hi, fun hi => by show (sV s).cps.size ≤ i; rw [sz]; rw [ln] at hi; exact hi, ?_⟩
  rintro x H' ⟨rfl, c, hc, rfl⟩ d hd
  have hi : i < s.length := by rw [← ln]; exact (List.getElem?_eq_some_iff.mp hd).1
  rw [List.getElem?_reverse (by simpa using hi), List.getElem?_map, List.length_map] at hd
  rw [sz] at hc
  have e : s[s.length - 1 - i]? = some c := by
    rw [← Array.getElem?_toList, sV_cps] at hc
    exact hc
  rw [e] at hd
  simp only [Option.map_some, Option.some.injEq] at hd
  subst hd
  exact ⟨⟨rfl, fun z hz => by
    have : z = c := by simpa using hz
    subst this
    exact ok _ (List.mem_of_getElem? e)⟩, .refl, rh⟩
theorem i_rev {p : Pos} (hg : Gl X "reversed") (hm : X.mg "reversed" = none) (hs : starEach [a] X.env = (false, eval a X.env) :: starEach [] X.env) (ha : PE X a (lift X.F wa)) :
    PI X tg (.Call (.Name "reversed" p) [a] [] pos) (liftI X.F .rev fun σ h Q => wa σ h fun d h1 => Q [d] h1) := by
  refine PI.imp' (RX.pi_revX hg hm ha hs) fun σ H R ⟨σa, h, Qd, rs, rh, q, k⟩ => ?_
  refine lift_go rs rh q fun d h1 v H1 q1 f1 r1 rh1 _ => ?_
  obtain ⟨QW, hw, kk⟩ := k _ _ q1
  cases d with
  | tup xs =>
    obtain ⟨ad, vs, ev, t, rr⟩ := r1
    exact .inl ⟨ad, vs, ev, .inr ⟨t.imp .inl id, kk _ _ _ _ hw f1 rh1 (walks_revT t rr)⟩⟩
  | str s =>
    obtain ⟨l, hw⟩ := (show s.length ≤ M.LINE ∧ _ from hw)
    refine .inr ⟨sV s, r1.1, ?_, kk _ _ _ _ hw f1 rh1 (walks_revS r1.2)⟩
    have e1 : (sV s).length = s.length := sV_len s
    have : M.LINE = 16777216 := rfl
    omega
  | ref p =>
    simp only [M.walk] at hw
    cases e1 : h1 p with
    | none => rw [e1] at hw; exact hw.elim
    | some o => rw [e1] at hw; cases o with
      | lst xs =>
        obtain ⟨vs, e2, rr⟩ := rh1 p _ e1
        exact .inl ⟨p, vs, r1, .inl ⟨SqL.of e2, kk _ _ _ _ hw f1 rh1 (walks_rev e2 rr)⟩⟩
      | _ => exact hw.elim
  | _ => exact hw.elim
theorem walks_rngR (n : Int) : Walks K H1 (Itc (0 + (((n - 0).toNat : Nat) : Int) - 1) (-1) (n - 0).toNat) (M.rangeL 0 n).reverse (fun _ => True) := by
  intro i H h kp fz rh _
  have ln : (M.rangeL 0 n).reverse.length = (n - 0).toNat := by simp [M.rangeL]
  refine ⟨fun q => by show i < (n - 0).toNat; omega, fun q => by show (n - 0).toNat ≤ i; omega, ?_⟩
  rintro x H' ⟨rfl, rfl⟩ d hd
  have hi : i < (n - 0).toNat := by rw [← ln]; exact (List.getElem?_eq_some_iff.mp hd).1
  have lr : (M.rangeL 0 n).length = (n - 0).toNat := by simp [M.rangeL]
  rw [List.getElem?_reverse (by omega), lr] at hd
  simp only [M.rangeL, List.getElem?_map] at hd
  rw [List.getElem?_range (by omega)] at hd
  simp only [Option.map_some, Option.some.injEq] at hd
  subst hd
  have : (0 : Int) + (((n - 0).toNat : Nat) : Int) - 1 + ((i : Nat) : Int) * (-1) = 0 + (((n - 0).toNat - 1 - i : Nat) : Int) := by omega
  rw [this]
  exact ⟨rfl, .refl, rh⟩
theorem walk_rrng_inv {ds : List SD} {QW : List SD → (M.AH → Prop) → Prop} (q : M.walk .rrng ds h QW) : ∃ n, ds = [.int n] ∧ -(2 ^ 62) ≤ n ∧ n < 2 ^ 62 ∧ QW (M.rangeL 0 n).reverse fun _ => True := by
  match ds with
  | [] => exact False.elim q
  | [d] => cases d with
    | int n => exact ⟨n, rfl, q⟩
    | _ => exact False.elim q
  | d :: e :: r => cases d <;> exact False.elim q
theorem i_rrng {p p2 pos2 : Pos} (hg : Gl X "reversed") (hm : X.mg "reversed" = none) (hg2 : Gl X "range") (hm2 : X.mg "range" = none) (hs : starEach [a] X.env = (false, eval a X.env) :: starEach [] X.env) (ha : PE X a (lift X.F wa)) :
    PI X tg (.Call (.Name "reversed" p) [.Call (.Name "range" p2) [a] [] pos2] [] pos) (liftI X.F .rrng fun σ h Q => wa σ h fun d h1 => Q [d] h1) := by
  refine PI.imp' (pi_revR hg hm (prg_1 hg2 hm2 ha hs)) fun σ H R ⟨σa, h, Qd, rs, rh, q, k⟩ => ?_
  refine lift_go rs rh q fun d h1 v H1 q1 f1 r1 rh1 _ => ?_
  obtain ⟨QW, hw, kk⟩ := k _ _ q1
  obtain ⟨n, e, h1, h2, hw2⟩ := walk_rrng_inv hw
  cases e
  cases (show v = _ from r1)
  exact ⟨n, rfl, by omega, by omega, h1, h2, kk _ _ _ _ hw2 f1 rh1 (walks_rngR n)⟩
theorem walks_zipL {p q : Addr} {xs ys : List SD} : Walks K H1 (Itz K p q) (M.zipL xs ys) (fun h' => h' p = some (.lst xs) ∧ h' q = some (.lst ys)) := by
  intro i H h kp fz rh ⟨ok1, ok2⟩
  obtain ⟨vs, e1, r1⟩ := rh p _ ok1
  obtain ⟨ws, e2, r2⟩ := rh q _ ok2
  have ln1 := r1.length
  have ln2 := r2.length
  have lz := zipL_len xs ys
  have hs1 : SqL K H p vs := SqL.of e1
  have hs2 : SqL K H q ws := SqL.of e2
  refine ⟨fun hi => ⟨vs, ws, vs[i]'(by omega), ws[i]'(by omega), hs1, hs2, by simp, by simp⟩, fun hi => ⟨vs, ws, hs1, hs2, by omega⟩, ?_⟩
  rintro x H' ⟨T, y, z, rfl, hn, rfl, hy, hz⟩ d hd
  obtain ⟨d1, d2, g1, g2, rfl⟩ := zipL_get xs ys i d hd
  obtain ⟨v1, g3, g4⟩ := r1.get g1
  obtain ⟨v2, g5, g6⟩ := r2.get g2
  have f1 := hy vs hs1
  have f2 := hz ws hs2
  rw [g3] at f1; cases f1
  rw [g5] at f2; cases f2
  refine ⟨⟨T, _, rfl, .inl upd_same, Reps.cons (g4.kp (kp_new hn)) (.one (g6.kp (kp_new hn)))⟩, frm_hid hn, rh_hid rh hn⟩
theorem walk_zip_inv {ds : List SD} {QW : List SD → (M.AH → Prop) → Prop} (q : M.walk .zip ds h QW) : (∃ xs ys, ds = [.tup xs, .tup ys] ∧ QW (M.zipL xs ys) fun _ => True) ∨ ∃ p r xs ys, ds = [.ref p, .ref r] ∧ h p = some (.lst xs) ∧ h r = some (.lst ys) ∧ QW (M.zipL xs ys) fun h' => h' p = some (.lst xs) ∧ h' r = some (.lst ys) := by
  match ds with
  | [] => exact False.elim q
  | [d] => cases d <;> exact False.elim q
  | [d, e] =>
    cases d with
    | tup xs => cases e with
      | tup ys => exact .inl ⟨xs, ys, rfl, q⟩
      | _ => exact False.elim q
    | ref p => cases e with
      | ref r =>
        simp only [M.walk] at q
        split at q
        · rename_i xs ys e1 e2
          exact .inr ⟨p, r, xs, ys, rfl, e1, e2, q⟩
        · exact q.elim
      | _ => exact False.elim q
    | _ => exact False.elim q
  | d :: e :: f :: r => cases d <;> first | exact False.elim q | (cases e <;> exact False.elim q)
theorem i_zip {p tpos : Pos} {elts : List Expr} {kn : Nat} {wr : WA} (hg : Gl X "zip") (hm : X.mg "zip" = none) (ha : PA X [a, b] (liftA X.F wr)) (hs : starEach [a, b] X.env = (false, eval a X.env) :: starEach [b] X.env) (hpl : (backTo pos (starEach [b] X.env)).any (·.1) = false) :
    PI X (.Tuple elts kn tpos) (.Call (.Name "zip" p) [a, b] [] pos) (liftI X.F .zip wr) := by
  refine PI.imp' (RZ.pi_zipA hg hm ha hs hpl) fun σ H R ⟨σa, h, Qd, rs, rh, q, k⟩ => ?_
  refine ⟨σa, h, _, rs, rh, q, fun ds h1 vs H1 q1 f1 r1 rh1 => ?_⟩
  obtain ⟨QW, hw, kk⟩ := k _ _ q1
  rcases walk_zip_inv hw with ⟨xs, ys, rfl, hw2⟩ | ⟨p1, p2, xs, ys, rfl, g1, g2, hw2⟩
  case inr =>
    obtain ⟨v, w, rfl, rv, rw'⟩ := reps2 r1
    cases (show v = _ from rv)
    cases (show w = _ from rw')
    obtain ⟨vs, e1, _⟩ := rh1 p1 _ g1
    obtain ⟨ws, e2, _⟩ := rh1 p2 _ g2
    exact ⟨p1, p2, vs, ws, rfl, .inl ⟨SqL.of e1, SqL.of e2, kk _ _ _ _ hw2 f1 rh1 walks_zipL⟩⟩
  obtain ⟨v, w, rfl, ⟨a1, us, rfl, t1, s1⟩, ⟨a2, ws, rfl, t2, s2⟩⟩ := reps2 r1
  exact ⟨a1, a2, us, ws, rfl, .inr ⟨t1.imp .inl id, t2.imp .inl id, kk _ _ _ _ hw2 f1 rh1 (walks_zipT t1 t2 s1 s2)⟩⟩

/-! ### a dict locked for a while -/
theorem lockAt_inv {i : Nat} {f : Nat → Nat → List (SD × SD) → Prop} (q : M.lockAt σa i h f) : ∃ p kd kvs, σa[i]? = some (some (.ref p)) ∧ h p = some (.dct kd kvs) ∧ f p kd kvs := by
  unfold M.lockAt at q
  cases e : σa[i]? with
  | none => rw [e] at q; exact q.elim
  | some o => rw [e] at q; cases o with
    | none => exact q.elim
    | some d => cases d with
      | ref p =>
        simp only at q
        cases e1 : h p with
        | none => rw [e1] at q; exact q.elim
        | some o => rw [e1] at q; cases o with
          | dct kd kvs => exact ⟨p, kd, kvs, rfl, e1, q⟩
          | _ => exact q.elim
      | _ => exact q.elim
structure Lck (K : Fr) (H : Hp) (h : M.AH) (p : Addr) (kd : Nat) (kvs : List (SD × SD)) (ps : List (Key × V)) : Prop where
  e : H p = some (.dK ps)
  kp : ∀ od, Kp H (upd H p (.frz od (.dK ps)))
  rh : ∀ od, RH K (upd H p (.frz od (.dK ps))) (M.up h p (.rdct kd kvs))
  back : ∀ od H' h', Frm (upd H p (.frz od (.dK ps))) (M.up h p (.rdct kd kvs)) H' h' → RH K H' h' → H' p = some (.frz od (.dK ps)) ∧ Frm H h (upd H' p (.dK ps)) (M.up h' p (.dct kd kvs)) ∧ RH K (upd H' p (.dK ps)) (M.up h' p (.dct kd kvs)) ∧ Kp H' (upd H' p (.dK ps))
theorem lck {p : Addr} {kd : Nat} {kvs : List (SD × SD)} (rh : RH K H h) (e : h p = some (.dct kd kvs)) : ∃ ps, Lck K H h p kd kvs ps := by
  have z : kd = 0 := by
    have o := rh p _ e
    match kd, o with
    | 0, _ => rfl
  subst z
  · obtain ⟨ps, e1, pr⟩ := dct0.mp (rh p _ e)
    have kp : ∀ od, Kp H (upd H p (.frz od (.dK ps))) := fun od => kp_put rh e
    have rhl : ∀ od, RH K (upd H p (.frz od (.dK ps))) (M.up h p (.rdct 0 kvs)) := fun od => rh_put rh e (rdct0.mpr ⟨od, ps, upd_same, Paired.mapP pr fun _ _ z => ⟨z.1, z.2.kp (kp od)⟩⟩)
    refine ⟨ps, e1, kp, rhl, fun od H' h' f rh' => ?_⟩
    obtain ⟨f1, f2⟩ := f p _ upd_same (fun o z => by rw [up_same] at z; cases z; rfl)
    rw [up_same] at f2
    have kb : Kp H' (upd H' p (.dK ps)) := kp_put rh' f2
    obtain ⟨od2, ps2, e3, pr2⟩ := rdct0.mp (rh' p _ f2)
    rw [f1] at e3
    cases e3
    exact ⟨f1, frm_lock e rfl f, ⟨rp_put rh' f2 (dct0.mpr ⟨ps, upd_same, Paired.mapP pr2 fun _ _ z => ⟨z.1, z.2.kp kb⟩⟩), FrameP.c rh.fr (frm_lock e rfl f)⟩, kb⟩
theorem s_lock {i : Nat} (he : PE X e (lift X.F w)) : PE X e (lift X.F fun σ h Q => M.lockAt σ i h fun p kd kvs => w σ (M.up h p (.rdct kd kvs)) fun d h' => Q d (M.up h' p (.dct kd kvs))) := by
  refine (pe_lock he).imp fun σ H Q ⟨σa, h, Qa, rs, rh, q, k⟩ => ?_
  obtain ⟨p, kd, kvs, e0, e1, q⟩ := lockAt_inv q
  obtain ⟨ps, L⟩ := lck rh e1
  refine ⟨p, _, L.e, trivial, fun od => ?_⟩
  refine ⟨σa, _, _, rs.kp (L.kp od), L.rh od, q, fun d h' v H' q' f r rh' => ?_⟩
  obtain ⟨b1, b2, b3, b4⟩ := L.back od H' h' f rh'
  exact ⟨b1, k _ _ _ _ q' b2 (r.kp b4) b3⟩
theorem ss_lock {i : Nat} {st : Stmt} {ws : WS} (hs : PS X st (liftS X.F ws)) : PS X st (liftS X.F fun R σ h => M.lockAt σ i h fun p kd kvs => ws { nx := fun σ' h' => R.nx σ' (M.up h' p (.dct kd kvs)), rt := fun d h' => R.rt d (M.up h' p (.dct kd kvs)), bk := fun σ' h' => R.bk σ' (M.up h' p (.dct kd kvs)), ct := fun σ' h' => R.ct σ' (M.up h' p (.dct kd kvs)) } σ (M.up h p (.rdct kd kvs))) := by
  refine (ps_lock hs).imp fun D σ H ⟨σa, h, R, rs, rh, q, k⟩ => ?_
  obtain ⟨p, kd, kvs, e0, e1, q⟩ := lockAt_inv q
  obtain ⟨ps, L⟩ := lck rh e1
  refine ⟨p, _, L.e, trivial, fun od => ?_⟩
  refine liftS_go (rs.kp (L.kp od)) (L.rh od) q ⟨?_, ?_, ?_, ?_⟩
  · intro σb h' σ' H' z f rs' rh'
    obtain ⟨b1, b2, b3, b4⟩ := L.back od H' h' f rh'
    exact ⟨b1, k.nx _ _ _ _ z b2 (rs'.kp b4) b3⟩
  · intro d h' v H' z f r rh'
    obtain ⟨b1, b2, b3, b4⟩ := L.back od H' h' f rh'
    exact ⟨b1, k.rt _ _ _ _ z b2 (r.kp b4) b3⟩
  · intro σb h' σ' H' z f rs' rh'
    obtain ⟨b1, b2, b3, b4⟩ := L.back od H' h' f rh'
    exact ⟨b1, k.bk _ _ _ _ z b2 (rs'.kp b4) b3⟩
  · intro σb h' σ' H' z f rs' rh'
    obtain ⟨b1, b2, b3, b4⟩ := L.back od H' h' f rh'
    exact ⟨b1, k.ct _ _ _ _ z b2 (rs'.kp b4) b3⟩
end
end Snd
end
section
/-! Sound6c: min with default, or of a value, the tables of the module. -/
namespace Snd
open PySem L2 PySem.Spec PyProof.Rows
variable [FrameP]
section
variable {X : L2.Cx} {K : Fr} {σ : L2.St} {σa : M.St} {H H1 : Hp} {h h1 : M.AH} {w wa wb wc : WE} {Qa : M.VQ} {a b c e : Expr} {pos : Pos}
/-! ### min(xs, default=None) of numbers -/
def rMinN (K : Fr) : List V → List V → Hp → VK → Prop := fun vs zs H Q => ∃ (a : Addr) (ns : List Int), vs = [V.ref a] ∧ zs = [.non] ∧ SqL K H a (ns.map V.int) ∧ (ns = [] → Q .non H) ∧ ∀ m, m ∈ ns → (∀ y, y ∈ ns → m ≤ y) → Q (.int m) H
theorem ints_all {hp : Heap} : ∀ {us : List Value} {ns : List Int}, IntsAre us ns → ReadsAll hp us (ns.map PyData.int) []
  | _, _, .nil => .nil
  | _, _, .cons n t r => .cons (as := []) (.int n t) (ints_all r)
theorem fold_min : ∀ (ns : List Int) (n : Int), (ns.foldl min n ∈ n :: ns) ∧ ∀ y ∈ n :: ns, ns.foldl min n ≤ y
  | [], n => by simp
  | k :: r, n => by
    rw [List.foldl_cons]
    obtain ⟨h1, h2⟩ := fold_min r (min n k)
    refine ⟨?_, fun y hy => ?_⟩
    · rcases List.mem_cons.mp h1 with e | e
      · rw [e]
        rcases Int.le_total n k with l | l
        · rw [Int.min_eq_left l]; exact List.mem_cons_self
        · rw [Int.min_eq_right l]; exact List.mem_cons_of_mem _ List.mem_cons_self
      · exact List.mem_cons_of_mem _ (List.mem_cons_of_mem _ e)
    · have h3 := h2 _ List.mem_cons_self
      rcases List.mem_cons.mp hy with e | hy
      · subst e; exact Int.le_trans h3 (Int.min_le_left _ _)
      · rcases List.mem_cons.mp hy with e | hy
        · subst e; exact Int.le_trans h3 (Int.min_le_right _ _)
        · exact h2 y (List.mem_cons_of_mem _ hy)
theorem alike_ints (ns : List Int) : PySem.W.AlikeAll (ns.map PyData.int) := by
  refine ⟨fun x hx y hy => ?_, fun x hx => ?_⟩
  · obtain ⟨i, _, rfl⟩ := List.mem_map.mp hx
    obtain ⟨j, _, rfl⟩ := List.mem_map.mp hy
    rfl
  · obtain ⟨i, _, rfl⟩ := List.mem_map.mp hx
    exact fun z => nomatch z
theorem depth_ints : ∀ ns : List Int, PyData.depthAll (ns.map PyData.int) = 0
  | [] => rfl
  | n :: ns => by
    have := depth_ints ns
    rw [List.map_cons]
    simp only [PyData.depthAll, PyData.depth, this]
    rfl
theorem cr_minN (hc : X.calm = true) (hu : X.A.units + 200 < cLine) : CallRK X (.builtin "min") [Str.ofString "default"] (rMinN X.F) := by
  intro pins s σ H vs zs us ws Q I r rz h
  obtain ⟨a, ns, rfl, rfl, hs, q0, q⟩ := h
  obtain rfl := Vals.ref1 r
  obtain ⟨its, rv, hl, _⟩ := I.list hs
  have ez : ws = [Value.none] := by
    cases rz with
    | cons r t => cases t; cases (show _ = Value.none from r); rfl
  subst ez
  have hi := rv.ints
  refine PySem.W.min_list_default (xs := ns.map PyData.int) (as := []) (d := Value.none) (I.ok.hd hc) hl.isList (ints_all hi) (alike_ints ns) (by rw [depth_ints]; omega) (fun e0 h' tk hk => ?_) (fun y ys i v h' tk bs e1 _ rd hk => ?_)
  · exact ⟨.non, H, I.kept hk, rfl, q0 (by simpa using e0)⟩
  · cases ns with
    | nil => cases e1
    | cons n r =>
      rw [List.map_cons, List.cons.injEq] at e1
      obtain ⟨rfl, rfl⟩ := e1
      rw [PySem.W.minD_ints] at rd
      obtain ⟨h1, h2⟩ := fold_min r n
      cases rd
      exact ⟨.int _, H, I.kept hk, ⟨_, rfl⟩, q _ h1 h2⟩
theorem minD_inv {ds : List SD} (q : M.minD ds h Qa) : ∃ p xs ns, ds = [.ref p] ∧ h p = some (.lst xs) ∧ M.intsOf xs = some ns ∧ (ns = [] → Qa .non h) ∧ ∀ m, m ∈ ns → (∀ y, y ∈ ns → m ≤ y) → Qa (.int m) h := by
  obtain ⟨d, rfl, q⟩ := arg1_inv q
  obtain ⟨p, xs, rfl, e, q⟩ := aLst_inv q
  obtain ⟨ns, e2, q⟩ := aSome_inv q
  exact ⟨p, xs, ns, rfl, e, e2, q⟩
theorem s_mnd {p kp np : Pos} {j : Nat} {es : List Expr} {wr : WA} (hcalm : X.calm = true) (hu : X.A.units + 200 < cLine) (hg : Gl X "min") (hm : X.mg "min" = none)
    (he : starEach (e :: es) X.env = (false, eval e X.env) :: starEach es X.env) (hpl : (backTo pos (starEach (e :: es) X.env)).any (·.1) = false) (hr : PA X (e :: es) (liftA X.F wr)) :
    PE X (.Call (.Name "min" p) (e :: es) [⟨some "default", .Constant .none j np, kp⟩] pos) (lift X.F fun σ h Q => wr σ h fun ds h1 => M.minD ds h1 Q) := by
  refine (pe_callBK (ks := [Str.ofString "default"]) (cr_minN hcalm hu) hg hm (by decide +kernel) hr (pk_cons pe_non pk_nil) (by decide +kernel) (by decide +kernel) (by rw [he]; rfl) hpl (by rfl) (by rfl) (by rfl)).imp fun σ H Q ⟨σa, h, Qa, rs, rh, q, k⟩ => ?_
  refine liftA_go rs rh q fun ds h1 vs H1 q1 f1 r1 rh1 _ => ?_
  obtain ⟨pp, xs, ns, rfl, e1, e2, q0, q2⟩ := minD_inv q1
  obtain ⟨v, rfl, rv⟩ := reps1 r1
  cases (show v = _ from rv)
  obtain ⟨us, a1, r2⟩ := rh1 pp _ e1
  have := ints_rep e2 r2
  subst this
  exact ⟨pp, ns, rfl, rfl, SqL.of a1, fun z => (k.go f1).now rh1 (q0 z) rfl, fun m m1 m2 => (k.go f1).now rh1 (q2 m m1 m2) rfl⟩
/-! ### a or b, of None and numbers -/
theorem s_orv (ha : PE X a (lift X.F wa)) (hb : PE X b (lift X.F wb)) : PE X (.BoolOp .Or [a, b] pos) (lift X.F fun σ h Q => wa σ h fun x h1 => match x with
    | .non => wb σ h1 Q
    | .int i => (i ≠ 0 → Q (.int i) h1) ∧ (i = 0 → wb σ h1 Q)
    | _ => False) := by
  have one : PE X (.BoolOp .Or [b] pos) (lift X.F wb) := pe_one hb
  refine (pe_orT ha one).imp fun σ H Q ⟨σa, h, Qa, rs, rh, q, k⟩ => ?_
  refine lift_go rs rh q fun dx h1 x H1 q1 f1 r1 rh1 rs1 => ?_
  cases dx with
  | non =>
    cases (show x = _ from r1)
    exact ⟨false, rfl, ⟨σa, h1, Qa, rs1, rh1, q1, k.go f1⟩⟩
  | int i =>
    cases (show x = _ from r1)
    refine ⟨i != 0, rfl, ?_⟩
    by_cases e : i = 0
    · subst e
      exact ⟨σa, h1, Qa, rs1, rh1, q1.2 rfl, k.go f1⟩
    · rw [if_pos (by simpa using e)]
      exact (k.go f1).now rh1 (q1.1 e) rfl
  | _ => exact q1.elim
/-! ### slices of tuples, whole ones too -/
theorem slw_ok {dx : SD} {x : V} {lo hi : Option Int} {Q : VK} (rh : RH K H h) (rx : Rep K H dx x) (q : M.opSlW dx lo hi h Qa) (k : Kont K H h Qa Q) : rSlA K x lo hi H Q := by
  cases dx with
  | tup ds =>
    obtain ⟨a, vs, e, t, rs⟩ := rx
    subst e
    have ln := rs.length
    have q : Qa (.tup (M.cut ds lo hi)) h := q
    refine ⟨a, vs, rfl, t.imp .inl id, fun hw => ?_, fun _ p hn => k _ _ _ _ q (frm_hid hn) ⟨p, _, rfl, .inl upd_same, (cut_rep rs).kp (kp_new hn)⟩ (rh_hid rh hn)⟩
    have e : M.cut ds lo hi = ds := by
      rw [ln] at hw
      rw [cut_eq, hw.1, hw.2]
      simp
    rw [e] at q
    exact k.now rh q ⟨a, vs, rfl, t, rs⟩
  | _ => exact False.elim q
theorem s_slw {lo hi : Option Expr} {wl wh : WO} {p2 : Pos} (ha : PE X a (lift X.F wa)) (hl : PO X lo (liftO X.F wl)) (hh : PO X hi (liftO X.F wh)) :
    PE X (.Subscript a (.Slice lo hi none p2) pos) (lift X.F fun σ h Q => wa σ h fun x h1 => wl σ h1 fun l h2 => wh σ h2 fun u h3 => M.opSlW x l u h3 Q) := by
  refine (pe_slice sl_tupA ha hl hh).imp fun σ H Q ⟨σa, h, Qa, rs, rh, q, k⟩ => ?_
  refine lift_go rs rh q fun dx h1 x H1 q1 f1 r1 rh1 rs1 => ⟨σa, h1, _, rs1, rh1, q1, fun l h2 H2 q2 f2 rh2 => ⟨σa, h2, _, rs1.kp (f2.kp rh1), rh2, q2, fun u h3 H3 q3 f3 rh3 => ?_⟩⟩
  exact slw_ok rh3 ((r1.kp (f2.kp rh1)).kp (f3.kp rh2)) q3 (k.go ((f1.trans f2).trans f3))
/-! ### t[:0:-1] of tuples: the tail turned about -/
section
open PySem.Calls
variable {prog : Program} {w : World} {A : Around} {E : Value → Shared → Prop} {s : Shared}
theorem places_tl (n : Nat) : Builtin.Slice.slicePlaces ((n : Int) - 1) (min 0 ((n : Int) - 1)) (-1) = n - 1 := by
  unfold Builtin.Slice.slicePlaces
  have h1 : ¬ ((-1 : Int) > 0) := by omega
  simp only [h1, if_false]
  have e : (- -1 : Int) = 1 := by decide
  rw [e, Int.ediv_one]
  split <;> omega
theorem pick_all (ys : List Value) : (List.range ys.length).filterMap (fun m => ys[m]?) = ys := by
  have := PySem.W.krv_all ys.toArray
  simpa using this
theorem filt_congr {α β : Type} {f g : α → Option β} : ∀ {l : List α}, (∀ x ∈ l, f x = g x) → l.filterMap f = l.filterMap g
  | [], _ => rfl
  | x :: r, h => by
    rw [List.filterMap_cons, List.filterMap_cons, h x List.mem_cons_self, filt_congr fun y hy => h y (List.mem_cons_of_mem _ hy)]
theorem pick_tl (xs : Array Value) : ((List.range (xs.size - 1)).filterMap fun (m : Nat) => xs[(((xs.size : Int) - 1) + (m : Int) * -1).toNat]?).toArray = xs.toList.tail.reverse.toArray := by
  congr 1
  have l2 : xs.toList.tail.reverse.length = xs.size - 1 := by simp
  conv => rhs; rw [← pick_all xs.toList.tail.reverse, l2]
  refine filt_congr fun m hm => ?_
  have hm := List.mem_range.mp hm
  have l1 : xs.toList.tail.length = xs.size - 1 := by simp
  rw [List.getElem?_reverse (by omega), l1]
  have : (((xs.size : Int) - 1) + (m : Int) * -1).toNat = xs.size - 1 - m := by omega
  rw [this, List.getElem?_tail, ← Array.getElem?_toList]
  congr 1
  omega
theorem getItem_tuple_tl {t sl : Addr} {items : Array Value} {vl vu vs : Value} {Q : Value → Shared → Prop} (ht : IsTup s.heap t items) (hs : s.heap.IsSliceOf sl vl vu vs) (pl : IsPart vl none) (pu : IsPart vu (some 0)) (ps : IsPart vs (some (-1)))
    (h : Q (.ref s.heap.objs.size) { s with heap := s.heap.push { cls := .type "tuple", data := .seq items.toList.tail.reverse.toArray } })
    (hsz : items.size ≤ sizeLine) : wpAny (model prog w) A (getItem (.ref t) (.ref sl)) Q E s := by
  have htake : sizeOk (.seq items.toList.tail.reverse.toArray) := by
    show items.toList.tail.reverse.toArray.size ≤ sizeLine
    simp
    omega
  obtain ⟨os, hos, hcs, hds⟩ := id hs
  have hTs : s.TypeIs (.ref sl) "slice" := ⟨os, hos, hcs⟩
  unfold getItem
  try with_reducible refine wpAny_holding ?_
  first | refine wpAny_bind (wpAny_pure ?_) | skip
  refine wpAny_bind (wpAny_sequenceKey ht.typeIs (by decide) ?_)
  refine wpAny_bind (wpAny_callSpecial?_slot (name := Str.ofString "__getitem__") ht.typeIs PyProof.Rows.slot_tuple_getitem
    (wpAny_call_entry PyProof.Rows.slot_tuple_getitem ht.typeIs entry_tuple_getitem ?_ (args_tuple_getitem _ _)))
  show wpAny _ _ (Builtin.Tuple.tupleItemsOf (.ref t) >>= _) _ _ s
  refine wpAny_bind (tupleItemsOf_ ht ?_)
  refine wpAny_bind (wpAny_typeOf hTs ?_)
  rw [if_pos (by decide)]
  refine wpAny_bind ?_
  unfold Builtin.Slice.sliceApplied Builtin.Slice.sliceFields
  refine wpAny_bind (wpAny_bind (wpAny_field hos hds (x := vl) rfl (wpAny_bind (wpAny_field hos hds (x := vu) rfl (wpAny_bind (wpAny_field hos hds (x := vs) rfl (wpAny_pure ?_)))))))
  refine wpAny_bind (HT.slicePart_ ps ?_)
  show wpAny _ _ (if ((-1 : Int) == 0) = true then _ else _) _ _ s
  rw [if_neg (by decide)]
  refine wpAny_bind (HT.slicePart_ pl (wpAny_bind (HT.slicePart_ pu (wpAny_bind (wpAny_pure ?_)))))
  show wpAny _ _ (pure (((items.size : Int) - 1), (-1 : Int), Builtin.Slice.slicePlaces ((items.size : Int) - 1) (min 0 ((items.size : Int) - 1)) (-1))) _ _ s
  rw [places_tl]
  refine wpAny_pure ?_
  have hno : ¬ (((((items.size : Int) - 1)) == 0 && (-1 : Int) == 1 && (items.size - 1) == items.size) = true) := by
    simp
  show wpAny _ _ (if ((((items.size : Int) - 1)) == 0 && (-1 : Int) == 1 && (items.size - 1) == items.size) = true then _ else _) _ _ s
  rw [if_neg hno, pick_tl]
  first
    | exact wpAny_bind (m := Builtin.Tuple.tupleExact _) (wpAny_newObj_type (wpAny_pure ⟨_, rfl, wpAny_pure h⟩) htake)
    | exact wpAny_bind (m := Builtin.Tuple.tupleExact _) (wpAny_newObj_type (wpAny_bind (wpAny_pure (wpAny_pure ⟨_, rfl, wpAny_pure h⟩))) htake)
    | exact wpAny_bind (wpAny_bind (m := Builtin.Tuple.tupleExact _) (wpAny_newObj_type (wpAny_pure (wpAny_pure ⟨_, rfl, wpAny_pure h⟩)) htake))
    | exact wpAny_bind (wpAny_bind (m := Builtin.Tuple.tupleExact _) (wpAny_newObj_type (wpAny_pure ⟨_, rfl, wpAny_pure h⟩) htake))
end
theorem pe_tlr {k0 k1 : Nat} {te : TE} {p0 p1 p2 p3 pos : Pos} (he : PE X a te) : PE X (.Subscript a (.Slice none (some (.Constant (.int 0) k0 p0)) (some (.UnaryOp .USub (.Constant (.int 1) k1 p1) p2)) p3) pos) (fun σ H Q => te σ H fun x H1 => ∃ a xs, x = .ref a ∧ SqT X.F H1 a xs ∧ ∀ p, H1 p = none → Q (.ref p) (upd H1 p (.tup xs.tail.reverse))) := by
  refine ⟨fun pins s σ H Q I h => ?_⟩
  refine Subscript_ (thn (he.run pins s σ H _ I h) fun v s1 ⟨x, H1, I1, r1, q1⟩ => ?_)
  obtain ⟨a, xs, ex, hx, q⟩ := q1
  subst ex
  cases r1
  have hst : PO X (some (.UnaryOp .USub (.Constant (.int 1) k1 p1) p2)) (tPart (tUn (rU fun i => .int (-i)) (tC (.int 1)))) := po_some (pe_un un_neg pe_int)
  have hup : PO X (some (.Constant (.int 0) k0 p0)) (tPart (tC (.int 0))) := po_some pe_int
  refine wpAny_Slice (thn (po_none.run pins s1 σ H1 (fun o H2 => o = none ∧ H2 = H1) I1 ⟨rfl, rfl⟩) fun vl s2 ⟨l, H2, I2, pl, el, e2⟩ => ?_)
  subst el e2
  refine thn (hup.run pins s2 σ H2 (fun o H3 => o = some 0 ∧ H3 = H2) I2 ⟨0, rfl, rfl, rfl⟩) fun vu s3 ⟨u, H3, I3, pu, eu, e3⟩ => ?_
  subst eu e3
  refine thn (hst.run pins s3 σ H3 (fun o H4 => o = some (-1) ∧ H4 = H3) I3 ⟨1, rfl, -1, rfl, rfl, rfl⟩) fun vs s4 ⟨o, H4, I4, ps, eo, e4⟩ => ?_
  subst eo e4
  have I5 : Inv X pins σ H4 { s4 with heap := s4.heap.push { cls := .type "slice", data := .fields #[vl, vu, vs] } } := I4.kept (t' := s4.toks) fun b ob q => Heap.get?_push_of_some _ q
  obtain ⟨its, r, ht, hz⟩ := I5.tuple hx
  have hlen := r.length
  show wpAny (model X.prog X.w) X.A (subscriptTail _ (.Slice none (some (.Constant (.int 0) k0 p0)) (some (.UnaryOp .USub (.Constant (.int 1) k1 p1) p2)) p3) (.ref a) (.ref s4.heap.objs.size)) (EP X pins σ Q) X.xe { s4 with heap := s4.heap.push { cls := .type "slice", data := .fields #[vl, vu, vs] } }
  refine tail_any (ops := [.ref a, .ref s4.heap.objs.size]) ht.typeIs PyProof.Rows.slot_tuple_getitem.lookup ?_ (by with_unfolding_all rfl)
  refine getItem_tuple_tl ht (Heap.IsSliceOf.new _ vl vu vs) pl pu ps ?_ (by rw [List.size_toArray]; omega)
  refine ⟨.ref _, _, I5.laid (t' := s4.toks) (o := .tup xs.tail.reverse) (fun b ob q => Heap.get?_push_of_some _ q) (Nat.le_refl _) ?_, rfl, q _ (I5.hok.fresh (Nat.le_refl _))⟩
  have lt : xs.tail.reverse.length ≤ sizeLine := by simp; omega
  have vt : Vals xs.tail.reverse its.tail.reverse := by
    refine Vals.reverse ?_
    cases r with
    | nil => exact .nil
    | cons _ r => exact r
  exact ⟨lt, _, vt, IsTup.new _ _⟩
theorem Reps.tail : ∀ {ds : List SD} {vs : List V}, Reps K H ds vs → Reps K H ds.tail vs.tail
  | [], _, e => by subst e; rfl
  | _ :: _, _, ⟨w, r, e, _, b⟩ => by subst e; exact b
theorem s_tlr {k0 k1 : Nat} {p0 p1 p2 p3 : Pos} (ha : PE X a (lift X.F wa)) : PE X (.Subscript a (.Slice none (some (.Constant (.int 0) k0 p0)) (some (.UnaryOp .USub (.Constant (.int 1) k1 p1) p2)) p3) pos) (lift X.F fun σ h Q => wa σ h fun x h1 => M.aTup x fun xs => Q (.tup xs.tail.reverse) h1) := by
  refine (pe_tlr ha).imp fun σ H Q ⟨σa, h, Qa, rs, rh, q, k⟩ => ?_
  refine lift_go rs rh q fun dx h1 x H1 q1 f1 r1 rh1 rs1 => ?_
  cases dx with
  | tup ds =>
    obtain ⟨a, vs, e, t, r2⟩ := r1
    subst e
    have q1 : Qa (.tup ds.tail.reverse) h1 := q1
    refine ⟨a, vs, rfl, t.imp .inl id, fun p hn => ?_⟩
    exact k _ _ _ _ q1 (f1.trans (frm_hid hn)) ⟨p, _, rfl, .inl upd_same, (r2.tail.rev).kp (kp_new hn)⟩ (rh_hid rh1 hn)
  | _ => exact False.elim q1
/-! ### the tables of the module -/
theorem s_tix {x : Str} {p : Pos} {ad : Addr} {tab : List (M.Sx × M.Sx)} (hs : PlainIx b) (hg : Gl X x) (hm : X.mg x = some (.ref ad)) (hd : (x == ("__debug__" : Str)) = false) (ht : ∀ s t, tab.lookup s = some t → KDct X.F X.w ad (sV s) (.str (sV t)) ∧ sOk t) (hb : PE X b (lift X.F wb)) :
    PE X (.Subscript (.Name x p) b pos) (lift X.F fun σ h Q => wb σ h fun x h1 => match x with
    | .str s => (match tab.lookup s with
      | some t => Q (.str t) h1
      | none => False)
    | _ => False) := by
  refine (pe_ix ix_kdict (pe_glob (v := .ref ad) hg hm rfl hd) hb hs).imp fun σ H Q ⟨σa, h, Qa, rs, rh, q, k⟩ => ?_
  refine lift_go rs rh q fun dx h1 x H1 q1 f1 r1 rh1 rs1 => ?_
  cases dx with
  | str s =>
    cases (show x = _ from r1.1)
    dsimp only at q1
    cases e : tab.lookup s with
    | none => rw [e] at q1; exact q1.elim
    | some t =>
      rw [e] at q1
      obtain ⟨k1, k2⟩ := ht s t e
      exact ⟨ad, sV s, .str (sV t), rfl, rfl, k1, (k.go f1).now rh1 q1 ⟨rfl, k2⟩⟩
  | _ => exact q1.elim
theorem s_gint {x : Str} {p : Pos} {i : Int} (hg : Gl X x) (hm : ∃ t, X.mg x = some (.int i t)) (hd : (x == ("__debug__" : Str)) = false) : PE X (.Name x p) (lift X.F fun _ h Q => Q (.int i) h) := by
  obtain ⟨t, e⟩ := hm
  exact s_const (d := .int i) (pe_glob (v := .int i) hg e ⟨t, rfl⟩ hd) fun H => rfl
end
end Snd
end
section
/-! Sound6d: instances of the program's classes. -/
namespace Snd
open PySem L2 PySem.Spec PyProof.Rows
variable [FrameP]
section
variable {X : L2.Cx} {K : Fr} {σ : L2.St} {σa : M.St} {H H1 : Hp} {h h1 : M.AH} {w wa wo : WE} {wr : WA} {Qa : M.VQ} {a e o : Expr} {es : List Expr} {pos apos : Pos}
abbrev PI1 (K : Fr) (H : Hp) (C : Addr) := fun (x : M.Sx × SD) (p : Str × V) => p.1 = sV x.1 ∧ NoAttr K.K C p.1 ∧ Rep K H x.2 p.2
theorem ins_inv {d : SD} {f : Nat → M.Sx → List (M.Sx × SD) → Prop} (q : M.aIns d h f) : ∃ p c fs, d = .ref p ∧ h p = some (.ins c fs) ∧ f p c fs := by
  cases d with
  | ref p =>
    simp only [M.aIns] at q
    cases e : h p with
    | none => rw [e] at q; exact q.elim
    | some o =>
      rw [e] at q
      cases o with
      | ins c fs => exact ⟨p, c, fs, rfl, e, q⟩
      | _ => exact q.elim
  | _ => exact False.elim q
theorem pi_lookup {C : Addr} {fs : List (M.Sx × SD)} {ps : List (Str × V)} (r : Paired (PI1 K H C) fs ps) (f : M.Sx) :
    (fs.lookup f = none ∧ ps.lookup (sV f) = none) ∨ ∃ d v, fs.lookup f = some d ∧ ps.lookup (sV f) = some v ∧ NoAttr K.K C (sV f) ∧ Rep K H d v := by
  induction r with
  | nil => exact .inl ⟨rfl, rfl⟩
  | @cons x p xs ps hx t ih =>
    obtain ⟨g, d⟩ := x
    obtain ⟨g', v⟩ := p
    obtain ⟨e1, e2, e3⟩ := hx
    dsimp only at e1 e2 e3
    subst e1
    rw [List.lookup_cons, List.lookup_cons]
    by_cases z : f = g
    · subst z
      rw [beq_self_eq_true, beq_self_eq_true]
      exact .inr ⟨d, v, rfl, rfl, e2, e3⟩
    · have z1 : (f == g) = false := beq_eq_false_iff_ne.mpr z
      have z2 : (sV f == sV g) = false := beq_eq_false_iff_ne.mpr fun y => z (sV_inj y)
      rw [z1, z2]
      exact ih
theorem pi_put {C : Addr} {fs : List (M.Sx × SD)} {ps : List (Str × V)} (r : Paired (PI1 K H C) fs ps) {f : M.Sx} {d : SD} {v : V} (na : NoAttr K.K C (sV f)) (rd : Rep K H d v) : Paired (PI1 K H C) (M.putA f d fs) (putF (sV f) v ps) := by
  induction r with
  | nil => exact .cons ⟨rfl, na, rd⟩ .nil
  | @cons x p xs ps hx t ih =>
    obtain ⟨g, d'⟩ := x
    obtain ⟨g', v'⟩ := p
    obtain ⟨e1, e2, e3⟩ := hx
    dsimp only at e1 e2 e3
    subst e1
    unfold M.putA putF
    by_cases z : g = f
    · subst z
      rw [if_pos rfl, if_pos rfl]
      exact .cons ⟨rfl, e2, rd⟩ t
    · rw [if_neg z, if_neg fun y => z (sV_inj y)]
      exact .cons ⟨rfl, e2, e3⟩ ih
/-- e.f -/
theorem s_fld {f : M.Sx} {nm : Str} (hn : nm = sV f) (hb : attributeBase e nm X.env (eval e X.env) = eval e X.env) (ha : PE X e (lift X.F w)) :
    PE X (.Attribute e nm pos) (lift X.F fun σ h Q => w σ h fun x h1 => M.aIns x h1 fun _ _ fs => M.aSome (fs.lookup f) fun v => Q v h1) := by
  subst hn
  refine (pe_fld ha hb).imp fun σ H Q ⟨σa, h, Qa, rs, rh, q, k⟩ => ?_
  refine lift_go rs rh q fun dx h1 x H1 q1 f1 r1 rh1 rs1 => ?_
  obtain ⟨p, c, fs, rfl, e, q2⟩ := ins_inv q1
  cases (show x = _ from r1)
  obtain ⟨C, dx, ps, eH, mg, cl, pr⟩ := rh1 p _ e
  rcases pi_lookup pr f with ⟨l, _⟩ | ⟨d, v, l, l2, na, rv⟩
  · rw [l] at q2; exact q2.elim
  · rw [l] at q2
    exact ⟨p, C, dx, ps, v, rfl, eH, cl, na, l2, (k.go f1).now rh1 q2 rv⟩
/-- o.f = e -/
theorem s_sfld {c f : M.Sx} {nm : Str} {C : Addr} {p' : Pos} (hn : nm = sV f) (hm : X.mg (sV c) = some (.ref C)) (na : NoAttr X.K C (sV f)) (he : PE X e (lift X.F w)) (ho : PE X o (lift X.F wo)) (hs : swapsWith e (some (.Attribute o nm p')) pos.line X.env = pure false) :
    PS X (.Assign [.Attribute o nm p'] e pos) (liftS X.F fun R σ h => w σ h fun v h1 => wo σ h1 fun x h2 => M.aIns x h2 fun p c' fs => c' = c ∧ fs.length < 1000 ∧ R.nx σ (M.up h2 p (.ins c (M.putA f v fs)))) := by
  subst hn
  refine (ps_fld ho he hs).imp fun D σ H ⟨σa, h, R, rs, rh, q, k⟩ => ?_
  refine lift_go rs rh q fun dv h1 v H1 q1 f1 r1 rh1 rs1 => lift_go rs1 rh1 q1 fun dx h2 x H2 q2 f2 r2 rh2 rs2 => ?_
  obtain ⟨p, c', fs, rfl, e, rfl, hl, q3⟩ := ins_inv q2
  cases (show x = _ from r2)
  obtain ⟨C', dx, ps, eH, mg, cl, pr⟩ := rh2 p _ e
  rw [show X.F.mg = X.mg from rfl, hm] at mg
  cases mg
  have kp : Kp H2 (upd H2 p (.ins C dx (putF (sV f) v ps))) := kp_put rh2 e
  have n1 := Paired.length pr
  refine ⟨p, C, dx, ps, rfl, eH, cl, na, by omega, k.nx _ _ _ _ q3 ((f1.trans f2).trans (frm_put e)) (rs2.kp kp) (rh_put rh2 e ⟨C, dx, _, upd_same, hm, cl, Paired.mapP (pi_put pr na (r1.kp (f2.kp rh1))) fun _ _ z => ⟨z.1, z.2.1, z.2.2.kp kp⟩⟩)⟩
theorem meth_ht {env : Env} {nm : Str} {args : List Expr} (hbase : attributeBase o nm env (eval o env) = eval o env)
    (hfew : ((backTo pos (starEach args env)).all (fun x => !x.1) && (backToKw pos (keywordEach [] env)).all (fun x => x.1.isSome)
      && decide (args.length + ([] : List Keyword).length + (if ([] : List Keyword).isEmpty then 0 else 1) < 30)) = true) (hline : (apos.endLine == pos.line) = true) :
    ∃ pl, eval (.Call (.Attribute o nm apos) args [] pos) env = (do
      let ov ← eval o env
      standAt apos.atName
      let (f, first) ← holding [ov] (getMethod ov nm pl)
      callWith pos f first (backTo pos (starEach args env)) (backToKw pos (keywordEach [] env))) := by
  rw [arm_eval_Call, hbase]
  have hform : methodCallForm (args.length + ([] : List Keyword).length) (backTo pos (starEach args env)) (backToKw pos (keywordEach [] env)) = true := hfew
  have hpos : methodCallPos true o env apos pos = pure pos := by unfold methodCallPos; simp [hline]
  unfold methodCall
  rw [hform, hpos]
  exact ⟨_, rfl⟩
/-- o.m(..) -/
theorem s_mcall {P : M.Prog} {n : Nat} {c m : M.Sx} {nm : Str} {C fa : Addr} {fd : FuncData} {ps : List Str} {ex : M.St → M.XP} (hn : nm = sV m) (hm : X.mg (sV c) = some (.ref C)) (cl : Cls X.K C) (me : Meth X.K C (sV m) fa)
    (F : FnX X.prog X.w X.F X.mg X.base (n + 2) fa fd ps (spC X.F P n (M.metN c m))) (hgd : X.A.guards = some []) (tk : Takes X (WXx X.F ex)) (hr : Room (n + 2) X.A) (hb : Binds X.F fd ps [])
    (hbase : attributeBase o nm X.env (eval o X.env) = eval o X.env)
    (hfew : ((backTo pos (starEach (e :: es) X.env)).all (fun x => !x.1) && (backToKw pos (keywordEach [] X.env)).all (fun x => x.1.isSome)
      && decide ((e :: es).length + ([] : List Keyword).length + (if ([] : List Keyword).isEmpty then 0 else 1) < 30)) = true) (hline : (apos.endLine == pos.line) = true)
    (he : starEach (e :: es) X.env = (false, eval e X.env) :: starEach es X.env) (hpl : (backTo pos (starEach es X.env)).any (·.1) = false) (ho : PE X o (lift X.F wo)) (ha : PA X (e :: es) (liftA X.F wr)) :
    PE X (.Call (.Attribute o nm apos) (e :: es) [] pos) (lift X.F fun σ h Q => wo σ h fun x h1 => M.aIns x h1 fun p c' fs => c' = c ∧ fs.lookup m = none ∧ wr σ h1 fun ds h2 => M.run P n (M.metN c m) (.ref p :: ds) h2 Q (ex σ)) := by
  subst hn
  obtain ⟨pl, ht⟩ := meth_ht hbase hfew hline
  refine (pe_mX (pl := pl) ho cl me F hgd hr hb tk ha he hpl ht).imp fun σ H Q ⟨σa, h, Qa, rs, rh, q, k⟩ => ?_
  refine lift_go rs rh q fun dx h1 x H1 q1 f1 r1 rh1 rs1 => ?_
  obtain ⟨p, c', fs, rfl, e, rfl, l, q3⟩ := ins_inv q1
  cases (show x = _ from r1)
  obtain ⟨C', dx, ps', eH, mg, _, pr⟩ := rh1 p _ e
  rw [show X.F.mg = X.mg from rfl, hm] at mg
  cases mg
  rcases pi_lookup pr m with ⟨_, l2⟩ | ⟨_, _, l', _⟩
  · refine ⟨p, dx, ps', rfl, eH, l2, liftA_go rs1 rh1 q3 fun ds h2 vs H2 q4 f2 r2 rh2 rs2 => ?_⟩
    exact ⟨.ref p :: ds, h2, Qa, ex σa, ⟨_, _, rfl, rfl, by rw [List.append_nil]; exact r2⟩, rh2.f, q4, (k.go (f1.trans f2)).pl rh2, kontX_at rs2 rh2⟩
  · rw [l] at l'; cases l'
theorem s_mcall0 {P : M.Prog} {n : Nat} {c m : M.Sx} {nm : Str} {C fa : Addr} {fd : FuncData} {ps : List Str} {ex : M.St → M.XP} (hn : nm = sV m) (hm : X.mg (sV c) = some (.ref C)) (cl : Cls X.K C) (me : Meth X.K C (sV m) fa)
    (F : FnX X.prog X.w X.F X.mg X.base (n + 2) fa fd ps (spC X.F P n (M.metN c m))) (hgd : X.A.guards = some []) (tk : Takes X (WXx X.F ex)) (hr : Room (n + 2) X.A) (hb : Binds X.F fd ps []) (hbase : attributeBase o nm X.env (eval o X.env) = eval o X.env) (hline : (apos.endLine == pos.line) = true) (ho : PE X o (lift X.F wo)) :
    PE X (.Call (.Attribute o nm apos) [] [] pos) (lift X.F fun σ h Q => wo σ h fun x h1 => M.aIns x h1 fun p c' fs => c' = c ∧ fs.lookup m = none ∧ M.run P n (M.metN c m) [.ref p] h1 Q (ex σ)) := by
  subst hn
  obtain ⟨pl, ht⟩ := meth_ht (args := []) hbase rfl hline
  refine (pe_mX0 (pl := pl) ho cl me F hgd hr hb tk ht).imp fun σ H Q ⟨σa, h, Qa, rs, rh, q, k⟩ => ?_
  refine lift_go rs rh q fun dx h1 x H1 q1 f1 r1 rh1 rs1 => ?_
  obtain ⟨p, c', fs, rfl, e, rfl, l, q3⟩ := ins_inv q1
  cases (show x = _ from r1)
  obtain ⟨C', dx, ps', eH, mg, _, pr⟩ := rh1 p _ e
  rw [show X.F.mg = X.mg from rfl, hm] at mg
  cases mg
  rcases pi_lookup pr m with ⟨_, l2⟩ | ⟨_, _, l', _⟩
  · exact ⟨p, dx, ps', rfl, eH, l2, ⟨[.ref p], h1, Qa, ex σa, ⟨_, _, rfl, rfl, rfl⟩, rh1.f, q3, (k.go f1).pl rh1, kontX_at rs1 rh1⟩⟩
  · rw [l] at l'; cases l'
/-- what a new instance is -/
theorem new_spec {P : M.Prog} {m : Nat} {c : M.Sx} {C : Addr} {xx : M.XP} {Q : VK} {ds : List SD} {vs : List V} {x dx : Addr} (hP : P (M.mkN c) = none) (hm : K.mg (sV c) = some (.ref C)) (cl : Cls K.K C) (rh : RP K H h) (r : Reps K H ds vs) (q : M.run P (m + 1) (M.mkN c) ds h Qa xx) (k : KontP K H h Qa Q) {E : XK} (kx : KontX K H h xx E)
    (nx : H x = none) (nd : H dx = none) (ne : dx ≠ x) : spC K P m (M.metN c M.sInit) (.ref x :: (vs ++ [])) (upd (upd H dx (.own x)) x (.ins C dx [])) (fun v H2 => v = .non ∧ Q (.ref x) H2) E := by
  simp only [M.run] at q
  rw [hP] at q
  have n2 : (upd H dx (.own x)) x = none := by rw [upd_ne ne.symm]; exact nx
  have f1 : Frm H h (upd H dx (.own x)) h := frm_hid nd
  letI : FrameP := noFrame
  have rh1 : RH K (upd H dx (.own x)) h := rh_hid ⟨rh, trivial⟩ nd
  have rh2 : RH K (upd (upd H dx (.own x)) x (.ins C dx [])) (M.up h x (.ins c [])) := rh_new rh1 n2 ⟨C, dx, [], upd_same, hm, cl, .nil⟩
  refine ⟨.ref x :: ds, _, _, xx, ⟨_, _, rfl, rfl, ?_⟩, rh2.f, q x (RH.none (⟨rh, trivial⟩ : RH K H h) nx), fun d h' v H' ⟨ed, q'⟩ f rv rh' => ⟨?_, k _ h' _ H' q' ((f1.trans (frm_new n2)).trans f) rfl rh'⟩, fun c' fs h' H' cls d hx kp rh' xd => kx c' fs h' H' cls d hx ((f1.trans (frm_new n2)).trans kp) rh' xd⟩
  · rw [List.append_nil]
    exact (r.kp (kp_new nd)).kp (kp_new n2)
  · subst ed; exact rv
theorem s_new {P : M.Prog} {m : Nat} {c : M.Sx} {x : Str} {C fa : Addr} {fd : FuncData} {ps : List Str} {ex : M.St → M.XP} {p : Pos} (hP : P (M.mkN c) = none) (hx : x = sV c) (hm : X.mg (sV c) = some (.ref C)) (cl : Cls X.K C) (mk : Mk X.K C fa)
    (F : FnX X.prog X.w X.F X.mg X.base (m + 2) fa fd ps (spC X.F P m (M.metN c M.sInit))) (hgd : X.A.guards = some []) (tk : Takes X (WXx X.F ex)) (hr : Room (m + 3) X.A) (hb : Binds X.F fd ps []) (hg : Gl X x) (hdb : (x == ("__debug__" : Str)) = false)
    (he : starEach (e :: es) X.env = (false, eval e X.env) :: starEach es X.env) (hpl : (backTo pos (starEach es X.env)).any (·.1) = false) (ha : PA X (e :: es) (liftA X.F wr)) :
    PE X (.Call (.Name x p) (e :: es) [] pos) (lift X.F fun σ h Q => wr σ h fun ds h1 => M.run P (m + 1) (M.mkN c) ds h1 Q (ex σ)) := by
  subst hx
  refine (pe_nX mk F hgd hr hg hm hb tk ha hdb he hpl).imp fun σ H Q ⟨σa, h, Qa, rs, rh, q, k⟩ => ?_
  refine liftA_go rs rh q fun ds h1 vs H1 q1 f1 r1 rh1 rs1 => ?_
  exact fun x dx nx nd ne => new_spec (K := X.F) hP hm cl rh1.f r1 q1 ((k.go f1).pl rh1) (kontX_at rs1 rh1) nx nd ne
theorem s_new0 {P : M.Prog} {m : Nat} {c : M.Sx} {x : Str} {C fa : Addr} {fd : FuncData} {ps : List Str} {ex : M.St → M.XP} {p : Pos} (hP : P (M.mkN c) = none) (hx : x = sV c) (hm : X.mg (sV c) = some (.ref C)) (cl : Cls X.K C) (mk : Mk X.K C fa)
    (F : FnX X.prog X.w X.F X.mg X.base (m + 2) fa fd ps (spC X.F P m (M.metN c M.sInit))) (hgd : X.A.guards = some []) (tk : Takes X (WXx X.F ex)) (hr : Room (m + 3) X.A) (hb : Binds X.F fd ps []) (hg : Gl X x) (hdb : (x == ("__debug__" : Str)) = false) :
    PE X (.Call (.Name x p) [] [] pos) (lift X.F fun σ h Q => M.run P (m + 1) (M.mkN c) [] h Q (ex σ)) := by
  subst hx
  refine (pe_nX0 mk F hgd hr hg hm hb tk hdb).imp fun σ H Q ⟨σa, h, Qa, rs, rh, q, k⟩ => ?_
  exact fun x dx nx nd ne => new_spec (K := X.F) (ds := []) (vs := []) hP hm cl rh.f rfl q (k.pl rh) (kontX_at rs rh) nx nd ne
end
end Snd
end
section
/-! Sound6e: the sum of a dict's values. -/
namespace Snd
open PySem L2 PySem.Spec PyProof.Rows
variable [FrameP]
def valO (p d : Addr) : HO := .ext fun h => h.IsValuesView p d
theorem valO_ok {P : Program} {w : World} {H : Hp} {h : Heap} {p d : Addr} (e : h.get? p = some { cls := .type "dict_values", data := .fields #[.ref d] }) : ObjOk P w H h p (valO p d) :=
  ⟨⟨_, e, rfl, rfl⟩, ⟨_, e⟩, fun h1 h2 x k => let ⟨o, ho, r⟩ := x; ⟨o, k o ho, r⟩⟩
section
variable {X : L2.Cx}
def rValsK : V → List V → Hp → VK → Prop := fun x xs H Q => ∃ (a : Addr) (kvs : List (Key × V)), x = .ref a ∧ xs = [] ∧ H a = some (.dK kvs) ∧ ∀ p, H p = none → Q (.ref p) (upd H p (valO p a))
theorem mt_valsK : MtR X "dict.values" rValsK := by
  intro pins s σ H x xs v us Q I rx rxs h
  obtain ⟨a, kvs, rfl, rfl, ha, q⟩ := h
  cases rx
  cases rxs
  obtain ⟨z, hd, vs, rel, dd⟩ := dk_of I.hok ha
  refine call_meetsIn PySem.F.slot_dict_values dd.mapOf.typeIs PySem.F.entry_dict_values (PySem.F.args_dict_values_1 _) (meets_dict_values (mixKind X.prog X.w) a hd) ⟨⟨vs, dd⟩, ?_⟩
  have hf : H s.heap.objs.size = none := I.hok.fresh (Nat.le_refl _)
  exact ⟨.ref s.heap.objs.size, upd H s.heap.objs.size (valO s.heap.objs.size a), I.laid (t' := s.toks) (fun b u e => Heap.get?_push_of_some _ e) (Nat.le_refl _) (valO_ok (Heap.get?_push_size _ rfl)), rfl, q _ hf⟩
theorem kdu_sum0 {prog : Program} {w : World} {A : Around} {E : Value → Shared → Prop} {s : Shared} {T : String} {r d : Addr} {n : Nat} {P : Nat → Value → Prop} {OK : Heap → Prop} {Q : Value → Shared → Prop} (K : PySem.W.KdlSrc prog w T r d n P OK) (hh : A.handled = none) (hok : OK s.heap) (val : Nat → Int) (hval : ∀ (i : Nat) (v : Value), P i v → ∃ t : Tok, v = Value.int (val i) t)
    (h : ∀ (h' : Heap) (tk : Nat) (t' : Tok), (∀ b o, s.heap.get? b = some o → h'.get? b = some o) → Q (.int (preSum val n) t') { s with heap := h', toks := tk }) :
    wpAny (model prog w) A (call (.builtin "sum") [.ref r]) Q E s := by
  refine call_sum_walkAnyS ?_
  obtain ⟨oI, St, hit, W, st⟩ := K.iter A.in1 s hh hok
  refine hit _ _ ⟨s.heap.objs.size, _, _, _, n, P, _, val, rfl, W.toS, st, fun b hb => ?_, hval, fun s' t' hm => ?_⟩
  · show b < (s.heap.push oI).objs.size
    rw [size_push']
    rcases List.mem_cons.mp hb with e | hb
    · rw [e]; exact Nat.lt_succ_self _
    · rw [List.mem_singleton.mp hb]; exact Nat.lt_succ_of_lt (K.there _ hok).2
  · have hk : ∀ b o, s.heap.get? b = some o → s'.heap.get? b = some o := fun b o e =>
      hm.heap b o (fun hI => absurd (Heap.lt_size e) (by rw [List.mem_singleton.mp hI]; exact Nat.lt_irrefl _)) (Heap.get?_push_of_some _ e)
    rw [Moved.eq_with hm]
    exact h s'.heap s'.toks t' hk
theorem pre_sum : ∀ ns : List Int, preSum (fun i => (ns[i]?).getD 0) ns.length = ns.sum := by
  have key : ∀ (ns : List Int) (j : Nat), j ≤ ns.length → preSum (fun i => (ns[i]?).getD 0) j = (ns.take j).sum := by
    intro ns j
    induction j with
    | zero => intro _; simp [preSum]
    | succ j ih =>
      intro hj
      have lj : j < ns.length := by omega
      rw [preSum, ih (by omega), List.take_add_one, List.getElem?_eq_getElem lj, List.sum_append]
      simp
  intro ns
  rw [key ns _ (Nat.le_refl _), List.take_length]
theorem kv_at : ∀ {kvs : List (Key × V)} {vs : List (Key × Value)} {ns : List Int} {i : Nat} {k : Key} {v : Value}, KV kvs vs → kvs.map (·.2) = ns.map V.int → vs[i]? = some (k, v) → ∃ t, v = Value.int ((ns[i]?).getD 0) t
  | _, _, _, i, k, v, .nil, _, e => by simp at e
  | _, _, [], _, _, _, .cons _ _, h, _ => by simp at h
  | _, _, n :: ns, 0, k, v, .cons a b, h, e => by
    simp at e h
    subst e
    have := a.2
    rw [h.1] at this
    exact this
  | _, _, n :: ns, i + 1, k, v, .cons a b, h, e => by
    simp only [List.map_cons, List.cons.injEq] at h
    obtain ⟨t, ht⟩ := kv_at (i := i) b h.2 (by simpa using e)
    exact ⟨t, by simpa using ht⟩
def rSumV : List V → Hp → VK → Prop := fun xs H Q => ∃ (p a : Addr) (kvs : List (Key × V)) (ns : List Int), xs = [.ref p] ∧ H p = some (valO p a) ∧ H a = some (.dK kvs) ∧ kvs.map (·.2) = ns.map V.int ∧ Q (.int ns.sum) H
theorem cr_sumV (hc : X.calm = true) : CallR X (.builtin "sum") rSumV := by
  intro pins s σ H xs us Q I r h
  obtain ⟨p, a, kvs, ns, rfl, hv, ha, hn, q⟩ := h
  obtain ⟨hview, _⟩ := I.hok p _ hv
  obtain ⟨z, hd, vs, rel, dd⟩ := dk_of I.hok ha
  obtain ⟨ep, hat⟩ := dd.dictAt
  rw [Vals.ref1 r]
  have l1 : kvs.length = vs.length := Paired.length rel
  have l2 : kvs.length = ns.length := by simpa using congrArg List.length hn
  refine kdu_sum0 (PySem.W.kdl_values (knd := mixKind X.prog X.w) (kvs := vs) (ep := ep)) (I.ok.hd hc) ⟨hview, hat⟩ (fun i => (ns[i]?).getD 0) (fun i v ⟨k, e⟩ => kv_at rel hn e) fun h' tk t' hk => ?_
  rw [← l1, l2, pre_sum]
  exact ⟨.int _, H, I.kept hk, ⟨_, rfl⟩, q⟩
end
section
variable {X : L2.Cx} {wa : WE} {y : Expr} {p pos apos cpos : Pos}
theorem ints_vals {K : Fr} {H : Hp} : ∀ {kvs : List (SD × SD)} {ps : List (Key × V)} {ns : List Int}, Paired (PR K H R0) kvs ps → M.intsOf (kvs.map (·.2)) = some ns → ps.map (·.2) = ns.map V.int
  | _, _, ns, .nil, h => by
    simp [M.intsOf] at h
    subst h
    rfl
  | _, _, ns, .cons (a := x) (b := q) a b, h => by
    simp only [List.map_cons] at h ⊢
    obtain ⟨k, d⟩ := x
    cases d <;> simp [M.intsOf] at h
    obtain ⟨ms, e1, rfl⟩ := h
    have := ints_vals b e1
    rw [this, show q.2 = _ from a.2]
    rfl
/-- sum(y.values()) -/
theorem s_smv {x : Str} (hx : x = ("sum" : Str)) (hcalm : X.calm = true) (hg : Gl X x) (hm : X.mg x = none) (hbase : attributeBase y "values" X.env (eval y X.env) = eval y X.env) (hline : (apos.endLine == cpos.line) = true) (ha : PE X y (lift X.F wa)) :
    PE X (.Call (.Name x p) [.Call (.Attribute y "values" apos) [] [] cpos] [] pos) (lift X.F fun σ h Q => wa σ h fun d h1 => M.aVals d h1 fun kvs => M.aSome (M.intsOf (kvs.map (·.2))) fun ns => Q (.int ns.sum) h1) := by
  subst hx
  refine (pe_callB (cr_sumV hcalm) hg hm PyProof.Rows.boot_sum (pa_cons (pe_bm0 PySem.F.plainAttrs_dict PySem.F.slot_dict_values PySem.F.type_dict_values mt_valsK ha hbase hline) pa_nil) (by decide +kernel) (by decide +kernel) rfl rfl).imp fun σ H Q ⟨σa, h, Qa, rs, rh, q, k⟩ => ?_
  refine lift_go rs rh q fun d h1 v H1 q1 f1 r1 rh1 rs1 => ?_
  cases d with
  | ref r =>
    cases (show v = _ from r1)
    simp only [M.aVals] at q1
    cases e : h1 r with
    | none => rw [e] at q1; exact q1.elim
    | some o =>
      rw [e] at q1
      match o, e, q1 with
      | .dct 0 kvs, e, q1 =>
        obtain ⟨ps, eH, pr⟩ := dct0.mp (rh1 r _ e)
        cases en : M.intsOf (kvs.map (·.2)) with
        | none => simp only [en] at q1; exact q1.elim
        | some ns =>
          simp only [en] at q1
          refine ⟨.inr (.inr (.inl ⟨rfl, .inl ⟨_, eH⟩⟩)), r, ps, rfl, rfl, eH, fun p hp => ?_⟩
          have np : r ≠ p := ne_of_none eH hp
          exact ⟨p, r, ps, ns, rfl, upd_same, by rw [upd_ne np]; exact eH, ints_vals pr en, k _ h1 _ _ q1 (f1.trans (frm_hid hp)) rfl (rh_hid rh1 hp)⟩
  | _ => exact False.elim q1
/-! ### dict(list of pairs) -/
theorem prs_cons {x : SD} {xs : List SD} {kvs : List (SD × SD)} (e : M.prsOf (x :: xs) = some kvs) : ∃ a b ks, x = .tup [a, b] ∧ M.prsOf xs = some ks ∧ kvs = (a, b) :: ks := by
  unfold M.prsOf at e
  split at e
  · rename_i h; cases h
  · rename_i a b r h
    cases h
    cases eo : M.prsOf xs with
    | none => rw [eo] at e; cases e
    | some ks => rw [eo] at e; cases e; exact ⟨a, b, ks, rfl, rfl, rfl⟩
  · cases e
theorem prs_inv {K : Fr} {H : Hp} : ∀ {xs : List SD} {vs : List V} {kvs : List (SD × SD)}, Reps K H xs vs → M.prsOf xs = some kvs → ∃ (ps : List Addr) (ws : List (V × V)), vs = ps.map V.ref ∧ Paired (fun p (q : V × V) => SqT K.K H p [q.1, q.2]) ps ws ∧ Paired (fun (x : SD × SD) (p : V × V) => Rep K H x.1 p.1 ∧ Rep K H x.2 p.2) kvs ws
  | [], vs, kvs, r, e => by
    cases (show vs = [] from r)
    cases e
    exact ⟨[], [], rfl, .nil, .nil⟩
  | x :: xs, vs, kvs, r, e => by
    obtain ⟨v, r, ev, ra, rr⟩ := r
    obtain ⟨a, b, ks, ex, eo, ek⟩ := prs_cons e
    subst ev; subst ex; subst ek
    obtain ⟨ad, ts, e0, t, ra2⟩ := ra
    obtain ⟨v1, t1, e1, r1, v2, t2, e2, r2, e3⟩ := ra2
    cases (show t2 = [] from e3)
    subst e2
    subst e1
    subst e0
    obtain ⟨ps, ws, e5, h1, h2⟩ := prs_inv rr eo
    subst e5
    exact ⟨ad :: ps, (v1, v2) :: ws, rfl, .cons (t.imp .inl id) h1, .cons ⟨r1, r2⟩ h2⟩
theorem paired_map {α β γ : Type} {F : α → γ → Prop} {f : β → γ} : ∀ {l : List α} {m : List β}, Paired F l (m.map f) → Paired (fun a b => F a (f b)) l m
  | [], [], _ => .nil
  | _ :: _, [], h => by cases h
  | [], _ :: _, h => by cases h
  | _ :: _, _ :: _, h => by
    cases h with
    | cons a b => exact .cons a (paired_map b)
theorem s_dpr {x : Str} {p pos : Pos} {a : Expr} {wa : WE} (hx : x = ("dict" : Str)) (hc : X.calm = true) (hg : Gl X x) (hm : X.mg x = none) (he : starEach [a] X.env = (false, eval a X.env) :: starEach [] X.env) (ha : PE X a (lift X.F wa)) :
    PE X (.Call (.Name x p) [a] [] pos) (lift X.F fun σ h Q => wa σ h fun x h1 => M.aLst x h1 fun _ xs => M.aSome (M.prsOf xs) fun kvs => M.keysOk 0 kvs = true ∧ ∀ r, h1 r = none → Q (.ref r) (M.up h1 r (.dct 0 (M.mergeL [] kvs)))) := by
  subst hx
  refine (pe_callTy (call_dictP hc) hg hm (by decide +kernel) (pa_cons ha pa_nil he) (by decide +kernel) (by decide +kernel) he rfl).imp fun σ H Q ⟨σa, h, Qa, rs, rh, q, k⟩ => ?_
  refine lift_go rs rh q fun d h1 v H1 q1 f1 r1 rh1 rs1 => ?_
  obtain ⟨p, xs, rfl, e1, q2⟩ := aLst_inv q1
  cases (show v = _ from r1)
  obtain ⟨vs, a1, rr⟩ := rh1 p _ e1
  cases eo : M.prsOf xs with
  | none => rw [eo] at q2; exact q2.elim
  | some kvs =>
    rw [eo] at q2
    obtain ⟨ok, q2⟩ := q2
    obtain ⟨ps, ws, rfl, h1', h2'⟩ := prs_inv rr eo
    obtain ⟨ks, rfl, pk⟩ := keys_get ok h2'
    refine ⟨p, ps, ks, rfl, SqL.of a1, paired_map (F := fun p (q : V × V) => SqT X.F.K H1 p [q.1, q.2]) (f := fun (kv : Key × V) => (kV kv.1, kv.2)) h1', fun r nr => ?_⟩
    exact k _ _ _ _ (q2 r (rh1.none nr)) (f1.trans (frm_new nr)) rfl (rh_new rh1 nr (dct0.mpr ⟨_, upd_same, Paired.mapP (kv_merge pk .nil) fun _ _ z => ⟨z.1, z.2.kp (kp_new nr)⟩⟩))
end
end Snd
end
section
/-! Sound7: the IR against the text, and the whole. -/
namespace Snd
open PySem L2 PySem.Spec PyProof.Rows
variable [FrameP]

def visB (sc : Scope) (x : Str) : Bool := match sc.names.lookup x with
  | some .local => true | some .cell => true | some .free => true | _ => false
def locB (s0 : Scope) (x : Str) : Bool := match s0.names.lookup x with
  | some .local => true | some .cell => true | _ => false
def glB (sc : Scope) (x : Str) : Bool := match sc.names.lookup x with
  | some .globalImplicit => true | _ => false
def plainN (x : Str) : Bool := !(x == ("__debug__" : Str)) && !(x == ("__classdict__" : Str))
def opB (o : M.Bop) : Operator → Bool
  | .Add => (match o with | .add => true | _ => false)
  | .Sub => (match o with | .sub => true | _ => false)
  | .Mult => (match o with | .mul => true | _ => false)
  | .Mod => (match o with | .mod => true | _ => false)
  | .FloorDiv => (match o with | .fdiv => true | _ => false)
  | .Pow => (match o with | .pow => true | _ => false)
  | _ => false
theorem opB_eq {o : M.Bop} {p : Operator} (h : opB o p = true) : p = bop o := by cases p <;> cases o <;> first | rfl | cases h
def copB (o : M.Cop) : CmpOp → Bool
  | .Eq => (match o with | .eq => true | _ => false)
  | .NotEq => (match o with | .ne => true | .nes => true | .neb => true | _ => false)
  | .Lt => (match o with | .lt => true | _ => false)
  | .LtE => (match o with | .le => true | _ => false)
  | .Gt => (match o with | .gt => true | _ => false)
  | .GtE => (match o with | .ge => true | _ => false)
  | .In => (match o with | .isin => true | _ => false)
  | .NotIn => (match o with | .notin => true | _ => false)
  | .Is => (match o with | .is_ => true | _ => false)
  | .IsNot => (match o with | .isnt => true | _ => false)
theorem copB_eq {o : M.Cop} {p : CmpOp} (h : copB o p = true) : p = cop o := by cases p <;> cases o <;> first | rfl | cases h
def bltB (bn : List Str) (sc : Scope) (b : M.Blt) (x : Str) : Bool := match bltK b with
  | some bk => decide (x = bk.name) && bn.contains x && glB sc x
  | none => false
def mthB (m : M.Mth) (x : Str) : Bool := match mthT m with
  | some (_, _, nm) => decide (x = nm)
  | none => false
/-- not a call without arguments: super() is one -/
def recvB : Expr → Bool
  | .Call _ [] _ _ => false
  | _ => true
def ownB (N : List Str) : List Nat → Option (List (Str × Nat))
  | [] => some []
  | i :: is => match N[i]?, ownB N is with
    | some x, some r => some ((x, i) :: r)
    | _, _ => none
theorem ownB_map {N : List Str} : ∀ {is : List Nat} {r : List (Str × Nat)}, ownB N is = some r → r.map (·.2) = is
  | [], r, e => by simp only [ownB, Option.some.injEq] at e; subst e; rfl
  | i :: is, r, e => by
    simp only [ownB] at e
    cases e1 : N[i]? <;> cases e2 : ownB N is <;> simp [e1, e2] at e
    subst e
    simp [ownB_map e2]
def nmB (N : List Str) (s0 : Scope) (i : Nat) : Expr → Bool
  | .Name x _ => decide (N[i]? = some x) && locB s0 x
  | _ => false
def nmsB (N : List Str) (s0 : Scope) : List Nat → List Expr → Bool
  | [], [] => true
  | i :: is, e :: es => nmB N s0 i e && nmsB N s0 is es
  | _, _ => false
def tgB (N : List Str) (s0 : Scope) : M.Tgt → Expr → Bool
  | .nm i, e => nmB N s0 i e
  | .tp ts, .Tuple es _ _ => nmsB N s0 ts es
  | _, _ => false
def chrB (s : M.Sx) : Bool := s.all fun c => decide (c < 0x110000)
def smallB (n : Nat) : Bool := decide (n < 20)

/-- what may stand unread: what is never reached -/
@[simp] def badB : Expr → Bool
  | .Call .. => true
  | .Subscript .. => true
  | .Attribute .. => true
  | .Name .. => true
  | .BinOp .. => true
  | .Dict .. => true
  | _ => false
@[simp] def lockB : Expr → Bool
  | .Call .. => true
  | _ => false
/-- the def's names by slot, the built-in names that stand free, the program's defs -/
structure Tb where
  N : List Str
  bn : List Str
  fs : List M.Sx
  gs : List (M.Sx × Int)
  ts : List (M.Sx × List (M.Sx × M.Sx))
  cs : List M.Sx
  ms : List (M.Sx × M.Sx)
  at_ : List (M.Sx × M.Sx)
  ds : List (M.Sx × Nat)
  ws : List (M.Sx × List M.Sx)
  /-- classes of exceptions, their fields -/
  xs : List (M.Sx × List M.Sx)
  /-- isinstance: a class, those below it, all that are asked -/
  xi : List (M.Sx × List M.Sx × List M.Sx)
  /-- except: likewise -/
  xt : List (M.Sx × List M.Sx × List M.Sx)
def revB : Expr → Bool
  | .Slice none none (some (.UnaryOp .USub (.Constant (.int m) _ _) _)) _ => decide (m = 1)
  | _ => false
theorem revB_eq {j : Expr} (h : revB j = true) : ∃ k p1 p2 p3, j = .Slice none none (some (.UnaryOp .USub (.Constant (.int 1) k p1) p2)) p3 := by
  unfold revB at h
  split at h
  · have := of_decide_eq_true h
    subst this
    exact ⟨_, _, _, _, rfl⟩
  · cases h
def tlrB : Expr → Bool
  | .Slice none (some (.Constant (.int z) _ _)) (some (.UnaryOp .USub (.Constant (.int m) _ _) _)) _ => decide (z = 0) && decide (m = 1)
  | _ => false
theorem tlrB_eq {j : Expr} (h : tlrB j = true) : ∃ k0 k p0 p1 p2 p3, j = .Slice none (some (.Constant (.int 0) k0 p0)) (some (.UnaryOp .USub (.Constant (.int 1) k p1) p2)) p3 := by
  unfold tlrB at h
  split at h
  · simp only [Bool.and_eq_true, decide_eq_true_eq] at h
    obtain ⟨rfl, rfl⟩ := h
    exact ⟨_, _, _, _, _, _, rfl⟩
  · cases h
mutual
def mtE (T : Tb) : Scope → Scope → M.E → Expr → Bool
  | sc, s0, .var i, e => (match e with
    | .Name x _ => decide (T.N[i]? = some x) && visB sc x && plainN x
    | _ => false)
  | sc, s0, .int n, e => (match e with
    | .Constant (.int m) _ _ => decide (m = n)
    | _ => false)
  | sc, s0, .str s, e => (match e with
    | .Constant (.str x) _ _ => decide (x = sV s) && chrB s
    | _ => false)
  | sc, s0, .bl b, e => (match e with
    | .Constant (.bool c) _ _ => b == c
    | _ => false)
  | sc, s0, .non, e => (match e with
    | .Constant .none _ _ => true
    | _ => false)
  | sc, s0, .gint x n, e => (match e with
    | .Name y _ => decide (y = sV x) && T.gs.contains (x, n) && glB sc y && plainN y
    | _ => false)
  | sc, s0, .slw a lo hi, e => (match e with
    | .Subscript x (.Slice l u none _) _ => mtE T sc s0 a x && mtO T sc s0 lo l && mtO T sc s0 hi u
    | _ => false)
  | sc, s0, .mnd es, e => (match e with
    | .Call (.Name x _) (y :: l) [⟨kw, .Constant .none _ _, _⟩] _ => decide (x = ("min" : Str)) && decide (kw = some ("default" : Str)) && T.bn.contains x && glB sc x && mtEs T sc s0 es (y :: l)
    | _ => false)
  | sc, s0, .orv a b, e => (match e with
    | .BoolOp .Or [x, .Constant (.int i) j p] _ => mtE T sc s0 a x && mtE T sc s0 b (.Constant (.int i) j p)
    | _ => false)
  | sc, s0, .tix x tab a, e => (match e with
    | .Subscript (.Name y _) j _ => decide (y = sV x) && T.ts.contains (x, tab) && glB sc y && plainN y && mtE T sc s0 a j
    | _ => false)
  | sc, s0, .gtp x ss, e => (match e with
    | .Name y _ => decide (y = sV x) && T.ws.contains (x, ss) && glB sc y && plainN y
    | _ => false)
  | sc, s0, .tup es, e => (match e with
    | .Tuple l _ _ => mtEs T sc s0 es l
    | _ => false)
  | sc, s0, .lst es, e => (match e with
    | .List l _ => mtEs T sc s0 es l
    | _ => false)
  | sc, s0, .dct k es, e => (match e with
    | .Dict ks vs _ => (match k, es with
      | 0, .nil => ks.isEmpty && vs.isEmpty
      | 0, .cons a r => mtPs T sc s0 (.cons a r) ks vs && decide (ks.length ≤ 15)
      | _, _ => false)
    | _ => false)
  | sc, s0, .dcn, e => (match e with
    | .Dict ks vs _ => ks.isEmpty && vs.isEmpty
    | _ => false)
  | sc, s0, .bad, e => badB e
  | sc, s0, .lock i a, e => lockB e && mtE T sc s0 a e
  | sc, s0, .lzip es, e => (match e with
    | .Call (.Name x _) [.Call (.Name z _) [a, b] [] _] [] _ => decide (x = ("list" : Str)) && T.bn.contains x && glB sc x && decide (z = ("zip" : Str)) && T.bn.contains z && glB sc z && mtEs T sc s0 es [a, b]
    | _ => false)
  | sc, s0, .lrng es, e => (match e with
    | .Call (.Name x _) [.Call (.Name z _) (y :: l) [] _] [] _ => decide (x = ("list" : Str)) && T.bn.contains x && glB sc x && decide (z = ("range" : Str)) && T.bn.contains z && glB sc z && mtEs T sc s0 es (y :: l) && decide (l.length < 2)
    | _ => false)
  | sc, s0, .rev a, e => (match e with
    | .Subscript x j _ => revB j && mtE T sc s0 a x
    | .Call (.Name x _) [.Call (.Name z _) [y] [] _] [] _ => decide (x = ("list" : Str)) && T.bn.contains x && glB sc x && decide (z = ("reversed" : Str)) && T.bn.contains z && glB sc z && mtE T sc s0 a y
    | _ => false)
  | sc, s0, .tlr a, e => (match e with
    | .Subscript x j _ => tlrB j && mtE T sc s0 a x
    | _ => false)
  | sc, s0, .bin o a b, e => (match e with
    | .BinOp l op r _ => opB o op && mtE T sc s0 a l && mtE T sc s0 b r
    | _ => false)
  | sc, s0, .neg a, e => (match e with
    | .UnaryOp .USub x _ => mtE T sc s0 a x
    | _ => false)
  | sc, s0, .cmp o a b, e => (match e with
    | .Compare l [op] [r] _ => copB o op && mtE T sc s0 a l && mtE T sc s0 b r
    | _ => false)
  | sc, s0, .chn o o' a b c, e => (match e with
    | .Compare l [op, op'] [r, r'] _ => copB o op && copB o' op' && mtE T sc s0 a l && mtE T sc s0 b r && mtE T sc s0 c r'
    | _ => false)
  | sc, s0, .bop k es, e => (match e with
    | .BoolOp .And (x :: l) _ => k && mtEs T sc s0 es (x :: l) && testsB (x :: l)
    | .BoolOp .Or (x :: l) _ => !k && mtEs T sc s0 es (x :: l) && testsB (x :: l)
    | _ => false)
  | sc, s0, .not a, e => (match e with
    | .UnaryOp .Not x _ => mtE T sc s0 a x && testB x
    | _ => false)
  | sc, s0, .ite c a b, e => (match e with
    | .IfExp t l r _ => mtE T sc s0 c t && testB t && mtE T sc s0 a l && mtE T sc s0 b r
    | _ => false)
  | sc, s0, .ix a i, e => (match e with
    | .Subscript x j _ => mtE T sc s0 a x && mtE T sc s0 i j
    | _ => false)
  | sc, s0, .sl a lo hi, e => (match e with
    | .Subscript x (.Slice l u none _) _ => mtE T sc s0 a x && mtO T sc s0 lo l && mtO T sc s0 hi u
    | _ => false)
  | sc, s0, .call f es, e => (match e with
    | .Call (.Name x _) l [] _ => decide (x = sV f) && T.fs.contains f && glB sc x && plainN x && mtEs T sc s0 es l
    | _ => false)
  | sc, s0, .callD f k es, e => (match e with
    | .Call (.Name x _) (y :: l) [] _ => decide (x = sV f) && T.ds.contains (f, k) && glB sc x && plainN x && mtEs T sc s0 es (y :: l)
    | _ => false)
  | sc, s0, .smv a, e => (match e with
    | .Call (.Name x _) [.Call (.Attribute y nm apos) [] [] cpos] [] _ => decide (x = ("sum" : Str)) && T.bn.contains x && glB sc x && decide (nm = ("values" : Str)) && (apos.endLine == cpos.line) && recvB y && mtE T sc s0 a y
    | _ => false)
  | sc, s0, .fld a f, e => (match e with
    | .Attribute y nm _ => decide (nm = sV f) && recvB y && mtE T sc s0 a y
    | _ => false)
  | sc, s0, .newo c es, e => (match e with
    | .Call (.Name x _) l [] _ => decide (x = sV c) && T.cs.contains c && glB sc x && plainN x && mtEs T sc s0 es l
    | _ => false)
  | sc, s0, .mcall c m o es, e => (match e with
    | .Call (.Attribute x nm apos) l [] pos => decide (nm = sV m) && T.ms.contains (c, m) && (apos.endLine == pos.line) && recvB x && mtE T sc s0 o x && mtEs T sc s0 es l && smallB l.length
    | _ => false)
  | sc, s0, .blt b es, e => (match e with
    | .Call (.Name x _) (y :: l) [] _ => bltB T.bn sc b x && mtEs T sc s0 es (y :: l)
    | _ => false)
  | sc, s0, .isi a t, e => (match e with
    | .Call (.Name x _) [y, .Name z _] [] _ => decide (x = ("isinstance" : Str)) && T.bn.contains x && glB sc x && decide (z = Str.ofString (tyS t)) && T.bn.contains z && glB sc z && mtE T sc s0 a y
    | _ => false)
  | sc, s0, .mth m o es, e => (match e with
    | .Call (.Attribute x nm apos) l [] pos => mthB m nm && (apos.endLine == pos.line) && recvB x && mtE T sc s0 o x && mtEs T sc s0 es l && smallB l.length
    | _ => false)
  | sc, s0, .newx c fs es, e => (match e with
    | .Call (.Name x _) (y :: l) [] _ => decide (x = sV c) && T.xs.contains (c, fs) && glB sc x && plainN x && mtEs T sc s0 es (y :: l)
    | _ => false)
  | sc, s0, .fldx a f, e => (match e with
    | .Attribute y nm _ => decide (nm = sV f) && recvB y && mtE T sc s0 a y
    | _ => false)
  | sc, s0, .isx a t subs all, e => (match e with
    | .Call (.Name x _) [y, .Name z _] [] _ => decide (x = ("isinstance" : Str)) && T.bn.contains x && glB sc x && decide (z = sV t) && T.xi.contains (t, subs, all) && glB sc z && (plainN z && decide (z ≠ ("__name__" : Str))) && mtE T sc s0 a y
    | _ => false)
  | sc, s0, .dpr a, e => (match e with
    | .Call (.Name x _) [y] [] _ => decide (x = ("dict" : Str)) && T.bn.contains x && glB sc x && mtE T sc s0 a y
    | _ => false)
  | sc, s0, .rpr a, e => false
  | sc, s0, .lset a, e => false
  | sc, s0, .lc elt t own k src ifs, e => (match e with
    | .ListComp x [⟨tg, it, cs, a⟩] scope _ => decide (a = 0) && tgtIn own t && tgB T.N scope t tg && mtI T sc s0 k src it && tupK k t && compsB T.N sc scope own &&
        mtEs T (relS scope sc) scope ifs cs && testsB cs && decide (cs.length < 2) && mtE T (relS scope sc) scope elt x
    | _ => false)
def mtEs (T : Tb) : Scope → Scope → M.Es → List Expr → Bool
  | sc, s0, .nil, l => l.isEmpty
  | sc, s0, .cons e es, l => (match l with
    | x :: r => mtE T sc s0 e x && mtEs T sc s0 es r
    | [] => false)
def mtPs (T : Tb) : Scope → Scope → M.Es → List (Option Expr) → List Expr → Bool
  | sc, s0, .nil, ks, vs => ks.isEmpty && vs.isEmpty
  | sc, s0, .cons a .nil, ks, vs => false
  | sc, s0, .cons a (.cons b r), ks, vs => (match ks, vs with
    | some x :: ks, y :: vs => mtE T sc s0 a x && mtE T sc s0 b y && mtPs T sc s0 r ks vs
    | _, _ => false)
def mtO (T : Tb) : Scope → Scope → M.Es → Option Expr → Bool
  | sc, s0, .nil, o => o.isNone
  | sc, s0, .cons e es, o => (match o with
    | some x => mtE T sc s0 e x && (match es with
      | .nil => true
      | _ => false)
    | none => false)
def mtI (T : Tb) : Scope → Scope → M.Itk → M.Es → Expr → Bool
  | sc, s0, k, .nil, e => false
  | sc, s0, k, .cons a r, e => (match k with
    | .seq => mtE T sc s0 a e && (match r with
      | .nil => true
      | _ => false)
    | .rng => (match e with
      | .Call (.Name x _) (y :: l) [] _ => decide (x = ("range" : Str)) && T.bn.contains x && glB sc x && mtE T sc s0 a y && mtEs T sc s0 r l && decide (l.length < 3)
      | _ => false)
    | .enum => (match e with
      | .Call (.Name x _) [y] [] _ => decide (x = ("enumerate" : Str)) && T.bn.contains x && glB sc x && mtE T sc s0 a y && (match r with
        | .nil => true
        | _ => false)
      | _ => false)
    | .keys => mtE T sc s0 a e && (match r with
      | .nil => true
      | _ => false)
    | .rev => (match e with
      | .Call (.Name x _) [y] [] _ => decide (x = ("reversed" : Str)) && T.bn.contains x && glB sc x && mtE T sc s0 a y && (match r with
        | .nil => true
        | _ => false)
      | _ => false)
    | .rrng => (match e with
      | .Call (.Name x _) [.Call (.Name z _) [y] [] _] [] _ => decide (x = ("reversed" : Str)) && T.bn.contains x && glB sc x && decide (z = ("range" : Str)) && T.bn.contains z && glB sc z && mtE T sc s0 a y && (match r with
        | .nil => true
        | _ => false)
      | _ => false)
    | .zip => (match e with
      | .Call (.Name x _) [y, z] [] _ => decide (x = ("zip" : Str)) && T.bn.contains x && glB sc x && mtE T sc s0 a y && mtEs T sc s0 r [z]
      | _ => false)
    | .values => (match e with
      | .Call (.Attribute y nm apos) [] [] cpos => decide (nm = ("values" : Str)) && (apos.endLine == cpos.line) && recvB y && mtE T sc s0 a y && (match r with
        | .nil => true
        | _ => false)
      | _ => false)
    | .items => (match e with
      | .Call (.Attribute y nm apos) [] [] cpos => decide (nm = ("items" : Str)) && (apos.endLine == cpos.line) && recvB y && mtE T sc s0 a y && (match r with
        | .nil => true
        | _ => false)
      | _ => false))
def testB : Expr → Bool
  | .IfExp .. => false
  | .BoolOp .Or [_, .Constant (.int _) _ _] _ => false
  | _ => true
def testsB : List Expr → Bool
  | [] => true
  | e :: es => testB e && testsB es
/-- enumerate and its like give pairs to a pair of names -/
def tupK : M.Itk → M.Tgt → Bool
  | .enum, .tp _ => true
  | .enum, _ => false
  | .zip, .tp _ => true
  | .zip, _ => false
  | .items, .tp _ => true
  | .items, _ => false
  | _, _ => true
/-- what walks give pairs alone -/
def needT : M.Itk → Bool
  | .enum => true
  | .zip => true
  | .items => true
  | _ => false
def compsB (N : List Str) (sc scope : Scope) (own : List Nat) : Bool := match ownB N own with
  | some r => blkC N sc scope r
  | none => false
end

/-! ### what a matched expression is not -/
def okX : Expr → Bool
  | .Starred .. => false
  | .Slice .. => false
  | .Set .. => false
  | _ => true
theorem ok_mt {T : Tb} {sc s0 : Scope} {ir : M.E} {e : Expr} (h : mtE T sc s0 ir e = true) : okX e = true := by
  cases e <;> first | rfl | (cases ir <;> first | (exact absurd h (by simp [mtE, badB, lockB])))
section
variable {e : Expr} {es : List Expr} {env : Env}
theorem ok_star (h : okX e = true) : starEach (e :: es) env = (false, eval e env) :: starEach es env := by cases e <;> first | rfl | cases h
theorem ok_ix (h : okX e = true) : PlainIx e := by intro o i; cases e <;> first | rfl | cases h
theorem ok_behind (h : okX e = true) {op : CmpOp} : behindInMarks op e = false := by cases e <;> first | rfl | cases h
theorem ok_fold (h : okX e = true) {x : Value} : foldedSetIterable e env x = pure x := by cases e <;> first | rfl | cases h
theorem ok_base (h : recvB e = true) {nm : Str} : attributeBase e nm env (eval e env) = eval e env := by
  cases e <;> try rfl
  rename_i f as kw p
  cases as with
  | nil => cases h
  | cons a as => cases f <;> rfl
end
end Snd
end
section
/-! ExcL: exceptions of the program's classes: made, held, raised, caught and kept. -/
namespace Snd
open PySem L2 PySem.Spec PyProof.Rows
variable [FrameP]
section
variable {X : L2.Cx} {pins : List (Addr × Obj)} {σ : L2.St} {H : Hp} {s sI s' : Shared}
theorem exR_ok {P : Program} {w : World} {H : Hp} {h : Heap} {a C dd : Addr} {oe : Obj} {fv : Array Value} (e : h.get? a = some oe) (z : Zc (.ref C) (some dd) oe) (d : oe.data = .fields fv) : ObjOk P w H h a (exR a C dd) :=
  ⟨⟨oe, fv, e, z, d⟩, ⟨oe, e⟩, fun _ _ ⟨o, v, q, r⟩ k => ⟨o, v, k o q, r⟩⟩
theorem exR_at {P : Program} {w : World} {H : Hp} {h : Heap} {a C dd : Addr} (hok : HOk P w H h) (e : H a = some (exR a C dd)) : ∃ (oe : Obj) (fv : Array Value), h.get? a = some oe ∧ Zc (.ref C) (some dd) oe ∧ oe.data = .fields fv := (hok a _ e).1
/-- a new object beside the state becomes ours -/
theorem adopt0 {B : Heap} {a : Addr} {o : HO} (I : Inv X pins σ H sI) (nb : ∀ b ob, sI.heap.get? b = some ob → b ∉ frs X.stack → B.get? b = some ob) (st : B.StaysIn s'.heap) (up : sI.heap.UpToSlots s'.heap) (os : s'.os = sI.os) (ag : AllBare s'.gens)
    (na : H a = none) (nI : sI.heap.get? a = none) (new : ObjOk X.prog X.w (upd H a o) s'.heap a o) : Inv X pins σ (upd H a o) s' := by
  have nf : ∀ b ∈ frs X.stack, ∀ ob, sI.heap.get? b = some ob → ∃ sl, s'.heap.get? b = some { ob with slots := sl } := fun b hb ob e => by
    obtain ⟨_, o2, e2, hd⟩ := I.stack.mem hb
    rw [e] at e2
    cases e2
    exact up b ob e hd
  have nea : ∀ b ob, sI.heap.get? b = some ob → b ≠ a := fun b ob e z => by rw [z, nI] at e; cases e
  have hok : HOk X.prog X.w (upd H a o) s'.heap := fun b u e => by
    by_cases hb : b = a
    · subst hb
      rw [upd_same] at e
      cases e
      exact new
    · rw [upd_ne hb] at e
      refine (((I.inGround nb).kept st) b u e).stay (fun _ _ _ q => q) (fun c q => ?_) fun c xs q => ?_
      · rw [upd_ne (ne_of_none q na)]; exact q
      · rw [upd_ne (ne_of_none q na)]; exact q
  have J := I.call (ch := []) (h' := s'.heap) (g' := s'.gens) (t' := s'.toks) (d' := s'.drawn) (H' := upd H a o) ⟨fun b ob e _ hb _ => st b ob (nb b ob e hb), fun b ob e _ hb _ => nf b hb ob e, fun b ob e n _ => by rw [upd_ne (nea b ob e)]; exact n, fun b ob e _ => by
      by_cases hb : b ∈ frs X.stack
      · obtain ⟨sl, q⟩ := nf b hb ob e
        exact ⟨_, q⟩
      · exact ⟨ob, st b ob (nb b ob e hb)⟩, fun b xs e => by rw [upd_ne (ne_of_none e na)]; exact e, fun b ob u e => by rw [upd_ne (ne_of_none e na)]; exact e, fun b ps e => ⟨#[], by rw [upd_ne (ne_of_none e na), e]; simp⟩⟩ hok ag fun _ z => nomatch z
  obtain ⟨a1, a2, a3, a4, a5⟩ := s'
  cases (show a5 = sI.os from os)
  exact J
/-- an exception that was made, as a value -/
theorem pe_of_pmk {e : Expr} {t : L2.St → Hp → XK → Prop} (h : PMk X e t) : PE X e (fun σ H Q => t σ H fun cls d H' => ∃ C dd, cls = .ref C ∧ d = some dd ∧ ∀ a, H' a = none → Q (.ref a) (upd H' a (exR a C dd))) :=
  ⟨fun pins s σ H Q I q => wpAny_mono (h pins s σ H _ I q) (by
    rintro u s1 ⟨a, oe, fv, sI, H1, cls, d, rfl, J, k, nI, he, hz, hd, _, na, os, ag, _, C, dd, rfl, rfl, q2⟩
    refine ⟨.ref a, upd H1 a (exR a C dd), adopt0 J (fun b o e _ => e) k (Heap.UpToSlots.of_keeps k) os ag na nI (exR_ok he hz hd), rfl, q2 a na⟩) fun _ _ z => z⟩
/-- P.__init__(self, ..), P a class of the program whose __init__ is ValueError's -/
theorem pe_pinit {x : Str} {PC : Addr} {p1 p2 pos : Pos} {e : Expr} {es : List Expr} {ta : TA} {pl : Sem Bool} (hg : Gl X x) (hm : X.mg x = some (.ref PC)) (hr : PySem.W.readsIn X.K PC (.type "type") = true) (hga : PySem.W.specialIn X.K (.ref PC) "__getattribute__" = some (some (.builtin "type.__getattribute__")))
    (hf : PySem.W.findCls X.K (.ref PC) (.type "type") "__init__" = some (.val (.builtin "ValueError.__init__"))) (hdb : (x == ("__debug__" : Str)) = false) (ha : PA X (e :: es) ta)
    (hc : eval (.Call (.Attribute (.Name x p1) "__init__" p2) (e :: es) [] pos) X.env = eval (.Name x p1) X.env >>= fun ov => standAt p2.atName >>= fun _ => holding [ov] (getMethod ov "__init__" pl) >>= fun q => callWith pos q.1 q.2 (backTo pos (starEach (e :: es) X.env)) (backToKw pos (keywordEach [] X.env)))
    (he : starEach (e :: es) X.env = (false, eval e X.env) :: starEach es X.env) (hpl : (backTo pos (starEach es X.env)).any (·.1) = false) :
    PE X (.Call (.Attribute (.Name x p1) "__init__" p2) (e :: es) [] pos) (tVeI X.K ta) := by
  refine ⟨fun pins s σ H Q I h => PySem.W.methodCall_KW (pl := pl) (ld_glob I hg hm (PySem.W.method_cls I.kIn hga (PySem.W.cls_value I.kIn hr hf (by decide +kernel) ?_)) hdb) hc⟩
  refine PyProof.Rows.callWith_method1 (thn (ha.run pos pins _ σ H _ (I.tok _) h) fun us s1 ⟨vs, H1, I1, r1, a, C, ws, ev, hl, T, ea, q⟩ => ?_) he hpl
  subst ev
  cases r1 with
  | @cons _ u0 _ ur ra rw' =>
    cases (show u0 = Value.ref a from ra)
    exact oinit_ok T I1 ea (by rw [← Paired.length rw', sizeLine_eq]; omega) fun s2 J => ⟨.non, H1, J, rfl, q⟩
end
/-! ### own __init__ -/
/-- the promise of such an __init__: fs its fields -/
def spI (K : PySem.W.Frag) (fs : List M.Sx) : Sp := fun vs H Q _ => ∃ (a C : Addr) (ys : List V), vs = .ref a :: ys ∧ ys.length = fs.length ∧ OexC K C ∧ (∀ f ∈ fs, PySem.W.findIn K (.ref C) (sV f) = some none) ∧ H a = some (exo a C none) ∧
  ∀ d H2, H d = none → d ≠ a → H2 a = some (exo a C (some d)) → H2 d = some (exd d ((fs.map sV).zip ys).reverse) → (∀ b, b ≠ a → b ≠ d → H2 b = H b) → Q .non H2
/-- the fact about the base class whose __init__ is called -/
structure PIn (K : PySem.W.Frag) (PC : Addr) : Prop where
  rd : PySem.W.readsIn K PC (.type "type") = true
  ga : PySem.W.specialIn K (.ref PC) "__getattribute__" = some (some (.builtin "type.__getattribute__"))
  at_ : PySem.W.findCls K (.ref PC) (.type "type") "__init__" = some (.val (.builtin "ValueError.__init__"))
/-- the text of such an __init__ -/
def iniB (x : Str) (sc : Scope) (ps : List Str) : List Stmt → Bool
  | .Expr (.Call (.Attribute (.Name y _) i p) [.Name z _, .Constant (.str _) _ _] [] q) _ :: _ => (p.endLine == q.line) && (decide (y = x) && decide (i = ("__init__" : Str)) && decide (ps.head? = some z) && glB sc y && plainN y && visB sc z && plainN z)
  | _ => false
def fldB (sc : Scope) (N : List Str) : List M.Sx → Nat → List Stmt → Bool
  | [], _, l => l.isEmpty
  | f :: fs, k, .Assign [.Attribute (.Name z _) g _] (.Name y _) _ :: r => decide (N[0]? = some z) && decide (g = sV f) && decide (N[k]? = some y) && visB sc z && visB sc y && plainN z && plainN y && fldB sc N fs (k + 1) r
  | _ :: _, _, _ => false
def tFl (K : PySem.W.Frag) : List M.Sx → Nat → TS
  | [], _ => tNext
  | f :: fs, k => tSeq (tOst K (sV f) (tVar 0) (tVar k)) (tFl K fs (k + 1))
theorem visB_vis {sc : Scope} {x : Str} (h : visB sc x = true) : Vis sc x := by
  unfold visB at h
  split at h
  · exact .inl (by assumption)
  · exact .inr (.inl (by assumption))
  · exact .inr (.inr (by assumption))
  · cases h
section
variable {X : L2.Cx} {sc : Scope} {N : List Str}
theorem nm_pe {i : Nat} {x : Str} {p : Pos} (hN : X.N = N) (hs : X.env.scope = sc) (h1 : N[i]? = some x) (h2 : visB sc x = true) (h3 : plainN x = true) : PE X (.Name x p) (tVar i) := by
  obtain ⟨a, b⟩ := ba h3
  exact pe_var (by rw [hN]; exact h1) (by rw [hs]; exact visB_vis h2) (by simpa using a) (by simpa using b)
theorem fld_ok (hN : X.N = N) (hs : X.env.scope = sc) : ∀ {fs : List M.Sx} {k : Nat} {l : List Stmt}, fldB sc N fs k l = true → PSs X l (tFl X.K fs k)
  | [], _, [], _ => pss_nil
  | [], _, _ :: _, h => by simp [fldB] at h
  | f :: fs, k, [], h => by simp [fldB] at h
  | f :: fs, k, st :: r, h => by
    unfold fldB at h
    split at h
    · rename_i e
      cases e
    · rename_i f' fs' k' z p1 g p2 y p3 p4 r' e1 e2
      cases e1
      cases e2
      simp only [Bool.and_eq_true, decide_eq_true_eq] at h
      obtain ⟨⟨⟨⟨⟨⟨⟨h1, h2⟩, h3⟩, h4⟩, h5⟩, h6⟩, h7⟩, h8⟩ := h
      subst h2
      exact pss_cons (ps_ost (nm_pe hN hs h1 h4 h6) (nm_pe hN hs h3 h5 h7)) (fld_ok hN hs h8)
    · cases h
theorem fl_run {K : PySem.W.Frag} {C a dx : Addr} {D : L2.Ends} {σ : L2.St} (T : OexC K C) (ea : σ[0]? = some (some (.ref a))) (hne : dx ≠ a) : ∀ (fs : List M.Sx) (k : Nat) (ys : List V) (done : List (Str × V)) (H1 : Hp), (∀ f ∈ fs, PySem.W.findIn K (.ref C) (sV f) = some none) → ys.length = fs.length →
    (∀ j y, ys[j]? = some y → σ[k + j]? = some (some y)) → H1 a = some (exo a C (some dx)) → H1 dx = some (exd dx done) → done.length + fs.length ≤ 900 →
    (∀ H2, H2 a = some (exo a C (some dx)) → H2 dx = some (exd dx (((fs.map sV).zip ys).reverse ++ done)) → (∀ b, b ≠ a → b ≠ dx → H2 b = H1 b) → D.nx σ H2) → tFl K fs k D σ H1
  | [], k, ys, done, H1, _, hl, _, e1, e2, _, fin => by
    cases ys with
    | nil => exact fin H1 e1 e2 fun _ _ _ => rfl
    | cons _ _ => cases hl
  | f :: fs, k, [], done, H1, _, hl, _, _, _, _, _ => by cases hl
  | f :: fs, k, y :: ys, done, H1, hno, hl, hσ, e1, e2, hz, fin => by
    refine ⟨y, hσ 0 y rfl, _, ea, a, C, rfl, T, hno f List.mem_cons_self, .inr ⟨dx, done, e1, e2, by simp at hz; omega, ?_⟩⟩
    refine fl_run T ea hne fs (k + 1) ys ((sV f, y) :: done) _ (fun g hg => hno g (List.mem_cons_of_mem _ hg)) (by simpa using hl) (fun j z hj => ?_) (by rw [upd_ne hne.symm]; exact e1) upd_same (by simp at hz ⊢; omega) fun H2 q1 q2 q3 => fin H2 q1 (by rw [q2]; simp) fun b b1 b2 => (q3 b b1 b2).trans (upd_ne b2)
    have := hσ (j + 1) z (by simpa using hj)
    rw [show k + (j + 1) = k + 1 + j by omega] at this
    exact this
end
/-- an exception class: how its instances are made -/
structure XMk (P : Program) (w : World) (K : PySem.W.Frag) (mg : Str → Option Value) (base : Heap) (c : M.Sx) (C : Addr) (fs : List M.Sx) : Prop where
  oex : OexC K C
  cls : XCls K C fs
  ne : fs ≠ [] ∧ fs.Nodup ∧ fs.length < 100
  ini : ∃ fI fd ps, PySem.W.findIn K (.ref C) "__init__" = some (some (.ref fI)) ∧ PySem.W.typeIn K (.ref fI) = some (.type "function") ∧ FnOk P w K mg base CX0 1 fI fd ps (spI K fs) ∧ Binds K fd ps []
theorem init_ok {P : Program} {w : World} {K : PySem.W.Frag} {mg : Str → Option Value} {base : Heap} {x nm qual : Str} {PC : Addr} {params : Arguments} {body : List Stmt} {scope : Scope} {f : Addr} {fd : FuncData} {N ps : List Str} {fs : List M.Sx} (F : FunD K nm qual params body scope [] [] f fd) (S : FnScope N ps scope)
    (hm : mg x = some (.ref PC)) (T : PIn K PC) (hb : iniB x scope N body = true) (hf : fldB scope N fs 1 body.tail = true) (hl : ps.length = fs.length + 1) (hfs : fs ≠ [] ∧ fs.length < 100) (hps : ps = N) : FnOk P w K mg base CX0 1 f fd ps (spI K fs) := by
  refine F.ok S (fun vs H Q E h => ?_) fun cdv A ou s H vs Q E hr h => ?_
  · obtain ⟨a, C, ys, rfl, e, _⟩ := h
    rw [List.length_cons, e, hl]
  · obtain ⟨a, C, ys, rfl, e, O, hno, ea, q⟩ := h
    match body, hb, hf with
    | .Expr (.Call (.Attribute (.Name y p1) i p2) [.Name z p3, .Constant (.str t) j p4] [] p5) p6 :: r, hb, hf =>
      unfold iniB at hb
      obtain ⟨hline, hb⟩ := ba hb
      simp only [Bool.and_eq_true, decide_eq_true_eq] at hb
      obtain ⟨⟨⟨⟨⟨⟨h1, h2⟩, h3⟩, h4⟩, h5⟩, h6⟩, h7⟩ := hb
      subst h1 h2
      obtain ⟨h51, _⟩ := ba h5
      have hz : N[0]? = some z := by rw [List.head?_eq_getElem?] at h3; exact h3
      have hg : Gl (cxOf CX0 P w K mg base N qual scope f cdv A ou s H E).nox y := by
        unfold glB at h4
        split at h4
        · assumption
        · cases h4
      obtain ⟨pl, ht⟩ := meth_ht (o := .Name y p1) (nm := "__init__") (apos := p2) (pos := p5) (env := (cxOf CX0 P w K mg base N qual scope f cdv A ou s H E).nox.env) (args := [.Name z p3, .Constant (.str t) j p4]) rfl rfl hline
      refine ⟨_, (pss_cons (ps_expr (pe_pinit (pl := pl) hg hm T.rd T.ga T.at_ (by simpa using h51) (pa_cons (nm_pe (X := (cxOf CX0 P w K mg base N qual scope f cdv A ou s H E).nox) rfl rfl hz h6 h7) (pa_cons pe_str pa_nil rfl) rfl) ht rfl rfl)) (fld_ok (X := (cxOf CX0 P w K mg base N qual scope f cdv A ou s H E).nox) rfl rfl hf)).nox, ?_⟩
      have e0 : (L2.start N (V.ref a :: ys))[0]? = some (some (.ref a)) := by unfold L2.start; simp
      refine ⟨_, e0, a, C, [.str t], rfl, by simp, O, ea, ?_⟩
      match fs, ys, hfs, e, hno, q, hl with
      | f0 :: fr, y0 :: yr, hfs, e, hno, q, hl =>
        refine ⟨y0, by unfold L2.start; simp, _, e0, a, C, rfl, O, hno f0 List.mem_cons_self, .inl ⟨ea, fun dx nd ne => ?_⟩⟩
        refine fl_run O e0 ne fr 2 yr [(sV f0, y0)] _ (fun g hg => hno g (List.mem_cons_of_mem _ hg)) (by simpa using e) (fun k y hk => ?_) upd_same (by rw [upd_ne ne]; exact upd_same) (by have := hfs.2; simp at this ⊢; omega) fun H2 q1 q2 q3 => q dx H2 nd ne q1 (by rw [q2]; simp) fun b b1 b2 => (q3 b b1 b2).trans ((upd_ne b1).trans (upd_ne b2))
        have hk2 : k < yr.length := (List.getElem?_eq_some_iff.mp hk).1
        unfold L2.start
        rw [show 2 + k = (k + 1) + 1 by omega, List.map_cons, List.map_cons, List.cons_append, List.cons_append, List.getElem?_cons_succ, List.getElem?_cons_succ, List.getElem?_append_left (by simpa using hk2), List.getElem?_map, hk]
        rfl
      | f0 :: fr, [], _, e, _, _, _ => cases e
      | [], _, hfs, _, _, _, _ => exact absurd rfl hfs.1

/-! ### readings -/
section
variable {X : L2.Cx} {K : Fr} {H H1 : Hp} {h h1 : M.AH} {x : Str} {p pos : Pos} {e : Expr} {es : List Expr} {wr : WA} {c : M.Sx} {C : Addr} {fs : List M.Sx}
def tMkR (C : Addr) (fs : List M.Sx) (ta : TA) : L2.St → Hp → XK → Prop := fun σ H Q => ta σ H fun vs H1 => vs.length = fs.length ∧ ∀ d, H1 d = none → Q (.ref C) (some d) (upd H1 d (.xd ((fs.map sV).zip vs).reverse))
theorem pmk_x {ta : TA} (MK : XMk X.prog X.w X.K X.mg X.base c C fs) (hr : Room 2 X.A) (hg : Gl X x) (hm : X.mg x = some (.ref C)) (hdb : (x == ("__debug__" : Str)) = false) (he : starEach (e :: es) X.env = (false, eval e X.env) :: starEach es X.env) (hpl : (backTo pos (starEach es X.env)).any (·.1) = false) (ha : PA X (e :: es) ta) (hlr : ∀ {σ H Q Q'}, (∀ vs H1, Q vs H1 → Q' vs H1) → ta σ H Q → ta σ H Q') :
    PMk X (.Call (.Name x p) (e :: es) [] pos) (tMkR C fs ta) := by
  obtain ⟨fI, fd, ps, iC, tI, F, hb⟩ := MK.ini
  intro pins s σ H Q I q
  refine pmk_oex MK.oex iC tI F hr hb .nil pass0 hg hm ha hdb he hpl pins s σ H Q I (hlr (fun vs H1 z => ?_) q)
  obtain ⟨hl, z⟩ := z
  refine ⟨by rw [hl]; have := MK.ne.2.2; omega, fun a na => ⟨a, C, vs, by rw [List.append_nil], hl, MK.oex, MK.cls.no, upd_same, fun d H2 nd ne e1 e2 e3 => ⟨rfl, d, _, e1, e2, (upd_ne ne).symm.trans nd, ?_⟩⟩⟩
  have nd1 : H1 d = none := (upd_ne ne).symm.trans nd
  have : upd (del H2 a) d (.xd ((fs.map sV).zip vs).reverse) = upd H1 d (.xd ((fs.map sV).zip vs).reverse) := by
    funext b
    by_cases hb : b = d
    · rw [hb, upd_same, upd_same]
    · rw [upd_ne hb, upd_ne hb]
      by_cases ha2 : b = a
      · rw [ha2, del_same, na]
      · rw [del_ne ha2, e3 b ha2 hb, upd_ne ha2]
  rw [this]
  exact z d nd1
theorem look_rev {α β : Type} [BEq α] [LawfulBEq α] : ∀ {l : List (α × β)}, (l.map (·.1)).Nodup → ∀ {a : α} {b : β}, (a, b) ∈ l → l.lookup a = some b
  | (x, y) :: l, nd, a, b, hm => by
    rw [List.map_cons, List.nodup_cons] at nd
    rw [List.lookup_cons]
    rcases List.mem_cons.mp hm with z | z
    · cases z
      simp
    · have : (a == x) = false := by
        have ne : a ≠ x := fun e => nd.1 (by rw [← e]; exact List.mem_map.mpr ⟨_, z, rfl⟩)
        simpa using ne
      rw [this]
      exact look_rev nd.2 z
theorem xfs_of : ∀ {fs : List M.Sx} {ds : List SD} {vs : List V}, Reps K H ds vs → ∀ f d, (fs.zip ds).lookup f = some d → ∃ v, (sV f, v) ∈ (fs.map sV).zip vs ∧ Rep K H d v
  | [], _, _, _, f, d, e => by simp at e
  | g :: fs, [], _, _, f, d, e => by simp at e
  | g :: fs, d0 :: ds, vs, ⟨v, r, ev, ra, rr⟩, f, d, e => by
    subst ev
    rw [List.zip_cons_cons, List.lookup_cons] at e
    by_cases z : (f == g) = true
    · rw [z] at e
      cases e
      have : f = g := by simpa using z
      subst this
      exact ⟨v, by simp, ra⟩
    · rw [Bool.not_eq_true] at z
      rw [z] at e
      obtain ⟨u, h1, h2⟩ := xfs_of rr f d e
      exact ⟨u, by simp [h1], h2⟩
theorem xfs_rev {ds : List SD} {vs : List V} (nd : fs.Nodup) (r : Reps K H ds vs) (hl : vs.length = fs.length) : XFs K H (fs.zip ds) ((fs.map sV).zip vs).reverse := fun f d e => by
  obtain ⟨v, h1, h2⟩ := xfs_of r f d e
  refine ⟨v, look_rev ?_ (List.mem_reverse.mpr h1), h2⟩
  rw [List.map_reverse, List.map_fst_zip (by simp [hl])]
  exact List.pairwise_reverse.mpr (List.Pairwise.map _ (fun _ _ ne e => ne (sV_inj e.symm)) nd)
theorem zip_fst {ds : List SD} (hl : ds.length = fs.length) : (fs.zip ds).map (·.1) = fs := List.map_fst_zip (by omega)
theorem liftA_mono {w : WA} : ∀ {σ H} {Q Q' : List V → Hp → Prop}, (∀ vs H1, Q vs H1 → Q' vs H1) → liftA K w σ H Q → liftA K w σ H Q' := fun f ⟨σa, h, Qa, rs, rh, q, k⟩ => ⟨σa, h, Qa, rs, rh, q, fun ds h' vs H' a b cc d => f _ _ (k ds h' vs H' a b cc d)⟩
/-- what a made exception is -/
theorem mk_go {ds : List SD} {vs : List V} {d : Addr} (MK : XMk P0 w0 K.K mg0 base0 c C fs) (hm : K.mg (sV c) = some (.ref C)) (r : Reps K H1 ds vs) (hl : ds.length = fs.length) (nd : H1 d = none) : XD K (upd H1 d (.xd ((fs.map sV).zip vs).reverse)) c (fs.zip ds) (.ref C) (some d) :=
  ⟨C, d, _, rfl, rfl, hm, upd_same, xfs_rev MK.ne.2.1 (r.kp (kp_new nd)) (by rw [r.length, hl]), by rw [zip_fst hl]; exact MK.cls⟩
theorem s_newx (MK : XMk X.prog X.w X.K X.mg X.base c C fs) (hr : Room 2 X.A) (hg : Gl X x) (hx : x = sV c) (hm : X.mg (sV c) = some (.ref C)) (hdb : (x == ("__debug__" : Str)) = false) (he : starEach (e :: es) X.env = (false, eval e X.env) :: starEach es X.env) (hpl : (backTo pos (starEach es X.env)).any (·.1) = false)
    (ha : PA X (e :: es) (liftA X.F wr)) : PE X (.Call (.Name x p) (e :: es) [] pos) (lift X.F fun σ h Q => wr σ h fun ds h1 => ds.length = fs.length ∧ ∀ r, h1 r = none → Q (.ref r) (M.up h1 r (.exc c (fs.zip ds)))) := by
  subst hx
  refine (pe_of_pmk (pmk_x MK hr hg hm hdb he hpl ha liftA_mono)).imp fun σ H Q ⟨σa, h, Qa, rs, rh, q, k⟩ => ?_
  refine liftA_go rs rh q fun ds h1 vs H1 ⟨hl, q1⟩ f1 r1 rh1 rs1 => ⟨by rw [r1.length, hl], fun d nd => ⟨C, d, rfl, rfl, fun a na => ?_⟩⟩
  obtain ⟨C2, dd, ps, e1, e2, hm2, ed, xf, xc⟩ := mk_go (K := X.F) MK hm r1 hl nd
  cases e1
  cases e2
  have na1 : H1 a = none := by
    by_cases z : a = d
    · rw [z]; exact nd
    · exact (upd_ne z).symm.trans na
  have hda : d ≠ a := fun z => by rw [← z, upd_same] at na; cases na
  have rh2 := rh_hid (o := HO.xd ((fs.map sV).zip vs).reverse) rh1 nd
  exact k _ _ _ _ (q1 a (rh1.none na1)) ((f1.trans (frm_hid nd)).trans (frm_new na)) rfl (rh_new rh2 na ⟨C, d, _, upd_same, by rw [upd_ne hda]; exact ed, hm, xf.kp (kp_new na), xc⟩)
theorem ss_raise {ex : M.St → M.XP} {p2 : Pos} (hc : X.calm = true) (tk : Takes X (WXx X.F ex)) (MK : XMk X.prog X.w X.K X.mg X.base c C fs) (hr : Room 2 X.A) (hg : Gl X x) (hx : x = sV c) (hm : X.mg (sV c) = some (.ref C)) (hdb : (x == ("__debug__" : Str)) = false) (he : starEach (e :: es) X.env = (false, eval e X.env) :: starEach es X.env) (hpl : (backTo pos (starEach es X.env)).any (·.1) = false)
    (ha : PA X (e :: es) (liftA X.F wr)) : PS X (.Raise (some (.Call (.Name x p) (e :: es) [] pos)) none p2) (liftS X.F fun R σ h => wr σ h fun ds h1 => ds.length = fs.length ∧ ex σ c (fs.zip ds) h1) := by
  subst hx
  refine (ps_raise hc tk (pmk_x MK hr hg hm hdb he hpl ha liftA_mono)).imp fun D σ H ⟨σa, h, R, rs, rh, q, k⟩ => ?_
  refine liftA_go rs rh q fun ds h1 vs H1 ⟨hl, q1⟩ f1 r1 rh1 rs1 => ⟨by rw [r1.length, hl], fun d nd => ⟨σa, c, _, h1, q1, rs1.kp (kp_new nd), rh_hid rh1 nd, mk_go (K := X.F) MK hm r1 hl nd⟩⟩
end

/-! ### a held exception is read -/
section
variable {X : L2.Cx} {K : Fr} {H H1 : Hp} {h h1 : M.AH} {x : Str} {p pos : Pos} {e : Expr} {wa : WE}
theorem exR_inst {P : Program} {w : World} {H : Hp} {hp : Heap} {a C dd : Addr} {ps : List (Str × V)} (hok : HOk P w H hp) (e : H a = some (exR a C dd)) (ed : H dd = some (.xd ps)) : ∃ oe od mA, PySem.W.InstAt hp a oe C (some od) ∧ hp.Ns1 dd mA ∧ hp.get? dd = some od ∧ ∀ f, RelO (ps.lookup f) (mA f) := by
  obtain ⟨oe, fv, ho, hz, hd⟩ := exR_at hok e
  obtain ⟨mA, hns, hr⟩ := (show ObjOk P w H hp dd (.xd ps) from hok dd _ ed)
  obtain ⟨od, hod, _⟩ := lookIn_ns hns
  exact ⟨oe, od, mA, ⟨ho, hz.1, by unfold PySem.W.notCls; rw [hd] <;> rfl, by rw [hz.2]; exact hod⟩, hns, hod, hr⟩
def tFx (K : PySem.W.Frag) (n : Str) (te : TE) : TE := fun σ H Q => te σ H fun x H1 => ∃ (a C dd : Addr) (ps : List (Str × V)) (v : V), x = .ref a ∧ H1 a = some (exR a C dd) ∧ H1 dd = some (.xd ps) ∧ XfC K C ∧ PySem.W.findIn K (.ref C) n = some none ∧ ps.lookup n = some v ∧ Q v H1
theorem pe_fx {n : Str} {te : TE} (he : PE X e te) (hb : attributeBase e n X.env (eval e X.env) = eval e X.env) : PE X (.Attribute e n pos) (tFx X.K n te) :=
  ⟨fun pins s σ H Q I q => attr_of hb (thn (he.run pins s σ H _ I q) (by
    rintro u s1 ⟨x, H1, J, rx, a, C, dd, ps, v, rfl, ea, ed, T, hno, l, q1⟩
    cases (show u = Value.ref a from rx)
    obtain ⟨oe, od, mA, A, hns, hod, hr⟩ := exR_inst J.hok ea ed
    obtain ⟨od2, ho, hl⟩ := lookIn_ns hns
    rw [hod] at ho
    cases ho
    obtain ⟨u, hu, ru⟩ := RelO.some_of (v := v) (o := mA n) (by rw [← l]; exact hr n)
    exact HandSPX.exc_get J.kIn A T.ga T.gg T.exC (PySem.W.findObj_own T.hdC hno rfl (by rw [hl, hu])) (handed_of ru) ⟨v, H1, J.tok _, ru, q1⟩))⟩
theorem exc_inv {d : SD} {f : Nat → M.Sx → List (M.Sx × SD) → Prop} (q : M.aExc d h f) : ∃ p c fs, d = .ref p ∧ h p = some (.exc c fs) ∧ f p c fs := by
  cases d with
  | ref p =>
    simp only [M.aExc] at q
    cases e : h p with
    | none => rw [e] at q; exact q.elim
    | some o => rw [e] at q; cases o <;> first | exact q.elim | exact ⟨p, _, _, rfl, e, q⟩
  | _ => exact q.elim
theorem s_fldx {nm : Str} {f : M.Sx} (hn : nm = sV f) (hb : attributeBase e nm X.env (eval e X.env) = eval e X.env) (ha : PE X e (lift X.F wa)) : PE X (.Attribute e nm pos) (lift X.F fun σ h Q => wa σ h fun x h1 => M.aExc x h1 fun _ _ fs => M.aSome (fs.lookup f) fun v => Q v h1) := by
  subst hn
  refine (pe_fx ha hb).imp fun σ H Q ⟨σa, h, Qa, rs, rh, q, k⟩ => ?_
  refine lift_go rs rh q fun d h1 v H1 q1 f1 r1 rh1 rs1 => ?_
  obtain ⟨p, c, fs, rfl, e1, q2⟩ := exc_inv q1
  cases (show v = _ from r1)
  obtain ⟨C, dd, ps, e2, ed, hm, xf, xc⟩ := rh1 p _ e1
  cases l : fs.lookup f with
  | none => rw [l] at q2; exact q2.elim
  | some y =>
    rw [l] at q2
    obtain ⟨u, l2, ru⟩ := xf f y l
    refine ⟨p, C, dd, ps, u, rfl, e2, ed, xc.xf, xc.no f ?_, l2, k _ _ _ _ q2 f1 ru rh1⟩
    have : (f, y) ∈ fs := by
      clear q2 xf xc e1
      induction fs with
      | nil => cases l
      | cons g t ih =>
        obtain ⟨g1, g2⟩ := g
        rw [List.lookup_cons] at l
        by_cases z : (f == g1) = true
        · rw [z] at l
          cases l
          have : f = g1 := by simpa using z
          rw [this]
          exact List.mem_cons_self
        · rw [Bool.not_eq_true] at z
          rw [z] at l
          exact List.mem_cons_of_mem _ (ih l)
    exact List.mem_map.mpr ⟨_, this, rfl⟩
def rIsX (K : PySem.W.Frag) : List V → Hp → VK → Prop := fun xs H Q => ∃ (a C dd : Addr) (ps : List (Str × V)) (c : V) (cv : Value) (b : Bool) (fs : List M.Sx), xs = [.ref a, c] ∧ H a = some (exR a C dd) ∧ H dd = some (.xd ps) ∧ XCls K C fs ∧ (∀ u, RelV c u → u = cv) ∧ PySem.W.kitOne K (.ref C) cv = some b ∧ Q (.bl b) H
theorem call_isX : CallR X (.builtin "isinstance") (rIsX X.K) := by
  intro pins s σ H xs us Q I r q
  obtain ⟨a, C, dd, ps, c, cv, b, fs, rfl, ea, ed, T, hc, ek, q1⟩ := q
  cases r with
  | cons rx rr =>
    cases rr with
    | cons rt rr =>
      cases rr
      cases rx
      have ec := hc _ rt
      subst ec
      obtain ⟨oe, od, _, A, _⟩ := exR_inst I.hok ea ed
      exact PySem.W.kia_one (PySem.W.kitx_exc (od := some od) T.cl T.xf.ga T.xf.gg T.xf.exC T.ca T.sp T.ti T.mr) I.kIn A ek (fun z => nomatch z) fun tk => ⟨.bl b, H, I.kept (t' := tk) fun _ _ z => z, rfl, q1⟩
theorem s_isx {xt : Str} {p2 : Pos} {subs all : List M.Sx} (hg : Gl X "isinstance") (hm : X.mg "isinstance" = none) (hg2 : Gl X xt) (hd2 : (xt == ("__debug__" : Str)) = false) (hn2 : xt ≠ "__name__")
    (hf : ∃ c : V, ∃ cv : Value, (X.mg xt = some cv ∨ (X.mg xt = none ∧ bootBuiltins xt = some cv)) ∧ RelV c cv ∧ (∀ u, RelV c u → u = cv) ∧ ∀ c' ∈ all, ∀ C, X.mg (sV c') = some (.ref C) → PySem.W.kitOne X.K (.ref C) cv = some (decide (c' ∈ subs)))
    (he : starEach [e, .Name xt p2] X.env = (false, eval e X.env) :: starEach [.Name xt p2] X.env) (ha : PE X e (lift X.F wa)) :
    PE X (.Call (.Name "isinstance" p) [e, .Name xt p2] [] pos) (lift X.F fun σ h Q => wa σ h fun x h1 => M.aExc x h1 fun _ c _ => c ∈ all ∧ Q (.bl (decide (c ∈ subs))) h1) := by
  obtain ⟨c, cv, hv, rc, hc, hk⟩ := hf
  have pt : PE X (.Name xt p2) (tC c) := by
    rcases hv with hv | ⟨h1, h2⟩
    · exact pe_glob hg2 hv rc hd2
    · exact pe_bltn hg2 h1 h2 rc hn2 hd2
  refine (pe_callB call_isX hg hm (by decide +kernel) (pa_cons ha (pa_cons pt pa_nil) he) (by decide +kernel) (by decide +kernel) he rfl).imp fun σ H Q ⟨σa, h, Qa, rs, rh, q, k⟩ => ?_
  refine lift_go rs rh q fun dx h1 v H1 q1 f1 r1 rh1 rs1 => ?_
  obtain ⟨a, c0, fs, rfl, e1, hin, q2⟩ := exc_inv q1
  cases (show v = _ from r1)
  obtain ⟨C, dd, ps, e2, ed, hm2, _, xc⟩ := rh1 a _ e1
  exact ⟨a, C, dd, ps, c, cv, _, _, rfl, e2, ed, xc, hc, hk c0 hin C hm2, (k.go f1).now rh1 q2 rfl⟩
end
/-! ### try -/
section
variable {X : L2.Cx} {pins : List (Addr × Obj)} {σ : L2.St} {H : Hp} {s : Shared}
theorem hot_in (I : Inv X pins σ H s) (a : Addr) : Inv (X.suite a (X.pn ++ pins)) [] σ H s :=
  ⟨I.ok.suite a _, I.os, I.bare, I.base, I.loc, I.cell, I.free, I.freeC, fun q hq => I.pin q (by simpa using hq), I.hok, I.len⟩
theorem hot_out {a : Addr} {pn : List (Addr × Obj)} (I : Inv (X.suite a (X.pn ++ pins)) pn σ H s) (ok : X.Ok) : Inv X pins σ H s :=
  ⟨ok, I.os, I.bare, I.base, I.loc, I.cell, I.free, I.freeC, fun q hq => I.pin q (List.mem_append_left _ hq), I.hok, I.len⟩
/-- the ends of a suite whose name i goes -/
abbrev offE (i : Nat) (D : L2.Ends) : L2.Ends := { nx := fun σ' H' => D.nx (σ'.set i none) H', rt := D.rt, bk := fun σ' H' => D.bk (σ'.set i none) H', ct := fun σ' H' => D.ct (σ'.set i none) H' }
def wKeep (K : PySem.W.Frag) (c : Value) (i : Nat) (ts : TS) (Wo : WX) (D : L2.Ends) : WX := fun cls d σ H => ∃ b, PySem.W.exmOne K cls c = some b ∧
  (b = true → ∃ C dd, cls = .ref C ∧ d = some dd ∧ ∀ a, H a = none → ts (offE i D) (σ.set i (some (.ref a))) (upd H a (exR a C dd))) ∧ (b = false → Wo cls d σ H)
/-- try: body, except x as n: suite; what is caught may be kept -/
theorem ps_tryK {x n : Str} {c : Value} {i : Nat} {body suite : List Stmt} {b0 : Stmt} {np pos pos' : Pos} {tb : WX → TS} {ts : TS} {Wo : WX} (hs : X.stack = X.env :: X.outer) (hf : X.env.frame = some X.env.locals) (hN : X.N.Nodup) (hi : X.N[i]? = some n) (hln : X.env.kindOf n = some .local) (hc : Names X x c) (tk : Takes X Wo)
    (hb : ∀ (W : WX) (pn : List (Addr × Obj)) (xe : Value → Shared → Prop), Takes (X.tr pn xe) W → PassesOwn (model X.prog X.w) X.A X.env xe → PSs (X.tr pn xe) body (tb W)) (hsu : ∀ (a : Addr) (pn : List (Addr × Obj)), PSs (X.suite a pn) (b0 :: suite) ts) :
    PS X (.Try body [.ExceptHandler (some (.Name x np)) (some n) (b0 :: suite) pos'] [] [] pos) (fun D σ H => tb (wKeep X.K c i ts Wo D) D σ H) := by
  refine ⟨fun pins s σ H D I0 q0 => wpAny_Try_except (wpAny_mono ((hb (wKeep X.K c i ts Wo D) (X.pn ++ pins) (fun e t1 => wpAny (model X.prog X.w) X.A (noteFrame e X.env) (fun _ t2 => wpAny (model X.prog X.w) X.A (setFlight e none) (fun _ t3 => wpAny (model X.prog X.w) X.A (handleBy e X.env [.ExceptHandler (some (.Name x np)) (some n) (b0 :: suite) pos']) (SP X pins D) X.xe t3) X.xe t2) X.xe t1) (fun u t z => ?_) PassesOwn.looking).run [] s σ H D (I0.toTry _) q0) (fun f t z => ?_) fun _ _ z => z)⟩
  · obtain ⟨a, B, sI, pins', σ1, H1, cls, d, rfl, J0, nb, up, sky, na, os, ag, b, hb1, yes, no⟩ := z
    have ok := I0.ok
    have J := J0.ofTry ok
    have hfr : X.A.frames = some (X.env :: X.outer) := by rw [ok.frames, hs]
    rw [show (X.tr (X.pn ++ pins) _).stack = X.env :: X.outer from hs] at sky
    show wpAny (model X.prog X.w) X.A (noteFrame (.ref a) X.env) _ _ _
    refine Sky.land Zc.steady hfr hf sky fun h3 fl up3 => ?_
    obtain ⟨oe3, vs3, he3, hz3, hd3⟩ := fl.there
    -- the exception's object is none of the frames', none of the state's without it
    have nfr : a ∉ frs X.stack := fun hm => by
      rw [hs] at hm
      obtain ⟨_, o2, e2, nf⟩ := fl.2.2.1.mem hm
      rw [he3] at e2
      cases e2
      exact nf _ hd3
    have nI : sI.heap.get? a = none := by
      cases e : sI.heap.get? a with
      | none => rfl
      | some o =>
        have := nb a o e nfr
        rw [fl.2.1] at this
        cases this
    have J3 : Inv X pins σ1 H1 { t with heap := h3 } := J.landed nb fl.1 (up.trans up3) os ag
    have S3 := hot_in J3 a
    refine wpAny_handleBy_cons (codeAny_handlers_test ?_) (by intro z; cases z)
    have LT : PySem.W.Looks (model X.prog X.w) h3 (typeOf (.ref a)) cls := fun A Q E s k q => wpAny_typeOf_ref (k _ _ he3) (by rw [hz3.1]; exact q)
    have LM := PySem.W.exm_one (M := model X.prog X.w) J3.kIn LT hb1
    have nm : ∀ {Q : Value → Shared → Prop} {E : Value → Shared → Prop}, Q c { t with heap := h3 } → wpAny (model X.prog X.w) (X.A.mark (some (.ref a))) (eval (.Name x np) X.env) Q E { t with heap := h3 } := fun {Q E} q => by
      obtain ⟨hg, hdb, hm | ⟨hm, hv, hnn⟩⟩ := hc
      · exact ld_glob (X := X.suite a (X.pn ++ pins)) S3 hg hm q hdb
      · exact ld_blt (X := X.suite a (X.pn ++ pins)) S3 hg hm hv q hnn hdb
    refine nm (LM.here ?_)
    cases b with
    | false =>
      show wpAny _ X.A (handleBy (.ref a) X.env []) _ _ _
      refine wpAny_handleBy_nil ?_
      obtain ⟨_, _, _, oe, vs, T, oT, ts', he, hz, hd, h1, _⟩ := id fl
      unfold PySem.passOn
      refine wpAny_bind (wpAny_field he hd h1 ?_)
      rw [if_neg (show ¬ ((Value.ref T == Value.none) = true) by simp)]
      have last : wpAny (model X.prog X.w) X.A (setFlight (.ref a) X.env.frame) (fun _ s4 => wpAny (model X.prog X.w) X.A (throw (.ref a) : Sem Flow) (SP X pins D) X.xe s4) X.xe { t with heap := h3 } := by
        rw [hf]
        refine HandSPX.setFlight_upZ fl fun h4 hh up4 => wpAny_throw (tk _ _ ?_)
        exact ⟨a, B, sI, pins, σ1, H1, cls, d, rfl, J, nb, (up.trans up3).trans up4, .inr (.inr (by rw [hs]; exact hh)), na, os, ag, no rfl⟩
      first
        | exact wpAny_bind (wpAny_pure (wpAny_bind last))
        | exact wpAny_bind last
    | true =>
      refine codeAny_handlers_suite_as (HandSPX.lands_againZ fl fun h4 fl4 up4 => ?_)
      obtain ⟨C, dd, rfl, rfl, hts⟩ := yes rfl
      obtain ⟨oe4, vs4, he4, hz4, hd4⟩ := fl4.there
      have J4 : Inv X pins σ1 (upd H1 a (exR a C dd)) { t with heap := h4 } := adopt0 J nb fl4.1 ((up.trans up3).trans up4) os ag na nI (exR_ok he4 hz4 hd4)
      refine store_ok (X := X.suite a (X.pn ++ pins)) (v := .ref a) (hot_in J4 a) hN hi (.inl hln) rfl (fun s5 S5 => ?_) (.inr hln)
      refine wpAny_mono ((hsu a (X.pn ++ pins)).run [] s5 _ _ (offE i D) S5 (hts a na)) (fun f s6 z => ?_) (fun _ _ z => False.elim z)
      have goes : ∀ {σ6 : L2.St} {H6 : Hp} {Q : Shared → Prop}, Inv (X.suite a (X.pn ++ pins)) [] σ6 H6 s6 → (∀ s7, Inv X pins (σ6.set i none) H6 s7 → Q s7) → wpAny (model X.prog X.w) X.A (do bindName X.env n .none; unbindBehindTheSuite X.env n pos') (fun _ s7 => Q s7) X.xe s6 := fun {σ6 H6 Q} S6 hq => gone_ok (hot_out S6 ok) hN hi hln hq
      cases f
      case ret u =>
        obtain ⟨v6, σ6, H6, S6, r6, q6⟩ := z
        exact goes S6 fun s7 J7 => ⟨_, _, _, J7, r6, q6⟩
      all_goals (
        obtain ⟨σ6, H6, S6, q6⟩ := z
        exact goes S6 fun s7 J7 => ⟨_, _, J7, q6⟩)
  · have ok := I0.ok
    cases f
    case ret u =>
      obtain ⟨v, σ1, H1, J1, r, q⟩ := z
      exact ⟨v, σ1, H1, J1.ofTry ok, r, q⟩
    case next =>
      obtain ⟨σ1, H1, J1, q⟩ := z
      exact wpAny_execs_nil ⟨σ1, H1, J1.ofTry ok, q⟩
    all_goals (
      obtain ⟨σ1, H1, J1, q⟩ := z
      exact ⟨σ1, H1, J1.ofTry ok, q⟩)
end
end Snd
end
section
/-! Sound8: what the IR says of a text holds of the model's run of it. -/
namespace Snd
open PySem L2 PySem.Spec PyProof.Rows
variable [FrameP]

/-- the context in which a matched text runs -/
structure XOk (P : M.Prog) (n : Nat) (T : Tb) (sc s0 : Scope) (X : L2.Cx) (ex : M.St → M.XP) : Prop where
  eN : X.N = T.N
  nd : X.N.Nodup
  eS : X.env.scope = sc
  st : ∀ x, locB s0 x = true → L2.Loc sc x ∧ (X.fn x = true ∨ sc.names.lookup x = some NameKind.local)
  calm : X.calm = true
  room : Room (n + 2) X.A
  gd : X.A.guards = some []
  po : PassesOwn (model X.prog X.w) X.A X.env X.xe
  tk : Takes X (WXx X.F ex)
  free : ∀ x ∈ T.bn, X.mg x = none
  fn : ∀ f ∈ T.fs, ∃ fa fdc ps, X.mg (sV f) = some (.ref fa) ∧ PySem.W.keepIn X.F (.ref fa) = true ∧ FnX X.prog X.w X.F X.mg X.base (n + 2) fa fdc ps (spC X.F P n f) ∧ Binds X.F fdc ps []
  gi : ∀ p ∈ T.gs, ∃ t, X.mg (sV p.1) = some (.int p.2 t)
  tb : ∀ p ∈ T.ts, ∃ a, X.mg (sV p.1) = some (.ref a) ∧ ∀ s t, p.2.lookup s = some t → KDct X.F X.w a (sV s) (.str (sV t)) ∧ sOk t
  cs : ∀ c ∈ T.cs, P (M.mkN c) = none ∧ ∃ C, X.mg (sV c) = some (.ref C) ∧ PySem.W.keepIn X.K (.ref C) = true ∧ Cls X.K C ∧ ∀ m, n = m + 1 → ∃ fa fd ps, Mk X.K C fa ∧ FnX X.prog X.w X.F X.mg X.base (m + 2) fa fd ps (spC X.F P m (M.metN c M.sInit)) ∧ Binds X.F fd ps []
  ms : ∀ q ∈ T.ms, ∃ C fa fd ps, X.mg (sV q.1) = some (.ref C) ∧ Cls X.K C ∧ Meth X.K C (sV q.2) fa ∧ FnX X.prog X.w X.F X.mg X.base (n + 2) fa fd ps (spC X.F P n (M.metN q.1 q.2)) ∧ Binds X.F fd ps []
  at_ : ∀ q ∈ T.at_, ∃ C, X.mg (sV q.1) = some (.ref C) ∧ NoAttr X.K C (sV q.2)
  ds : ∀ q ∈ T.ds, ∃ fa fdc ps us, X.mg (sV q.1) = some (.ref fa) ∧ PySem.W.keepIn X.F (.ref fa) = true ∧ FnX X.prog X.w X.F X.mg X.base (n + 2) fa fdc ps (spC X.F P n q.1) ∧ Vals (List.replicate q.2 V.non) us ∧ Binds X.F fdc ps us
  wt : ∀ p ∈ T.ws, ∃ a vs, X.mg (sV p.1) = some (.ref a) ∧ KTup X.F a vs ∧ ∀ H, Reps X.F H (p.2.map M.D.str) vs
  xs : ∀ q ∈ T.xs, ∃ C, X.mg (sV q.1) = some (.ref C) ∧ XMk X.prog X.w X.K X.mg X.base q.1 C q.2
  xi : ∀ q ∈ T.xi, ∃ c : V, ∃ cv : Value, (X.mg (sV q.1) = some cv ∨ (X.mg (sV q.1) = none ∧ bootBuiltins (sV q.1) = some cv)) ∧ RelV c cv ∧ (∀ u, RelV c u → u = cv) ∧ ∀ c' ∈ q.2.2, ∀ C, X.mg (sV c') = some (.ref C) → PySem.W.kitOne X.K (.ref C) cv = some (decide (c' ∈ q.2.1))
  xt : ∀ q ∈ T.xt, ∃ cv : Value, X.mg (sV q.1) = some cv ∧ ∀ c' ∈ q.2.2, ∀ C, X.mg (sV c') = some (.ref C) → PySem.W.exmOne X.K (.ref C) cv = some (decide (c' ∈ q.2.1))
/-- where none may leave -/
abbrev noX : M.St → M.XP := fun _ _ _ _ => False
section
variable {P : M.Prog} {n : Nat} {T : Tb} {sc s0 : Scope} {X : L2.Cx} {ex : M.St → M.XP}
theorem XOk.units (ok : XOk P n T sc s0 X ex) : X.A.units + 200 < cLine := by have := ok.room.un; have : cLine = 9900 := rfl; omega
theorem ba3 {a b c : Bool} (h : (a && b && c) = true) : a = true ∧ b = true ∧ c = true := by
  obtain ⟨h1, h2⟩ := ba h
  obtain ⟨h3, h4⟩ := ba h1
  exact ⟨h3, h4, h2⟩
theorem visB_ok {x : Str} (h : visB sc x = true) : Vis sc x := by
  unfold visB at h
  split at h
  · exact .inl (by assumption)
  · exact .inr (.inl (by assumption))
  · exact .inr (.inr (by assumption))
  · cases h
theorem glB_ok (ok : XOk P n T sc s0 X ex) {x : Str} (h : glB sc x = true) : Gl X x := by
  unfold glB at h
  split at h
  · show X.env.scope.names.lookup x = _
    rw [ok.eS]; assumption
  · cases h
theorem nm_ok (ok : XOk P n T sc s0 X ex) {i : Nat} {e : Expr} (h : nmB T.N s0 i e = true) : PG X e (gName i) := by
  cases e <;> try (cases h)
  rename_i x p
  obtain ⟨h1, h2⟩ := ba h
  have e1 : X.N[i]? = some x := by rw [ok.eN]; exact of_decide_eq_true h1
  obtain ⟨l, f⟩ := ok.st x h2
  exact pg_name ok.nd e1 (by rw [ok.eS]; exact l) (by rw [ok.eS]; exact f)
theorem nm_star {i : Nat} {e : Expr} {es : List Expr} {env : Env} (h : nmB T.N s0 i e = true) : assignEach (e :: es) env = (false, assign e env) :: assignEach es env := by
  cases e <;> first | rfl | cases h
theorem nms_ok (ok : XOk P n T sc s0 X ex) : ∀ {is : List Nat} {es : List Expr}, nmsB T.N s0 is es = true → PGs X es (gNames is) ∧ (assignEach es X.env).length = is.length ∧ (assignEach es X.env).findIdx? (·.1) = none
  | [], [], _ => ⟨pgs_nil, rfl, rfl⟩
  | [], _ :: _, h => by cases h
  | _ :: _, [], h => by cases h
  | i :: is, e :: es, h => by
    obtain ⟨h1, h2⟩ := ba h
    obtain ⟨a, b, c⟩ := nms_ok ok h2
    have q := nm_star (es := es) (env := X.env) h1
    refine ⟨pgs_cons (nm_ok ok h1) a (by rw [q]; rfl), by rw [q]; simp [b], ?_⟩
    rw [q, List.findIdx?_cons]
    simp [c]
theorem tg_ok (ok : XOk P n T sc s0 X ex) {t : M.Tgt} {e : Expr} (h : tgB T.N s0 t e = true) : PG X e (gOf X.F t) := by
  cases t with
  | nm i => exact nm_ok ok h
  | tp ts =>
    cases e <;> try (cases h)
    obtain ⟨a, b, c⟩ := nms_ok ok h
    exact pg_tup ok.calm a b c
theorem blk_ok (ok : XOk P n T sc s0 X ex) {scope : Scope} {own : List (Str × Nat)} (hb : BlkOk T.N sc scope own) (s : Shared) (H : Hp) (C : Addr) (cl : List (Str × Addr)) (fp : List Addr) : XOk P n T (relS scope sc) scope (X.blk s H scope (compEnvC scope cl C X.env) fp) noX := by
  have e : (compEnvC scope cl C X.env).scope = relS scope sc := by rw [← ok.eS]; rfl
  refine ⟨ok.eN, ok.nd, e, fun x hx => ?_, ok.calm, ok.room, ok.gd, .never, (fun u s2 z => by obtain ⟨_, _, _, _, _, _, _, _, _, _, _, _, _, _, _, _, _, _, _, _, w, _⟩ := z; exact w.elim), ok.free, ok.fn, ok.gi, ok.tb, ok.cs, ok.ms, ok.at_, ok.ds, ok.wt, ok.xs, ok.xi, ok.xt⟩
  unfold locB at hx
  have key : ∀ k, k ≠ .free → scope.names.lookup x = some k → (relS scope sc).names.lookup x = some k := fun k hk h => lookup_relS_keep hk h
  split at hx
  · rename_i h
    exact ⟨.inl (key _ (by decide) h), .inr (key _ (by decide) h)⟩
  · rename_i h
    refine ⟨.inr (key _ (by decide) h), .inl ?_⟩
    show (scope.names.lookup x == some NameKind.cell) = true
    rw [h]; rfl
  · cases hx
theorem s_bopA {es : List Expr} {e : Expr} {pos : Pos} {wa : WE} {wb : WE} (ha : PE X e (lift X.F wa)) (hb : PE X (.BoolOp .And es pos) (lift X.F wb)) (hne : es ≠ []) :
    PE X (.BoolOp .And (e :: es) pos) (lift X.F fun σ h Q => wa σ h fun d h1 => match d with
    | .bl b => (match b == true with
      | true => wb σ h1 Q
      | false => Q (.bl b) h1)
    | _ => False) := by
  obtain ⟨e2, es2, rfl⟩ : ∃ e2 es2, es = e2 :: es2 := by cases es with
    | nil => exact absurd rfl hne
    | cons a b => exact ⟨a, b, rfl⟩
  refine (pe_and ha hb).imp fun σ H Q ⟨σa, h, Qa, rs, rh, q, k⟩ => ?_
  refine lift_go rs rh q fun d h1 v H1 q1 f1 r1 rh1 rs1 => ?_
  cases d with
  | bl b =>
    cases (show v = _ from r1)
    refine ⟨b, rfl, ?_⟩
    cases b with
    | true => exact lift_go rs1 rh1 q1 fun d h2 v H2 q2 f2 r2 rh2 _ => k _ _ _ _ q2 (f1.trans f2) r2 rh2
    | false => exact (k.go f1).now rh1 q1 rfl
  | _ => exact q1.elim
theorem s_bopO {es : List Expr} {e : Expr} {pos : Pos} {wa : WE} {wb : WE} (ha : PE X e (lift X.F wa)) (hb : PE X (.BoolOp .Or es pos) (lift X.F wb)) (hne : es ≠ []) :
    PE X (.BoolOp .Or (e :: es) pos) (lift X.F fun σ h Q => wa σ h fun d h1 => match d with
    | .bl b => (match b == false with
      | true => wb σ h1 Q
      | false => Q (.bl b) h1)
    | _ => False) := by
  obtain ⟨e2, es2, rfl⟩ : ∃ e2 es2, es = e2 :: es2 := by cases es with
    | nil => exact absurd rfl hne
    | cons a b => exact ⟨a, b, rfl⟩
  refine (pe_or ha hb).imp fun σ H Q ⟨σa, h, Qa, rs, rh, q, k⟩ => ?_
  refine lift_go rs rh q fun d h1 v H1 q1 f1 r1 rh1 rs1 => ?_
  cases d with
  | bl b =>
    cases (show v = _ from r1)
    refine ⟨b, rfl, ?_⟩
    cases b with
    | false => exact lift_go rs1 rh1 q1 fun d h2 v H2 q2 f2 r2 rh2 _ => k _ _ _ _ q2 (f1.trans f2) r2 rh2
    | true => exact (k.go f1).now rh1 q1 rfl
  | _ => exact q1.elim
/-- the last of and, or -/
theorem s_bop1 {o : BoolOp} {k : Bool} {e : Expr} {pos : Pos} {wa : WE} (ha : PE X e (lift X.F wa)) :
    PE X (.BoolOp o [e] pos) (lift X.F fun σ h Q => wa σ h fun d h1 => match d with
    | .bl b => (match b == k with
      | true => Q (.bl k) h1
      | false => Q (.bl b) h1)
    | _ => False) := by
  refine (pe_one ha).imp fun σ H Q ⟨σa, h, Qa, rs, rh, q, kk⟩ => ?_
  refine lift_go rs rh q fun d h1 v H1 q1 f1 r1 rh1 rs1 => ?_
  cases d with
  | bl b =>
    refine (kk.go f1).now rh1 ?_ r1
    cases b <;> cases k <;> exact q1
  | _ => exact q1.elim
theorem w_bopA {es : List Expr} {e : Expr} {pos : Pos} {wa : WE} {wb : WE} (ha : PT X e (liftT X.F wa)) (hb : PW X (.BoolOp .And es pos) (liftT X.F wb)) (hne : es ≠ []) :
    PW X (.BoolOp .And (e :: es) pos) (liftT X.F fun σ h Q => wa σ h fun d h1 => match d with
    | .bl b => (match b == true with
      | true => wb σ h1 Q
      | false => Q (.bl b) h1)
    | _ => False) := by
  obtain ⟨e2, es2, rfl⟩ : ∃ e2 es2, es = e2 :: es2 := by cases es with
    | nil => exact absurd rfl hne
    | cons a b => exact ⟨a, b, rfl⟩
  refine (pw_and ha hb).imp fun σ H Q ⟨σa, h, Qa, rs, rh, q, k⟩ => ?_
  refine ⟨σa, h, _, rs, rh, q, fun d h1 q1 => ?_⟩
  cases d with
  | bl b =>
    refine ⟨b, rfl, fun H1 f1 rh1 => ?_⟩
    cases b with
    | true => exact iteT ⟨σa, h1, _, rs.kp (f1.kp rh), rh1, q1, fun d h2 q2 => let ⟨b, e, kk⟩ := k d h2 q2; ⟨b, e, fun H2 f2 rh2 => kk H2 (f1.trans f2) rh2⟩⟩
    | false =>
      obtain ⟨b, e, kk⟩ := k _ _ q1
      cases e
      exact iteF (kk H1 f1 rh1)
  | _ => exact q1.elim
theorem w_bopO {es : List Expr} {e : Expr} {pos : Pos} {wa : WE} {wb : WE} (ha : PT X e (liftT X.F wa)) (hb : PW X (.BoolOp .Or es pos) (liftT X.F wb)) (hne : es ≠ []) :
    PW X (.BoolOp .Or (e :: es) pos) (liftT X.F fun σ h Q => wa σ h fun d h1 => match d with
    | .bl b => (match b == false with
      | true => wb σ h1 Q
      | false => Q (.bl b) h1)
    | _ => False) := by
  obtain ⟨e2, es2, rfl⟩ : ∃ e2 es2, es = e2 :: es2 := by cases es with
    | nil => exact absurd rfl hne
    | cons a b => exact ⟨a, b, rfl⟩
  refine (pw_or ha hb).imp fun σ H Q ⟨σa, h, Qa, rs, rh, q, k⟩ => ?_
  refine ⟨σa, h, _, rs, rh, q, fun d h1 q1 => ?_⟩
  cases d with
  | bl b =>
    refine ⟨b, rfl, fun H1 f1 rh1 => ?_⟩
    cases b with
    | false => exact iteF ⟨σa, h1, _, rs.kp (f1.kp rh), rh1, q1, fun d h2 q2 => let ⟨b, e, kk⟩ := k d h2 q2; ⟨b, e, fun H2 f2 rh2 => kk H2 (f1.trans f2) rh2⟩⟩
    | true =>
      obtain ⟨b, e, kk⟩ := k _ _ q1
      cases e
      exact iteT (kk H1 f1 rh1)
  | _ => exact q1.elim
theorem w_bop1A {k : Bool} {e : Expr} {pos : Pos} {wa : WE} (ha : PT X e (liftT X.F wa)) :
    PW X (.BoolOp .And [e] pos) (liftT X.F fun σ h Q => wa σ h fun d h1 => match d with
    | .bl b => (match b == k with
      | true => Q (.bl k) h1
      | false => Q (.bl b) h1)
    | _ => False) := by
  refine (pw_and1 ha).imp fun σ H Q ⟨σa, h, Qa, rs, rh, q, kk⟩ => ?_
  refine ⟨σa, h, _, rs, rh, q, fun d h1 q1 => ?_⟩
  cases d with
  | bl b =>
    have q2 : Qa (.bl b) h1 := by cases b <;> cases k <;> exact q1
    exact kk _ _ q2
  | _ => exact q1.elim
theorem w_bop1O {k : Bool} {e : Expr} {pos : Pos} {wa : WE} (ha : PT X e (liftT X.F wa)) :
    PW X (.BoolOp .Or [e] pos) (liftT X.F fun σ h Q => wa σ h fun d h1 => match d with
    | .bl b => (match b == k with
      | true => Q (.bl k) h1
      | false => Q (.bl b) h1)
    | _ => False) := by
  refine (pw_or1 ha).imp fun σ H Q ⟨σa, h, Qa, rs, rh, q, kk⟩ => ?_
  refine ⟨σa, h, _, rs, rh, q, fun d h1 q1 => ?_⟩
  cases d with
  | bl b =>
    have q2 : Qa (.bl b) h1 := by cases b <;> cases k <;> exact q1
    exact kk _ _ q2
  | _ => exact q1.elim
end

/-- the readings of one expression, as a value and as a test -/
structure EOk (X : L2.Cx) (e : Expr) (w : WE) : Prop where
  v : PE X e (lift X.F w)
  t : testB e = true → PT X e (liftT X.F w)
structure BOk (X : L2.Cx) (k : Bool) (es : List Expr) (w : WE) : Prop where
  v : ∀ pos, PE X (.BoolOp (if k then .And else .Or) es pos) (lift X.F w)
  t : testsB es = true → ∀ pos, PW X (.BoolOp (if k then .And else .Or) es pos) (liftT X.F w)
def C (P : M.Prog) (n : Nat) (ex : M.St → M.XP) : M.Cx := ⟨M.run P n, ex⟩
section
variable {P : M.Prog} {n : Nat} {T : Tb} {ex : M.St → M.XP}
theorem call_any {sc s0 : Scope} {X : L2.Cx} (ok : XOk P n T sc s0 X ex) {x : Str} {p pos : Pos} {l : List Expr} {f : M.Sx} {w : WA} (hx : x = sV f) (hf : f ∈ T.fs) (hg : glB sc x = true) (hp : plainN x = true)
    (hl : ∀ e es, l = e :: es → starEach (e :: es) X.env = (false, eval e X.env) :: starEach es X.env ∧ (backTo pos (starEach es X.env)).any (·.1) = false) (ha : PA X l (liftA X.F w)) (h0 : l = [] → ∀ σ h Q, w σ h Q → Q [] h) :
    PE X (.Call (.Name x p) l [] pos) (lift X.F fun σ h Q => w σ h fun ds h1 => M.run P n f ds h1 Q (ex σ)) := by
  obtain ⟨fa, fdc, ps, h1, h2, h3, h4⟩ := ok.fn f hf
  have hdb : (x == ("__debug__" : Str)) = false := by
    obtain ⟨a, _⟩ := ba hp
    simpa using a
  have hm : X.mg x = some (.ref fa) := by rw [hx]; exact h1
  cases l with
  | nil => exact (s_call0 (ex := ex) h3 ok.gd ok.tk ok.room (glB_ok ok hg) hm h2 h4 hdb).imp fun σ H Q ⟨σa, h, Qa, rs, rh, q, k⟩ => ⟨σa, h, Qa, rs, rh, h0 rfl _ _ _ q, k⟩
  | cons e es =>
    obtain ⟨a, b⟩ := hl e es rfl
    exact s_call h3 ok.gd ok.tk ok.room (glB_ok ok hg) hm h2 h4 hdb a b ha
theorem new_any {sc s0 : Scope} {X : L2.Cx} (ok : XOk P n T sc s0 X ex) {x : Str} {p pos : Pos} {l : List Expr} {c : M.Sx} {w : WA} (hx : x = sV c) (hc : c ∈ T.cs) (hg : glB sc x = true) (hp : plainN x = true)
    (hl : ∀ e es, l = e :: es → starEach (e :: es) X.env = (false, eval e X.env) :: starEach es X.env ∧ (backTo pos (starEach es X.env)).any (·.1) = false) (ha : PA X l (liftA X.F w)) (h0 : l = [] → ∀ σ h Q, w σ h Q → Q [] h) :
    PE X (.Call (.Name x p) l [] pos) (lift X.F fun σ h Q => w σ h fun ds h1 => M.run P n (M.mkN c) ds h1 Q (ex σ)) := by
  obtain ⟨hP, C, hm, hk, cl, mk⟩ := ok.cs c hc
  have hdb : (x == ("__debug__" : Str)) = false := by
    obtain ⟨a, _⟩ := ba hp
    simpa using a
  cases n with
  | zero =>
    cases l with
    | nil => exact ⟨fun pins s σ H Q I ⟨σa, h, Qa, rs, rh, q, k⟩ => by
        have := h0 rfl _ _ _ q
        simp only [M.run] at this⟩
    | cons e es =>
      obtain ⟨a, b⟩ := hl e es rfl
      refine ⟨fun pins s σ H Q I ⟨σa, h, Qa, rs, rh, q, k⟩ => ?_⟩
      refine wpAny_Call_Name_kw (ld_glob I (glB_ok ok hg) (by rw [hx]; exact hm) ?_ hdb)
      refine PySem.W.callWith_K (h₀ := X.base) I.ok.mod.kin hk (thn (ha.run pos pins s σ H (fun _ _ => False) I (liftA_go rs rh q fun ds h1 vs H1 q1 _ _ _ _ => by simp only [M.run] at q1)) fun us s1 ⟨vs, H1, I1, r, q⟩ => q.elim) a b
  | succ m =>
    obtain ⟨fa, fd, ps, mk1, F, hb⟩ := mk m rfl
    cases l with
    | nil => exact (s_new0 (ex := ex) hP hx hm cl mk1 F ok.gd ok.tk ok.room hb (glB_ok ok hg) hdb).imp fun σ H Q ⟨σa, h, Qa, rs, rh, q, k⟩ => ⟨σa, h, Qa, rs, rh, h0 rfl _ _ _ q, k⟩
    | cons e es =>
      obtain ⟨a, b⟩ := hl e es rfl
      exact s_new hP hx hm cl mk1 F ok.gd ok.tk ok.room hb (glB_ok ok hg) hdb a b ha
theorem ok_any : ∀ {l : List Expr} {pos : Pos} {env : Env}, (∀ e ∈ l, okX e = true) → (backTo pos (starEach l env)).any (·.1) = false
  | [], _, _, _ => rfl
  | e :: l, pos, env, h => by
    rw [ok_star (h e List.mem_cons_self)]
    show (false || (backTo pos (starEach l env)).any (·.1)) = false
    rw [ok_any fun e he => h e (List.mem_cons_of_mem _ he)]
    rfl
theorem oks_mt {sc s0 : Scope} : ∀ {ir : M.Es} {l : List Expr}, mtEs T sc s0 ir l = true → ∀ e ∈ l, okX e = true
  | .nil, [], _ => fun e he => nomatch he
  | .nil, _ :: _, h => by simp [mtEs] at h
  | .cons a r, [], h => by simp [mtEs] at h
  | .cons a r, x :: l, h => by
    simp only [mtEs] at h
    obtain ⟨h1, h2⟩ := ba h
    intro e he
    rcases List.mem_cons.mp he with z | he
    · rw [z]; exact ok_mt h1
    · exact oks_mt h2 e he
theorem nil_mt {sc s0 : Scope} {C : M.Cx} {ir : M.Es} {l : List Expr} (h : mtEs T sc s0 ir l = true) (e : l = []) : ∀ σ hh Q, M.wEs C ir σ hh Q → Q [] hh := by
  subst e
  cases ir with
  | nil => intro σ hh Q q; simpa only [M.wEs] using q
  | cons a r => simp [mtEs] at h
theorem opName {b : M.Blt} {bn : List Str} {sc : Scope} {x : Str} (h : bltB bn sc b x = true) : ∃ bk, bltK b = some bk ∧ x = bk.name ∧ x ∈ bn ∧ glB sc x = true := by
  unfold bltB at h
  cases e : bltK b with
  | none => rw [e] at h; cases h
  | some bk =>
    rw [e] at h
    obtain ⟨h1, h2, h3⟩ := ba3 h
    exact ⟨bk, rfl, of_decide_eq_true h1, by simpa using h2, h3⟩
theorem mthName {m : M.Mth} {x : Str} (h : mthB m x = true) : ∃ T id, mthT m = some (T, id, x) := by
  unfold mthB at h
  cases e : mthT m with
  | none => rw [e] at h; cases h
  | some z =>
    rw [e] at h
    obtain ⟨a, b, c⟩ := z
    have : x = c := of_decide_eq_true h
    subst this
    exact ⟨a, b, rfl⟩
theorem few_ok {l : List Expr} {pos : Pos} {env : Env} (h : ∀ e ∈ l, okX e = true) (hs : smallB l.length = true) :
    ((backTo pos (starEach l env)).all (fun x => !x.1) && (backToKw pos (keywordEach [] env)).all (fun x => x.1.isSome) && decide (l.length + ([] : List Keyword).length + (if ([] : List Keyword).isEmpty then 0 else 1) < 30)) = true := by
  have h1 : (backTo pos (starEach l env)).all (fun x => !x.1) = true := by
    have := ok_any (pos := pos) (env := env) h
    rw [List.all_eq_not_any_not]
    simpa using this
  have h2 : l.length < 20 := of_decide_eq_true hs
  rw [h1]
  have h3 : (backToKw pos (keywordEach [] env)).all (fun x => x.1.isSome) = true := rfl
  rw [h3]
  have h4 : decide (l.length + ([] : List Keyword).length + (if ([] : List Keyword).isEmpty then 0 else 1) < 30) = true := decide_eq_true (by simp; omega)
  rw [h4]
  rfl
end
end Snd
end
section
/-! Sound9: expressions, by recursion on the IR. -/
namespace Snd
open PySem L2 PySem.Spec PyProof.Rows
variable [FrameP]
section
variable {P : M.Prog} {n : Nat} {T : Tb} 
theorem EOk.plain {X : L2.Cx} {x : Expr} {w : WE} (h : PE X x (lift X.F w)) (he : ∀ whole, isTrue x X.env whole = (do let v ← whole; standAt x.pos; holding [v] (truthy v))) : EOk X x w := ⟨h, fun _ => pt_plain h he⟩
theorem EOk.eq {X : L2.Cx} {x : Expr} {w w' : WE} (h : EOk X x w) (e : w' = w) : EOk X x w' := by rw [e]; exact h
mutual
theorem sndE : ∀ (ir : M.E) (x : Expr) (X : L2.Cx) (sc s0 : Scope) {ex : M.St → M.XP}, XOk P n T sc s0 X ex → mtE T sc s0 ir x = true → EOk X x (M.wE (C P n ex) ir)
  | .var i, x, X, sc, s0, ex, ok, h => by
    cases x <;> try (exfalso; revert h; simp [mtE]; done)
    rename_i y p
    simp only [mtE] at h
    obtain ⟨h1, h2, h3⟩ := ba3 h
    obtain ⟨h4, h5⟩ := ba h3
    refine (EOk.plain (s_var (i := i) (by rw [ok.eN]; exact of_decide_eq_true h1) (by rw [ok.eS]; exact visB_ok h2) (by simpa using h4) (by simpa using h5)) (by intro _; rfl)).eq (by funext σ h Q; simp only [M.wE] <;> rfl)
  | .int k, x, X, sc, s0, ex, ok, h => by
    cases x <;> try (exfalso; revert h; simp [mtE]; done)
    rename_i c j p
    cases c <;> try (exfalso; revert h; simp [mtE]; done)
    simp only [mtE] at h
    have e := of_decide_eq_true h
    subst e
    exact (EOk.plain (s_const (d := .int _) pe_int fun H => rfl) (by intro _; rfl)).eq (by funext σ h Q; simp only [M.wE])
  | .str s, x, X, sc, s0, ex, ok, h => by
    cases x <;> try (exfalso; revert h; simp [mtE]; done)
    rename_i c j p
    cases c <;> try (exfalso; revert h; simp [mtE]; done)
    simp only [mtE] at h
    obtain ⟨h1, h2⟩ := ba h
    have e := of_decide_eq_true h1
    subst e
    have os : sOk s := fun c hc => of_decide_eq_true (List.all_eq_true.mp h2 c hc)
    exact (EOk.plain (s_const (d := .str s) pe_str fun H => ⟨rfl, os⟩) (by intro _; rfl)).eq (by funext σ h Q; simp only [M.wE])
  | .bl b, x, X, sc, s0, ex, ok, h => by
    cases x <;> try (exfalso; revert h; simp [mtE]; done)
    rename_i c j p
    cases c <;> try (exfalso; revert h; simp [mtE]; done)
    simp only [mtE, beq_iff_eq] at h
    subst h
    exact (EOk.plain (s_const (d := .bl _) pe_bl fun H => rfl) (by intro _; rfl)).eq (by funext σ h Q; simp only [M.wE])
  | .non, x, X, sc, s0, ex, ok, h => by
    cases x <;> try (exfalso; revert h; simp [mtE]; done)
    rename_i c j p
    cases c <;> try (exfalso; revert h; simp [mtE]; done)
    exact (EOk.plain (s_const (d := .non) pe_non fun H => rfl) (by intro _; rfl)).eq (by funext σ h Q; simp only [M.wE])
  | .gint y i, x, X, sc, s0, ex, ok, h => by
    cases x <;> try (exfalso; revert h; simp [mtE]; done)
    simp only [mtE] at h
    obtain ⟨h, h4⟩ := ba h
    obtain ⟨h1, h2, h3⟩ := ba3 h
    have e := of_decide_eq_true h1
    subst e
    exact (EOk.plain (s_gint (glB_ok ok h3) (ok.gi (y, i) (by simpa using h2)) (by simpa using (ba h4).1)) (by intro _; rfl)).eq (by funext σ h Q; simp only [M.wE])
  | .slw a lo hi, x, X, sc, s0, ex, ok, h => by
    cases x <;> try (exfalso; revert h; simp [mtE]; done)
    rename_i y s p
    cases s <;> try (exfalso; revert h; simp [mtE]; done)
    rename_i l u st p2
    cases st with
    | some _ => exact absurd h (by simp [mtE])
    | none =>
      simp only [mtE] at h
      obtain ⟨h1, h2, h3⟩ := ba3 h
      exact (EOk.plain (s_slw (sndE a _ X sc s0 ok h1).v (sndO lo _ X sc s0 ok h2) (sndO hi _ X sc s0 ok h3)) (by intro _; rfl)).eq (by funext σ h Q; simp only [M.wE])
  | .mnd es, x, X, sc, s0, ex, ok, h => by
    cases x <;> try (exfalso; revert h; simp [mtE]; done)
    rename_i g l kw p
    cases g <;> try (exfalso; revert h; simp [mtE]; done)
    cases l with
    | nil => exact absurd h (by simp [mtE])
    | cons y l =>
      match kw, h with
      | [⟨kn, kv, kp⟩], h =>
        cases kv <;> try (exfalso; revert h; simp [mtE]; done)
        rename_i c j np
        cases c <;> try (exfalso; revert h; simp [mtE]; done)
        simp only [mtE] at h
        obtain ⟨h, h5⟩ := ba h
        obtain ⟨h, h4⟩ := ba h
        obtain ⟨h1, h2, h3⟩ := ba3 h
        have e := of_decide_eq_true h1
        subst e
        have e := of_decide_eq_true h2
        subst e
        have hl := oks_mt h5
        exact (EOk.plain (s_mnd ok.calm ok.units (glB_ok ok h4) (ok.free _ (by simpa using h3)) (ok_star (hl y List.mem_cons_self)) (ok_any hl) (sndEs es _ X sc s0 ok h5)) (by intro _; rfl)).eq (by funext σ h Q; simp only [M.wE])
      | [], h => exact absurd h (by simp [mtE])
      | _ :: _ :: _, h => exact absurd h (by simp [mtE])
  | .orv a b, x, X, sc, s0, ex, ok, h => by
    cases x <;> try (exfalso; revert h; simp [mtE]; done)
    rename_i op l p
    cases op with
    | And => exact absurd h (by simp [mtE])
    | Or =>
      match l, h with
      | [y, z], h =>
        cases z <;> try (exfalso; revert h; simp [mtE]; done)
        rename_i k j q
        cases k <;> try (exfalso; revert h; simp [mtE]; done)
        simp only [mtE] at h
        obtain ⟨h1, h2⟩ := ba h
        exact (EOk.mk (s_orv (sndE a y X sc s0 ok h1).v (sndE b _ X sc s0 ok h2).v) fun z => by cases z).eq (by funext σ h Q; simp only [M.wE] <;> rfl)
      | [], h => exact absurd h (by simp [mtE])
      | [_], h => exact absurd h (by simp [mtE])
      | _ :: _ :: _ :: _, h => exact absurd h (by simp [mtE])
  | .tix y tab a, x, X, sc, s0, ex, ok, h => by
    cases x <;> try (exfalso; revert h; simp [mtE]; done)
    rename_i o j p
    cases o <;> try (exfalso; revert h; simp [mtE]; done)
    simp only [mtE] at h
    obtain ⟨h, h5⟩ := ba h
    obtain ⟨h, h4⟩ := ba h
    obtain ⟨h1, h2, h3⟩ := ba3 h
    have e := of_decide_eq_true h1
    subst e
    obtain ⟨ad, e1, e2⟩ := ok.tb (y, tab) (by simpa using h2)
    exact (EOk.plain (s_tix (ok_ix (ok_mt h5)) (glB_ok ok h3) e1 (by simpa using (ba h4).1) e2 (sndE a _ X sc s0 ok h5).v) (by intro _; rfl)).eq (by funext σ h Q; simp only [M.wE] <;> rfl)
  | .gtp y ss, x, X, sc, s0, ex, ok, h => by
    cases x <;> try (exfalso; revert h; simp [mtE]; done)
    simp only [mtE] at h
    obtain ⟨h, h4⟩ := ba h
    obtain ⟨h1, h2, h3⟩ := ba3 h
    have e := of_decide_eq_true h1
    subst e
    obtain ⟨a, vs, e1, e2, e3⟩ := ok.wt (y, ss) (by simpa using h2)
    exact (EOk.plain (s_const (d := .tup (ss.map .str)) (pe_glob (v := .ref a) (glB_ok ok h3) e1 rfl (by simpa using (ba h4).1)) fun H => ⟨a, vs, rfl, .inr e2, e3 H⟩) (by intro _; rfl)).eq (by funext σ h Q; simp only [M.wE])
  | .tup es, x, X, sc, s0, ex, ok, h => by
    cases x <;> try (exfalso; revert h; simp [mtE]; done)
    simp only [mtE] at h
    exact (EOk.plain (s_tup (sndEs es _ X sc s0 ok h)) (by intro _; rfl)).eq (by funext σ h Q; simp only [M.wE])
  | .lst es, x, X, sc, s0, ex, ok, h => by
    cases x <;> try (exfalso; revert h; simp [mtE]; done)
    simp only [mtE] at h
    exact (EOk.plain (s_lst (sndEs es _ X sc s0 ok h)) (by intro _; rfl)).eq (by funext σ h Q; simp only [M.wE])
  | .dcn, x, X, sc, s0, ex, ok, h => by
    cases x <;> try (exfalso; revert h; simp [mtE]; done)
    rename_i ks vs p
    cases ks <;> try (exfalso; revert h; simp [mtE]; done)
    cases vs <;> try (exfalso; revert h; simp [mtE]; done)
    exact (EOk.plain s_dcn (by intro _; rfl)).eq (by funext σ h Q; simp only [M.wE])
  | .dct k es, x, X, sc, s0, ex, ok, h => by
    cases x <;> try (exfalso; revert h; simp [mtE]; done)
    rename_i ks vs p
    cases k with
    | succ _ => exact absurd h (by cases es <;> simp [mtE])
    | zero =>
      cases es with
      | nil =>
        cases ks <;> try (exfalso; revert h; simp [mtE]; done)
        cases vs <;> try (exfalso; revert h; simp [mtE]; done)
        exact (EOk.plain s_dct (by intro _; rfl)).eq (by funext σ h Q; simp only [M.wE])
      | cons a r =>
        simp only [mtE] at h
        obtain ⟨h1, h2⟩ := ba h
        obtain ⟨ws, hp, e1, e2, e3, e4⟩ := sndPs (.cons a r) ks vs X sc s0 ok h1
        have h15 := of_decide_eq_true h2
        have hne : ks ≠ [] := by
          rintro rfl
          cases r <;> simp [mtPs] at h1
        refine (EOk.plain (s_dsp (hp p) e2 e3 hne h15 (by omega)) (by intro _; rfl)).eq ?_
        funext σ h Q
        simp only [M.wE, ← e1, M.wEs]
  | .bad, x, X, sc, s0, ex, ok, h => by
    refine ⟨⟨fun pins s σ H Q I ⟨_, _, _, _, _, q, _⟩ => ?_⟩, fun _ => ⟨fun pins s σ H Q I ⟨_, _, _, _, _, q, _⟩ => ?_⟩⟩
    · simp only [M.wE] at q
    · simp only [M.wE] at q
  | .lock i a, x, X, sc, s0, ex, ok, h => by
    simp only [mtE] at h
    obtain ⟨h1, h2⟩ := ba h
    have ia := (sndE a x X sc s0 ok h2).v
    refine (EOk.plain (s_lock (i := i) ia) ?_).eq (by funext σ h Q; simp only [M.wE])
    cases x <;> first | (intro _; rfl) | cases h1
  | .lzip es, x, X, sc, s0, ex, ok, h => by
    cases x <;> try (exfalso; revert h; simp [mtE]; done)
    rename_i g l kw p
    cases g <;> try (exfalso; revert h; simp [mtE]; done)
    match l, kw, h with
    | [y], [], h =>
      cases y <;> try (exfalso; revert h; simp [mtE]; done)
      rename_i g2 l2 kw2 p2
      cases g2 <;> try (exfalso; revert h; simp [mtE]; done)
      match l2, kw2, h with
      | [a, b], [], h =>
        simp only [mtE] at h
        obtain ⟨h, h7⟩ := ba h
        obtain ⟨h, h6⟩ := ba h
        obtain ⟨h, h5⟩ := ba h
        obtain ⟨h, h4⟩ := ba h
        obtain ⟨h1, h2, h3⟩ := ba3 h
        have e := of_decide_eq_true h1
        subst e
        have e := of_decide_eq_true h4
        subst e
        have hl := oks_mt h7
        exact (EOk.plain (s_lzip ok.calm (glB_ok ok h3) (ok.free _ (by simpa using h2)) (glB_ok ok h6) (ok.free _ (by simpa using h5)) (sndEs es _ X sc s0 ok h7) (ok_star (hl a (by simp))) (ok_any fun z hz => hl z (by simp at hz ⊢; exact .inr hz))) (by intro _; rfl)).eq (by funext σ h Q; simp only [M.wE])
      | [], _, h => exact absurd h (by simp [mtE])
      | [_], _, h => exact absurd h (by simp [mtE])
      | _ :: _ :: _ :: _, _, h => exact absurd h (by simp [mtE])
      | [_, _], _ :: _, h => exact absurd h (by simp [mtE])
    | [], _, h => exact absurd h (by simp [mtE])
    | _ :: _ :: _, _, h => exact absurd h (by simp [mtE])
    | [y], _ :: _, h => exact absurd h (by cases y <;> simp [mtE])
  | .rev a, x, X, sc, s0, ex, ok, h => by
    cases x <;> try (exfalso; revert h; simp [mtE]; done)
    · rename_i g l kw p
      cases g <;> try (exfalso; revert h; simp [mtE]; done)
      match l, kw, h with
      | [y], [], h =>
        cases y <;> try (exfalso; revert h; simp [mtE]; done)
        rename_i g2 l2 kw2 p2
        cases g2 <;> try (exfalso; revert h; simp [mtE]; done)
        match l2, kw2, h with
        | [z], [], h =>
          simp only [mtE] at h
          obtain ⟨h, h7⟩ := ba h
          obtain ⟨h, h6⟩ := ba h
          obtain ⟨h, h5⟩ := ba h
          obtain ⟨h, h4⟩ := ba h
          obtain ⟨h1, h2, h3⟩ := ba3 h
          have e := of_decide_eq_true h1
          subst e
          have e := of_decide_eq_true h4
          subst e
          exact (EOk.plain (s_lrev ok.calm (glB_ok ok h3) (ok.free _ (by simpa using h2)) (glB_ok ok h6) (ok.free _ (by simpa using h5)) (ok_star (es := []) (ok_mt h7)) (sndE a z X sc s0 ok h7).v) (by intro _; rfl)).eq (by funext σ h Q; simp only [M.wE])
        | [], _, h => exact absurd h (by simp [mtE])
        | _ :: _ :: _, _, h => exact absurd h (by simp [mtE])
        | [_], _ :: _, h => exact absurd h (by simp [mtE])
      | [], _, h => exact absurd h (by simp [mtE])
      | _ :: _ :: _, _, h => exact absurd h (by simp [mtE])
      | [y], _ :: _, h => exact absurd h (by cases y <;> simp [mtE])
    · rename_i y j p
      simp only [mtE] at h
      obtain ⟨h1, h2⟩ := ba h
      obtain ⟨k, p1, p2, p3, rfl⟩ := revB_eq h1
      exact (EOk.plain (s_rev (sndE a y X sc s0 ok h2).v) (by intro _; rfl)).eq (by funext σ h Q; simp only [M.wE])
  | .tlr a, x, X, sc, s0, ex, ok, h => by
    cases x <;> try (exfalso; revert h; simp [mtE]; done)
    rename_i y j p
    simp only [mtE] at h
    obtain ⟨h1, h2⟩ := ba h
    obtain ⟨k0, k, p0, p1, p2, p3, rfl⟩ := tlrB_eq h1
    exact (EOk.plain (s_tlr (sndE a y X sc s0 ok h2).v) (by intro _; rfl)).eq (by funext σ h Q; simp only [M.wE])
  | .lrng es, x, X, sc, s0, ex, ok, h => by
    cases x <;> try (exfalso; revert h; simp [mtE]; done)
    rename_i g l kw p
    cases g <;> try (exfalso; revert h; simp [mtE]; done)
    match l, kw, h with
    | [y], [], h =>
      cases y <;> try (exfalso; revert h; simp [mtE]; done)
      rename_i g2 l2 kw2 p2
      cases g2 <;> try (exfalso; revert h; simp [mtE]; done)
      match l2, kw2, h with
      | a :: l3, [], h =>
        simp only [mtE] at h
        obtain ⟨h, h8⟩ := ba h
        obtain ⟨h, h7⟩ := ba h
        obtain ⟨h, h6⟩ := ba h
        obtain ⟨h, h5⟩ := ba h
        obtain ⟨h, h4⟩ := ba h
        obtain ⟨h1, h2, h3⟩ := ba3 h
        have e := of_decide_eq_true h1
        subst e
        have e := of_decide_eq_true h4
        subst e
        have hl := oks_mt h7
        have hy := hl a List.mem_cons_self
        match es, l3, h7, h8 with
        | .nil, _, h7, _ => simp [mtEs] at h7
        | .cons ia .nil, [], h7, _ =>
          simp only [mtEs] at h7
          have i1 := (sndE ia _ X sc s0 ok (ba h7).1).v
          exact (EOk.plain (s_lrng1 ok.calm (glB_ok ok h3) (ok.free _ (by simpa using h2)) (glB_ok ok h6) (ok.free _ (by simpa using h5)) i1 (ok_star hy)) (by intro _; rfl)).eq (by funext σ h Q; simp only [M.wE, M.wEs])
        | .cons ia (.cons ib .nil), [b], h7, _ =>
          simp only [mtEs] at h7
          obtain ⟨h71, h72⟩ := ba h7
          obtain ⟨h73, _⟩ := ba h72
          have i1 := (sndE ia _ X sc s0 ok h71).v
          have i2 := (sndE ib _ X sc s0 ok h73).v
          have sb := ok_mt h73
          exact (EOk.plain (s_lrng2 ok.calm (glB_ok ok h3) (ok.free _ (by simpa using h2)) (glB_ok ok h6) (ok.free _ (by simpa using h5)) i1 i2 (ok_star hy) (ok_star sb) (by rw [ok_star sb]; rfl)) (by intro _; rfl)).eq (by funext σ h Q; simp only [M.wE, M.wEs])
        | .cons _ .nil, _ :: _, h7, _ => simp [mtEs] at h7
        | .cons _ (.cons _ _), [], h7, _ => simp [mtEs] at h7
        | .cons _ (.cons _ (.cons _ _)), [_], h7, _ => simp [mtEs] at h7
        | .cons _ (.cons _ _), _ :: _ :: _, _, h8 =>
          have h8 := of_decide_eq_true h8
          simp only [List.length_cons] at h8
          omega
      | [], _, h => exact absurd h (by simp [mtE])
      | _ :: _, _ :: _, h => exact absurd h (by simp [mtE])
    | [], _, h => exact absurd h (by simp [mtE])
    | _ :: _ :: _, _, h => exact absurd h (by simp [mtE])
    | [y], _ :: _, h => exact absurd h (by cases y <;> simp [mtE])
  | .bin o a b, x, X, sc, s0, ex, ok, h => by
    cases x <;> try (exfalso; revert h; simp [mtE]; done)
    simp only [mtE] at h
    obtain ⟨h1, h2, h3⟩ := ba3 h
    have e := opB_eq h1
    subst e
    exact (EOk.plain (s_bin (sndE a _ X sc s0 ok h2).v (sndE b _ X sc s0 ok h3).v) (by intro _; rfl)).eq (by funext σ h Q; simp only [M.wE])
  | .neg a, x, X, sc, s0, ex, ok, h => by
    cases x <;> try (exfalso; revert h; simp [mtE]; done)
    rename_i op y p
    cases op <;> try (exfalso; revert h; simp [mtE]; done)
    simp only [mtE] at h
    exact (EOk.plain (s_neg (sndE a _ X sc s0 ok h).v) (by intro _; rfl)).eq (by funext σ h Q; simp only [M.wE] <;> rfl)
  | .not a, x, X, sc, s0, ex, ok, h => by
    cases x <;> try (exfalso; revert h; simp [mtE]; done)
    rename_i op y p
    cases op <;> try (exfalso; revert h; simp [mtE]; done)
    simp only [mtE] at h
    obtain ⟨h1, h2⟩ := ba h
    have ih := sndE a _ X sc s0 ok h1
    exact (EOk.mk (s_not ih.v) fun _ => t_not (ih.t h2)).eq (by funext σ h Q; simp only [M.wE] <;> rfl)
  | .cmp o a b, x, X, sc, s0, ex, ok, h => by
    cases x <;> try (exfalso; revert h; simp [mtE]; done)
    rename_i l ops rs p
    cases ops with
    | nil => exact absurd h (by simp [mtE])
    | cons op ops =>
      cases ops with
      | cons _ _ => exact absurd h (by simp [mtE])
      | nil => cases rs with
        | nil => exact absurd h (by simp [mtE])
        | cons r rs => cases rs with
          | cons _ _ => exact absurd h (by simp [mtE])
          | nil =>
            simp only [mtE] at h
            obtain ⟨h1, h2, h3⟩ := ba3 h
            have e := copB_eq h1
            subst e
            have i1 := (sndE a _ X sc s0 ok h2).v
            have i2 := (sndE b _ X sc s0 ok h3).v
            have hb := ok_behind (op := cop o) (ok_mt h3)
            exact (EOk.mk (s_cmp ok.units hb i1 i2) fun _ => t_cmp ok.units hb i1 i2).eq (by funext σ h Q; simp only [M.wE])
  | .chn o o' a b c, x, X, sc, s0, ex, ok, h => by
    cases x <;> try (exfalso; revert h; simp [mtE]; done)
    rename_i l ops rs p
    match ops, rs, h with
    | [op, op'], [r, r'], h =>
      simp only [mtE] at h
      obtain ⟨h, h5⟩ := ba h
      obtain ⟨h, h4⟩ := ba h
      obtain ⟨h1, h2, h3⟩ := ba3 h
      have e := copB_eq h1
      subst e
      have e := copB_eq h2
      subst e
      have i1 := (sndE a _ X sc s0 ok h3).v
      have i2 := (sndE b _ X sc s0 ok h4).v
      have i3 := (sndE c _ X sc s0 ok h5).v
      have hb : lastMarks [cop o, cop o'] [r, r'] = false := ok_behind (op := cop o') (ok_mt h5)
      exact (EOk.mk (s_chn ok.units hb i1 i2 i3) fun _ => t_chn ok.units hb i1 i2 i3).eq (by funext σ h Q; simp only [M.wE] <;> rfl)
    | [], _, h => exact absurd h (by simp [mtE])
    | [_], _, h => exact absurd h (by simp [mtE])
    | _ :: _ :: _ :: _, _, h => exact absurd h (by simp [mtE])
    | [_, _], [], h => exact absurd h (by simp [mtE])
    | [_, _], [_], h => exact absurd h (by simp [mtE])
    | [_, _], _ :: _ :: _ :: _, h => exact absurd h (by simp [mtE])
  | .bop k es, x, X, sc, s0, ex, ok, h => by
    cases x <;> try (exfalso; revert h; simp [mtE]; done)
    rename_i op l p
    cases l with
    | nil => exact absurd h (by cases op <;> simp [mtE])
    | cons y l =>
      cases op with
      | And =>
        simp only [mtE] at h
        obtain ⟨h1, h2, h3⟩ := ba3 h
        subst h1
        have b := sndB true es (y :: l) X sc s0 ok (by simp) h2
        exact (EOk.mk (b.v p) fun _ => (b.t h3 p).pt).eq (by funext σ h Q; simp only [M.wE])
      | Or =>
        simp only [mtE] at h
        obtain ⟨h1, h2, h3⟩ := ba3 h
        cases k with
        | true => cases h1
        | false =>
          have b := sndB false es (y :: l) X sc s0 ok (by simp) h2
          exact (EOk.mk (b.v p) fun _ => (b.t h3 p).pt).eq (by funext σ h Q; simp only [M.wE])
  | .ite c a b, x, X, sc, s0, ex, ok, h => by
    cases x <;> try (exfalso; revert h; simp [mtE]; done)
    simp only [mtE] at h
    obtain ⟨h, h4⟩ := ba h
    obtain ⟨h1, h2, h3⟩ := ba3 h
    exact (EOk.mk (s_ite ((sndE c _ X sc s0 ok h1).t h2) (sndE a _ X sc s0 ok h3).v (sndE b _ X sc s0 ok h4).v) fun z => by cases z).eq (by funext σ h Q; simp only [M.wE] <;> rfl)
  | .ix a i, x, X, sc, s0, ex, ok, h => by
    cases x <;> try (exfalso; revert h; simp [mtE]; done)
    simp only [mtE] at h
    obtain ⟨h1, h2⟩ := ba h
    exact (EOk.plain (s_ix ok.units (ok_ix (ok_mt h2)) (sndE a _ X sc s0 ok h1).v (sndE i _ X sc s0 ok h2).v) (by intro _; rfl)).eq (by funext σ h Q; simp only [M.wE])
  | .sl a lo hi, x, X, sc, s0, ex, ok, h => by
    cases x <;> try (exfalso; revert h; simp [mtE]; done)
    rename_i y s p
    cases s <;> try (exfalso; revert h; simp [mtE]; done)
    rename_i l u st p2
    cases st with
    | some _ => exact absurd h (by simp [mtE])
    | none =>
      simp only [mtE] at h
      obtain ⟨h1, h2, h3⟩ := ba3 h
      exact (EOk.plain (s_sl (sndE a _ X sc s0 ok h1).v (sndO lo _ X sc s0 ok h2) (sndO hi _ X sc s0 ok h3)) (by intro _; rfl)).eq (by funext σ h Q; simp only [M.wE])
  | .call f es, x, X, sc, s0, ex, ok, h => by
    cases x <;> try (exfalso; revert h; simp [mtE]; done)
    rename_i g l kw p
    cases g <;> try (exfalso; revert h; simp [mtE]; done)
    cases kw <;> try (exfalso; revert h; simp [mtE]; done)
    simp only [mtE] at h
    obtain ⟨h, h5⟩ := ba h
    obtain ⟨h, h4⟩ := ba h
    obtain ⟨h1, h2, h3⟩ := ba3 h
    have hl := oks_mt h5
    refine (EOk.plain (call_any (ex := ex) ok (of_decide_eq_true h1) (by simpa using h2) h3 h4 (fun e r q => ?_) (sndEs es _ X sc s0 ok h5) (fun q => nil_mt h5 q)) (by intro _; rfl)).eq (by funext σ h Q; simp only [M.wE] <;> rfl)
    subst q
    exact ⟨ok_star (hl e List.mem_cons_self), ok_any fun z hz => hl z (List.mem_cons_of_mem _ hz)⟩
  | .callD f k es, x, X, sc, s0, ex, ok, h => by
    cases x <;> try (exfalso; revert h; simp [mtE]; done)
    rename_i g l kw p
    cases g <;> try (exfalso; revert h; simp [mtE]; done)
    rename_i g p3
    cases l with
    | nil => exact absurd h (by simp [mtE])
    | cons y l =>
      cases kw <;> try (exfalso; revert h; simp [mtE]; done)
      simp only [mtE] at h
      obtain ⟨h, h5⟩ := ba h
      obtain ⟨h, h4⟩ := ba h
      obtain ⟨h1, h2, h3⟩ := ba3 h
      have hl := oks_mt h5
      obtain ⟨fa, fdc, ps, us, e1, e2, e3, e4, e5⟩ := ok.ds (f, k) (by simpa using h2)
      have hdb : (g == ("__debug__" : Str)) = false := by
        obtain ⟨a, _⟩ := ba h4
        simpa using a
      have hx := of_decide_eq_true h1
      subst hx
      exact (EOk.plain (s_callD (ex := ex) e3 ok.gd ok.tk ok.room (glB_ok ok h3) e1 e2 e4 e5 hdb (ok_star (hl y List.mem_cons_self)) (ok_any fun z hz => hl z (List.mem_cons_of_mem _ hz)) (sndEs es _ X sc s0 ok h5)) (by intro _; rfl)).eq (by funext σ h Q; simp only [M.wE] <;> rfl)
  | .smv a, x, X, sc, s0, ex, ok, h => by
    match x, h with
    | .Call (.Name x p) [.Call (.Attribute y nm apos) [] [] cpos] [] pos, h =>
      simp only [mtE] at h
      obtain ⟨h, h7⟩ := ba h
      obtain ⟨h, h6⟩ := ba h
      obtain ⟨h, h5⟩ := ba h
      obtain ⟨h, h4⟩ := ba h
      obtain ⟨h1, h2, h3⟩ := ba3 h
      have hn := of_decide_eq_true h4
      subst hn
      exact (EOk.plain (s_smv (of_decide_eq_true h1) ok.calm (glB_ok ok h3) (ok.free _ (by simpa using h2)) (ok_base h6) h5 (sndE a _ X sc s0 ok h7).v) (by intro _; rfl)).eq (by funext σ h Q; simp only [M.wE])
  | .fld a f, x, X, sc, s0, ex, ok, h => by
    cases x <;> try (exfalso; revert h; simp [mtE]; done)
    simp only [mtE] at h
    obtain ⟨h1, h2, h3⟩ := ba3 h
    exact (EOk.plain (s_fld (of_decide_eq_true h1) (ok_base h2) (sndE a _ X sc s0 ok h3).v) (by intro _; rfl)).eq (by funext σ h Q; simp only [M.wE])
  | .newo c es, x, X, sc, s0, ex, ok, h => by
    cases x <;> try (exfalso; revert h; simp [mtE]; done)
    rename_i g l kw p
    cases g <;> try (exfalso; revert h; simp [mtE]; done)
    cases kw <;> try (exfalso; revert h; simp [mtE]; done)
    simp only [mtE] at h
    obtain ⟨h, h5⟩ := ba h
    obtain ⟨h, h4⟩ := ba h
    obtain ⟨h1, h2, h3⟩ := ba3 h
    have hl := oks_mt h5
    refine (EOk.plain (new_any (ex := ex) ok (of_decide_eq_true h1) (by simpa using h2) h3 h4 (fun e r q => ?_) (sndEs es _ X sc s0 ok h5) (fun q => nil_mt h5 q)) (by intro _; rfl)).eq (by funext σ h Q; simp only [M.wE] <;> rfl)
    subst q
    exact ⟨ok_star (hl e List.mem_cons_self), ok_any fun z hz => hl z (List.mem_cons_of_mem _ hz)⟩
  | .mcall c m o es, x, X, sc, s0, ex, ok, h => by
    cases x <;> try (exfalso; revert h; simp [mtE]; done)
    rename_i g l kw p
    cases g <;> try (exfalso; revert h; simp [mtE]; done)
    cases kw <;> try (exfalso; revert h; simp [mtE]; done)
    rename_i y nm apos
    simp only [mtE] at h
    obtain ⟨h, h7⟩ := ba h
    obtain ⟨h, h6⟩ := ba h
    obtain ⟨h, h5⟩ := ba h
    obtain ⟨h, h4⟩ := ba h
    obtain ⟨h1, h2, h3⟩ := ba3 h
    obtain ⟨C, fa, fd, ps, hm, cl, me, F, hb⟩ := ok.ms (c, m) (by simpa using h2)
    have hl := oks_mt h6
    have io := (sndE o _ X sc s0 ok h5).v
    cases l with
    | nil =>
      have key : ∀ σ hh Q, M.wEs (Snd.C P n ex) es σ hh Q → Q [] hh := nil_mt h6 rfl
      refine (EOk.plain ((s_mcall0 (ex := ex) (of_decide_eq_true h1) hm cl me F ok.gd ok.tk ok.room hb (ok_base h4) h3 io).imp fun σ H Q ⟨σa, hh, Qa, rs, rh, q, k⟩ => ⟨σa, hh, Qa, rs, rh, ?_, k⟩) (by intro _; rfl)).eq (w := M.wE (Snd.C P n ex) (.mcall c m o es)) rfl
      cases es with
      | nil => exact (by simpa only [M.wE, M.wEs] using q : M.wE (Snd.C P n ex) o σa hh fun x h1 => M.aIns x h1 fun p c' fs => c' = c ∧ List.lookup m fs = none ∧ (Snd.C P n ex).call (M.metN c m) [M.D.ref p] h1 Qa ((Snd.C P n ex).ex σa))
      | cons _ _ => simp [mtEs] at h6
    | cons e r =>
      exact (EOk.plain (s_mcall (ex := ex) (of_decide_eq_true h1) hm cl me F ok.gd ok.tk ok.room hb (ok_base h4) (few_ok hl h7) h3 (ok_star (hl e List.mem_cons_self)) (ok_any fun z hz => hl z (List.mem_cons_of_mem _ hz)) io (sndEs es _ X sc s0 ok h6)) (by intro _; rfl)).eq (by funext σ h Q; simp only [M.wE] <;> rfl)
  | .blt b es, x, X, sc, s0, ex, ok, h => by
    cases x <;> try (exfalso; revert h; simp [mtE]; done)
    rename_i g l kw p
    cases g <;> try (exfalso; revert h; simp [mtE]; done)
    cases l with
    | nil => exact absurd h (by simp [mtE])
    | cons y l =>
      cases kw <;> try (exfalso; revert h; simp [mtE]; done)
      simp only [mtE] at h
      obtain ⟨h1, h2⟩ := ba h
      obtain ⟨bk, e1, e2, e3, e4⟩ := opName h1
      have hl := oks_mt h2
      exact (EOk.plain (s_blt ok.calm ok.units e1 e2 (glB_ok ok e4) (ok.free _ e3) (ok_star (hl y List.mem_cons_self)) (ok_any fun z hz => hl z (List.mem_cons_of_mem _ hz)) (sndEs es _ X sc s0 ok h2)) (by intro _; rfl)).eq (by funext σ h Q; simp only [M.wE])
  | .isi a t, x, X, sc, s0, ex, ok, h => by
    cases x <;> try (exfalso; revert h; simp [mtE]; done)
    rename_i g l kw p
    cases g <;> try (exfalso; revert h; simp [mtE]; done)
    rename_i nm np
    match l, kw, h with
    | [y, w], [], h =>
      cases w <;> try (exfalso; revert h; simp [mtE]; done)
      simp only [mtE] at h
      obtain ⟨h, h7⟩ := ba h
      obtain ⟨h, h6⟩ := ba h
      obtain ⟨h, h5⟩ := ba h
      obtain ⟨h, h4⟩ := ba h
      obtain ⟨h1, h2, h3⟩ := ba3 h
      have e := of_decide_eq_true h1
      subst e
      exact (EOk.plain (s_isi (glB_ok ok h3) (ok.free _ (by simpa using h2)) (of_decide_eq_true h4) (glB_ok ok h6) (ok.free _ (by simpa using h5)) (ok_star (ok_mt h7)) (sndE a _ X sc s0 ok h7).v) (by intro _; rfl)).eq (by funext σ h Q; simp only [M.wE] <;> rfl)
    | [], _, h => exact absurd h (by simp [mtE])
    | [_], _, h => exact absurd h (by simp [mtE])
    | _ :: _ :: _ :: _, _, h => exact absurd h (by simp [mtE])
    | [_, w], _ :: _, h => exact absurd h (by cases w <;> simp [mtE])
  | .mth m o es, x, X, sc, s0, ex, ok, h => by
    cases x <;> try (exfalso; revert h; simp [mtE]; done)
    rename_i g l kw p
    cases g <;> try (exfalso; revert h; simp [mtE]; done)
    cases kw <;> try (exfalso; revert h; simp [mtE]; done)
    rename_i y nm apos
    simp only [mtE] at h
    obtain ⟨h, h6⟩ := ba h
    obtain ⟨h, h5⟩ := ba h
    obtain ⟨h, h4⟩ := ba h
    obtain ⟨h1, h2, h3⟩ := ba3 h
    obtain ⟨Ty, id, em⟩ := mthName h1
    have hl := oks_mt h5
    have io := (sndE o _ X sc s0 ok h4).v
    cases l with
    | nil =>
      have key : ∀ σ hh Q, M.wEs (C P n ex) es σ hh Q → Q [] hh := nil_mt h5 rfl
      refine (EOk.plain ((s_mth0 ok.units em rfl (ok_base h3) h2 io).imp fun σ H Q ⟨σa, hh, Qa, rs, rh, q, k⟩ => ⟨σa, hh, Qa, rs, rh, ?_, k⟩) (by intro _; rfl)).eq (w := M.wE (C P n ex) (.mth m o es)) rfl
      cases es with
      | nil => simpa only [M.wE, M.wEs] using q
      | cons _ _ => simp [mtEs] at h5
    | cons e r =>
      refine (EOk.plain (s_mth ok.units em rfl (ok_base h3) (few_ok hl h6) h2 (ok_star (hl e List.mem_cons_self)) (ok_any fun z hz => hl z (List.mem_cons_of_mem _ hz)) io (sndEs es _ X sc s0 ok h5)) (by intro _; rfl)).eq (by funext σ h Q; simp only [M.wE])
  | .newx c fs es, x, X, sc, s0, ex, ok, h => by
    match x, h with
    | .Call (.Name g gp) (y :: l) [] p, h =>
      simp only [mtE] at h
      obtain ⟨h, h5⟩ := ba h
      obtain ⟨h, h4⟩ := ba h
      obtain ⟨h1, h2, h3⟩ := ba3 h
      have hl := oks_mt h5
      obtain ⟨CC, hm, mk⟩ := ok.xs (c, fs) (by simpa using h2)
      have hdb : (g == ("__debug__" : Str)) = false := by simpa using (ba h4).1
      exact (EOk.plain (s_newx mk (ok.room.mono (by omega)) (glB_ok ok h3) (of_decide_eq_true h1) hm hdb (ok_star (hl y List.mem_cons_self)) (ok_any fun z hz => hl z (List.mem_cons_of_mem _ hz)) (sndEs es _ X sc s0 ok h5)) (by intro _; rfl)).eq (by funext σ h Q; simp only [M.wE])
  | .fldx a f, x, X, sc, s0, ex, ok, h => by
    cases x <;> try (exfalso; revert h; simp [mtE]; done)
    simp only [mtE] at h
    obtain ⟨h1, h2, h3⟩ := ba3 h
    exact (EOk.plain (s_fldx (of_decide_eq_true h1) (ok_base h2) (sndE a _ X sc s0 ok h3).v) (by intro _; rfl)).eq (by funext σ h Q; simp only [M.wE])
  | .isx a t subs all, x, X, sc, s0, ex, ok, h => by
    match x, h with
    | .Call (.Name g gp) [y, .Name z zp] [] p, h =>
      simp only [mtE] at h
      obtain ⟨h, h8⟩ := ba h
      obtain ⟨h, h7⟩ := ba h
      obtain ⟨h, h6⟩ := ba h
      obtain ⟨h, h5⟩ := ba h
      obtain ⟨h, h4⟩ := ba h
      obtain ⟨h1, h2, h3⟩ := ba3 h
      have hg := of_decide_eq_true h1
      subst hg
      have hz := of_decide_eq_true h4
      subst hz
      have hf := ok.xi (t, subs, all) (by simpa using h5)
      exact (EOk.plain (s_isx (glB_ok ok h3) (ok.free _ (by simpa using h2)) (glB_ok ok h6) (by simpa using (ba (ba h7).1).1) (of_decide_eq_true (ba h7).2) hf (ok_star (ok_mt h8)) (sndE a _ X sc s0 ok h8).v) (by intro _; rfl)).eq (by funext σ h Q; simp only [M.wE])
  | .dpr a, x, X, sc, s0, ex, ok, h => by
    match x, h with
    | .Call (.Name g gp) [y] [] p, h =>
      simp only [mtE] at h
      obtain ⟨h, h4⟩ := ba h
      obtain ⟨h1, h2, h3⟩ := ba3 h
      exact (EOk.plain (s_dpr (of_decide_eq_true h1) ok.calm (glB_ok ok h3) (ok.free _ (by simpa using h2)) (ok_star (ok_mt h4)) (sndE a _ X sc s0 ok h4).v) (by intro _; rfl)).eq (by funext σ h Q; simp only [M.wE])
  | .rpr a, x, X, sc, s0, ex, ok, h => by simp [mtE] at h
  | .lset a, x, X, sc, s0, ex, ok, h => by simp [mtE] at h
  | .lc elt t own k src ifs, x, X, sc, s0, ex, ok, h => by
    cases x <;> try (exfalso; revert h; simp [mtE]; done)
    rename_i y gs scope p
    match gs, h with
    | [⟨tg, it, cs, a⟩], h =>
      simp only [mtE] at h
      obtain ⟨h, h10⟩ := ba h
      obtain ⟨h, h9⟩ := ba h
      obtain ⟨h, h8⟩ := ba h
      obtain ⟨h, h7⟩ := ba h
      obtain ⟨h, h6⟩ := ba h
      obtain ⟨h, h5⟩ := ba h
      obtain ⟨h, h4⟩ := ba h
      obtain ⟨h1, h2, h3⟩ := ba3 h
      have ea := of_decide_eq_true h1
      subst ea
      unfold compsB at h6
      cases eo : ownB T.N own with
      | none => rw [eo] at h6; cases h6
      | some ow =>
        rw [eo] at h6
        have blk := blkOk_by h6
        have em := ownB_map eo
        have iI := sndI k src it tg X sc s0 ok h4 (by
          intro e
          cases t with
          | nm _ => cases k <;> first | exact absurd e (by decide) | exact absurd h5 (by simp [tupK])
          | tp ts => cases tg <;> first | exact ⟨_, _, _, rfl⟩ | cases h3)
        have gT : ∀ (s : Shared) (H : Hp) (D : Addr) (cl : List (Str × Addr)) (fp : List Addr), PG (X.blk s H scope (compEnvC scope cl D X.env) fp) tg (gOf X.F t) := fun s H D cl fp => tg_ok (blk_ok ok blk s H D cl fp) h3
        have iE : ∀ (s : Shared) (H : Hp) (D : Addr) (cl : List (Str × Addr)) (fp : List Addr), PE (X.blk s H scope (compEnvC scope cl D X.env) fp) y (lift X.F (M.wE (C P n noX) elt)) := fun s H D cl fp => (sndE elt _ _ _ _ (blk_ok ok blk s H D cl fp) h10).v
        have iT : ∀ (s : Shared) (H : Hp) (D : Addr) (cl : List (Str × Addr)) (fp : List Addr), PTs (X.blk s H scope (compEnvC scope cl D X.env) fp) cs (liftT X.F (M.wB (C P n noX) true ifs)) := fun s H D cl fp => by
          have okb := blk_ok ok blk s H D cl fp
          match cs, ifs, h7, h8, h9 with
          | [], .nil, _, _, _ =>
            refine ⟨fun pins s σ H Q I ⟨σa, hh, Qa, rs, rh, q, kk⟩ => pts_nil.run pins s σ H Q I ?_⟩
            simp only [M.wB] at q
            obtain ⟨b, e, kk⟩ := kk _ _ q
            cases e
            exact kk H .refl rh
          | [], .cons _ _, h7, _, _ => simp [mtEs] at h7
          | [c], .nil, h7, _, _ => simp [mtEs] at h7
          | [c], .cons i r, h7, h8, _ =>
            simp only [mtEs] at h7
            obtain ⟨h71, h72⟩ := ba h7
            cases r with
            | cons _ _ => simp [mtEs] at h72
            | nil =>
              have ht := (sndE i c _ _ _ okb h71).t (ba h8).1
              refine pts_one (ht.imp fun σ H Q ⟨σa, hh, Qa, rs, rh, q, kk⟩ => ⟨σa, hh, _, rs, rh, (by simpa only [M.wB] using q), fun d h' q1 => ?_⟩)
              cases d with
              | bl b =>
                have q2 : Qa (.bl b) h' := by cases b <;> exact q1
                exact kk _ _ q2
              | _ => exact q1.elim
          | _ :: _ :: _, _, _, _, h9 =>
            have h9 := of_decide_eq_true h9
            simp only [List.length_cons] at h9
            omega
        have hfold : ∀ z, foldedSetIterable it X.env z = pure z := by
          intro z
          cases k with
          | seq =>
            cases src with
            | nil => simp [mtI] at h4
            | cons a r =>
              simp only [mtI] at h4
              exact ok_fold (ok_mt (ba h4).1)
          | keys =>
            cases src with
            | nil => simp [mtI] at h4
            | cons a r =>
              simp only [mtI] at h4
              exact ok_fold (ok_mt (ba h4).1)
          | _ =>
            cases src with
            | nil => simp [mtI] at h4
            | cons a r => cases it <;> first | rfl | (simp [mtI] at h4)
        have key := pe_lc (pos := p) (elt := y) ok.calm ok.nd iI (by rw [ok.eN, ok.eS]; exact blk) gT iT iE hfold
        rw [em] at key
        refine (EOk.plain (key.imp fun σ H Q q => lc_ok h2 q) (by intro _; rfl)).eq (by funext σ h Q; simp only [M.wE] <;> rfl)
    | [], h => exact absurd h (by simp [mtE])
    | _ :: _ :: _, h => exact absurd h (by simp [mtE])
theorem sndEs : ∀ (ir : M.Es) (l : List Expr) (X : L2.Cx) (sc s0 : Scope) {ex : M.St → M.XP}, XOk P n T sc s0 X ex → mtEs T sc s0 ir l = true → PA X l (liftA X.F (M.wEs (C P n ex) ir))
  | .nil, l, X, sc, s0, ex, ok, h => by
    cases l with
    | cons _ _ => simp [mtEs] at h
    | nil =>
      have e : M.wEs (C P n ex) .nil = fun _ h Q => Q [] h := by funext σ h Q; simp only [M.wEs]
      rw [e]
      exact s_nil
  | .cons a r, l, X, sc, s0, ex, ok, h => by
    cases l with
    | nil => simp [mtEs] at h
    | cons x l =>
      simp only [mtEs] at h
      obtain ⟨h1, h2⟩ := ba h
      have e : M.wEs (C P n ex) (.cons a r) = fun σ h Q => M.wE (C P n ex) a σ h fun d h1 => M.wEs (C P n ex) r σ h1 fun ds h2 => Q (d :: ds) h2 := by funext σ h Q; simp only [M.wEs]
      rw [e]
      exact s_cons (ok_star (ok_mt h1)) (sndE a _ X sc s0 ok h1).v (sndEs r _ X sc s0 ok h2)
theorem sndPs : ∀ (ir : M.Es) (ks : List (Option Expr)) (vs : List Expr) (X : L2.Cx) (sc s0 : Scope) {ex : M.St → M.XP}, XOk P n T sc s0 X ex → mtPs T sc s0 ir ks vs = true →
    ∃ ws : List (WE × WE), (∀ pos, PPs X pos ks vs (ws.map fun w => (lift X.F w.1, lift X.F w.2))) ∧ M.wEs (C P n ex) ir = wPs ws ∧ ks.all (·.isSome) = true ∧ ks.length = vs.length ∧ ws.length = ks.length
  | .nil, ks, vs, X, sc, s0, ex, ok, h => by
    cases ks with
    | cons _ _ => simp [mtPs] at h
    | nil =>
      cases vs with
      | cons _ _ => simp [mtPs] at h
      | nil => exact ⟨[], fun pos => pps_nil, by funext σ h Q; simp only [M.wEs, wPs], rfl, rfl, rfl⟩
  | .cons a .nil, ks, vs, X, sc, s0, ex, ok, h => by simp [mtPs] at h
  | .cons a (.cons b r), ks, vs, X, sc, s0, ex, ok, h => by
    match ks, vs, h with
    | some x :: ks, y :: vs, h =>
      simp only [mtPs] at h
      obtain ⟨h1, h2, h3⟩ := ba3 h
      obtain ⟨ws, hp, e1, e2, e3, e4⟩ := sndPs r ks vs X sc s0 ok h3
      refine ⟨(M.wE (C P n ex) a, M.wE (C P n ex) b) :: ws, fun pos => pps_cons (sndE a x X sc s0 ok h1).v (sndE b y X sc s0 ok h2).v (hp pos), ?_, ?_, ?_, ?_⟩
      · funext σ h Q; simp only [M.wEs, wPs, e1]
      · simpa using e2
      · simp [e3]
      · simp [e4]
    | [], _, h => simp [mtPs] at h
    | none :: _, [], h => simp [mtPs] at h
    | none :: _, _ :: _, h => simp [mtPs] at h
    | some _ :: _, [], h => simp [mtPs] at h
theorem sndB : ∀ (k : Bool) (ir : M.Es) (l : List Expr) (X : L2.Cx) (sc s0 : Scope) {ex : M.St → M.XP}, XOk P n T sc s0 X ex → l ≠ [] → mtEs T sc s0 ir l = true → BOk X k l (M.wB (C P n ex) k ir)
  | k, .nil, l, X, sc, s0, ex, ok, hne, h => by
    cases l with
    | cons _ _ => simp [mtEs] at h
    | nil => exact absurd rfl hne
  | k, .cons a r, l, X, sc, s0, ex, ok, hne, h => by
    cases l with
    | nil => simp [mtEs] at h
    | cons x l =>
      simp only [mtEs] at h
      obtain ⟨h1, h2⟩ := ba h
      have ia := sndE a x X sc s0 ok h1
      cases l with
      | nil =>
        cases r with
        | cons _ _ => simp [mtEs] at h2
        | nil =>
          have e : M.wB (C P n ex) k (.cons a .nil) = fun σ h Q => M.wE (C P n ex) a σ h fun d h1 => match d with
            | .bl b => (match b == k with
              | true => Q (.bl k) h1
              | false => Q (.bl b) h1)
            | _ => False := by funext σ h Q; simp only [M.wB] <;> rfl
          rw [e]
          refine ⟨fun pos => ?_, fun ht pos => ?_⟩
          · exact s_bop1 ia.v
          · have ht := (ba ht).1
            cases k with
            | true => exact w_bop1A (ia.t ht)
            | false => exact w_bop1O (ia.t ht)
      | cons x2 l2 =>
        have ib := sndB k r (x2 :: l2) X sc s0 ok (by simp) h2
        have e : M.wB (C P n ex) k (.cons a r) = fun σ h Q => M.wE (C P n ex) a σ h fun d h1 => match d with
          | .bl b => (match b == k with
            | true => M.wB (C P n ex) k r σ h1 Q
            | false => Q (.bl b) h1)
          | _ => False := by funext σ h Q; simp only [M.wB] <;> rfl
        rw [e]
        cases k with
        | true => exact ⟨fun pos => s_bopA ia.v (ib.v pos) (by simp), fun ht pos => w_bopA (ia.t (ba ht).1) (ib.t (ba ht).2 pos) (by simp)⟩
        | false => exact ⟨fun pos => s_bopO ia.v (ib.v pos) (by simp), fun ht pos => w_bopO (ia.t (ba ht).1) (ib.t (ba ht).2 pos) (by simp)⟩
theorem sndO : ∀ (ir : M.Es) (o : Option Expr) (X : L2.Cx) (sc s0 : Scope) {ex : M.St → M.XP}, XOk P n T sc s0 X ex → mtO T sc s0 ir o = true → PO X o (liftO X.F (M.wO (C P n ex) ir))
  | .nil, o, X, sc, s0, ex, ok, h => by
    cases o with
    | some _ => simp [mtO] at h
    | none =>
      have e : M.wO (C P n ex) .nil = fun _ h Q => Q none h := by funext σ h Q; simp only [M.wO]
      rw [e]
      exact s_nopart
  | .cons a r, o, X, sc, s0, ex, ok, h => by
    cases o with
    | none => simp [mtO] at h
    | some x =>
      cases r with
      | cons _ _ => simp [mtO] at h
      | nil =>
        simp only [mtO] at h
        have e : M.wO (C P n ex) (.cons a .nil) = fun σ h Q => M.wE (C P n ex) a σ h fun d h1 => match d with | .int n => Q (some n) h1 | _ => False := by funext σ h Q; simp only [M.wO] <;> rfl
        rw [e]
        exact s_part (sndE a _ X sc s0 ok (ba h).1).v
theorem sndI : ∀ (k : M.Itk) (ir : M.Es) (e tg : Expr) (X : L2.Cx) (sc s0 : Scope) {ex : M.St → M.XP}, XOk P n T sc s0 X ex → mtI T sc s0 k ir e = true → (needT k = true → ∃ es kk p, tg = .Tuple es kk p) → PI X tg e (liftI X.F k (M.wEs (C P n ex) ir))
  | k, .nil, e, tg, X, sc, s0, ex, ok, h, ht => by simp [mtI] at h
  | k, .cons a r, e, tg, X, sc, s0, ex, ok, h, ht => by
    have w1 : M.wEs (C P n ex) (.cons a .nil) = fun σ h Q => M.wE (C P n ex) a σ h fun d h1 => Q [d] h1 := by funext σ h Q; simp only [M.wEs]
    cases k <;> try (exfalso; revert h; simp [mtI]; done)
    · simp only [mtI] at h
      obtain ⟨h1, h2⟩ := ba h
      cases r with
      | cons _ _ => cases h2
      | nil =>
        rw [w1]
        exact i_seq (sndE a _ X sc s0 ok h1).v
    · cases e <;> try (exfalso; revert h; simp [mtI]; done)
      rename_i g l kw p
      cases g <;> try (exfalso; revert h; simp [mtI]; done)
      cases l with
      | nil => exact absurd h (by simp [mtI])
      | cons y l =>
        cases kw <;> try (exfalso; revert h; simp [mtI]; done)
        simp only [mtI] at h
        obtain ⟨h, h6⟩ := ba h
        obtain ⟨h, h5⟩ := ba h
        obtain ⟨h, h4⟩ := ba h
        obtain ⟨h1, h2, h3⟩ := ba3 h
        have e := of_decide_eq_true h1
        subst e
        have ia := (sndE a _ X sc s0 ok h4).v
        have sy := ok_mt h4
        match l, r, h5, h6 with
        | [], .nil, _, _ =>
          rw [w1]
          exact i_rng1 (glB_ok ok h3) (ok.free _ (by simpa using h2)) (ok_star (es := []) sy) ia
        | [], .cons _ _, h5, _ => simp [mtEs] at h5
        | [z], .nil, h5, _ => simp [mtEs] at h5
        | [z], .cons b r, h5, _ =>
          simp only [mtEs] at h5
          obtain ⟨h51, h52⟩ := ba h5
          cases r with
          | cons _ _ => simp [mtEs] at h52
          | nil =>
            have w2 : M.wEs (C P n ex) (.cons a (.cons b .nil)) = fun σ h Q => M.wE (C P n ex) a σ h fun d h1 => M.wE (C P n ex) b σ h1 fun d2 h2 => Q [d, d2] h2 := by funext σ h Q; simp only [M.wEs]
            rw [w2]
            have sz := ok_mt h51
            exact i_rng2 (glB_ok ok h3) (ok.free _ (by simpa using h2)) (by rw [ok_star sy, ok_star sz]; rfl) (ok_star (es := []) sz) ia (sndE b _ X sc s0 ok h51).v
        | [z, z2], .nil, h5, _ => simp [mtEs] at h5
        | [z, z2], .cons b .nil, h5, _ => simp [mtEs] at h5
        | [z, z2], .cons b (.cons c r), h5, _ =>
          simp only [mtEs] at h5
          obtain ⟨h51, h52⟩ := ba h5
          obtain ⟨h53, h54⟩ := ba h52
          cases r with
          | cons _ _ => simp [mtEs] at h54
          | nil =>
            have w3 : M.wEs (C P n ex) (.cons a (.cons b (.cons c .nil))) = fun σ h Q => M.wE (C P n ex) a σ h fun d h1 => M.wE (C P n ex) b σ h1 fun d2 h2 => M.wE (C P n ex) c σ h2 fun d3 h3 => Q [d, d2, d3] h3 := by funext σ h Q; simp only [M.wEs]
            rw [w3]
            have sz := ok_mt h51
            have sz2 := ok_mt h53
            exact i_rng3 (glB_ok ok h3) (ok.free _ (by simpa using h2)) (by rw [ok_star sy, ok_star sz, ok_star sz2]; rfl) (by rw [ok_star sz, ok_star sz2]; rfl) (ok_star (es := []) sz2) ia (sndE b _ X sc s0 ok h51).v (sndE c _ X sc s0 ok h53).v
        | _ :: _ :: _ :: _, _, _, h6 =>
          have h6 := of_decide_eq_true h6
          simp only [List.length_cons] at h6
          omega
    · obtain ⟨es, kk, tp, rfl⟩ := ht rfl
      cases e <;> try (exfalso; revert h; simp [mtI]; done)
      rename_i g l kw p
      cases g <;> try (exfalso; revert h; simp [mtI]; done)
      match l, kw, h with
      | [y, z], [], h =>
        simp only [mtI] at h
        obtain ⟨h, h5⟩ := ba h
        obtain ⟨h, h4⟩ := ba h
        obtain ⟨h1, h2, h3⟩ := ba3 h
        have e := of_decide_eq_true h1
        subst e
        have w3 : M.wEs (C P n ex) (.cons a r) = fun σ h Q => M.wE (C P n ex) a σ h fun d h1 => M.wEs (C P n ex) r σ h1 fun ds h2 => Q (d :: ds) h2 := by funext σ h Q; simp only [M.wEs]
        rw [w3]
        have sy := ok_mt h4
        have sz := oks_mt h5 z (by simp)
        have hs : starEach [y, z] X.env = (false, eval y X.env) :: starEach [z] X.env := ok_star sy
        exact i_zip (glB_ok ok h3) (ok.free _ (by simpa using h2)) (s_cons hs (sndE a _ X sc s0 ok h4).v (sndEs r _ X sc s0 ok h5)) hs (by rw [ok_star (es := []) sz]; rfl)
      | [], _, h => exact absurd h (by simp [mtI])
      | [_], _, h => exact absurd h (by simp [mtI])
      | _ :: _ :: _ :: _, _, h => exact absurd h (by simp [mtI])
      | [_, _], _ :: _, h => exact absurd h (by simp [mtI])
    · obtain ⟨es, kk, tp, rfl⟩ := ht rfl
      cases e <;> try (exfalso; revert h; simp [mtI]; done)
      rename_i g l kw p
      cases g <;> try (exfalso; revert h; simp [mtI]; done)
      match l, kw, h with
      | [y], [], h =>
        simp only [mtI] at h
        obtain ⟨h, h5⟩ := ba h
        obtain ⟨h, h4⟩ := ba h
        obtain ⟨h1, h2, h3⟩ := ba3 h
        have e := of_decide_eq_true h1
        subst e
        cases r with
        | cons _ _ => cases h5
        | nil =>
          rw [w1]
          exact i_enum (glB_ok ok h3) (ok.free _ (by simpa using h2)) (ok_star (es := []) (ok_mt h4)) (sndE a _ X sc s0 ok h4).v
      | [], _, h => exact absurd h (by simp [mtI])
      | _ :: _ :: _, _, h => exact absurd h (by simp [mtI])
      | [_], _ :: _, h => exact absurd h (by simp [mtI])
    · obtain ⟨es, kk, tp, rfl⟩ := ht rfl
      cases e <;> try (exfalso; revert h; simp [mtI]; done)
      rename_i g l kw p
      cases g <;> try (exfalso; revert h; simp [mtI]; done)
      match l, kw, h with
      | [], [], h =>
        simp only [mtI] at h
        obtain ⟨h, h5⟩ := ba h
        obtain ⟨h, h4⟩ := ba h
        obtain ⟨h1, h2, h3⟩ := ba3 h
        have e := of_decide_eq_true h1
        subst e
        cases r with
        | cons _ _ => cases h5
        | nil =>
          rw [w1]
          exact i_items (ok_base h3) h2 (sndE a _ X sc s0 ok h4).v
      | _ :: _, _, h => exact absurd h (by simp [mtI])
      | [], _ :: _, h => exact absurd h (by simp [mtI])
    · cases e <;> try (exfalso; revert h; simp [mtI]; done)
      rename_i g l kw p
      cases g <;> try (exfalso; revert h; simp [mtI]; done)
      match l, kw, h with
      | [], [], h =>
        simp only [mtI] at h
        obtain ⟨h, h5⟩ := ba h
        obtain ⟨h, h4⟩ := ba h
        obtain ⟨h1, h2, h3⟩ := ba3 h
        have e := of_decide_eq_true h1
        subst e
        cases r with
        | cons _ _ => cases h5
        | nil =>
          rw [w1]
          exact i_vals (ok_base h3) h2 (sndE a _ X sc s0 ok h4).v
      | _ :: _, _, h => exact absurd h (by simp [mtI])
      | [], _ :: _, h => exact absurd h (by simp [mtI])
    · cases e <;> try (exfalso; revert h; simp [mtI]; done)
      rename_i g l kw p
      cases g <;> try (exfalso; revert h; simp [mtI]; done)
      match l, kw, h with
      | [y], [], h =>
        simp only [mtI] at h
        obtain ⟨h, h5⟩ := ba h
        obtain ⟨h, h4⟩ := ba h
        obtain ⟨h1, h2, h3⟩ := ba3 h
        have e := of_decide_eq_true h1
        subst e
        cases r with
        | cons _ _ => cases h5
        | nil =>
          rw [w1]
          exact i_rev (glB_ok ok h3) (ok.free _ (by simpa using h2)) (ok_star (es := []) (ok_mt h4)) (sndE a _ X sc s0 ok h4).v
      | [], _, h => exact absurd h (by simp [mtI])
      | _ :: _ :: _, _, h => exact absurd h (by simp [mtI])
      | [_], _ :: _, h => exact absurd h (by simp [mtI])
    · simp only [mtI] at h
      obtain ⟨h1, h2⟩ := ba h
      cases r with
      | cons _ _ => cases h2
      | nil =>
        rw [w1]
        exact i_keys (sndE a _ X sc s0 ok h1).v
    · cases e <;> try (exfalso; revert h; simp [mtI]; done)
      rename_i g l kw p
      cases g <;> try (exfalso; revert h; simp [mtI]; done)
      match l, kw, h with
      | [y], [], h =>
        cases y <;> try (exfalso; revert h; simp [mtI]; done)
        rename_i g2 l2 kw2 p2
        cases g2 <;> try (exfalso; revert h; simp [mtI]; done)
        match l2, kw2, h with
        | [b], [], h =>
          simp only [mtI] at h
          obtain ⟨h, h8⟩ := ba h
          obtain ⟨h, h7⟩ := ba h
          obtain ⟨h, h6⟩ := ba h
          obtain ⟨h, h5⟩ := ba h
          obtain ⟨h, h4⟩ := ba h
          obtain ⟨h1, h2, h3⟩ := ba3 h
          have e := of_decide_eq_true h1
          subst e
          have e := of_decide_eq_true h4
          subst e
          cases r with
          | cons _ _ => cases h8
          | nil =>
            rw [w1]
            exact i_rrng (glB_ok ok h3) (ok.free _ (by simpa using h2)) (glB_ok ok h6) (ok.free _ (by simpa using h5)) (ok_star (es := []) (ok_mt h7)) (sndE a _ X sc s0 ok h7).v
        | [], _, h => exact absurd h (by simp [mtI])
        | _ :: _ :: _, _, h => exact absurd h (by simp [mtI])
        | [_], _ :: _, h => exact absurd h (by simp [mtI])
      | [], _, h => exact absurd h (by simp [mtI])
      | _ :: _ :: _, _, h => exact absurd h (by simp [mtI])
      | [z], _ :: _, h => exact absurd h (by cases z <;> simp [mtI])
end
end
end Snd
end
section
/-! Sound10: statements, defs. -/
namespace Snd
open PySem L2 PySem.Spec PyProof.Rows
section
variable [FrameP]

def swV (sc : Scope) (t : Str) (p : Pos) (scope : Scope) (vp : Pos) : Bool := (if sc.kind.isAnnotationScope then ScopeKind.function else sc.kind) == .function && sc.names.lookup t == some .local && p.line == vp.line && !(scope.names.any fun (n, k) => n == t && (k == .local || k == .cell))
theorem sw_eq {elt : Expr} {gs : List Comprehension} {scope : Scope} {vp p : Pos} {t : Str} {l : Nat} {env : Env} : swapsWith (.ListComp elt gs scope vp) (some (.Name t p)) l env = pure (swV env.scope t p scope vp) := rfl
theorem sw_sole {elt : Expr} {gs : List Comprehension} {scope : Scope} {vp p : Pos} {t : Str} {l : Nat} {env : Env} : swapsWithSole [.Name t p] (.ListComp elt gs scope vp) l env = pure (swV env.scope t p scope vp) := rfl
def compX : Expr → Bool
  | .ListComp .. => true
  | .SetComp .. => true
  | .DictComp .. => true
  | _ => false
def tupX : Expr → Bool
  | .Tuple .. => true
  | _ => false
theorem sw_plain {e : Expr} (h : compX e = false) {o : Option Expr} {l : Nat} {env : Env} : swapsWith e o l env = pure false := by cases e <;> first | rfl | cases h
/-- a target and a value whose stores are in order -/
def asgB (tg e : Expr) : Bool := match tg with
  | .Name _ _ => true
  | .Tuple .. => !(tupX e) && !(compX e)
  | _ => false
def starX : Expr → Bool
  | .Starred .. => true
  | _ => false
def tupI : M.E → Bool
  | .tup _ => true
  | _ => false
/-- a, b = x, y of plain local names: stored from the right -/
def parB (sc : Scope) : Expr → Expr → Bool
  | .Tuple [.Name x px, .Name y py] _ _, .Tuple [a, b] _ _ => !(x == y) && (sc.kind == .function) && decide (sc.names.lookup x = some .local) && decide (sc.names.lookup y = some .local) && (py.line == px.line) && !(starX a) && !(starX b) && !(foldedForSure 8 a && foldedForSure 8 b) && !(constantsAlone 8 a && constantsAlone 8 b)
  | _, _ => false
theorem par_sw0 {x y : Str} {px py pt p2 : Pos} {kt k2 : Nat} {a b : Expr} {env : Env} {sc : Scope} (n1 : x ≠ y) (k1 : env.kindOf x = some .local) (k2' : env.kindOf y = some .local) (bk : env.blockKind = .function) (h5 : (py.line == px.line) = true) (h6 : starX a = false) (h7 : starX b = false) (h8 : (foldedForSure 8 a && foldedForSure 8 b) = false) (h9 : (constantsAlone 8 a && constantsAlone 8 b) = false) :
   swappedStores [.Tuple [.Name x px, .Name y py] kt pt] (.Tuple [a, b] k2 p2) env = pure (some [x, y]) := by
  have e1 : ([a, b].any fun | .Starred .. => true | _ => false) = false := by
    have e0 : (fun e : Expr => match e with | .Starred .. => true | _ => false) = starX := by funext e; cases e <;> rfl
    rw [e0]
    simp [h6, h7]
  have e2 : ([Expr.Name x px, Expr.Name y py].filterMap fun
    | .Name id pos => if env.kindOf id == some .local && pos.line == px.line then some id else none
    | _ => none) = [x, y] := by
    have h5' : py.line = px.line := by simpa using h5
    simp [List.filterMap, k1, k2', h5']
  have e2' : ([Expr.Name x px, Expr.Name y py].filterMap fun
    | .Name id pos => if env.kindOf id == some .local && pos.line == (Option.map (fun x => x.pos.line) [Expr.Name x px, Expr.Name y py].head?).getD 0 then some id else none
    | _ => none) = [x, y] := e2
  have e3 : ([x, y].eraseDups.length != [x, y].length) = false := by
    have : [x, y].eraseDups = [x, y] := by
      have z : (y == x) = false := by simpa using Ne.symm n1
      simp [List.eraseDups, List.eraseDupsBy, List.eraseDupsBy.loop, z]
    rw [this]
    simp
  unfold swappedStores
  have e4 : ([a, b].all (foldedForSure 8)) = false := by simpa using h8
  have e5 : ([a, b].all (constantsAlone 8)) = false := by simpa using h9
  have e6 : ([x, y].length != [Expr.Name x px, Expr.Name y py].length) = false := by simp
  have c0 : ¬ (!([Expr.Name x px, Expr.Name y py].length == 2 || [Expr.Name x px, Expr.Name y py].length == 3) || [a, b].length != [Expr.Name x px, Expr.Name y py].length || env.blockKind != .function) = true := by rw [bk]; exact Bool.false_ne_true
  have e7 : ([x, y].length != [Expr.Name x px, Expr.Name y py].length || [x, y].eraseDups.length != [x, y].length) = false := by rw [e3]; rfl
  refine (if_neg c0).trans ?_
  refine (if_neg fun h => Bool.false_ne_true (e1.symm.trans h)).trans ?_
  have key : ∀ ns : List Str, ns = [x, y] → (if (ns.length != [Expr.Name x px, Expr.Name y py].length || ns.eraseDups.length != ns.length) = true then (pure none : Sem (Option (List Str))) else if ([a, b].all (foldedForSure 8)) = true then pure none else if ([a, b].all (constantsAlone 8)) = true then (do unsupported "assign.tuple-of-constant-expressions:order-of-the-stores"; pure (some ns)) else pure (some ns)) = pure (some [x, y]) := by
    intro ns hn
    subst hn
    rw [if_neg (by rw [e7]; exact Bool.false_ne_true), if_neg (by rw [e4]; exact Bool.false_ne_true), if_neg (by rw [e5]; exact Bool.false_ne_true)]
  exact key _ e2'
theorem par_sw {x y : Str} {px py pt p2 : Pos} {kt k2 : Nat} {a b : Expr} {env : Env} {sc : Scope} (eS : env.scope = sc) (h : parB sc (.Tuple [.Name x px, .Name y py] kt pt) (.Tuple [a, b] k2 p2) = true) :
    x ≠ y ∧ sc.names.lookup x = some .local ∧ sc.names.lookup y = some .local ∧ swappedStores [.Tuple [.Name x px, .Name y py] kt pt] (.Tuple [a, b] k2 p2) env = pure (some [x, y]) := by
  simp only [parB, Bool.and_eq_true, Bool.not_eq_true', decide_eq_true_eq] at h
  obtain ⟨⟨⟨⟨⟨⟨⟨⟨h1, h2⟩, h3⟩, h4⟩, h5⟩, h6⟩, h7⟩, h8⟩, h9⟩ := h
  have n1 : x ≠ y := by simpa using h1
  refine ⟨n1, h3, h4, ?_⟩
  have k1 : env.kindOf x = some .local := by unfold Env.kindOf; rw [eS]; exact h3
  have k2' : env.kindOf y = some .local := by unfold Env.kindOf; rw [eS]; exact h4
  have bk : env.blockKind = .function := by
    unfold Env.blockKind
    rw [eS]
    have : sc.kind = .function := by simpa using h2
    rw [this]
    rfl
  exact par_sw0 (sc := sc) n1 k1 k2' bk h5 h6 h7 h8 h9
theorem ss_par {P : M.Prog} {n : Nat} {T : Tb} {ex : M.St → M.XP} {sc : Scope} {X : L2.Cx} {i j : Nat} {x y : Str} {a b : Expr} {wr : WA} {px py pt p2 pos : Pos} {kt k2 : Nat} (ok : XOk P n T sc sc X ex) (hi : T.N[i]? = some x) (hj : T.N[j]? = some y) (hp : parB sc (.Tuple [.Name x px, .Name y py] kt pt) (.Tuple [a, b] k2 p2) = true) (ha : PA X [a, b] (liftA X.F wr)) :
    PS X (.Assign [.Tuple [.Name x px, .Name y py] kt pt] (.Tuple [a, b] k2 p2) pos) (liftS X.F fun R σ h => wr σ h fun ds h1 => ds.length ≤ M.LINE ∧ match M.setT (.tp [i, j]) (.tup ds) σ with | some σ' => R.nx σ' h1 | none => False) := by
  obtain ⟨n1, l1, l2, hw⟩ := par_sw ok.eS hp
  have ni : i ≠ j := by rintro rfl; rw [hi] at hj; cases hj; exact n1 rfl
  refine (ps_par ok.calm ok.nd (by rw [ok.eN]; exact hi) (by rw [ok.eN]; exact hj) ni (by rw [ok.eS]; exact l1) (by rw [ok.eS]; exact l2) ha hw).imp fun D σ H ⟨σa, h, R, rs, rh, q, k⟩ => ?_
  refine liftA_go rs rh q fun ds h1 vs H1 ⟨_, q1⟩ f1 r1 rh1 rs1 => ?_
  match ds, r1, q1 with
  | [d, e], ⟨v, _, e1, ra, w, _, e2, rb, e3⟩, q1 =>
    cases (show _ = [] from e3)
    subst e2
    subst e1
    exact ⟨v, w, rfl, k.nx _ _ _ _ q1 f1 (rs_set (rs_set rs1 ra) rb) rh1⟩
  | [], _, q1 => exact q1.elim
  | [_], _, q1 => exact q1.elim
  | _ :: _ :: _ :: _, _, q1 => exact q1.elim
theorem ss_asgl {P : M.Prog} {n : Nat} {T : Tb} {ex : M.St → M.XP} {sc : Scope} {X : L2.Cx} {ts : List Nat} {es : List Expr} {k0 : Nat} {p0 pos : Pos} {e : Expr} {w : WE} (ok : XOk P n T sc sc X ex) (he : PE X e (lift X.F w)) (ht : nmsB T.N sc ts es = true) (h1 : tupX e = false) (h2 : compX e = false) :
    PS X (.Assign [.Tuple es k0 p0] e pos) (liftS X.F fun R σ h => w σ h fun d h1 => M.aLst d h1 fun _ xs => match M.setT (.tp ts) (.tup xs) σ with | some σ' => R.nx σ' h1 | none => False) := by
  obtain ⟨a, b, c⟩ := nms_ok ok ht
  refine (ps_asg he (pg_lst ok.calm a b c) (by cases e <;> first | rfl | cases h2) (by cases e <;> first | rfl | cases h1) rfl).imp fun D σ H ⟨σa, h, R, rs, rh, q, k⟩ => ?_
  refine lift_go rs rh q fun d h1 v H1 q1 f1 r1 rh1 rs1 => ?_
  obtain ⟨p, xs, rfl, e1, q⟩ := aLst_inv q1
  cases (show v = _ from r1)
  obtain ⟨ws, a1, r2⟩ := rh1 p _ e1
  cases e2 : M.setT (.tp ts) (.tup xs) σa with
  | none => rw [e2] at q; exact q.elim
  | some σb =>
    rw [e2] at q
    exact ⟨p, ws, rfl, SqL.of a1, by rw [r2.length, setTs_len e2], setTs_ok e2 rs1 r2 fun σ' rs' => k.nx _ _ _ _ q f1 rs' rh1⟩
def augB : M.Bop → Bool
  | .add => true
  | .sub => true
  | _ => false
/-- what may stand in an except suite -/
def qE : M.E → Bool
  | .var _ => true
  | .int _ => true
  | .str _ => true
  | .bl _ => true
  | .non => true
  | .fldx a _ => qE a
  | .isx a _ _ _ => qE a
  | .tup es => qEs es
  | _ => false
where qEs : M.Es → Bool
  | .nil => true
  | .cons e r => qE e && qEs r
def qS : M.S → Bool
  | .asg (.nm _) e => qE e
  | .ret e => qE e
  | .ife c a b => qE c && qSs a && qSs b
  | .pass => true
  | _ => false
where qSs : M.Ss → Bool
  | .nil => true
  | .cons s r => qS s && qSs r
abbrev qSs := qS.qSs
mutual
def mtS (T : Tb) : Scope → M.S → Stmt → Bool
  | sc, .asg t e, s => (match s with
    | .Assign [tg] x _ => tgB T.N sc t tg && mtE T sc sc e x && (asgB tg x || tupI e && parB sc tg x)
    | _ => false)
  | sc, .asgl ts e, s => (match s with
    | .Assign [tg] x _ => tgB T.N sc (.tp ts) tg && mtE T sc sc e x && asgB tg x
    | _ => false)
  | sc, .sfld c o f e, s => (match s with
    | .Assign [.Attribute a nm _] x _ => decide (nm = sV f) && T.at_.contains (c, f) && mtE T sc sc o a && mtE T sc sc e x
    | _ => false)
  | sc, .six o i e, s => (match s with
    | .Assign [.Subscript a j _] x _ => mtE T sc sc o a && mtE T sc sc i j && mtE T sc sc e x
    | _ => false)
  | sc, .aug i o e, s => (match s with
    | .AugAssign (.Name x _) op y _ => nmB T.N sc i (.Name x ⟨0, 0, 0, 0⟩) && opB o op && mtE T sc sc e y && augB o
    | _ => false)
  | sc, .ex e, s => (match s with
    | .Expr x _ => mtE T sc sc e x && !(compX x)
    | _ => false)
  | sc, .ret e, s => (match s with
    | .Return (some x) _ => mtE T sc sc e x
    | _ => false)
  | sc, .retN, s => (match s with
    | .Return none _ => true
    | _ => false)
  | sc, .ife c a b, s => (match s with
    | .If x l r _ => mtE T sc sc c x && testB x && mtSs T sc a l && mtSs T sc b r
    | _ => false)
  | sc, .whl c b, s => (match s with
    | .While x l [] _ => mtE T sc sc c x && testB x && mtSs T sc b l
    | _ => false)
  | sc, .for_ t k src b, s => (match s with
    | .For tg it l [] _ => tgB T.N sc t tg && tupK k t && mtI T sc sc k src it && mtSs T sc b l
    | _ => false)
  | sc, .pass, s => (match s with
    | .Pass _ => true
    | _ => false)
  | sc, .brk, s => (match s with
    | .Break _ => true
    | _ => false)
  | sc, .cont, s => (match s with
    | .Continue _ => true
    | _ => false)
  | sc, .raise c fs es, s => (match s with
    | .Raise (some (.Call (.Name x _) (y :: l) [] _)) none _ => decide (x = sV c) && T.xs.contains (c, fs) && glB sc x && plainN x && mtEs T sc sc es (y :: l)
    | _ => false)
  | sc, .tryx b t subs all i u, s => (match s with
    | .Try body [.ExceptHandler (some (.Name x _)) (some nm) (b0 :: suite) _] [] [] _ => decide (x = sV t) && T.xt.contains (t, subs, all) && glB sc x && plainN x && decide (T.N[i]? = some nm) && decide (sc.names.lookup nm = some .local) && mtSs T sc b body && (qSs u && mtSs T sc u (b0 :: suite))
    | _ => false)
  | sc, .bad, s => true
  | sc, .lock i s, x => mtS T sc s x
  | sc, .lock2 i s, x => mtS T sc s x
def mtSs (T : Tb) : Scope → M.Ss → List Stmt → Bool
  | sc, .nil, l => l.isEmpty
  | sc, .cons s r, l => (match l with
    | x :: y => mtS T sc s x && mtSs T sc r y
    | [] => false)
end
section
variable {P : M.Prog} {n : Nat} {T : Tb} {ex : M.St → M.XP}
theorem fold_mt {sc s0 : Scope} {k : M.Itk} {src : M.Es} {it : Expr} (h4 : mtI T sc s0 k src it = true) {env : Env} : ∀ z, foldedSetIterable it env z = pure z := by
  intro z
  cases k with
  | seq =>
    cases src with
    | nil => simp [mtI] at h4
    | cons a r =>
      simp only [mtI] at h4
      exact ok_fold (ok_mt (ba h4).1)
  | keys =>
    cases src with
    | nil => simp [mtI] at h4
    | cons a r =>
      simp only [mtI] at h4
      exact ok_fold (ok_mt (ba h4).1)
  | _ =>
    cases src with
    | nil => simp [mtI] at h4
    | cons a r => cases it <;> first | rfl | (simp [mtI] at h4)
theorem ifs_ok {sc s0 : Scope} {Y : L2.Cx} (okb : XOk P n T sc s0 Y ex) {cs : List Expr} {ifs : M.Es} (h7 : mtEs T sc s0 ifs cs = true) (h8 : testsB cs = true) (h9 : decide (cs.length < 2) = true) : PTs Y cs (liftT Y.F (M.wB (C P n ex) true ifs)) := by
  match cs, ifs, h7, h8, h9 with
  | [], .nil, _, _, _ =>
    refine ⟨fun pins s σ H Q I ⟨σa, hh, Qa, rs, rh, q, kk⟩ => pts_nil.run pins s σ H Q I ?_⟩
    simp only [M.wB] at q
    obtain ⟨b, e, kk⟩ := kk _ _ q
    cases e
    exact kk H .refl rh
  | [], .cons _ _, h7, _, _ => simp [mtEs] at h7
  | [c], .nil, h7, _, _ => simp [mtEs] at h7
  | [c], .cons i r, h7, h8, _ =>
    simp only [mtEs] at h7
    obtain ⟨h71, h72⟩ := ba h7
    cases r with
    | cons _ _ => simp [mtEs] at h72
    | nil =>
      have ht := (sndE (ex := ex) i c _ _ _ okb h71).t (ba h8).1
      refine pts_one (ht.imp fun σ H Q ⟨σa, hh, Qa, rs, rh, q, kk⟩ => ⟨σa, hh, _, rs, rh, (by simpa only [M.wB] using q), fun d h' q1 => ?_⟩)
      cases d with
      | bl b =>
        have q2 : Qa (.bl b) h' := by cases b <;> exact q1
        exact kk _ _ q2
      | _ => exact q1.elim
  | _ :: _ :: _, _, _, _, h9 =>
    have h9 := of_decide_eq_true h9
    simp only [List.length_cons] at h9
    omega
/-- name = [..], the list laid and stored at once -/
theorem ss_lc {sc : Scope} {X : L2.Cx} (ok : XOk P n T sc sc X ex) {elt : M.E} {t : M.Tgt} {own : List Nat} {k : M.Itk} {src ifs : M.Es} {y : Expr} {gs : List Comprehension} {scope : Scope} {vp : Pos} {i : Nat} {v : Str} {pv sp : Pos}
    (h : mtE T sc sc (.lc elt t own k src ifs) (.ListComp y gs scope vp) = true) (hn : nmB T.N sc i (.Name v pv) = true) (hs : swV sc v pv scope vp = true) :
    PS X (.Assign [.Name v pv] (.ListComp y gs scope vp) sp) (liftS X.F fun R σ h => M.wE (C P n ex) (.lc elt t own k src ifs) σ h fun d h1 => R.nx (σ.set i (some d)) h1) := by
  match gs, h with
  | [⟨tg, it, cs, a⟩], h =>
    simp only [mtE] at h
    obtain ⟨h, h10⟩ := ba h
    obtain ⟨h, h9⟩ := ba h
    obtain ⟨h, h8⟩ := ba h
    obtain ⟨h, h7⟩ := ba h
    obtain ⟨h, h6⟩ := ba h
    obtain ⟨h, h5⟩ := ba h
    obtain ⟨h, h4⟩ := ba h
    obtain ⟨h1, h2, h3⟩ := ba3 h
    have ea := of_decide_eq_true h1
    subst ea
    unfold compsB at h6
    cases eo : ownB T.N own with
    | none => rw [eo] at h6; cases h6
    | some ow =>
      rw [eo] at h6
      have blk := blkOk_by h6
      have em := ownB_map eo
      have iI := sndI (ex := ex) k src it tg X sc sc ok h4 (by
        intro e
        cases t with
        | nm _ => cases k <;> first | exact absurd e (by decide) | exact absurd h5 (by simp [tupK])
        | tp ts => cases tg <;> first | exact ⟨_, _, _, rfl⟩ | cases h3)
      have gT : ∀ (s : Shared) (H : Hp) (D : Addr) (cl : List (Str × Addr)) (fp : List Addr), PG (X.blk s H scope (compEnvC scope cl D X.env) fp) tg (gOf X.F t) := fun s H D cl fp => tg_ok (blk_ok ok blk s H D cl fp) h3
      have iE : ∀ (s : Shared) (H : Hp) (D : Addr) (cl : List (Str × Addr)) (fp : List Addr), PE (X.blk s H scope (compEnvC scope cl D X.env) fp) y (lift X.F (M.wE (C P n noX) elt)) := fun s H D cl fp => (sndE elt _ _ _ _ (blk_ok ok blk s H D cl fp) h10).v
      have iT : ∀ (s : Shared) (H : Hp) (D : Addr) (cl : List (Str × Addr)) (fp : List Addr), PTs (X.blk s H scope (compEnvC scope cl D X.env) fp) cs (liftT X.F (M.wB (C P n noX) true ifs)) := fun s H D cl fp => ifs_ok (ex := noX) (blk_ok ok blk s H D cl fp) h7 h8 h9
      have hl : sc.names.lookup v = some .local := by
        unfold swV at hs
        simp only [Bool.and_eq_true, beq_iff_eq] at hs
        exact hs.1.1.2
      obtain ⟨hn1, _⟩ := ba hn
      have key := ps_setLc (i := i) (y := v) (py := pv) (spos := sp) (pos := vp) (elt := y) ok.calm ok.nd (by rw [ok.eN]; exact of_decide_eq_true hn1) (by rw [ok.eS]; exact hl) (by rw [sw_eq, ok.eS, hs]) iI (by rw [ok.eN, ok.eS]; exact blk) gT iT iE (fold_mt h4)
      rw [em] at key
      refine key.imp fun D σ H ⟨σa, h, R, rs, rh, q, k⟩ => ?_
      refine lc_ok h2 (lift_go (w := _) (Qa := fun d h1 => R.nx (σa.set i (some d)) h1) rs rh (by simp only [M.wE] at q; exact q) fun d h1 v H1 q1 f1 r1 rh1 rs1 => ?_)
      exact k.nx _ _ _ _ q1 f1 (rs_set rs1 r1) rh1
  | [], h => exact absurd h (by simp [mtE])
  | _ :: _ :: _, h => exact absurd h (by simp [mtE])
theorem nm_each {e : Expr} {env : Env} {N : List Str} {s0 : Scope} {t : M.Tgt} (h : tgB N s0 t e = true) : (assignEach [e] env).map (·.2) = [assign e env] := by
  cases t with
  | nm i => rw [nm_star (T := ⟨N, [], [], [], [], [], [], [], [], [], [], [], []⟩) (es := []) (show nmB N s0 i e = true from h)]; rfl
  | tp ts => cases e <;> first | rfl | cases h
theorem ss_aug {X : L2.Cx} {i : Nat} {x : Str} {e : Expr} {w : WE} {o : M.Bop} {p pos : Pos} (hN : X.N.Nodup) (hi : X.N[i]? = some x) (hx : L2.Loc X.env.scope x) (hf : X.fn x = true ∨ X.env.scope.names.lookup x = some .local) (ho : o = .add ∨ o = .sub) (he : PE X e (lift X.F w)) :
    PS X (.AugAssign (.Name x p) (bop o) e pos) (liftS X.F fun R σ h => match σ[i]? with
      | some (some x) => w σ h fun y h1 => M.opAug o x y fun z => R.nx (σ.set i (some z)) h1
      | _ => False) := by
  have fin : ∀ {D : L2.Ends} {σ : L2.St} {H : Hp}, liftS X.F (fun R σ h => match σ[i]? with
      | some (some x) => w σ h fun y h1 => M.opAug o x y fun z => R.nx (σ.set i (some z)) h1
      | _ => False) D σ H → ∃ v, σ[i]? = some (some v) ∧ lift X.F w σ H fun u H1 => (o = .add ∧ ((∃ a b, v = .int a ∧ u = .int b ∧ D.nx (σ.set i (some (.int (a + b)))) H1) ∨ ∃ a b, v = .str a ∧ u = .str b ∧ a.length + b.length ≤ sizeLine ∧ D.nx (σ.set i (some (.str (a ++ b)))) H1)) ∨ (o = .sub ∧ ∃ a b, v = .int a ∧ u = .int b ∧ D.nx (σ.set i (some (.int (a - b)))) H1) := by
    rintro D σ H ⟨σa, h, R, rs, rh, q, k⟩
    cases e1 : σa[i]? with
    | none => rw [e1] at q; exact q.elim
    | some z => cases z with
      | none => rw [e1] at q; exact q.elim
      | some d =>
        rw [e1] at q
        obtain ⟨v, e2, r⟩ := rs.2 i d e1
        refine ⟨v, e2, lift_go rs rh q fun dy h1 u H1 q1 f1 r1 rh1 rs1 => ?_⟩
        have r := r.kp (f1.kp rh)
        have go : ∀ {dz : SD} {z : V}, R.nx (σa.set i (some dz)) h1 → Rep X.F H1 dz z → D.nx (σ.set i (some z)) H1 := fun q rz => k.nx _ _ _ _ q f1 (rs_set rs1 rz) rh1
        cases o <;> try (exact False.elim q1)
        · cases d <;> try (exact False.elim q1)
          · cases dy <;> try (exact False.elim q1)
            cases (show v = _ from r); cases (show u = _ from r1)
            exact .inl ⟨rfl, .inl ⟨_, _, rfl, rfl, go q1 rfl⟩⟩
          · cases dy <;> try (exact False.elim q1)
            cases (show v = _ from r.1); cases (show u = _ from r1.1)
            refine .inl ⟨rfl, .inr ⟨_, _, rfl, rfl, by rw [sV_len, sV_len, line_eq]; exact q1.1, ?_⟩⟩
            rw [sV_app]
            exact go q1.2 ⟨rfl, sOk_app r.2 r1.2⟩
        · cases d <;> try (exact False.elim q1)
          cases dy <;> try (exact False.elim q1)
          cases (show v = _ from r); cases (show u = _ from r1)
          exact .inr ⟨rfl, _, _, rfl, rfl, go q1 rfl⟩
  cases o
  case add =>
    have ip : PIp X .Add (fun x y H Q => (rI0 fun i j => .int (i + j)) x y H Q ∨ rAddS x y H Q) := fun pins s σ H x y v u Q I r1 r2 h => op_iadd pins s σ H x y v u Q I r1 r2 h
    refine (ps_aug hN hi hx he ip hf).imp fun D σ H z => ?_
    obtain ⟨v, e, σa, h, Qa, rs, rh, q, k⟩ := fin z
    refine ⟨v, e, σa, h, Qa, rs, rh, q, fun d h' u H' q' f r rh' => ?_⟩
    rcases k d h' u H' q' f r rh' with ⟨_, ⟨a, b, e1, e2, q⟩ | ⟨a, b, e1, e2, hz, q⟩⟩ | ⟨w, _⟩
    · exact .inl ⟨a, b, e1, e2, q⟩
    · exact .inr ⟨a, b, e1, e2, hz, q⟩
    · cases w
  case sub =>
    refine (ps_aug hN hi hx he ip_sub hf).imp fun D σ H z => ?_
    obtain ⟨v, e, σa, h, Qa, rs, rh, q, k⟩ := fin z
    refine ⟨v, e, σa, h, Qa, rs, rh, q, fun d h' u H' q' f r rh' => ?_⟩
    rcases k d h' u H' q' f r rh' with ⟨w, _⟩ | ⟨_, a, b, e1, e2, q⟩
    · cases w
    · exact ⟨a, b, e1, e2, q⟩
  all_goals (rcases ho with ho | ho <;> cases ho)

theorem six_ok {o i : Expr} {p : Pos} {env : Env} (h : okX i = true) : ∀ v, assign (.Subscript o i p) env v = (do
      let ov ← holding [v] (eval o env)
      let iv ← holding [v, ov] (eval i env)
      standAt p
      holding [v, ov, iv] (setItem ov iv v)
      release [v, ov, iv] []) := by intro v; cases i <;> first | rfl | cases h
/-- what an except suite's context must say -/
structure QOk (T : Tb) (sc : Scope) (Y : L2.Cx) : Prop where
  eN : Y.N = T.N
  nd : Y.N.Nodup
  eS : Y.env.scope = sc
  st : ∀ x, locB sc x = true → L2.Loc sc x ∧ (Y.fn x = true ∨ sc.names.lookup x = some NameKind.local)
  free : ∀ x ∈ T.bn, Y.mg x = none
  xi : ∀ q ∈ T.xi, ∃ c : V, ∃ cv : Value, (Y.mg (sV q.1) = some cv ∨ (Y.mg (sV q.1) = none ∧ bootBuiltins (sV q.1) = some cv)) ∧ RelV c cv ∧ (∀ u, RelV c u → u = cv) ∧ ∀ c' ∈ q.2.2, ∀ C, Y.mg (sV c') = some (.ref C) → PySem.W.kitOne Y.K (.ref C) cv = some (decide (c' ∈ q.2.1))
theorem QOk.gl {sc : Scope} {Y : L2.Cx} (ok : QOk T sc Y) {x : Str} (h : glB sc x = true) : Gl Y x := by
  unfold glB at h
  split at h
  · show Y.env.scope.names.lookup x = _
    rw [ok.eS]; assumption
  · cases h
mutual
theorem sndQ {C : M.Cx} {sc : Scope} {Y : L2.Cx} (ok : QOk T sc Y) : ∀ (ir : M.E) (x : Expr), qE ir = true → mtE T sc sc ir x = true → EOk Y x (M.wE C ir)
  | .var i, x, _, h => by
    cases x <;> try (exfalso; revert h; simp [mtE]; done)
    simp only [mtE] at h
    obtain ⟨h1, h2, h3⟩ := ba3 h
    obtain ⟨h4, h5⟩ := ba h3
    exact (EOk.plain (s_var (i := i) (by rw [ok.eN]; exact of_decide_eq_true h1) (by rw [ok.eS]; exact visB_ok h2) (by simpa using h4) (by simpa using h5)) (by intro _; rfl)).eq (by funext σ h Q; simp only [M.wE] <;> rfl)
  | .int k, x, _, h => by
    cases x <;> try (exfalso; revert h; simp [mtE]; done)
    rename_i c j p
    cases c <;> try (exfalso; revert h; simp [mtE]; done)
    simp only [mtE] at h
    have e := of_decide_eq_true h
    subst e
    exact (EOk.plain (s_const (d := .int _) pe_int fun H => rfl) (by intro _; rfl)).eq (by funext σ h Q; simp only [M.wE])
  | .str s, x, _, h => by
    cases x <;> try (exfalso; revert h; simp [mtE]; done)
    rename_i c j p
    cases c <;> try (exfalso; revert h; simp [mtE]; done)
    simp only [mtE] at h
    obtain ⟨h1, h2⟩ := ba h
    have e := of_decide_eq_true h1
    subst e
    have os : sOk s := fun c hc => of_decide_eq_true (List.all_eq_true.mp h2 c hc)
    exact (EOk.plain (s_const (d := .str s) pe_str fun H => ⟨rfl, os⟩) (by intro _; rfl)).eq (by funext σ h Q; simp only [M.wE])
  | .bl b, x, _, h => by
    cases x <;> try (exfalso; revert h; simp [mtE]; done)
    rename_i c j p
    cases c <;> try (exfalso; revert h; simp [mtE]; done)
    simp only [mtE, beq_iff_eq] at h
    subst h
    exact (EOk.plain (s_const (d := .bl _) pe_bl fun H => rfl) (by intro _; rfl)).eq (by funext σ h Q; simp only [M.wE])
  | .non, x, _, h => by
    cases x <;> try (exfalso; revert h; simp [mtE]; done)
    rename_i c j p
    cases c <;> try (exfalso; revert h; simp [mtE]; done)
    exact (EOk.plain (s_const (d := .non) pe_non fun H => rfl) (by intro _; rfl)).eq (by funext σ h Q; simp only [M.wE])
  | .fldx a f, x, hq, h => by
    cases x <;> try (exfalso; revert h; simp [mtE]; done)
    simp only [mtE] at h
    obtain ⟨h1, h2, h3⟩ := ba3 h
    exact (EOk.plain (s_fldx (of_decide_eq_true h1) (ok_base h2) (sndQ (C := C) ok a _ (by simpa [qE] using hq) h3).v) (by intro _; rfl)).eq (by funext σ h Q; simp only [M.wE])
  | .isx a t subs all, x, hq, h => by
    match x, h with
    | .Call (.Name g gp) [y, .Name z zp] [] p, h =>
      simp only [mtE] at h
      obtain ⟨h, h8⟩ := ba h
      obtain ⟨h, h7⟩ := ba h
      obtain ⟨h, h6⟩ := ba h
      obtain ⟨h, h5⟩ := ba h
      obtain ⟨h, h4⟩ := ba h
      obtain ⟨h1, h2, h3⟩ := ba3 h
      have hg := of_decide_eq_true h1
      subst hg
      have hz := of_decide_eq_true h4
      subst hz
      have hf := ok.xi (t, subs, all) (by simpa using h5)
      exact (EOk.plain (s_isx (ok.gl h3) (ok.free _ (by simpa using h2)) (ok.gl h6) (by simpa using (ba (ba h7).1).1) (of_decide_eq_true (ba h7).2) hf (ok_star (ok_mt h8)) (sndQ (C := C) ok a _ (by simpa [qE] using hq) h8).v) (by intro _; rfl)).eq (by funext σ h Q; simp only [M.wE])
  | .tup es, x, hq, h => by
    cases x <;> try (exfalso; revert h; simp [mtE]; done)
    simp only [mtE] at h
    exact (EOk.plain (s_tup (sndQs (C := C) ok es _ (by simpa [qE] using hq) h)) (by intro _; rfl)).eq (by funext σ h Q; simp only [M.wE])
  | .gint _ _, _, hq, _ => by simp [qE] at hq
  | .gtp _ _, _, hq, _ => by simp [qE] at hq
  | .lst _, _, hq, _ => by simp [qE] at hq
  | .dct _ _, _, hq, _ => by simp [qE] at hq
  | .dcn, _, hq, _ => by simp [qE] at hq
  | .bin _ _ _, _, hq, _ => by simp [qE] at hq
  | .neg _, _, hq, _ => by simp [qE] at hq
  | .cmp _ _ _, _, hq, _ => by simp [qE] at hq
  | .chn _ _ _ _ _, _, hq, _ => by simp [qE] at hq
  | .bop _ _, _, hq, _ => by simp [qE] at hq
  | .not _, _, hq, _ => by simp [qE] at hq
  | .ite _ _ _, _, hq, _ => by simp [qE] at hq
  | .ix _ _, _, hq, _ => by simp [qE] at hq
  | .sl _ _ _, _, hq, _ => by simp [qE] at hq
  | .call _ _, _, hq, _ => by simp [qE] at hq
  | .callD _ _ _, _, hq, _ => by simp [qE] at hq
  | .smv _, _, hq, _ => by simp [qE] at hq
  | .fld _ _, _, hq, _ => by simp [qE] at hq
  | .newo _ _, _, hq, _ => by simp [qE] at hq
  | .mcall _ _ _ _, _, hq, _ => by simp [qE] at hq
  | .blt _ _, _, hq, _ => by simp [qE] at hq
  | .isi _ _, _, hq, _ => by simp [qE] at hq
  | .mth _ _ _, _, hq, _ => by simp [qE] at hq
  | .lc _ _ _ _ _ _, _, hq, _ => by simp [qE] at hq
  | .bad, _, hq, _ => by simp [qE] at hq
  | .lock _ _, _, hq, _ => by simp [qE] at hq
  | .lzip _, _, hq, _ => by simp [qE] at hq
  | .lrng _, _, hq, _ => by simp [qE] at hq
  | .rev _, _, hq, _ => by simp [qE] at hq
  | .mnd _, _, hq, _ => by simp [qE] at hq
  | .orv _ _, _, hq, _ => by simp [qE] at hq
  | .tix _ _ _, _, hq, _ => by simp [qE] at hq
  | .slw _ _ _, _, hq, _ => by simp [qE] at hq
  | .tlr _, _, hq, _ => by simp [qE] at hq
  | .newx _ _ _, _, hq, _ => by simp [qE] at hq
  | .rpr _, _, hq, _ => by simp [qE] at hq
  | .dpr _, _, hq, _ => by simp [qE] at hq
  | .lset _, _, hq, _ => by simp [qE] at hq
theorem sndQs {C : M.Cx} {sc : Scope} {Y : L2.Cx} (ok : QOk T sc Y) : ∀ (ir : M.Es) (l : List Expr), qE.qEs ir = true → mtEs T sc sc ir l = true → PA Y l (liftA Y.F (M.wEs C ir))
  | .nil, l, _, h => by
    cases l with
    | nil =>
      have e : M.wEs C .nil = fun _ h Q => Q [] h := by funext σ h Q; simp only [M.wEs]
      rw [e]
      exact s_nil
    | cons _ _ => simp [mtEs] at h
  | .cons a r, l, hq, h => by
    cases l with
    | nil => simp [mtEs] at h
    | cons y l =>
      simp only [mtEs] at h
      obtain ⟨h1, h2⟩ := ba h
      simp only [qE.qEs] at hq
      obtain ⟨q1, q2⟩ := ba hq
      have e : M.wEs C (.cons a r) = fun σ h Q => M.wE C a σ h fun d h1 => M.wEs C r σ h1 fun ds h2 => Q (d :: ds) h2 := by funext σ h Q; simp only [M.wEs]
      rw [e]
      exact s_cons (ok_star (ok_mt h1)) (sndQ (C := C) ok a y q1 h1).v (sndQs (C := C) ok r l q2 h2)
end
mutual
theorem sndQS {C : M.Cx} {sc : Scope} {Y : L2.Cx} (ok : QOk T sc Y) : ∀ (ir : M.S) (x : Stmt), qS ir = true → mtS T sc ir x = true → PS Y x (liftS Y.F (M.wS C ir))
  | .asg t e, x, hq, h => by
    cases t with
    | tp _ => simp [qS] at hq
    | nm i =>
      simp only [qS] at hq
      cases x <;> try (exfalso; revert h; simp [mtS]; done)
      rename_i ts v p
      match ts, h with
      | [tg], h =>
        simp only [mtS] at h
        obtain ⟨h1, h2, h3'⟩ := ba3 h
        have w1 : M.wS C (.asg (.nm i) e) = fun R σ h => M.wE C e σ h fun d h1 => match M.setT (.nm i) d σ with | some σ' => R.nx σ' h1 | none => False := by funext R σ h; simp only [M.wS] <;> rfl
        rw [w1]
        have ie := (sndQ (C := C) ok e v hq h2).v
        have hc : compX v = false := by cases e <;> (first | (simp [qE] at hq; done) | (cases v <;> first | rfl | (exfalso; revert h2; simp [mtE]; done)))
        have it : PG Y tg (gOf Y.F (.nm i)) := by
          cases tg <;> try (exfalso; revert h1; simp [tgB, nmB]; done)
          rename_i nn np
          obtain ⟨g1, g2⟩ := ba (show (decide (T.N[i]? = some nn) && locB sc nn) = true from h1)
          obtain ⟨l, f⟩ := ok.st nn g2
          exact pg_name ok.nd (by rw [ok.eN]; exact of_decide_eq_true g1) (by rw [ok.eS]; exact l) (by rw [ok.eS]; exact f)
        refine ss_asg ie it (sw_plain hc) ?_ (nm_each h1)
        cases tg <;> first | rfl | (exfalso; revert h1; simp [tgB, nmB]; done)
      | [], h => exact absurd h (by simp [mtS])
      | _ :: _ :: _, h => exact absurd h (by simp [mtS])
  | .ret e, x, hq, h => by
    simp only [qS] at hq
    cases x <;> try (exfalso; revert h; simp [mtS]; done)
    rename_i v p
    cases v with
    | none => exact absurd h (by simp [mtS])
    | some v =>
      simp only [mtS] at h
      have w1 : M.wS C (.ret e) = fun R σ h => M.wE C e σ h R.rt := by funext R σ h; simp only [M.wS]
      rw [w1]
      exact ss_ret (sndQ (C := C) ok e _ hq h).v
  | .ife c a b, x, hq, h => by
    simp only [qS] at hq
    obtain ⟨hq, q3⟩ := ba hq
    obtain ⟨q1, q2⟩ := ba hq
    cases x <;> try (exfalso; revert h; simp [mtS]; done)
    simp only [mtS] at h
    obtain ⟨h, h4⟩ := ba h
    obtain ⟨h1, h2, h3⟩ := ba3 h
    have w1 : M.wS C (.ife c a b) = fun R σ h => M.wE C c σ h fun d h1 => match d with
      | .bl k => (match k with
        | true => M.wSs C a R σ h1
        | false => M.wSs C b R σ h1)
      | _ => False := by funext R σ h; simp only [M.wS, M.wT] <;> rfl
    rw [w1]
    exact ss_ife ((sndQ (C := C) ok c _ q1 h1).t h2) (sndQSs (C := C) ok a _ q2 h3) (sndQSs (C := C) ok b _ q3 h4)
  | .pass, x, _, h => by
    cases x <;> try (exfalso; revert h; simp [mtS]; done)
    have w1 : M.wS C .pass = fun R σ h => R.nx σ h := by funext R σ h; simp only [M.wS]
    rw [w1]
    exact ss_pass
  | .asgl _ _, _, hq, _ => by simp [qS] at hq
  | .six _ _ _, _, hq, _ => by simp [qS] at hq
  | .sfld _ _ _ _, _, hq, _ => by simp [qS] at hq
  | .aug _ _ _, _, hq, _ => by simp [qS] at hq
  | .ex _, _, hq, _ => by simp [qS] at hq
  | .retN, _, hq, _ => by simp [qS] at hq
  | .whl _ _, _, hq, _ => by simp [qS] at hq
  | .for_ _ _ _ _, _, hq, _ => by simp [qS] at hq
  | .brk, _, hq, _ => by simp [qS] at hq
  | .cont, _, hq, _ => by simp [qS] at hq
  | .bad, _, hq, _ => by simp [qS] at hq
  | .lock _ _, _, hq, _ => by simp [qS] at hq
  | .lock2 _ _, _, hq, _ => by simp [qS] at hq
  | .raise _ _ _, _, hq, _ => by simp [qS] at hq
  | .tryx _ _ _ _ _ _, _, hq, _ => by simp [qS] at hq
theorem sndQSs {C : M.Cx} {sc : Scope} {Y : L2.Cx} (ok : QOk T sc Y) : ∀ (ir : M.Ss) (l : List Stmt), qSs ir = true → mtSs T sc ir l = true → PSs Y l (liftS Y.F (M.wSs C ir))
  | .nil, l, _, h => by
    cases l with
    | cons _ _ => simp [mtSs] at h
    | nil =>
      have w1 : M.wSs C .nil = fun R σ h => R.nx σ h := by funext R σ h; simp only [M.wSs]
      rw [w1]
      exact ss_nil
  | .cons s r, l, hq, h => by
    cases l with
    | nil => simp [mtSs] at h
    | cons x l =>
      simp only [mtSs] at h
      obtain ⟨h1, h2⟩ := ba h
      simp only [qSs, qS.qSs] at hq
      obtain ⟨q1, q2⟩ := ba hq
      have w1 : M.wSs C (.cons s r) = fun R σ h => M.wS C s { R with nx := fun σ' h' => M.wSs C r R σ' h' } σ h := by funext R σ h; simp only [M.wSs]
      rw [w1]
      exact ss_cons (sndQS (C := C) ok s x q1 h1) (sndQSs (C := C) ok r l q2 h2)
end
end
end
theorem rs_off {K : Fr} {H : Hp} {σ : L2.St} {σa : M.St} {i : Nat} (r : RS K H σ σa) : RS K H (σ.set i none) (σa.set i none) := by
  refine ⟨by simpa using r.1, fun j d e => ?_⟩
  by_cases z : i = j
  · subst z
    by_cases hl : i < σa.length
    · rw [List.getElem?_set_self hl] at e; cases e
    · rw [List.getElem?_eq_none (by simpa using hl)] at e; cases e
  · rw [List.getElem?_set_ne z] at e
    obtain ⟨u, e1, e2⟩ := r.2 j d e
    exact ⟨u, by rw [List.getElem?_set_ne z]; exact e1, e2⟩
/-- the context of a try's body, another frame -/
theorem xok_tr {fp fp' : FrameP} {P : M.Prog} {n : Nat} {T : Tb} {sc s0 : Scope} {X : L2.Cx} {ex ex' : M.St → M.XP} (ok : @XOk fp P n T sc s0 X ex) {pn : List (Addr × Obj)} {xe : Value → Shared → Prop} (po : PassesOwn (model X.prog X.w) X.A X.env xe) (tk : Takes (X.tr pn xe) (@WXx fp' X.F ex')) : @XOk fp' P n T sc s0 (X.tr pn xe) ex' := by
  cases ok
  constructor <;> assumption
/-- the reading of a try's body: what leaves it is wished for by W -/
def tBody (CC : (M.St → M.XP) → M.Cx) (K : Fr) (W : WX) (b : M.Ss) : TS := fun D σ H => ∃ (fq : FrameP) (ex' : M.St → M.XP), (∀ cls d σ H, @WXx fq K ex' cls d σ H → W cls d σ H) ∧ @liftS fq K (M.wSs (CC ex') b) D σ H
/-- the frame of a try: from its start -/
abbrev frmF (H : Hp) (h : M.AH) : FrameP := ⟨fun H' h' => Frm H h H' h', fun a f => a.trans f⟩
theorem try_go [fp : FrameP] {P : M.Prog} {n : Nat} {X : L2.Cx} {ex : M.St → M.XP} {b u : M.Ss} {t : M.Sx} {subs all : List M.Sx} {i : Nat} {cv : Value} {D : L2.Ends} {σ : L2.St} {H : Hp} (hcl : ∀ c' ∈ all, ∀ C0, X.mg (sV c') = some (.ref C0) → PySem.W.exmOne X.K (.ref C0) cv = some (decide (c' ∈ subs)))
    (q : liftS X.F (M.wS (C P n ex) (.tryx b t subs all i u)) D σ H) : tBody (C P n) X.F (wKeep X.K cv i (liftS X.F (M.wSs (C P n noX) u)) (WXx X.F ex) D) b D σ H := by
  obtain ⟨σa, hh, R, rs, rh, q, k⟩ := q
  simp only [M.wS] at q
  refine ⟨frmF H hh, _, ?_, σa, hh, R, rs, @RH.mk (frmF H hh) _ _ _ rh.f (Frm.refl : Frm H hh H hh), q, ?_⟩
  · rintro cls d σ1 H1 ⟨σb, c0, fs, h1', ⟨hin, yes, no⟩, rs1, rh1, xd⟩
    have f1 : Frm H hh H1 h1' := @RH.fr (frmF H hh) _ _ _ rh1
    have rh2 : RH X.F H1 h1' := ⟨@RH.f (frmF H hh) _ _ _ rh1, FrameP.c rh.fr f1⟩
    clear rh1
    obtain ⟨CC, dd, ps, rfl, rfl, hm0, ed, xf, xc⟩ := id xd
    refine ⟨_, hcl c0 hin CC hm0, fun hb' => ⟨CC, dd, rfl, rfl, fun a na => ?_⟩, fun hb' => ⟨σb, c0, fs, h1', no (of_decide_eq_false hb'), rs1, rh2, xd⟩⟩
    have hda : dd ≠ a := fun z => by rw [z, na] at ed; cases ed
    have rh3 := rh_new (ob := .exc c0 fs) (o := exR a CC dd) rh2 na ⟨CC, dd, ps, upd_same, by rw [upd_ne hda]; exact ed, hm0, xf.kp (kp_new na), xc⟩
    have kk := k.go (f1.trans (frm_new (o := exR a CC dd) (ob := .exc c0 fs) na))
    exact ⟨_, _, _, rs_set (rs1.kp (kp_new na)) (show Rep X.F _ (.ref a) (.ref a) from rfl), rh3, yes (of_decide_eq_true hb') a (rh2.none na), ⟨fun σ2 h2 σ3 H3 z f r r' => kk.nx _ _ _ _ z f (rs_off r) r', kk.rt, fun σ2 h2 σ3 H3 z f r r' => kk.bk _ _ _ _ z f (rs_off r) r', fun σ2 h2 σ3 H3 z f r r' => kk.ct _ _ _ _ z f (rs_off r) r'⟩⟩
  · refine @KontS.mk (frmF H hh) _ _ _ _ _ (fun σ2 h2 σ3 H3 z f r r' => ?_) (fun d h2 v H3 z f r r' => ?_) (fun σ2 h2 σ3 H3 z f r r' => ?_) (fun σ2 h2 σ3 H3 z f r r' => ?_)
    · exact k.nx _ _ _ _ z f r ⟨@RH.f (frmF H hh) _ _ _ r', FrameP.c rh.fr f⟩
    · exact k.rt _ _ _ _ z f r ⟨@RH.f (frmF H hh) _ _ _ r', FrameP.c rh.fr f⟩
    · exact k.bk _ _ _ _ z f r ⟨@RH.f (frmF H hh) _ _ _ r', FrameP.c rh.fr f⟩
    · exact k.ct _ _ _ _ z f r ⟨@RH.f (frmF H hh) _ _ _ r', FrameP.c rh.fr f⟩
/-- a def's body, from within -/
structure YOk (P : M.Prog) (n : Nat) (T : Tb) (sc : Scope) (X : L2.Cx) [FrameP] (ex : M.St → M.XP) : Prop where
  x : XOk P n T sc sc X ex
  hs : X.stack = X.env :: X.outer
  hf : X.env.frame = some X.env.locals
section
variable {P : M.Prog} {n : Nat} {T : Tb}
mutual
theorem sndS : ∀ [FrameP] (ir : M.S) (x : Stmt) (X : L2.Cx) (sc : Scope) {ex : M.St → M.XP}, YOk P n T sc X ex → mtS T sc ir x = true → PS X x (liftS X.F (M.wS (C P n ex) ir))
  | fp, .asg t e, x, X, sc, ex, yo, h => by
    have ok := yo.x
    cases x <;> try (exfalso; revert h; simp [mtS]; done)
    rename_i ts v p
    match ts, h with
    | [tg], h =>
      simp only [mtS] at h
      obtain ⟨h1, h2, h3'⟩ := ba3 h
      have w1 : M.wS (C P n ex) (.asg t e) = fun R σ h => M.wE (C P n ex) e σ h fun d h1 => match M.setT t d σ with | some σ' => R.nx σ' h1 | none => False := by funext R σ h; simp only [M.wS] <;> rfl
      rw [w1]
      have ie := (sndE (ex := ex) e v X sc sc ok h2).v
      have it := tg_ok ok h1
      by_cases h3 : asgB tg v = true
      case neg =>
        have h3 := ba ((Bool.or_eq_true _ _ |>.mp h3').resolve_left h3)
        obtain ⟨h4, h5⟩ := h3
        obtain ⟨es, rfl⟩ : ∃ es, e = .tup es := by cases e <;> first | exact ⟨_, rfl⟩ | cases h4
        unfold parB at h5
        split at h5
        · rename_i x1 px1 y1 py1 k1 p1 a1 b1 k2 p2
          cases t with
          | nm _ => cases h1
          | tp is =>
            match is, h1 with
            | [i, j], h1 =>
              simp only [tgB, nmsB, nmB, Bool.and_eq_true] at h1
              have hi := of_decide_eq_true h1.1.1
              have hj := of_decide_eq_true h1.2.1.1
              simp only [mtE] at h2
              have w2 : (fun (R : M.Ends) σ h => M.wE (C P n ex) (.tup es) σ h fun d h1 => match M.setT (.tp [i, j]) d σ with | some σ' => R.nx σ' h1 | none => False) = fun R σ h => M.wEs (C P n ex) es σ h fun ds h1 => ds.length ≤ M.LINE ∧ match M.setT (.tp [i, j]) (.tup ds) σ with | some σ' => R.nx σ' h1 | none => False := by funext R σ h; simp only [M.wE]
              rw [w2]
              exact ss_par ok hi hj h5 (sndEs (ex := ex) es _ X sc sc ok h2)
            | [], h1 => cases h1
            | [_], h1 => simp [tgB, nmsB] at h1
            | _ :: _ :: _ :: _, h1 => simp [tgB, nmsB] at h1
        · cases h5
      by_cases hc : compX v = true
      · cases tg <;> try (exfalso; revert h3; simp [asgB]; done)
        · rename_i nm np
          cases t with
          | tp _ => cases h1
          | nm i =>
            cases e <;> cases v <;> try (exfalso; revert h2; simp [mtE]; done)
            all_goals try (exfalso; revert hc; simp [compX]; done)
            rename_i elt t own k src ifs y gs scope vp _
            cases hs : swV sc nm np scope vp with
            | true => exact (ss_lc (ex := ex) ok h2 h1 hs).imp fun D σ H z => z
            | false => exact ss_asg ie it (by rw [sw_sole, ok.eS, hs]) rfl (nm_each h1)
        · exfalso
          revert h3
          simp only [asgB, hc]
          simp
      · have hc : compX v = false := by simpa using hc
        refine ss_asg ie it (sw_plain hc) ?_ (nm_each h1)
        cases tg <;> try (exfalso; revert h3; simp [asgB]; done)
        · rfl
        · have ht : tupX v = false := by
            simp only [asgB] at h3
            have := (ba h3).1
            simpa using this
          cases v <;> first | rfl | cases ht
    | [], h => exact absurd h (by simp [mtS])
    | _ :: _ :: _, h => exact absurd h (by simp [mtS])
  | fp, .asgl ts e, x, X, sc, ex, yo, h => by
    have ok := yo.x
    cases x <;> try (exfalso; revert h; simp [mtS]; done)
    rename_i ts' v p
    match ts', h with
    | [tg], h =>
      simp only [mtS] at h
      obtain ⟨h1, h2, h3⟩ := ba3 h
      have w1 : M.wS (C P n ex) (.asgl ts e) = fun R σ h => M.wE (C P n ex) e σ h fun d h1 => M.aLst d h1 fun _ xs => match M.setT (.tp ts) (.tup xs) σ with | some σ' => R.nx σ' h1 | none => False := by funext R σ h; simp only [M.wS] <;> rfl
      rw [w1]
      cases tg <;> try (exfalso; revert h1; simp [tgB]; done)
      simp only [asgB, Bool.and_eq_true, Bool.not_eq_true'] at h3
      exact ss_asgl ok (sndE (ex := ex) e v X sc sc ok h2).v h1 h3.1 h3.2
    | [], h => exact absurd h (by simp [mtS])
    | _ :: _ :: _, h => exact absurd h (by simp [mtS])
  | fp, .sfld c o f e, x, X, sc, ex, yo, h => by
    have ok := yo.x
    cases x <;> try (exfalso; revert h; simp [mtS]; done)
    rename_i ts v p
    match ts, h with
    | [tg], h =>
      cases tg <;> try (exfalso; revert h; simp [mtS]; done)
      simp only [mtS] at h
      obtain ⟨h, h4⟩ := ba h
      obtain ⟨h1, h2, h3⟩ := ba3 h
      obtain ⟨C', hm, na⟩ := ok.at_ (c, f) (by simpa using h2)
      have w1 : M.wS (C P n ex) (.sfld c o f e) = fun R σ h => M.wE (C P n ex) e σ h fun v h1 => M.wE (C P n ex) o σ h1 fun x h2 => M.aIns x h2 fun p c' fs => c' = c ∧ fs.length < 1000 ∧ R.nx σ (M.up h2 p (.ins c (M.putA f v fs))) := by funext R σ h; simp only [M.wS]
      rw [w1]
      refine s_sfld (of_decide_eq_true h1) hm na (sndE (ex := ex) e v X sc sc ok h4).v (sndE (ex := ex) o _ X sc sc ok h3).v ?_
      cases v <;> rfl
    | [], h => exact absurd h (by simp [mtS])
    | _ :: _ :: _, h => exact absurd h (by simp [mtS])
  | fp, .six o i e, x, X, sc, ex, yo, h => by
    have ok := yo.x
    cases x <;> try (exfalso; revert h; simp [mtS]; done)
    rename_i ts v p
    match ts, h with
    | [tg], h =>
      cases tg <;> try (exfalso; revert h; simp [mtS]; done)
      simp only [mtS] at h
      obtain ⟨h1, h2, h3⟩ := ba3 h
      have w1 : M.wS (C P n ex) (.six o i e) = fun R σ h => M.wE (C P n ex) e σ h fun v h1 => M.wE (C P n ex) o σ h1 fun x h2 => M.wE (C P n ex) i σ h2 fun y h3 => M.opSet x y v h3 fun h4 => R.nx σ h4 := by funext R σ h; simp only [M.wS]
      rw [w1]
      refine ss_six ok.units (sndE (ex := ex) e v X sc sc ok h3).v (sndE (ex := ex) o _ X sc sc ok h1).v (sndE (ex := ex) i _ X sc sc ok h2).v (six_ok (ok_mt h2)) ?_ rfl rfl
      cases v <;> rfl
    | [], h => exact absurd h (by simp [mtS])
    | _ :: _ :: _, h => exact absurd h (by simp [mtS])
  | fp, .aug i o e, x, X, sc, ex, yo, h => by
    have ok := yo.x
    cases x <;> try (exfalso; revert h; simp [mtS]; done)
    rename_i tg op v p
    cases tg <;> try (exfalso; revert h; simp [mtS]; done)
    simp only [mtS] at h
    obtain ⟨h, h4⟩ := ba h
    obtain ⟨h1, h2, h3⟩ := ba3 h
    obtain ⟨h5, h6⟩ := ba h1
    obtain ⟨l, f⟩ := ok.st _ h6
    have eo := opB_eq h2
    subst eo
    have w1 : M.wS (C P n ex) (.aug i o e) = fun R σ h => match σ[i]? with
      | some (some x) => M.wE (C P n ex) e σ h fun y h1 => M.opAug o x y fun z => R.nx (σ.set i (some z)) h1
      | _ => False := by funext R σ h; simp only [M.wS] <;> rfl
    rw [w1]
    exact ss_aug ok.nd (by rw [ok.eN]; exact of_decide_eq_true h5) (by rw [ok.eS]; exact l) (by rw [ok.eS]; exact f) (by cases o <;> first | exact .inl rfl | exact .inr rfl | cases h4) (sndE (ex := ex) e v X sc sc ok h3).v
  | fp, .ex e, x, X, sc, ex, yo, h => by
    have ok := yo.x
    cases x <;> try (exfalso; revert h; simp [mtS]; done)
    simp only [mtS] at h
    obtain ⟨h1, h2⟩ := ba h
    have w1 : M.wS (C P n ex) (.ex e) = fun R σ h => M.wE (C P n ex) e σ h fun _ h1 => R.nx σ h1 := by funext R σ h; simp only [M.wS]
    rw [w1]
    exact ss_expr (sw_plain (by simpa using h2)) (sndE (ex := ex) e _ X sc sc ok h1).v
  | fp, .ret e, x, X, sc, ex, yo, h => by
    have ok := yo.x
    cases x <;> try (exfalso; revert h; simp [mtS]; done)
    rename_i v p
    cases v with
    | none => exact absurd h (by simp [mtS])
    | some v =>
      simp only [mtS] at h
      have w1 : M.wS (C P n ex) (.ret e) = fun R σ h => M.wE (C P n ex) e σ h R.rt := by funext R σ h; simp only [M.wS]
      rw [w1]
      exact ss_ret (sndE (ex := ex) e _ X sc sc ok h).v
  | fp, .retN, x, X, sc, ex, yo, h => by
    have ok := yo.x
    cases x <;> try (exfalso; revert h; simp [mtS]; done)
    rename_i v p
    cases v with
    | some _ => exact absurd h (by simp [mtS])
    | none =>
      have w1 : M.wS (C P n ex) .retN = fun R σ h => R.rt .non h := by funext R σ h; simp only [M.wS]
      rw [w1]
      exact ss_retN
  | fp, .ife c a b, x, X, sc, ex, yo, h => by
    have ok := yo.x
    cases x <;> try (exfalso; revert h; simp [mtS]; done)
    simp only [mtS] at h
    obtain ⟨h, h4⟩ := ba h
    obtain ⟨h1, h2, h3⟩ := ba3 h
    have w1 : M.wS (C P n ex) (.ife c a b) = fun R σ h => M.wE (C P n ex) c σ h fun d h1 => match d with
      | .bl k => (match k with
        | true => M.wSs (C P n ex) a R σ h1
        | false => M.wSs (C P n ex) b R σ h1)
      | _ => False := by funext R σ h; simp only [M.wS, M.wT] <;> rfl
    rw [w1]
    exact ss_ife ((sndE (ex := ex) c _ X sc sc ok h1).t h2) (sndSs a _ X sc yo h3) (sndSs b _ X sc yo h4)
  | fp, .whl c b, x, X, sc, ex, yo, h => by
    have ok := yo.x
    cases x <;> try (exfalso; revert h; simp [mtS]; done)
    rename_i v l els p
    cases els with
    | cons _ _ => exact absurd h (by simp [mtS])
    | nil =>
      simp only [mtS] at h
      obtain ⟨h1, h2, h3⟩ := ba3 h
      have w1 : M.wS (C P n ex) (.whl c b) = fun R σ h => ∃ W : Nat → M.St → M.AH → Prop, (∃ m, W m σ h) ∧ ∀ m σ h, W m σ h → M.wE (C P n ex) c σ h fun d h1 => match d with
        | .bl k => (match k with
          | true => M.wSs (C P n ex) b { nx := fun σ' h' => ∃ m', m' < m ∧ W m' σ' h', ct := fun σ' h' => ∃ m', m' < m ∧ W m' σ' h', bk := R.nx, rt := R.rt } σ h1
          | false => R.nx σ h1)
        | _ => False := by funext R σ h; simp only [M.wS, M.wT] <;> rfl
      rw [w1]
      exact ss_whl ok.po ((sndE (ex := ex) c _ X sc sc ok h1).t h2) (sndSs b _ X sc yo h3)
  | fp, .for_ t k src b, x, X, sc, ex, yo, h => by
    have ok := yo.x
    cases x <;> try (exfalso; revert h; simp [mtS]; done)
    rename_i tg it l els p
    cases els with
    | cons _ _ => exact absurd h (by simp [mtS])
    | nil =>
      simp only [mtS] at h
      obtain ⟨h, h4⟩ := ba h
      obtain ⟨h1, h2, h3⟩ := ba3 h
      have w1 : M.wS (C P n ex) (.for_ t k src b) = fun R σ h => M.wEs (C P n ex) src σ h fun ds h1 => M.walk k ds h1 fun xs ok =>
          M.loopW xs ok (fun x σ h P' => match M.setT t x σ with
            | some σ' => M.wSs (C P n ex) b { nx := P', ct := P', bk := R.nx, rt := R.rt } σ' h
            | none => False) R.nx σ h1 := by funext R σ h; simp only [M.wS] <;> rfl
      rw [w1]
      refine ss_for ok.po ok.calm (sndI (ex := ex) k src it tg X sc sc ok h3 (by
        intro e
        cases t with
        | nm _ => cases k <;> first | exact absurd e (by decide) | exact absurd h2 (by simp [tupK])
        | tp ts => cases tg <;> first | exact ⟨_, _, _, rfl⟩ | cases h1)) (tg_ok ok h1) (sndSs b _ X sc yo h4) (fold_mt h3)
  | fp, .pass, x, X, sc, ex, yo, h => by
    have ok := yo.x
    cases x <;> try (exfalso; revert h; simp [mtS]; done)
    have w1 : M.wS (C P n ex) .pass = fun R σ h => R.nx σ h := by funext R σ h; simp only [M.wS]
    rw [w1]
    exact ss_pass
  | fp, .brk, x, X, sc, ex, yo, h => by
    have ok := yo.x
    cases x <;> try (exfalso; revert h; simp [mtS]; done)
    have w1 : M.wS (C P n ex) .brk = fun R σ h => R.bk σ h := by funext R σ h; simp only [M.wS]
    rw [w1]
    exact ss_brk
  | fp, .cont, x, X, sc, ex, yo, h => by
    have ok := yo.x
    cases x <;> try (exfalso; revert h; simp [mtS]; done)
    have w1 : M.wS (C P n ex) .cont = fun R σ h => R.ct σ h := by funext R σ h; simp only [M.wS]
    rw [w1]
    exact ss_cont
  | fp, .lock i s, x, X, sc, ex, yo, h => by
    have ok := yo.x
    simp only [mtS] at h
    have w1 : M.wS (C P n ex) (.lock i s) = fun R σ h => M.lockAt σ i h fun p kd kvs => M.wS (C P n ex) s { nx := fun σ' h' => R.nx σ' (M.up h' p (.dct kd kvs)), rt := fun d h' => R.rt d (M.up h' p (.dct kd kvs)), bk := fun σ' h' => R.bk σ' (M.up h' p (.dct kd kvs)), ct := fun σ' h' => R.ct σ' (M.up h' p (.dct kd kvs)) } σ (M.up h p (.rdct kd kvs)) := by funext R σ h; simp only [M.wS]
    rw [w1]
    exact ss_lock (sndS s x X sc yo h)
  | fp, .lock2 i s, x, X, sc, ex, yo, h => by
    have ok := yo.x
    simp only [mtS] at h
    have w1 : M.wS (C P n ex) (.lock2 i s) = fun R σ h => (M.lockAt σ i h fun p kd kvs => M.wS (C P n ex) s { nx := fun σ' h' => R.nx σ' (M.up h' p (.dct kd kvs)), rt := fun d h' => R.rt d (M.up h' p (.dct kd kvs)), bk := fun σ' h' => R.bk σ' (M.up h' p (.dct kd kvs)), ct := fun σ' h' => R.ct σ' (M.up h' p (.dct kd kvs)) } σ (M.up h p (.rdct kd kvs))) ∨ M.wS (C P n ex) s R σ h := by funext R σ h; simp only [M.wS]
    rw [w1]
    have ih := sndS s x X sc yo h
    exact ⟨fun pins s σ H D I ⟨σa, hh, R, rs, rh, q, k⟩ => q.elim (fun q => (ss_lock ih).run pins s σ H D I ⟨σa, hh, R, rs, rh, q, k⟩) (fun q => ih.run pins s σ H D I ⟨σa, hh, R, rs, rh, q, k⟩)⟩
  | fp, .raise c fs es, x, X, sc, ex, yo, h => by
    have ok := yo.x
    match x, h with
    | .Raise (some (.Call (.Name g gp) (y :: l) [] p)) none p2, h =>
      simp only [mtS] at h
      obtain ⟨h, h5⟩ := ba h
      obtain ⟨h, h4⟩ := ba h
      obtain ⟨h1, h2, h3⟩ := ba3 h
      have hl := oks_mt h5
      obtain ⟨CC, hm, mk⟩ := ok.xs (c, fs) (by simpa using h2)
      have w1 : M.wS (C P n ex) (.raise c fs es) = fun R σ h => M.wEs (C P n ex) es σ h fun ds h1 => ds.length = fs.length ∧ ex σ c (fs.zip ds) h1 := by funext R σ h; simp only [M.wS] <;> rfl
      rw [w1]
      exact ss_raise ok.calm ok.tk mk (ok.room.mono (by omega)) (glB_ok ok h3) (of_decide_eq_true h1) hm (by simpa using (ba h4).1) (ok_star (hl y List.mem_cons_self)) (ok_any fun z hz => hl z (List.mem_cons_of_mem _ hz)) (sndEs es _ X sc sc ok h5)
  | fp, .tryx b t subs all i u, x, X, sc, ex, yo, h => by
    have ok := yo.x
    match x, h with
    | .Try body [.ExceptHandler (some (.Name y yp)) (some nm) (b0 :: suite) hp] [] [] p, h =>
      simp only [mtS] at h
      obtain ⟨h, h9⟩ := ba h
      obtain ⟨h, h8⟩ := ba h
      obtain ⟨h, h7⟩ := ba h
      obtain ⟨h, h6⟩ := ba h
      obtain ⟨h, h4⟩ := ba h
      obtain ⟨h1, h2, h3⟩ := ba3 h
      have hy := of_decide_eq_true h1
      subst hy
      obtain ⟨cv, hcv, hcl⟩ := ok.xt (t, subs, all) (by simpa using h2)
      have h6 := of_decide_eq_true h6
      have hk : X.env.kindOf nm = some .local := by unfold Env.kindOf; rw [ok.eS]; exact of_decide_eq_true h7
      -- what the body must know of the exceptions that leave it
      let tb : WX → TS := fun W => tBody (C P n) X.F W b
      let ts : TS := liftS X.F (M.wSs (C P n noX) u)
      have hb : ∀ (W : WX) (pn : List (Addr × Obj)) (xe : Value → Shared → Prop), Takes (X.tr pn xe) W → PassesOwn (model X.prog X.w) X.A X.env xe → PSs (X.tr pn xe) body (tb W) := fun W pn xe tk po => by
        have hs0 := yo.hs
        have hf0 := yo.hf
        refine ⟨fun pins s σ H D I ⟨fq, ex', himp, q⟩ => ?_⟩
        exact (@sndSs fq b body (X.tr pn xe) sc ex' (@YOk.mk P n T sc (X.tr pn xe) fq ex' (@xok_tr fp fq P n T sc sc X ex ex' ok pn xe po (tk.imp himp)) hs0 hf0) h8).run pins s σ H D I q
      have hsu : ∀ (a : Addr) (pn : List (Addr × Obj)), PSs (X.suite a pn) (b0 :: suite) ts := fun a pn => by
        have qo : QOk T sc (X.suite a pn) := ⟨ok.eN, ok.nd, ok.eS, ok.st, ok.free, ok.xi⟩
        exact sndQSs (Y := X.suite a pn) (C := C P n noX) qo u _ (ba h9).1 (ba h9).2
      exact (ps_tryK (c := cv) (i := i) (tb := tb) (ts := ts) yo.hs yo.hf ok.nd (by rw [ok.eN]; exact h6) hk ⟨glB_ok ok h3, by simpa using (ba h4).1, .inl hcv⟩ ok.tk hb hsu).imp fun D σ H q => try_go hcl q
  | fp, .bad, x, X, sc, ex, yo, h => by
    have ok := yo.x
    refine ⟨fun pins s σ H D I ⟨_, _, _, _, _, q, _⟩ => ?_⟩
    simp only [M.wS] at q
theorem sndSs : ∀ [FrameP] (ir : M.Ss) (l : List Stmt) (X : L2.Cx) (sc : Scope) {ex : M.St → M.XP}, YOk P n T sc X ex → mtSs T sc ir l = true → PSs X l (liftS X.F (M.wSs (C P n ex) ir))
  | fp, .nil, l, X, sc, ex, yo, h => by
    have ok := yo.x
    cases l with
    | cons _ _ => simp [mtSs] at h
    | nil =>
      have w1 : M.wSs (C P n ex) .nil = fun R σ h => R.nx σ h := by funext R σ h; simp only [M.wSs]
      rw [w1]
      exact ss_nil
  | fp, .cons s r, l, X, sc, ex, yo, h => by
    have ok := yo.x
    cases l with
    | nil => simp [mtSs] at h
    | cons x l =>
      simp only [mtSs] at h
      obtain ⟨h1, h2⟩ := ba h
      have w1 : M.wSs (C P n ex) (.cons s r) = fun R σ h => M.wS (C P n ex) s { R with nx := fun σ' h' => M.wSs (C P n ex) r R σ' h' } σ h := by funext R σ h; simp only [M.wSs]
      rw [w1]
      exact ss_cons (sndS s x X sc yo h1) (sndSs r l X sc yo h2)
end

/-! ### defs -/
/-- a def of the program: its name, its names by slot, its row's statement, what it does -/
structure Fn where
  f : M.Sx
  N : List Str
  ps : List Str
  params : Arguments
  body : List Stmt
  scope : Scope
  fd : M.FD
  /-- of a class -/
  cl : Option (M.Sx × M.Sx)
  /-- so many of its last parameters have the default None -/
  df : Nat
def Fn.nm (F : Fn) : Str := match F.cl with
  | none => sV F.f
  | some (_, m) => sV m
/-- what is looked at of a def's text -/
def FnScopeB (N ps : List Str) (sc : Scope) : Bool := (match sc.kind with | .function => true | _ => false) && !sc.isCoroutine && !sc.isGenerator && decide N.Nodup && decide (N.take ps.length = ps) && (ps.all fun x => match sc.names.lookup x with
  | some .local => true | some .cell => true | _ => false) && sc.names.all fun y => match y.2 with
  | .free => false | _ => true
/-- the module's numbers and tables -/
structure Gc where
  gs : List (M.Sx × Int)
  ts : List (M.Sx × List (M.Sx × M.Sx))
  cs : List M.Sx
  ms : List (M.Sx × M.Sx)
  at_ : List (M.Sx × M.Sx)
  ds : List (M.Sx × Nat)
  ws : List (M.Sx × List M.Sx)
  /-- classes of exceptions, their fields; isinstance and except -/
  xs : List (M.Sx × List M.Sx)
  xi : List (M.Sx × List M.Sx × List M.Sx)
  xt : List (M.Sx × List M.Sx × List M.Sx)
  /-- the class whose __init__ they call -/
  xp : List M.Sx
def Fn.ok (bn : List Str) (fs : List M.Sx) (gc : Gc) (F : Fn) : Bool := FnScopeB F.N F.ps F.scope && decide (F.fd.ps = F.ps.length) && decide (F.fd.n = F.N.length) && mtSs ⟨F.N, bn, fs, gc.gs, gc.ts, gc.cs, gc.ms, gc.at_, gc.ds, gc.ws, gc.xs, gc.xi, gc.xt⟩ F.scope F.fd.body F.body
theorem fnScope_of {N ps : List Str} {sc : Scope} (h : FnScopeB N ps sc = true) : FnScope N ps sc := by
  unfold FnScopeB at h
  simp only [Bool.and_eq_true, decide_eq_true_eq, List.all_eq_true, Bool.not_eq_true'] at h
  obtain ⟨⟨⟨⟨⟨⟨h1, h2⟩, h3⟩, h4⟩, h5⟩, h6⟩, h7⟩ := h
  refine ⟨?_, h2, h3, h4, h5, fun x hx => ?_, fun y hy e => ?_⟩
  · split at h1 <;> first | assumption | cases h1
  · have := h6 x hx
    split at this
    · exact .inl (by assumption)
    · exact .inr (by assumption)
    · cases this
  · have := h7 y hy
    rw [e] at this
    cases this
end
end Snd
end
section
/-! Sound11: a whole program, and a law's end. -/
namespace Snd
open PySem L2 PySem.Spec PyProof.Rows
def Fn.Bnd (F : Fn) : Prop := ∀ (kV doc pm : Value) (an : Option Addr) (cdv ct : Value) (us : List Value), us.length = F.ps.length → bindArgs (PySem.W.fnOf F.nm (sV F.f) F.params F.body F.scope .none kV doc pm an cdv ct) ⟨us, []⟩ = pure (F.ps.zip us)
/-- k of its defaults fill up -/
def Fn.BndD (F : Fn) (k : Nat) : Prop := ∀ (T : Addr) (kV doc pm : Value) (an : Option Addr) (cdv ct : Value) (us its : List Value), us.length + k = F.ps.length → its.length = F.df →
  ∃ kk, bindArgs (PySem.W.fnOf F.nm (sV F.f) F.params F.body F.scope (.ref T) kV doc pm an cdv ct) ⟨us, []⟩ = seqItems? (.ref T) >>= kk ∧ kk (some its.toArray) = pure (F.ps.zip (us ++ its.drop (F.df - k)))
def Fn.BOk (F : Fn) : Prop := (F.df = 0 ∧ F.Bnd) ∨ (F.df ≠ 0 ∧ F.df ≤ F.ps.length ∧ ∀ k, k ≤ F.df → F.BndD k)
abbrev Fn.dv (F : Fn) : List V := List.replicate F.df V.non
theorem binds_ok {K : PySem.W.Frag} {F : Fn} {fa : Addr} {fd : FuncData} (hB : F.BOk) (D : FunD K F.nm (sV F.f) F.params F.body F.scope F.dv [] fa fd) {k : Nat} (hk : k ≤ F.df) : ∃ us, Vals (List.replicate k V.non) us ∧ Binds K fd F.ps us := by
  rcases hB with ⟨z, b⟩ | ⟨z, le, b⟩
  · have e : F.dv = [] := by unfold Fn.dv; rw [z]; rfl
    rw [e] at D
    obtain rfl : k = 0 := by omega
    exact ⟨[], .nil, D.bindsN b⟩
  · have e : F.dv ≠ [] := by
      unfold Fn.dv
      intro y
      have := congrArg List.length y
      simp at this
      exact z this
    have ln : F.dv.length = F.df := by unfold Fn.dv; simp
    obtain ⟨us, v, bb⟩ := D.binds1 (F.ps.length - k) (F.df - k) e (by rw [ln]; omega) fun T kV doc pm an cdv ct us its h1 h2 => b k hk T kV doc pm an cdv ct us its (by omega) (by rw [h2, ln])
    refine ⟨us, ?_, bb⟩
    have : F.dv.drop (F.df - k) = List.replicate k V.non := by
      unfold Fn.dv
      rw [List.drop_replicate]
      congr 1
      omega
    rw [this] at v
    exact v
theorem binds_full {K : PySem.W.Frag} {F : Fn} {fa : Addr} {fd : FuncData} (hB : F.BOk) (D : FunD K F.nm (sV F.f) F.params F.body F.scope F.dv [] fa fd) : Binds K fd F.ps [] := by
  obtain ⟨us, v, b⟩ := binds_ok hB D (k := 0) (Nat.zero_le _)
  cases v
  exact b
def AllP (p : Fn → Prop) : List Fn → Prop
  | [] => True
  | F :: r => p F ∧ AllP p r
theorem AllP.get {p : Fn → Prop} : ∀ {l : List Fn}, AllP p l → ∀ F ∈ l, p F
  | F :: r, ⟨a, b⟩, G, h => by
    rcases List.mem_cons.mp h with e | h
    · rw [e]; exact a
    · exact b.get G h
def tabP (tab : List Fn) : M.Prog := M.pOf (tab.map fun F => (F.f, F.fd))
theorem tabP_of : ∀ {tab : List Fn}, (tab.map (·.f)).Nodup → ∀ F ∈ tab, tabP tab F.f = some F.fd
  | G :: r, nd, F, h => by
    rw [List.map_cons, List.nodup_cons] at nd
    rcases List.mem_cons.mp h with e | h
    · subst e
      simp [tabP, M.pOf, List.find?_cons]
    · have ne : G.f ≠ F.f := fun e => nd.1 (by rw [e]; exact List.mem_map.mpr ⟨F, h, rfl⟩)
      have ih := tabP_of nd.2 F h
      unfold tabP M.pOf at ih ⊢
      rw [List.map_cons, List.find?_cons]
      have : (G.f == F.f) = false := by simpa using ne
      simp only [this]
      exact ih
theorem rs_start {K : Fr} {H : Hp} {ds : List SD} {vs : List V} (r : Reps K H ds vs) (N : List Str) (fd : M.FD) (h1 : fd.n = N.length) (h2 : fd.ps = ds.length) : RS K H (L2.start N vs) (M.start fd ds) := by
  have ln := r.length
  unfold L2.start M.start
  refine ⟨by simp [h1, h2, ln], fun i d e => ?_⟩
  by_cases hi : i < ds.length
  · rw [List.getElem?_append_left (by simpa using hi), List.getElem?_map] at e
    cases q : ds[i]? with
    | none => rw [q] at e; cases e
    | some x =>
      rw [q] at e
      simp only [Option.map_some, Option.some.injEq] at e
      subst e
      obtain ⟨v, e1, e2⟩ := r.get q
      exact ⟨v, by rw [List.getElem?_append_left (by simpa [ln] using hi), List.getElem?_map, e1]; rfl, e2⟩
  · rw [List.getElem?_append_right (by simpa using hi)] at e
    have := List.getElem?_replicate (a := (none : Option SD)) (n := fd.n - fd.ps) (i := i - (ds.map some).length)
    rw [this] at e
    split at e <;> cases e
section
variable {P : Program} {w : World} {K : PySem.W.Frag} {mg : Str → Option Value} {base : Heap}
theorem init_eq : sV M.sInit = ("__init__" : Str) := by rfl
theorem tabP_none {tab : List Fn} {f : M.Sx} (h : (tab.any fun F => decide (F.f = f)) = false) : tabP tab f = none := by
  have h := List.any_eq_false.mp h
  have : ((tab.map fun F => (F.f, F.fd)).find? fun p => p.1 == f) = none := by
    rw [List.find?_eq_none]
    intro p hp
    obtain ⟨F, hF, rfl⟩ := List.mem_map.mp hp
    have := h F hF
    simpa using this
  simp only [tabP, M.pOf, this, Option.map_none]
/-- where a def lies -/
def FnAt (K : PySem.W.Frag) (mg : Str → Option Value) (F : Fn) (fa : Addr) : Prop := match F.cl with
  | none => mg (sV F.f) = some (.ref fa)
  | some (c, m) => fa = He.ma K (He.ga K (sV c)) (sV m)
/-- the classes' defs are in the table -/
def Gc.okT0 (gc : Gc) (tab : List Fn) : Bool := (gc.cs.all fun c => (tab.any fun F => decide (F.cl = some (c, M.sInit)) && decide (F.f = M.metN c M.sInit)) && !(tab.any fun F => decide (F.f = M.mkN c))) &&
  ((gc.ms.all fun q => tab.any fun F => decide (F.cl = some q) && decide (F.f = M.metN q.1 q.2)) &&
  gc.ds.all fun q => tab.any fun F => decide (F.cl = none) && decide (F.f = q.1) && decide (q.2 ≤ F.df))
/-- an exception's __init__ stands in the table -/
def Gc.okX (gc : Gc) (tab : List Fn) : Bool := gc.xs.all fun q => tab.any fun F => decide (F.cl = some (q.1, M.sInit)) && decide (F.df = 0) && decide (F.ps = F.N) && decide (F.ps.length = q.2.length + 1) && fldB F.scope F.N q.2 1 F.body.tail && gc.xp.any (fun p => iniB (sV p) F.scope F.N F.body) &&
  (decide (q.2 ≠ []) && decide q.2.Nodup && decide (q.2.length < 100))
def Gc.okT (gc : Gc) (tab : List Fn) : Bool := gc.okT0 tab && gc.okX tab
def glob (tab : List Fn) : List M.Sx := (tab.filter fun F => F.cl.isNone).map (·.f)
/-- a tuple of texts of the module's -/
def KTupF (K : PySem.W.Frag) (a : Addr) (vs : List V) : Prop := ∃ (o : Obj) (its : Array Value) (n : Nat), K.lookup a = some o ∧ o.cls = .type "tuple" ∧ o.data = .seq its n ∧ its.size ≤ sizeLine ∧ Vals vs its.toList
def isStrs : List Value → List M.Sx → Bool
  | [], [] => true
  | .str x _ :: us, s :: ss => decide (x = sV s) && isStrs us ss
  | _, _ => false
def tupB (K : PySem.W.Frag) (a : Addr) (ss : List M.Sx) : Bool := match K.lookup a with
  | some o => decide (o.cls = .type "tuple") && (decide (ss.length < 100) && (match o.data with
    | .seq its _ => isStrs its.toList ss
    | _ => false))
  | none => false
theorem isStrs_ok : ∀ {us : List Value} {ss : List M.Sx}, isStrs us ss = true → us.length = ss.length ∧ Vals (ss.map fun s => V.str (sV s)) us
  | [], [], _ => ⟨rfl, .nil⟩
  | [], _ :: _, h => by simp [isStrs] at h
  | u :: us, [], h => by cases u <;> simp [isStrs] at h
  | u :: us, s :: ss, h => by
    cases u with
    | str x t =>
      simp only [isStrs] at h
      obtain ⟨h1, h2⟩ := ba h
      have e := of_decide_eq_true h1
      subst e
      obtain ⟨l, v⟩ := isStrs_ok h2
      exact ⟨by simp [l], .cons ⟨t, rfl⟩ v⟩
    | _ => simp [isStrs] at h
theorem reps_txts {X : Fr} {H : Hp} : ∀ {ss : List M.Sx}, (∀ s ∈ ss, sOk s) → Reps X H (ss.map M.D.str) (ss.map fun s => V.str (sV s))
  | [], _ => rfl
  | s :: ss, h => ⟨_, _, rfl, ⟨rfl, h s List.mem_cons_self⟩, reps_txts fun t ht => h t (List.mem_cons_of_mem _ ht)⟩
theorem tupB_ok {K : PySem.W.Frag} {a : Addr} {ss : List M.Sx} (h : tupB K a ss = true) : KTupF K a (ss.map fun s => V.str (sV s)) := by
  unfold tupB at h
  split at h
  · rename_i o e
    obtain ⟨h1, h2⟩ := ba h
    obtain ⟨h2, h3⟩ := ba h2
    split at h3
    · rename_i its n ed
      obtain ⟨l, v⟩ := isStrs_ok h3
      refine ⟨o, its, n, e, of_decide_eq_true h1, ed, ?_, v⟩
      have : its.size = its.toList.length := by simp
      rw [this, l]
      have := of_decide_eq_true h2
      have z : (100 : Nat) ≤ sizeLine := by decide
      omega
    · cases h3
  · cases h
/-- what the module's heap says of its numbers and tables -/
structure GcOk (K : PySem.W.Frag) (w : World) (mg : Str → Option Value) (gc : Gc) : Prop where
  gi : ∀ p ∈ gc.gs, ∃ t, mg (sV p.1) = some (.int p.2 t)
  tb : ∀ p ∈ gc.ts, ∃ a, mg (sV p.1) = some (.ref a) ∧ ∀ s t, p.2.lookup s = some t → KDct K w a (sV s) (.str (sV t)) ∧ sOk t
  cs : ∀ c ∈ gc.cs, mg (sV c) = some (.ref (He.ga K (sV c))) ∧ PySem.W.keepIn K (.ref (He.ga K (sV c))) = true ∧ Cls K (He.ga K (sV c)) ∧ Mk K (He.ga K (sV c)) (He.ma K (He.ga K (sV c)) (sV M.sInit))
  ms : ∀ q ∈ gc.ms, mg (sV q.1) = some (.ref (He.ga K (sV q.1))) ∧ Cls K (He.ga K (sV q.1)) ∧ Meth K (He.ga K (sV q.1)) (sV q.2) (He.ma K (He.ga K (sV q.1)) (sV q.2))
  at_ : ∀ q ∈ gc.at_, mg (sV q.1) = some (.ref (He.ga K (sV q.1))) ∧ NoAttr K (He.ga K (sV q.1)) (sV q.2)
  wt : ∀ p ∈ gc.ws, ∃ a vs, mg (sV p.1) = some (.ref a) ∧ KTupF K a vs ∧ ∀ (X : Fr) H, Reps X H (p.2.map M.D.str) vs
  xs : ∀ q ∈ gc.xs, mg (sV q.1) = some (.ref (He.ga K (sV q.1))) ∧ OexC K (He.ga K (sV q.1)) ∧ XCls K (He.ga K (sV q.1)) q.2 ∧ PySem.W.findIn K (.ref (He.ga K (sV q.1))) "__init__" = some (some (.ref (He.ma K (He.ga K (sV q.1)) (sV M.sInit)))) ∧ PySem.W.typeIn K (.ref (He.ma K (He.ga K (sV q.1)) (sV M.sInit))) = some (.type "function")
  xi : ∀ q ∈ gc.xi, ∃ c : V, ∃ cv : Value, (mg (sV q.1) = some cv ∨ (mg (sV q.1) = none ∧ bootBuiltins (sV q.1) = some cv)) ∧ RelV c cv ∧ (∀ u, RelV c u → u = cv) ∧ ∀ c' ∈ q.2.2, ∀ C, mg (sV c') = some (.ref C) → PySem.W.kitOne K (.ref C) cv = some (decide (c' ∈ q.2.1))
  xt : ∀ q ∈ gc.xt, ∃ cv : Value, mg (sV q.1) = some cv ∧ ∀ c' ∈ q.2.2, ∀ C, mg (sV c') = some (.ref C) → PySem.W.exmOne K (.ref C) cv = some (decide (c' ∈ q.2.1))
  xp : ∀ p ∈ gc.xp, ∃ PC, mg (sV p) = some (.ref PC) ∧ PIn K PC
theorem all_ok {tab : List Fn} {bn : List Str} {gc : Gc} (hgc : GcOk K w mg gc) (hnd : (tab.map (·.f)).Nodup) (hok : AllP (fun F => F.ok bn (glob tab) gc = true) tab) (hB : AllP Fn.BOk tab)
    (hT : gc.okT tab = true) (hf : ∀ F ∈ tab, ∃ fa fdc, FnAt K mg F fa ∧ FunD K F.nm (sV F.f) F.params F.body F.scope F.dv [] fa fdc) (hfree : ∀ x ∈ bn, mg x = none) :
    ∀ n, ∀ k, k ≤ n → ∀ F ∈ tab, ∀ fa fdc, FunD K F.nm (sV F.f) F.params F.body F.scope F.dv [] fa fdc → FnX P w K mg base (k + 2) fa fdc F.ps (spC ⟨K, P, w, mg⟩ (tabP tab) k F.f) := by
  obtain ⟨hT, hX⟩ := ba hT
  intro n
  induction n with
  | zero =>
    intro k hk0 F hF fa fdc D
    obtain rfl : k = 0 := by omega
    refine ⟨fun vs H Q E h => ?_, fun A outer s H args us vs Q E hgd hr e0 hb r h => ?_⟩
    · obtain ⟨ds, h, Qa, xx, _, _, q, _⟩ := h
      simp only [M.run] at q
    · obtain ⟨ds, h, Qa, xx, _, _, q, _⟩ := h
      simp only [M.run] at q
  | succ n ih =>
    intro k hkn F hF fa fdc D
    by_cases hle : k ≤ n
    · exact ih k hle F hF fa fdc D
    obtain rfl : k = n + 1 := by omega
    have hk := hok.get F hF
    have hP := tabP_of hnd F hF
    unfold Fn.ok at hk
    obtain ⟨hk, k4⟩ := ba hk
    obtain ⟨hk, k3⟩ := ba hk
    obtain ⟨k1, k2⟩ := ba hk
    have k2 := of_decide_eq_true k2
    have k3 := of_decide_eq_true k3
    have S := fnScope_of k1
    have runE : ∀ {ds : List SD} {h : M.AH} {Qa : M.VQ} {xx : M.XP}, M.run (tabP tab) (n + 1) F.f ds h Qa xx → ds.length = F.fd.ps ∧ M.wSs (C (tabP tab) n fun _ => xx) F.fd.body { nx := fun _ h' => Qa .non h', rt := Qa, bk := fun _ _ => False, ct := fun _ _ => False } (M.start F.fd ds) h := by
      intro ds h Qa xx q
      simp only [M.run] at q
      rw [hP] at q
      exact q
    refine D.okX S (fun vs H Q E h => ?_) (fun cdv A outer s H vs Q E hgd hr h => ?_)
    · obtain ⟨ds, h, Qa, xx, r, _, q, _⟩ := h
      rw [r.length, (runE q).1, k2]
    · obtain ⟨ds, h, Qa, xx, r, rp, q, k, kx⟩ := h
      obtain ⟨q1, q2⟩ := runE q
      letI : FrameP := frmF H h
      have rh : RH ⟨K, P, w, mg⟩ H h := ⟨rp, .refl⟩
      have rl : (cxOf (L2.CX P w) P w K mg base F.N (sV F.f) F.scope fa cdv A outer s H E).stack = (cxOf (L2.CX P w) P w K mg base F.N (sV F.f) F.scope fa cdv A outer s H E).env :: (cxOf (L2.CX P w) P w K mg base F.N (sV F.f) F.scope fa cdv A outer s H E).outer := rfl
      have tk : Takes (cxOf (L2.CX P w) P w K mg base F.N (sV F.f) F.scope fa cdv A outer s H E) (WXx ⟨K, P, w, mg⟩ fun _ => xx) := (takes_of rfl rfl rfl rfl).imp fun cls d σ H' ⟨_, c, fs, h', hx, _, rh', xd⟩ => kx c fs h' H' cls d hx rh'.fr rh'.f xd
      have ok : XOk (tabP tab) n ⟨F.N, bn, glob tab, gc.gs, gc.ts, gc.cs, gc.ms, gc.at_, gc.ds, gc.ws, gc.xs, gc.xi, gc.xt⟩ F.scope F.scope (cxOf (L2.CX P w) P w K mg base F.N (sV F.f) F.scope fa cdv A outer s H E) (fun _ => xx) := by
        refine ⟨rfl, S.nd, rfl, fun x hx => ?_, rfl, hr, hgd, passes_of rfl, tk, hfree, fun f hf2 => ?_, hgc.gi, hgc.tb, fun c hc => ?_, fun q hq => ?_, fun q hq => ⟨_, hgc.at_ q hq⟩, fun q hq => ?_, fun p hp => let ⟨a, vs, e1, e2, e3⟩ := hgc.wt p hp; ⟨a, vs, e1, e2, e3 _⟩, fun q hq => ?_, hgc.xi, hgc.xt⟩
        · unfold locB at hx
          split at hx
          · exact ⟨.inl (by assumption), .inl rfl⟩
          · exact ⟨.inr (by assumption), .inl rfl⟩
          · cases hx
        · obtain ⟨G, hG, rfl⟩ := List.mem_map.mp hf2
          obtain ⟨hG, hn⟩ := List.mem_filter.mp hG
          obtain ⟨ga, gdc, e1, e2⟩ := hf G hG
          have e3 : mg (sV G.f) = some (.ref ga) := by
            unfold FnAt at e1
            split at e1
            · exact e1
            · rename_i z; rw [z] at hn; cases hn
          exact ⟨ga, gdc, G.ps, e3, e2.kp, ih n (Nat.le_refl n) G hG ga gdc e2, binds_full (hB.get G hG) e2⟩
        · obtain ⟨e1, e2, e3, e4⟩ := hgc.cs c hc
          obtain ⟨t1, t2⟩ := ba hT
          obtain ⟨u1, u2⟩ := ba (List.all_eq_true.mp t1 c hc)
          obtain ⟨G, hG, g⟩ := List.any_eq_true.mp u1
          obtain ⟨g1, g2⟩ := ba g
          have g1 := of_decide_eq_true g1
          have g2 := of_decide_eq_true g2
          obtain ⟨ga, gdc, a1, a2⟩ := hf G hG
          refine ⟨tabP_none (by simpa using u2), _, e1, e2, e3, fun m hm => ⟨ga, gdc, G.ps, ?_, ?_, binds_full (hB.get G hG) a2⟩⟩
          · unfold FnAt at a1
            rw [g1] at a1
            rw [show ga = _ from a1]
            exact e4
          · have := ih m (by omega) G hG ga gdc a2
            rw [g2] at this
            exact this
        · obtain ⟨e1, e2, e3⟩ := hgc.ms q hq
          obtain ⟨t1, t2⟩ := ba hT
          obtain ⟨t2, t3⟩ := ba t2
          obtain ⟨G, hG, g⟩ := List.any_eq_true.mp (List.all_eq_true.mp t2 q hq)
          obtain ⟨g1, g2⟩ := ba g
          have g1 := of_decide_eq_true g1
          have g2 := of_decide_eq_true g2
          obtain ⟨ga, gdc, a1, a2⟩ := hf G hG
          refine ⟨_, ga, gdc, G.ps, e1, e2, ?_, ?_, binds_full (hB.get G hG) a2⟩
          · unfold FnAt at a1
            rw [g1] at a1
            rw [show ga = _ from a1]
            exact e3
          · have := ih n (Nat.le_refl n) G hG ga gdc a2
            rw [g2] at this
            exact this
        · obtain ⟨t1, t2⟩ := ba hT
          obtain ⟨t2, t3⟩ := ba t2
          obtain ⟨G, hG, g⟩ := List.any_eq_true.mp (List.all_eq_true.mp t3 q hq)
          obtain ⟨g, g3⟩ := ba g
          obtain ⟨g1, g2⟩ := ba g
          have g1 := of_decide_eq_true g1
          have g2 := of_decide_eq_true g2
          have g3 := of_decide_eq_true g3
          obtain ⟨ga, gdc, a1, a2⟩ := hf G hG
          obtain ⟨us, v, b⟩ := binds_ok (hB.get G hG) a2 g3
          refine ⟨ga, gdc, G.ps, us, ?_, a2.kp, ?_, v, b⟩
          · unfold FnAt at a1
            rw [g1] at a1
            rw [← g2]
            exact a1
          · have := ih n (Nat.le_refl n) G hG ga gdc a2
            rw [g2] at this
            exact this
        · obtain ⟨e1, e2, e3, e4, e5⟩ := hgc.xs q hq
          obtain ⟨G, hG, g⟩ := List.any_eq_true.mp (List.all_eq_true.mp hX q hq)
          obtain ⟨g, g7⟩ := ba g
          obtain ⟨g, g6⟩ := ba g
          obtain ⟨g, g5⟩ := ba g
          obtain ⟨g, g4⟩ := ba g
          obtain ⟨g, g3⟩ := ba g
          obtain ⟨g1, g2⟩ := ba g
          obtain ⟨g7, g9⟩ := ba g7
          obtain ⟨g7, g8⟩ := ba g7
          obtain ⟨pc, hpc, gi⟩ := List.any_eq_true.mp g6
          obtain ⟨PC, hPC, pin⟩ := hgc.xp pc hpc
          obtain ⟨ga, gdc, a1, a2⟩ := hf G hG
          have g1 := of_decide_eq_true g1
          have ea : ga = He.ma K (He.ga K (sV q.1)) (sV M.sInit) := by
            unfold FnAt at a1
            rw [g1] at a1
            exact a1
          have kG := hok.get G hG
          unfold Fn.ok at kG
          have SG := fnScope_of (ba (ba (ba kG).1).1).1
          have dv0 : G.dv = [] := by unfold Fn.dv; rw [of_decide_eq_true g2]; rfl
          have a3 := a2
          rw [dv0] at a3
          exact ⟨_, e1, ⟨e2, e3, ⟨of_decide_eq_true g7, of_decide_eq_true g8, of_decide_eq_true g9⟩, ga, gdc, G.ps, by rw [ea]; exact e4, by rw [ea]; exact e5, init_ok a3 SG hPC pin gi g5 (of_decide_eq_true g4) ⟨of_decide_eq_true g7, of_decide_eq_true g9⟩ (of_decide_eq_true g3), binds_full (hB.get G hG) a2⟩⟩
      refine ⟨_, sndSs F.fd.body F.body _ F.scope ⟨ok, rfl, rfl⟩ k4, ?_⟩
      refine ⟨M.start F.fd ds, h, _, rs_start r F.N F.fd k3 q1.symm, rh, q2, ⟨fun σa h' σ H' z f rs' rh' => ?_, fun d h' v H' z f r' rh' => k d h' v H' z f r' rh'.f, fun _ _ _ _ z _ _ _ => z.elim, fun _ _ _ _ z _ _ _ => z.elim⟩⟩
      exact k _ _ _ _ z f rfl rh'.f

/-! ### the head, with the interpreter's own statics -/
def frY (g : Addr → Option Obj) (n : Nat) : PySem.W.Frag := He.frT g (cStatics :: He.asD g n)
def obsY (n : Nat) (fa : List He.Fa) (fn : List He.DefD) (ts : List He.Tab) (ex : PySem.W.Frag → Bool) (g : Addr → Option Obj) : He.AlX := (He.obsT fa fn ts (frY g n), ex (frY g n))
theorem saysY {n : Nat} {fa : List He.Fa} {fn : List He.DefD} {ts : List He.Tab} {ex : PySem.W.Frag → Bool} {w : World} {h : Heap} (e : obsY n fa fn ts ex h.get? = He.valX fn ts w) : He.SaysX fa fn ts [] ex w h (frY h.get? n) :=
  ⟨congrArg (fun z : He.AlX => z.1) e, congrArg (fun z : He.AlX => z.2) e, (fun _ z => nomatch z), (fun _ z => nomatch z), fun _ z => nomatch z⟩
def hookY (n : Nat) (fa : List He.Fa) (fn : List He.DefD) (ts : List He.Tab) (ex : PySem.W.Frag → Bool) : PySem.W.Hook where
  α := He.AlX
  obs := fun s => obsY n fa fn ts ex s.heap.get?
  val := fun w => He.valX fn ts w
  says := fun w h => ∃ K : PySem.W.Frag, K.In h ∧ He.SaysX fa fn ts [] ex w h K
  of := fun _ _ e => ⟨_, He.frT_in, saysY e⟩
  keeps := fun _ _ _ ⟨K, hK, c⟩ k => ⟨K, PySem.W.Frag.In.keeps hK k, ⟨c.t, c.more, c.hd, c.out, fun p hp => k _ _ (c.empty p hp)⟩⟩
theorem obsY_eq {n : Nat} {fa : List He.Fa} {fn : List He.DefD} {ts : List He.Tab} {ex : PySem.W.Frag → Bool} {g : Addr → Option Obj} {s : Shared} (h : ∀ a, g a = s.heap.get? a) : obsY n fa fn ts ex g = (hookY n fa fn ts ex).obs s := by
  rw [show g = s.heap.get? from funext h]
  rfl
/-- what a law is asked, in the IR -/
def LawOk (prog : M.Prog) (n : Nat) (law : M.Sx) : Prop := ∀ ns : List Int, ns.length ≤ 63 → M.run prog n law [.rol (ns.map .int)] (fun _ => none) (fun d _ => d = .bl true) (fun _ _ _ => False)
theorem reps_ints {K : Fr} {H : Hp} : ∀ ns : List Int, Reps K H (ns.map .int) (ns.map V.int)
  | [] => rfl
  | n :: ns => ⟨_, _, rfl, rfl, reps_ints ns⟩
theorem law_sp {prog : M.Prog} {n : Nat} {law : M.Sx} (h : LawOk prog n law) (H : Hp) (a : Addr) (ns : List Int) (hl : ns.length ≤ 63) (hO : Only H) (hS : SqL K H a (ns.map V.int)) : spC ⟨K, P, w, mg⟩ prog n law [.ref a] H (fun v _ => v = .bl true) fun _ _ _ => False := by
  refine ⟨[.rol (ns.map .int)], fun _ => none, _, _, Reps.one ⟨a, ns.map V.int, rfl, ?_, reps_ints ns⟩, (fun _ _ e => by cases e), h ns hl, fun d h' v H' q f r rh => ?_, fun _ _ _ _ _ _ z => z.elim⟩
  · rcases hS with (e | ⟨o, e⟩) | e
    · rcases hO a with z | ⟨o, xs, z⟩
      · rw [z] at e; cases e
      · rw [z] at e; cases e
    · exact .inl ⟨o, e⟩
    · exact .inr e
  · subst q
    exact r
end
/-! ### the head's data -/
def Fn.dd (F : Fn) : He.DefD := ⟨(match F.cl with | none => (sV F.f, none) | some (c, m) => (sV c, some (sV m))), F.nm, sV F.f, F.params, F.body, F.scope, List.replicate F.df .non, []⟩
def headFa (tab : List Fn) (bn : List Str) (gc : Gc) : List He.Fa := (tab.map fun F => match F.cl with | none => He.Fa.glo (sV F.f) | some (c, _) => He.Fa.glo (sV c)) ++ ((bn.map fun x => He.Fa.free x) ++ ((gc.gs.map fun p => He.Fa.int (sV p.1) p.2) ++ ((gc.ts.map fun p => He.Fa.glo (sV p.1)) ++
  ((gc.cs.flatMap fun c => [He.Fa.glo (sV c), .keep (sV c), .cls (sV c), .mkr (sV c)]) ++ ((gc.ms.flatMap fun q => [He.Fa.glo (sV q.1), .cls (sV q.1), .meth (sV q.1) (sV q.2)]) ++ (gc.at_.flatMap fun q => [He.Fa.glo (sV q.1), .noat (sV q.1) (sV q.2)]) ++ gc.ws.map fun p => He.Fa.glo (sV p.1))))))
/-! ### exceptions, by kernel -/
def oexB (K : PySem.W.Frag) (C : Addr) : Bool := (match K.lookup C with
  | some ⟨.type t, _, .cls cd, sl⟩ => decide (t = "type") && (match cd.mro, sl.toList with
    | .ref C' :: bm, [_, _, _, _, some (.builtin n), _] => decide (C' = C) && decide (n = "ValueError.__new__") && !cd.hasDel && cd.hasDict && PySem.HandSPX.refsVE bm
    | _, _ => false)
  | _ => false) && He.eqO (PySem.W.findIn K (.ref C) "__setattr__") (some (some (.builtin "object.__setattr__"))) && decide (PySem.W.subIn K (.ref C) (.type "BaseException") = some true) && decide (PySem.W.typeIn K (.ref C) = some (.type "type")) && PySem.W.keepIn K (.ref C)
theorem oexB_ok {K : PySem.W.Frag} {C : Addr} (h : oexB K C = true) : OexC K C := by
  unfold oexB at h
  obtain ⟨h, h5⟩ := ba h
  obtain ⟨h, h4⟩ := ba h
  obtain ⟨h, h3⟩ := ba h
  obtain ⟨h1, h2⟩ := ba h
  refine ⟨?_, He.eqO_ok h2, of_decide_eq_true h3, of_decide_eq_true h4, h5⟩
  split at h1
  · rename_i t dd cd sl ho
    obtain ⟨ht, h1⟩ := ba h1
    have ht := of_decide_eq_true ht
    subst ht
    split at h1
    · rename_i C' bm k0 k1 k2 k3 n k5 hm hs
      simp only [Bool.and_eq_true, decide_eq_true_eq, Bool.not_eq_true'] at h1
      have h1 := h1.2
      have e1 := h1.1.1.1.1
      have e2 := h1.1.1.1.2
      have z1 := h1.1.1.2
      have z2 := h1.1.2
      have hv := h1.2
      clear h1
      subst e1
      subst e2
      obtain ⟨nm, bs, mro, ns, qn, hd, sn, sub, ab, col, dl⟩ := cd
      have z1 : dl = false := z1
      have z2 : hd = true := z2
      subst z1
      subst z2
      have hm : mro = _ := hm
      subst hm
      have hsl : sl = #[k0, k1, k2, k3, some (.builtin "ValueError.__new__"), k5] := by
        obtain ⟨l⟩ := sl
        simp only at hs
        rw [hs]
      subst hsl
      exact ⟨nm, qn, ns, bs, bm, sn, sub, ab, col, dd, k0, k1, k2, k3, k5, ho, hv⟩
    · cases h1
  · cases h1
def xclsB (K : PySem.W.Frag) (C : Addr) (fs : List M.Sx) : Bool := xfB K C && (PySem.W.clsIn K C).isSome && He.eqO (PySem.W.findIn K (.ref C) "__class__") (some (some (.builtin "object.__class__"))) && He.eqO (PySem.W.specialIn K (.builtin "object.__class__") "__get__") (some (some (.builtin "getset_descriptor.__get__"))) &&
  decide (PySem.W.takesIn K (.builtin "object.__class__") = some true) && decide (PySem.W.mroIn K C (.type "object") = some true) && fs.all fun f => He.eqO (PySem.W.findIn K (.ref C) (sV f)) (some none)
theorem xclsB_ok {K : PySem.W.Frag} {C : Addr} {fs : List M.Sx} (h : xclsB K C fs = true) : XCls K C fs := by
  unfold xclsB at h
  obtain ⟨h, h7⟩ := ba h
  obtain ⟨h, h6⟩ := ba h
  obtain ⟨h, h5⟩ := ba h
  obtain ⟨h, h4⟩ := ba h
  obtain ⟨h, h3⟩ := ba h
  obtain ⟨h1, h2⟩ := ba h
  exact ⟨xfB_ok h1, h2, He.eqO_ok h3, He.eqO_ok h4, of_decide_eq_true h5, of_decide_eq_true h6, fun f hf => He.eqO_ok (List.all_eq_true.mp h7 f hf)⟩
def isGl (K : PySem.W.Frag) (c : M.Sx) : Bool := He.eqO (PySem.W.nsIn K mainGlobals (sV c)) (some (some (.ref (He.ga K (sV c)))))
def xsB (K : PySem.W.Frag) (q : M.Sx × List M.Sx) : Bool := isGl K q.1 && oexB K (He.ga K (sV q.1)) && xclsB K (He.ga K (sV q.1)) q.2 && He.eqO (PySem.W.findIn K (.ref (He.ga K (sV q.1))) "__init__") (some (some (.ref (He.ma K (He.ga K (sV q.1)) (sV M.sInit))))) && decide (PySem.W.typeIn K (.ref (He.ma K (He.ga K (sV q.1)) (sV M.sInit))) = some (.type "function"))
def xiV (K : PySem.W.Frag) (q : M.Sx × List M.Sx × List M.Sx) (cv : Value) : Bool := q.2.2.all fun c => isGl K c && decide (PySem.W.kitOne K (.ref (He.ga K (sV c))) cv = some (decide (c ∈ q.2.1)))
def xiB (K : PySem.W.Frag) (q : M.Sx × List M.Sx × List M.Sx) : Bool := match PySem.W.nsIn K mainGlobals (sV q.1) with
  | some (some (.ref C)) => xiV K q (.ref C)
  | some none => (match bootBuiltins (sV q.1) with
    | some (.type t) => xiV K q (.type t)
    | _ => false)
  | _ => false
def xtB (K : PySem.W.Frag) (q : M.Sx × List M.Sx × List M.Sx) : Bool := match PySem.W.nsIn K mainGlobals (sV q.1) with
  | some (some (.ref C)) => q.2.2.all fun c => isGl K c && decide (PySem.W.exmOne K (.ref (He.ga K (sV c))) (.ref C) = some (decide (c ∈ q.2.1)))
  | _ => false
def xpB (K : PySem.W.Frag) (p : M.Sx) : Bool := isGl K p && PySem.W.readsIn K (He.ga K (sV p)) (.type "type") && He.eqO (PySem.W.specialIn K (.ref (He.ga K (sV p))) "__getattribute__") (some (some (.builtin "type.__getattribute__"))) && (match PySem.W.findCls K (.ref (He.ga K (sV p))) (.type "type") "__init__" with
  | some (.val (.builtin t)) => decide (t = "ValueError.__init__")
  | _ => false)
def headXx (gc : Gc) (K : PySem.W.Frag) : Bool := gc.xs.all (xsB K) && gc.xi.all (xiB K) && gc.xt.all (xtB K) && gc.xp.all (xpB K)
/-- the tables: where they lie, their keys; and their values -/
def headTs (gc : Gc) : List He.Tab := gc.ts.map fun p => (fun K => He.ga K (sV p.1), p.2.map fun q => sV q.1)
def headEx (gc : Gc) (K : PySem.W.Frag) : Bool := headXx gc K && ((gc.ws.all fun p => tupB K (He.ga K (sV p.1)) p.2) && gc.ts.all fun p => He.valsB K (He.ga K (sV p.1)) (p.2.map fun q => (sV q.1, He.Dv.str (sV q.2))))
def Gc.chr (gc : Gc) : Bool := (gc.ws.all fun p => p.2.all chrB) && gc.ts.all fun p => p.2.all fun q => chrB q.2
def headFn (tab : List Fn) : List He.DefD := tab.map Fn.dd
theorem fact_mem {fa : List He.Fa} {fn : List He.DefD} {K : PySem.W.Frag} (c : He.SaysD fa fn K) {f : He.Fa} (h : f ∈ fa) : f.ok K = true := by
  obtain ⟨i, hi⟩ := List.getElem?_of_mem h
  exact He.SaysD.fact c i hi
theorem def_mem {fa : List He.Fa} {fn : List He.DefD} {K : PySem.W.Frag} (c : He.SaysD fa fn K) {d : He.DefD} (h : d ∈ fn) : ∃ fd, FunD K d.name d.qual d.params d.body d.scope (d.dvs K) (d.kws K) (He.fAd K d.at_) fd := by
  obtain ⟨i, hi⟩ := List.getElem?_of_mem h
  exact He.SaysD.def_ c i hi
theorem lookup_in {α β : Type} [BEq α] [LawfulBEq α] {s : α} {t : β} : ∀ {l : List (α × β)}, l.lookup s = some t → (s, t) ∈ l
  | (a, b) :: l, h => by
    rw [List.lookup_cons] at h
    by_cases e : (s == a) = true
    · rw [e] at h
      have e2 : s = a := by simpa using e
      subst e2
      cases h
      exact List.mem_cons_self
    · rw [Bool.not_eq_true] at e
      rw [e] at h
      exact List.mem_cons_of_mem _ (lookup_in h)
theorem gc_ok {w : World} {K : PySem.W.Frag} {h : Heap} {mg : Str → Option Value} {tab : List Fn} {bn : List Str} {gc : Gc} (X : K.In h) (G : h.Ns mainGlobals mg) (hm : ∀ f ∈ headFa tab bn gc, f.ok K = true) (hch : gc.chr = true)
    (ht : ∀ t ∈ headTs gc, ∃ es n, KDict K w (t.1 K) es n) (hv : headEx gc K = true) : GcOk K w mg gc := by
  have tail : ∀ f, f ∈ ((gc.cs.flatMap fun c => [He.Fa.glo (sV c), .keep (sV c), .cls (sV c), .mkr (sV c)]) ++ ((gc.ms.flatMap fun q => [He.Fa.glo (sV q.1), .cls (sV q.1), .meth (sV q.1) (sV q.2)]) ++ (gc.at_.flatMap fun q => [He.Fa.glo (sV q.1), .noat (sV q.1) (sV q.2)]) ++ gc.ws.map fun p => He.Fa.glo (sV p.1))) → f.ok K = true := fun f hf => hm f (List.mem_append_right _ (List.mem_append_right _ (List.mem_append_right _ (List.mem_append_right _ hf))))
  have fc : ∀ c ∈ gc.cs, ∀ f ∈ [He.Fa.glo (sV c), .keep (sV c), .cls (sV c), .mkr (sV c)], f.ok K = true := fun c hc f hf => tail f (List.mem_append_left _ (List.mem_flatMap.mpr ⟨c, hc, hf⟩))
  have fm : ∀ q ∈ gc.ms, ∀ f ∈ [He.Fa.glo (sV q.1), .cls (sV q.1), .meth (sV q.1) (sV q.2)], f.ok K = true := fun q hq f hf => tail f (List.mem_append_right _ (List.mem_append_left _ (List.mem_append_left _ (List.mem_flatMap.mpr ⟨q, hq, hf⟩))))
  have fa : ∀ q ∈ gc.at_, ∀ f ∈ [He.Fa.glo (sV q.1), .noat (sV q.1) (sV q.2)], f.ok K = true := fun q hq f hf => tail f (List.mem_append_right _ (List.mem_append_left _ (List.mem_append_right _ (List.mem_flatMap.mpr ⟨q, hq, hf⟩))))
  have fw : ∀ p ∈ gc.ws, (He.Fa.glo (sV p.1)).ok K = true := fun p hp => tail _ (List.mem_append_right _ (List.mem_append_right _ (List.mem_map.mpr ⟨p, hp, rfl⟩)))
  refine ⟨fun p hp => ?_, fun p hp => ?_, fun c hc => ⟨He.glo_ok X G (fc c hc _ (by simp)), He.keep_ok (fc c hc (.keep (sV c)) (by simp)), He.cls_ok (fc c hc (.cls (sV c)) (by simp)), by rw [init_eq]; exact He.mkr_ok (fc c hc (.mkr (sV c)) (by simp))⟩,
    fun q hq => ⟨He.glo_ok X G (fm q hq _ (by simp)), He.cls_ok (fm q hq (.cls (sV q.1)) (by simp)), He.meth_ok (fm q hq (.meth (sV q.1) (sV q.2)) (by simp))⟩, fun q hq => ⟨He.glo_ok X G (fa q hq _ (by simp)), He.noat_ok (fa q hq (.noat (sV q.1) (sV q.2)) (by simp))⟩,
    fun p hp => ⟨_, _, He.glo_ok X G (fw p hp), tupB_ok (List.all_eq_true.mp (ba (ba hv).2).1 p hp), fun X H => reps_txts fun s hs c hc2 => of_decide_eq_true (List.all_eq_true.mp (List.all_eq_true.mp (List.all_eq_true.mp (ba hch).1 p hp) s hs) c hc2)⟩,
    fun q hq => ?_, fun q hq => ?_, fun q hq => ?_, fun q hq => ?_⟩
  · exact He.int_ok X G (hm _ (List.mem_append_right _ (List.mem_append_right _ (List.mem_append_left _ (List.mem_map.mpr ⟨p, hp, rfl⟩)))))
  · refine ⟨_, He.glo_ok X G (hm _ (List.mem_append_right _ (List.mem_append_right _ (List.mem_append_right _ (List.mem_append_left _ (List.mem_map.mpr ⟨p, hp, rfl⟩)))))), fun s t e => ?_⟩
    have hq := lookup_in e
    obtain ⟨es, n, D⟩ := ht _ (List.mem_map.mpr ⟨p, hp, rfl⟩ : _ ∈ headTs gc)
    have hv2 := List.all_eq_true.mp (ba (ba hv).2).2 p hp
    obtain ⟨u, e1, r⟩ := He.valsB_ok hv2 (List.mem_map.mpr ⟨(s, t), hq, rfl⟩)
    have hc := List.all_eq_true.mp (List.all_eq_true.mp (ba hch).2 p hp) (s, t) hq
    exact ⟨⟨es, n, u, D.at_, D.lit, e1, r⟩, fun c hc2 => of_decide_eq_true (List.all_eq_true.mp hc c hc2)⟩
  · have z := List.all_eq_true.mp (ba (ba (ba (ba hv).1).1).1).1 q hq
    unfold xsB at z
    obtain ⟨z, z5⟩ := ba z
    obtain ⟨z, z4⟩ := ba z
    obtain ⟨z, z3⟩ := ba z
    obtain ⟨z1, z2⟩ := ba z
    exact ⟨PySem.W.mg_of X G (He.eqO_ok z1), oexB_ok z2, xclsB_ok z3, He.eqO_ok z4, of_decide_eq_true z5⟩
  · have z := List.all_eq_true.mp (ba (ba (ba (ba hv).1).1).1).2 q hq
    have key : ∀ cv, xiV K q cv = true → ∀ c' ∈ q.2.2, ∀ C, mg (sV c') = some (.ref C) → PySem.W.kitOne K (.ref C) cv = some (decide (c' ∈ q.2.1)) := fun cv h c' hc C hm => by
      obtain ⟨y1, y2⟩ := ba (List.all_eq_true.mp h c' hc)
      have e := PySem.W.mg_of X G (He.eqO_ok y1)
      rw [hm] at e
      have e2 := Value.ref.inj (Option.some.inj e)
      rw [e2]
      exact of_decide_eq_true y2
    unfold xiB at z
    split at z
    · rename_i C e
      exact ⟨.ref C, .ref C, .inl (PySem.W.mg_of X G e), rfl, fun u h => h, key _ z⟩
    · rename_i e
      split at z
      · rename_i t e2
        exact ⟨.ty t, .type t, .inr ⟨PySem.W.mg_none_of X G e, e2⟩, rfl, fun u h => h, key _ z⟩
      · cases z
    · cases z
  · have z := List.all_eq_true.mp (ba (ba (ba hv).1).1).2 q hq
    unfold xtB at z
    split at z
    · rename_i C e
      refine ⟨.ref C, PySem.W.mg_of X G e, fun c' hc C2 hm => ?_⟩
      obtain ⟨y1, y2⟩ := ba (List.all_eq_true.mp z c' hc)
      have e3 := PySem.W.mg_of X G (He.eqO_ok y1)
      rw [hm] at e3
      have e2 := Value.ref.inj (Option.some.inj e3)
      rw [e2]
      exact of_decide_eq_true y2
    · cases z
  · have z := List.all_eq_true.mp (ba (ba hv).1).2 q hq
    unfold xpB at z
    obtain ⟨z, z4⟩ := ba z
    obtain ⟨z, z3⟩ := ba z
    obtain ⟨z1, z2⟩ := ba z
    refine ⟨_, PySem.W.mg_of X G (He.eqO_ok z1), z2, He.eqO_ok z3, ?_⟩
    split at z4
    · rename_i t e
      have := of_decide_eq_true z4
      subst this
      exact e
    · cases z4
theorem law_factsG {P : Program} {w : World} {K : PySem.W.Frag} {h : Heap} {mg : Str → Option Value} {f : Addr} {tab : List Fn} {bn : List Str} {gc : Gc} {L : Fn} (hcl : L.cl = none) (hdf : L.df = 0) (hL : L ∈ tab) (hps : L.ps = [("script" : Str)]) (X : K.In h) (G : h.Ns mainGlobals mg) (hfa : mg (sV L.f) = some (.ref f)) (c : He.SaysD (headFa tab bn gc) (headFn tab) K)
    (hgc : GcOk K w mg gc) (hnd : (tab.map (·.f)).Nodup) (hok : AllP (fun F => F.ok bn (glob tab) gc = true) tab) (hB : AllP Fn.BOk tab) (hT : gc.okT tab = true) (n : Nat) :
    ∃ fd : FuncData, (∀ (s : Shared) (v : Value), BindsTo s fd ⟨[v], []⟩ [(("script" : Str), v)]) ∧ ∀ base : Heap, K.In base → base.Ns mainGlobals mg → FnX P w K mg base (n + 2) f fd [("script" : Str)] (spC ⟨K, P, w, mg⟩ (tabP tab) n L.f) := by
  have hf : ∀ F ∈ tab, ∃ fa fdc, FnAt K mg F fa ∧ FunD K F.nm (sV F.f) F.params F.body F.scope F.dv [] fa fdc := fun F hF => by
    have e0 := fact_mem c (List.mem_append_left _ (List.mem_map.mpr ⟨F, hF, rfl⟩))
    obtain ⟨fd, D⟩ := def_mem c (List.mem_map.mpr ⟨F, hF, rfl⟩ : F.dd ∈ headFn tab)
    have D' : FunD K F.nm (sV F.f) F.params F.body F.scope F.dv [] (He.fAd K F.dd.at_) fd := by
      have e : F.dd.dvs K = F.dv := by simp [He.DefD.dvs, Fn.dd, Fn.dv, He.Dv.v]
      rw [← e]
      exact D
    refine ⟨_, fd, ?_, D'⟩
    unfold FnAt Fn.dd
    dsimp only
    split
    · rename_i z
      rw [z] at e0
      exact He.glo_ok X G e0
    · rfl
  have hfree : ∀ x ∈ bn, mg x = none := fun x hx => He.free_ok X G (fact_mem c (List.mem_append_right _ (List.mem_append_left _ (List.mem_map.mpr ⟨x, hx, rfl⟩))))
  obtain ⟨fa, fdc, e1, D⟩ := hf L hL
  unfold FnAt at e1
  rw [hcl] at e1
  dsimp only at e1
  rw [hfa] at e1
  cases e1
  refine ⟨fdc, fun s v => ?_, fun base _ _ => ?_⟩
  · have e : L.dv = [] := by unfold Fn.dv; rw [hdf]; rfl
    rw [e] at D
    have bb : L.Bnd := (hB.get L hL).elim (fun z => z.2) fun z => (z.1 hdf).elim
    have b := D.bindsA bb s [v] (by rw [hps]; rfl)
    rw [hps] at b
    exact b
  · have := all_ok (P := P) (w := w) (base := base) hgc hnd hok hB hT hf hfree n n (Nat.le_refl n) L hL f fdc D
    rw [hps] at this
    exact this
/-- without tables -/
theorem law_facts {P : Program} {w : World} {K : PySem.W.Frag} {h : Heap} {mg : Str → Option Value} {f : Addr} {tab : List Fn} {bn : List Str} {gc : Gc} {L : Fn} (h0 : gc.ts = [] ∧ gc.ws = [] ∧ gc.xs = [] ∧ gc.xi = [] ∧ gc.xt = [] ∧ gc.xp = []) (hcl : L.cl = none) (hdf : L.df = 0) (hL : L ∈ tab) (hps : L.ps = [("script" : Str)]) (X : K.In h) (G : h.Ns mainGlobals mg) (hfa : mg (sV L.f) = some (.ref f)) (c : He.SaysD (headFa tab bn gc) (headFn tab) K)
    (hnd : (tab.map (·.f)).Nodup) (hok : AllP (fun F => F.ok bn (glob tab) gc = true) tab) (hB : AllP Fn.BOk tab) (hT : gc.okT tab = true) (n : Nat) :
    ∃ fd : FuncData, (∀ (s : Shared) (v : Value), BindsTo s fd ⟨[v], []⟩ [(("script" : Str), v)]) ∧ ∀ base : Heap, K.In base → base.Ns mainGlobals mg → FnX P w K mg base (n + 2) f fd [("script" : Str)] (spC ⟨K, P, w, mg⟩ (tabP tab) n L.f) :=
  law_factsG hcl hdf hL hps X G hfa c (gc_ok X G (fun f hf => fact_mem c hf) (by unfold Gc.chr; rw [h0.1, h0.2.1]; rfl) (fun t ht => by unfold headTs at ht; rw [h0.1] at ht; cases ht) (by unfold headEx headXx; rw [h0.1, h0.2.1, h0.2.2.1, h0.2.2.2.1, h0.2.2.2.2.1, h0.2.2.2.2.2]; rfl)) hnd hok hB hT n
/-- with tables -/
theorem law_factsX {P : Program} {w : World} {K : PySem.W.Frag} {h h' : Heap} {mg : Str → Option Value} {f : Addr} {tab : List Fn} {bn : List Str} {gc : Gc} {L : Fn} (h0 : gc.chr = true) (hcl : L.cl = none) (hdf : L.df = 0) (hL : L ∈ tab) (hps : L.ps = [("script" : Str)]) (X : K.In h) (G : h.Ns mainGlobals mg) (hfa : mg (sV L.f) = some (.ref f)) (c : He.SaysX (headFa tab bn gc) (headFn tab) (headTs gc) [] (headEx gc) w h' K)
    (hnd : (tab.map (·.f)).Nodup) (hok : AllP (fun F => F.ok bn (glob tab) gc = true) tab) (hB : AllP Fn.BOk tab) (hT : gc.okT tab = true) (n : Nat) :
    ∃ fd : FuncData, (∀ (s : Shared) (v : Value), BindsTo s fd ⟨[v], []⟩ [(("script" : Str), v)]) ∧ ∀ base : Heap, K.In base → base.Ns mainGlobals mg → FnX P w K mg base (n + 2) f fd [("script" : Str)] (spC ⟨K, P, w, mg⟩ (tabP tab) n L.f) :=
  law_factsG hcl hdf hL hps X G hfa c.t.d (gc_ok X G (fun f hf => fact_mem c.t.d hf) h0 (fun t ht => by
    obtain ⟨i, hi⟩ := List.getElem?_of_mem ht
    exact c.t.tab i hi) c.more) hnd hok hB hT n
end Snd
namespace L2
open PySem PySem.Spec PyProof.Rows
/-- the law's call, where no guard stands -/
theorem law_callG {P : Program} {w : World} {K : PySem.W.Frag} {mg mb : Str → Option Value} {k : Nat} {fa a : Addr} {fd : FuncData} {x : Str} {sp : Sp} {s₁ : Shared} {vs : List Value} {ns : List Int} (KX : K.In s₁.heap) (hns : s₁.heap.Ns mainGlobals mg) (hb : s₁.heap.Ns builtinsNs mb) (hbb : ∀ x : Str, x ≠ "__name__" → mb x = bootBuiltins x) (hlim : s₁.heap.NoLimit) (hg : s₁.gens = #[])
    (ha : s₁.heap.get? a = some { cls := .type "list", data := .seq vs.toArray }) (hi : IntsAre vs ns) (hl : ns.length ≤ sizeLine) (hr : Room k callerA) (F : ∀ base : Heap, K.In base → base.Ns mainGlobals mg → FnX P w K mg base k fa fd [x] sp) (hbind : ∀ (s : Shared) (u : Value), BindsTo s fd ⟨[u], []⟩ [(x, u)])
    (hsp : ∀ H : Hp, Only H → SqL K H a (ns.map V.int) → sp [.ref a] H (fun v _ => v = .bl true) fun _ _ _ => False) :
    codeAny (model P w) callerA (.call (.ref fa) ⟨[.ref a], []⟩) (fun r s' => r = .ok (.ret (.bool true)) ∧ OldK s₁.heap s'.heap ∧ s'.os = s₁.os ∧ AllBare s'.gens) s₁ := by
  have rv := vals_ints hi
  have heart : ∀ H : Hp, Only H → SqL K H a (ns.map V.int) → HOk P w H s₁.heap → (∀ b, H b ≠ none → b = a) → (H a ≠ none → K.lookup a = none) → codeAny (model P w) callerA (.call (.ref fa) ⟨[.ref a], []⟩) (fun r s' => r = .ok (.ret (.bool true)) ∧ OldK s₁.heap s'.heap ∧ s'.os = s₁.os ∧ AllBare s'.gens) s₁ := by
    intro H hO hS hok hA hK
    have none_of : ∀ {b : Addr}, (b = a → False) → H b = none := fun {b} n => by
      cases q : H b with
      | none => rfl
      | some u => exact (n (hA b (by rw [q]; simp))).elim
    have noA : ∀ {b : Addr} {o : Obj} {es : Array DictEntry} {ep : Nat}, s₁.heap.get? b = some o → o.data = .dict es ep → H b = none := fun {b o es ep} e d => none_of fun z => by
      subst z
      rw [ha] at e
      cases e
      exact nomatch (show Data.seq vs.toArray _ = Data.dict es ep from d)
    have nsK : ∀ {b : Addr} {m : Str → Option Value}, s₁.heap.Ns b m → (hidT s₁.heap H).Ns b m := fun ⟨o, es, ep, e, d, r⟩ => ⟨o, es, ep, hidT_get e (noA e d), d, r⟩
    have hKb : K.In (hidT s₁.heap H) := fun b o e => by
      refine hidT_get (KX b o e) ?_
      cases q : H b with
      | none => rfl
      | some u =>
        cases hA b (by rw [q]; simp)
        rw [hK (by rw [q]; simp)] at e
        cases e
    have hM : Mod K mg (hidT s₁.heap H) := ⟨hKb, nsK hns, ⟨mb, nsK hb, hbb⟩, let ⟨mc, h1, h2⟩ := hlim; ⟨mc, nsK h1, h2⟩⟩
    refine codeAny_mono ((F _ hKb (nsK hns)).go callerA [] s₁ H ⟨[.ref a], []⟩ [.ref a] [.ref a] _ _ rfl hr ⟨rfl, hM, fun b o e => of_hidT e, Nat.le_of_eq (hidT_size _ _), trivial, fun b hb => absurd (show b ∈ ([] : List Addr) from hb) (by simp), hok, .of_eq hg⟩ (hbind s₁ (.ref a)) (.cons rfl .nil) (hsp H hO hS)) ?_
    rintro (er | fl) s2 z
    · obtain ⟨_, _, _, _, _, _, _, _, _, _, _, _, q⟩ := z
      exact q.elim
    · cases fl <;> first | exact z.elim | skip
      obtain ⟨v, H', os, bare, un, hok', r', q⟩ := z
      subst q
      refine ⟨by rw [show _ = Value.bool true from r'], OldK.of_keep fun b o e => ?_, os, bare⟩
      cases q : H b with
      | none => exact un.keep b o e q (fun z => absurd (show b ∈ ([] : List Addr) from z) (by simp)) (by simp)
      | some u =>
        rcases hO b with z | ⟨ob, xs, z⟩
        · rw [q] at z; cases z
        · obtain ⟨e1, _⟩ := hok b _ z
          obtain ⟨e2, _⟩ := hok' b _ (un.frzs b ob _ z)
          rw [e] at e1
          cases e1
          exact e2
  cases hk : K.lookup a with
  | some o =>
    have e := KX a o hk
    rw [ha] at e
    cases e
    exact heart (fun _ => none) (fun _ => .inl rfl) (.inr ⟨_, vs.toArray, _, hk, rfl, rfl, rfl, by rw [List.size_toArray, hi.length]; exact hl, by simpa using rv⟩) (fun b u z => nomatch (show (none : Option HO) = some u from z)) (fun b z => absurd rfl z) fun z => absurd rfl z
  | none =>
    have at_a : (fun b => if b = a then some (HO.frz { cls := .type "list", data := .seq vs.toArray } (.lst (ns.map V.int))) else none : Hp) a = some (.frz { cls := .type "list", data := .seq vs.toArray } (.lst (ns.map V.int))) := if_pos rfl
    refine heart (fun b => if b = a then some (HO.frz { cls := .type "list", data := .seq vs.toArray } (.lst (ns.map V.int))) else none) (fun b => ?_) (.inl (.inr ⟨_, at_a⟩)) (fun b u z => ?_) (fun b z => ?_) fun _ => hk
    · by_cases hb : b = a
      · subst hb
        exact .inr ⟨_, _, at_a⟩
      · exact .inl (if_neg hb)
    · by_cases hb : b = a
      · subst hb
        rw [at_a] at z
        cases z
        exact ⟨ha, by rw [List.length_map]; exact hl, vs, _, rv, ha⟩
      · exact nomatch (if_neg hb).symm.trans z
    · by_cases hb : b = a
      · exact hb
      · exact absurd (if_neg hb) z
theorem walk_ofG {l : PySem.W.OpenLaw} {n k : Nat} {q : Program} {loose : List Str} {XP : (Str → Option Value) → Heap → Prop} {YP : World → Heap → Prop} {d : DefRec} {x : Str} (hn : l.most = some n) (hn2 : n ≤ sizeLine) (hdf : d.params.defaults = []) (hr : Room k callerA)
    (F : ∀ (w : World) (mg : Str → Option Value) (fa : Addr) (h : Heap), YP w h → h.Ns mainGlobals mg → mg d.name = some (.ref fa) → ∃ (K : PySem.W.Frag) (fd : FuncData) (sp : Sp), K.In h ∧ (∀ (s : Shared) (u : Value), BindsTo s fd ⟨[u], []⟩ [(x, u)]) ∧
      (∀ (H : Hp) (a : Addr) (ns : List Int), ns.length ≤ n → Only H → SqL K H a (ns.map V.int) → sp [.ref a] H (fun v _ => v = .bl true) fun _ _ _ => False) ∧ ∀ base : Heap, K.In base → base.Ns mainGlobals mg → FnX l.prog w K mg base k fa fd [x] sp) :
    PySem.W.WalkO q loose XP YP l.row.toRowW d [] (fun f vs => PySem.call f vs) :=
  Att.attach_call hn hdf fun w s0 s1 mg mb fa o pm cd doc a vs ns G Y ho hd hcd hmg hobj hints hlen hg => by
    obtain ⟨K, fd, sp, KX, hb, hsp, hF⟩ := F w mg fa _ Y G.T.g hmg
    exact law_callG KX G.T.g G.T.b G.T.builtins G.T.nolimit hg hobj hints (Nat.le_trans hlen hn2) hr hF hb fun H hO hS => hsp H a ns hlen hO hS
end L2
end
section
/-! Lib: heaps kept, calls, small rules for walking the IR. Pure Lean. -/
namespace M
/-- all that stood stands -/
def Ext (h h' : AH) : Prop := ∀ a o, h a = some o → h' a = some o
/-- .. but for p -/
def Ke (p : Nat) (h h' : AH) : Prop := ∀ a o, a ≠ p → h a = some o → h' a = some o
section
variable {h h1 h2 h' : AH} {p q a : Nat} {o : Ob}
theorem up_same : up h a o a = some o := by simp [up]
theorem up_ne {b : Nat} (e : b ≠ a) : up h a o b = h b := by simp [up, e]
theorem up_up {o' : Ob} : up (up h a o) a o' = up h a o' := by
  funext b; simp only [up]; split <;> rfl
theorem Ext.refl : Ext h h := fun _ _ e => e
theorem Ext.trans (x : Ext h h1) (y : Ext h1 h2) : Ext h h2 := fun a o e => y a o (x a o e)
theorem Ext.ke (x : Ext h h1) : Ke p h h1 := fun a o _ e => x a o e
theorem Ext.new (n : h p = none) : Ext h (up h p o) := fun a u e => by
  rw [up_ne (fun z => by subst z; rw [n] at e; cases e)]; exact e
theorem Ke.refl : Ke p h h := fun _ _ _ e => e
theorem Ke.trans (x : Ke p h h1) (y : Ke p h1 h2) : Ke p h h2 := fun a o n e => y a o n (x a o n e)
theorem Ke.put : Ke p h (up h p o) := fun a u n e => by rw [up_ne n]; exact e
/-- changed at p, which h does not know -/
theorem Ext.mut (x : Ext h h1) (n : h p = none) (y : Ke p h1 h2) : Ext h h2 := fun a u e => y a u (fun z => by subst z; rw [n] at e; cases e) (x a u e)
theorem fresh_back (x : Ext h h1) (n : h1 p = none) : h p = none := by
  cases e : h p with
  | none => rfl
  | some o => rw [x p o e] at n; cases n
theorem ne_new (e : h a = some o) (n : h p = none) : a ≠ p := fun z => by subst z; rw [n] at e; cases e
end
/-- behind a def's body -/
def RT (Q : VQ) : Ends := { nx := fun _ h' => Q .non h', rt := Q, bk := fun _ _ => False, ct := fun _ _ => False }
@[simp] theorem RT_nx {Q : VQ} : (RT Q).nx = fun _ h' => Q .non h' := rfl
@[simp] theorem RT_rt {Q : VQ} : (RT Q).rt = Q := rfl
@[simp] theorem RT_bk {Q : VQ} : (RT Q).bk = fun _ _ => False := rfl
@[simp] theorem RT_ct {Q : VQ} : (RT Q).ct = fun _ _ => False := rfl
theorem run_mk {P : Prog} {n : Nat} {c : Sx} {ds : List D} {h : AH} {Q : VQ} {X : XP} (hP : P (mkN c) = none) (q : ∀ r, h r = none → run P n (metN c sInit) (.ref r :: ds) (up h r (.ins c [])) (fun d h2 => d = .non ∧ Q (.ref r) h2) X) : run P (n + 1) (mkN c) ds h Q X := by
  simp only [run]
  rw [hP]
  exact q
theorem run_of {P : Prog} {n : Nat} {f : Sx} {fd : FD} {ds : List D} {h : AH} {Q : VQ} {X : XP} (hP : P f = some fd) (hl : ds.length = fd.ps)
    (hb : wSs ⟨run P n, fun _ => X⟩ fd.body (RT Q) (start fd ds) h) : run P (n + 1) f ds h Q X := by
  unfold run
  simp only [hP]
  exact ⟨hl, hb⟩
/-! ### loops -/
/-- over a range -/
theorem loop_rng {lo hi : Int} {ok : AH → Prop} {body : D → St → AH → (St → AH → Prop) → Prop} {done : St → AH → Prop} {σ : St} {h : AH} (P : Nat → St → AH → Prop) (h0 : P 0 σ h) (hok : ∀ i σ h, P i σ h → ok h)
    (hs : ∀ (i : Nat) σ h, (i : Int) < hi - lo → P i σ h → body (.int (lo + i)) σ h (P (i + 1))) (hd : ∀ σ h, P (hi - lo).toNat σ h → done σ h) : loopW (rangeL lo hi) ok body done σ h := by
  have ln : (rangeL lo hi).length = (hi - lo).toNat := by simp [rangeL]
  refine ⟨P, h0, hok, fun i x σ h e p => ?_, fun σ h p => hd σ h (by rw [ln] at p; exact p)⟩
  have hlt : i < (rangeL lo hi).length := (List.getElem?_eq_some_iff.mp e).1
  rw [ln] at hlt
  simp only [rangeL, List.getElem?_map] at e
  rw [List.getElem?_range hlt] at e
  simp only [Option.map_some, Option.some.injEq] at e
  subst e
  exact hs i σ h (by omega) p
theorem comp_rng {lo hi : Int} {ok : AH → Prop} {body : D → AH → (D → AH → Prop) → (AH → Prop) → Prop} {done : List D → AH → Prop} {h : AH} (P : Nat → List D → AH → Prop) (h0 : P 0 [] h) (hok : ∀ i acc h, P i acc h → ok h ∧ acc.length ≤ i) (hz : (hi - lo).toNat ≤ LINE)
    (hs : ∀ (i : Nat) acc h, (i : Int) < hi - lo → P i acc h → body (.int (lo + i)) h (fun y h' => P (i + 1) (acc ++ [y]) h') (fun h' => P (i + 1) acc h')) (hd : ∀ acc h, P (hi - lo).toNat acc h → done acc h) : compW (rangeL lo hi) ok body done h := by
  have ln : (rangeL lo hi).length = (hi - lo).toNat := by simp [rangeL]
  refine ⟨P, h0, hok, by rw [ln]; exact hz, fun i x acc h e p => ?_, fun acc h p => hd acc h (by rw [ln] at p; exact p)⟩
  have hlt : i < (rangeL lo hi).length := (List.getElem?_eq_some_iff.mp e).1
  rw [ln] at hlt
  simp only [rangeL, List.getElem?_map] at e
  rw [List.getElem?_range hlt] at e
  simp only [Option.map_some, Option.some.injEq] at e
  subst e
  exact hs i acc h (by omega) p
/-- a while by an invariant and a measure -/
theorem whl_of {C : Cx} {c : E} {b : Ss} {R : Ends} {σ : St} {h : AH} (I : St → AH → Prop) (μ : St → AH → Nat) (h0 : I σ h)
    (hs : ∀ σ h, I σ h → wT C c σ h fun k h1 => match k with
      | true => wSs C b { nx := fun σ' h' => I σ' h' ∧ μ σ' h' < μ σ h, ct := fun σ' h' => I σ' h' ∧ μ σ' h' < μ σ h, bk := R.nx, rt := R.rt } σ h1
      | false => R.nx σ h1) (mono : ∀ (σ : St) (h : AH) (Q Q' : Bool → AH → Prop), (∀ b h1, Q b h1 → Q' b h1) → wT C c σ h Q → wT C c σ h Q')
    (bmono : ∀ (σ : St) (h : AH) (N N' : St → AH → Prop), (∀ s h, N s h → N' s h) → wSs C b { nx := N, ct := N, bk := R.nx, rt := R.rt } σ h → wSs C b { nx := N', ct := N', bk := R.nx, rt := R.rt } σ h) : wS C (.whl c b) R σ h := by
  simp only [wS]
  refine ⟨fun m σ h => m = μ σ h ∧ I σ h, ⟨_, rfl, h0⟩, ?_⟩
  rintro m σ h ⟨rfl, i⟩
  refine mono σ h _ _ (fun k h1 q => ?_) (hs σ h i)
  cases k with
  | true => exact bmono σ h1 _ _ (fun s h' ⟨a, b⟩ => ⟨_, b, rfl, a⟩) q
  | false => exact q

/-! ### one step at a time -/
section
variable {C : Cx} {σ : St} {h h1 : AH} {Q : VQ} {R : Ends}
@[simp] theorem wE_var {i : Nat} : wE C (.var i) σ h Q = match σ[i]? with
    | some (some d) => Q d h
    | _ => False := by simp only [wE] <;> rfl
@[simp] theorem wE_int {n : Int} : wE C (.int n) σ h Q = Q (.int n) h := by simp only [wE]
@[simp] theorem wE_str {s : Sx} : wE C (.str s) σ h Q = Q (.str s) h := by simp only [wE]
@[simp] theorem wE_bl {s : Bool} : wE C (.bl s) σ h Q = Q (.bl s) h := by simp only [wE]
@[simp] theorem wE_non : wE C .non σ h Q = Q .non h := by simp only [wE]
@[simp] theorem wE_tup {es : Es} : wE C (.tup es) σ h Q = wEs C es σ h fun ds h1 => ds.length ≤ LINE ∧ Q (.tup ds) h1 := by simp only [wE]
@[simp] theorem wE_lst {es : Es} : wE C (.lst es) σ h Q = wEs C es σ h fun ds h1 => ds.length ≤ LINE ∧ ∀ r, h1 r = none → Q (.ref r) (up h1 r (.lst ds)) := by simp only [wE]
@[simp] theorem wE_dsp {k : Nat} {e : E} {es : Es} : wE C (.dct k (.cons e es)) σ h Q = ∀ r, h r = none → wE C e σ (up h r (.dct k [])) fun d h1 => wEs C es σ h1 fun ds h2 => h2 r = some (.dct k []) ∧ aSome (pairUp (d :: ds)) fun kvs => keysOk k kvs = true ∧ Q (.ref r) (up h2 r (.dct k (mergeL [] kvs))) := by simp only [wE]
@[simp] theorem wE_lzip {es : Es} : wE C (.lzip es) σ h Q = wEs C es σ h fun ds h2 => arg2 ds fun x y => aTup x fun xs => aTup y fun ys => ∀ r, h2 r = none → Q (.ref r) (up h2 r (.lst (zipL xs ys))) := by simp only [wE]
@[simp] theorem wE_lrng {es : Es} : wE C (.lrng es) σ h Q = wEs C es σ h fun ds h1 => aRng ds fun lo hi => ∀ r, h1 r = none → Q (.ref r) (up h1 r (.lst (rangeL lo hi))) := by simp only [wE]
@[simp] theorem wE_rev {a : E} : wE C (.rev a) σ h Q = wE C a σ h fun x h1 => aLst x h1 fun _ xs => ∀ r, h1 r = none → Q (.ref r) (up h1 r (.lst xs.reverse)) := by simp only [wE]
@[simp] theorem wE_dct {k : Nat} : wE C (.dct k .nil) σ h Q = ∀ r, h r = none → Q (.ref r) (up h r (.dct k [])) := by simp only [wE]
@[simp] theorem wE_bin {o : Bop} {a b : E} : wE C (.bin o a b) σ h Q = wE C a σ h fun x h1 => wE C b σ h1 fun y h2 => opBin o x y h2 Q := by simp only [wE]
@[simp] theorem wE_neg {a : E} : wE C (.neg a) σ h Q = wE C a σ h fun x h1 => match x with
    | .int i => Q (.int (-i)) h1
    | _ => False := by simp only [wE] <;> rfl
@[simp] theorem wE_cmp {o : Cop} {a b : E} : wE C (.cmp o a b) σ h Q = wE C a σ h fun x h1 => wE C b σ h1 fun y h2 => opCmp o x y h2 fun c => Q (.bl c) h2 := by simp only [wE]
@[simp] theorem wE_chn {o o' : Cop} {a b c : E} : wE C (.chn o o' a b c) σ h Q = wE C a σ h fun x h1 => wE C b σ h1 fun y h2 => opCmp o x y h2 fun k => match k with
    | true => wE C c σ h2 fun z h3 => opCmp o' y z h3 fun k' => Q (.bl k') h3
    | false => Q (.bl false) h2 := by simp only [wE] <;> rfl
@[simp] theorem wE_bop {k : Bool} {es : Es} : wE C (.bop k es) σ h Q = wB C k es σ h Q := by simp only [wE]
@[simp] theorem wE_not {a : E} : wE C (.not a) σ h Q = wE C a σ h fun x h1 => match x with
    | .bl b => Q (.bl (!b)) h1
    | _ => False := by simp only [wE] <;> rfl
@[simp] theorem wE_ite {c a b : E} : wE C (.ite c a b) σ h Q = wE C c σ h fun x h1 => match x with
    | .bl true => wE C a σ h1 Q
    | .bl false => wE C b σ h1 Q
    | _ => False := by simp only [wE] <;> rfl
@[simp] theorem wE_ix {a i : E} : wE C (.ix a i) σ h Q = wE C a σ h fun x h1 => wE C i σ h1 fun y h2 => opIx x y h2 Q := by simp only [wE]
@[simp] theorem wE_sl {a : E} {lo hi : Es} : wE C (.sl a lo hi) σ h Q = wE C a σ h fun x h1 => wO C lo σ h1 fun l h2 => wO C hi σ h2 fun u h3 => opSl x l u h3 Q := by simp only [wE]
@[simp] theorem wE_callD {f : Sx} {k : Nat} {es : Es} : wE C (.callD f k es) σ h Q = wEs C es σ h fun ds h1 => C.call f (ds ++ List.replicate k .non) h1 Q (C.ex σ) := by simp only [wE]
@[simp] theorem wE_dcn : wE C .dcn σ h Q = ∀ r, h r = none → Q (.ref r) (up h r (.dcn [])) := by simp only [wE]
@[simp] theorem wE_smv {e : E} : wE C (.smv e) σ h Q = wE C e σ h fun x h1 => aVals x h1 fun kvs => aSome (intsOf (kvs.map (·.2))) fun ns => Q (.int ns.sum) h1 := by simp only [wE]
@[simp] theorem wE_fld {e : E} {f : Sx} : wE C (.fld e f) σ h Q = wE C e σ h fun x h1 => aIns x h1 fun _ _ fs => aSome (fs.lookup f) fun v => Q v h1 := by simp only [wE]
@[simp] theorem wE_newo {c : Sx} {es : Es} : wE C (.newo c es) σ h Q = wEs C es σ h fun ds h1 => C.call (mkN c) ds h1 Q (C.ex σ) := by simp only [wE]
@[simp] theorem wE_mcall {c m : Sx} {o : E} {es : Es} : wE C (.mcall c m o es) σ h Q = wE C o σ h fun x h1 => aIns x h1 fun p c' fs => c' = c ∧ fs.lookup m = none ∧ wEs C es σ h1 fun ds h2 => C.call (metN c m) (.ref p :: ds) h2 Q (C.ex σ) := by simp only [wE]
@[simp] theorem wE_call {f : Sx} {es : Es} : wE C (.call f es) σ h Q = wEs C es σ h fun ds h1 => C.call f ds h1 Q (C.ex σ) := by simp only [wE]
@[simp] theorem wE_blt {b : Blt} {es : Es} : wE C (.blt b es) σ h Q = wEs C es σ h fun ds h1 => opBlt b ds h1 Q := by simp only [wE]
@[simp] theorem wE_isi {a : E} {t : Ty} : wE C (.isi a t) σ h Q = wE C a σ h fun x h1 => match opIsi x t h1 with
    | some b => Q (.bl b) h1
    | none => False := by simp only [wE] <;> rfl
@[simp] theorem wE_mth {m : Mth} {o : E} {es : Es} : wE C (.mth m o es) σ h Q = wE C o σ h fun x h1 => recvOk m x h1 ∧ wEs C es σ h1 fun ds h2 => opMth m x ds h2 Q := by simp only [wE]
@[simp] theorem wE_lc {elt : E} {t : Tgt} {own : List Nat} {k : Itk} {src ifs : Es} : wE C (.lc elt t own k src ifs) σ h Q = wEs C src σ h fun ds h1 => walk k ds h1 fun xs ok =>
      compW xs ok (fun x h2 yes no => match setT t x (forget σ own) with
        | some σ' => wB C.nx true ifs σ' h2 fun c h3 => match c with
          | .bl true => wE C.nx elt σ' h3 yes
          | .bl false => no h3
          | _ => False
        | none => False) (fun acc h2 => ∀ r, h2 r = none → Q (.ref r) (up h2 r (.lst acc))) h1 := by simp only [wE] <;> rfl
@[simp] theorem nx_mk {c : Sx → List D → AH → VQ → XP → Prop} {e : St → XP} : Cx.nx ⟨c, e⟩ = ⟨c, fun _ _ _ _ => False⟩ := rfl
@[simp] theorem wE_newx {c : Sx} {fs : List Sx} {es : Es} : wE C (.newx c fs es) σ h Q = wEs C es σ h fun ds h1 => ds.length = fs.length ∧ ∀ r, h1 r = none → Q (.ref r) (up h1 r (.exc c (fs.zip ds))) := by simp only [wE]
@[simp] theorem wE_fldx {a : E} {f : Sx} : wE C (.fldx a f) σ h Q = wE C a σ h fun x h1 => aExc x h1 fun _ _ fs => aSome (fs.lookup f) fun v => Q v h1 := by simp only [wE]
@[simp] theorem wE_isx {a : E} {t : Sx} {subs all : List Sx} : wE C (.isx a t subs all) σ h Q = wE C a σ h fun x h1 => aExc x h1 fun _ c _ => c ∈ all ∧ Q (.bl (decide (c ∈ subs))) h1 := by simp only [wE]
@[simp] theorem wE_rpr {a : E} : wE C (.rpr a) σ h Q = wE C a σ h fun x h1 => rprOk x h1 fun s => Q (.str s) h1 := by simp only [wE]
@[simp] theorem wE_dpr {a : E} : wE C (.dpr a) σ h Q = wE C a σ h fun x h1 => aLst x h1 fun _ xs => aSome (prsOf xs) fun kvs => keysOk 0 kvs = true ∧ ∀ r, h1 r = none → Q (.ref r) (up h1 r (.dct 0 (mergeL [] kvs))) := by simp only [wE]
@[simp] theorem wE_lset {a : E} : wE C (.lset a) σ h Q = wE C a σ h fun x h1 => aLst x h1 fun _ xs => aSome (strsOf xs) fun ss => ∀ n : Nat, (ss.Nodup → n = ss.length) → (¬ ss.Nodup → n < ss.length) → Q (.int n) h1 := by simp only [wE]
@[simp] theorem wE_slw {a : E} {lo hi : Es} : wE C (.slw a lo hi) σ h Q = wE C a σ h fun x h1 => wO C lo σ h1 fun l h2 => wO C hi σ h2 fun u h3 => opSlW x l u h3 Q := by simp only [wE]
@[simp] theorem wE_tlr {a : E} : wE C (.tlr a) σ h Q = wE C a σ h fun x h1 => aTup x fun xs => Q (.tup xs.tail.reverse) h1 := by simp only [wE]
@[simp] theorem wE_gtp {x : Sx} {ss : List Sx} : wE C (.gtp x ss) σ h Q = Q (.tup (ss.map .str)) h := by simp only [wE]
@[simp] theorem wE_gint {x : Sx} {n : Int} : wE C (.gint x n) σ h Q = Q (.int n) h := by simp only [wE]
@[simp] theorem wE_mnd {es : Es} : wE C (.mnd es) σ h Q = wEs C es σ h fun ds h1 => minD ds h1 Q := by simp only [wE]
@[simp] theorem wE_orv {a b : E} : wE C (.orv a b) σ h Q = wE C a σ h fun x h1 => match x with
    | .non => wE C b σ h1 Q
    | .int i => (i ≠ 0 → Q (.int i) h1) ∧ (i = 0 → wE C b σ h1 Q)
    | _ => False := by simp only [wE] <;> rfl
@[simp] theorem wE_tix {x : Sx} {tab : List (Sx × Sx)} {a : E} : wE C (.tix x tab a) σ h Q = wE C a σ h fun x h1 => match x with
    | .str s => (match tab.lookup s with
      | some t => Q (.str t) h1
      | none => False)
    | _ => False := by simp only [wE] <;> rfl
@[simp] theorem wEs_nil {Q : List D → AH → Prop} : wEs C .nil σ h Q = Q [] h := by simp only [wEs]
@[simp] theorem wEs_cons {e : E} {es : Es} {Q : List D → AH → Prop} : wEs C (.cons e es) σ h Q = wE C e σ h fun d h1 => wEs C es σ h1 fun ds h2 => Q (d :: ds) h2 := by simp only [wEs]
@[simp] theorem wB_nil {k : Bool} : wB C k .nil σ h Q = Q (.bl k) h := by simp only [wB]
@[simp] theorem wB_and {e : E} {es : Es} : wB C true (.cons e es) σ h Q = wE C e σ h fun d h1 => match d with
    | .bl true => wB C true es σ h1 Q
    | .bl false => Q (.bl false) h1
    | _ => False := by
  simp only [wB]
  congr
  funext d h1
  cases d with
  | bl b => cases b <;> rfl
  | _ => rfl
@[simp] theorem wB_or {e : E} {es : Es} : wB C false (.cons e es) σ h Q = wE C e σ h fun d h1 => match d with
    | .bl false => wB C false es σ h1 Q
    | .bl true => Q (.bl true) h1
    | _ => False := by
  simp only [wB]
  congr
  funext d h1
  cases d with
  | bl b => cases b <;> rfl
  | _ => rfl
@[simp] theorem wO_nil {Q : Option Int → AH → Prop} : wO C .nil σ h Q = Q none h := by simp only [wO]
@[simp] theorem wO_cons {e : E} {Q : Option Int → AH → Prop} : wO C (.cons e .nil) σ h Q = wE C e σ h fun d h1 => match d with
    | .int n => Q (some n) h1
    | _ => False := by simp only [wO] <;> rfl
@[simp] theorem wT_eq {e : E} {Q : Bool → AH → Prop} : wT C e σ h Q = wE C e σ h fun d h1 => match d with
    | .bl b => Q b h1
    | _ => False := rfl
@[simp] theorem wS_asg {t : Tgt} {e : E} : wS C (.asg t e) R σ h = wE C e σ h fun d h1 => match setT t d σ with
    | some σ' => R.nx σ' h1
    | none => False := by simp only [wS] <;> rfl
@[simp] theorem wS_asgl {ts : List Nat} {e : E} : wS C (.asgl ts e) R σ h = wE C e σ h fun d h1 => aLst d h1 fun _ xs => match setT (.tp ts) (.tup xs) σ with
    | some σ' => R.nx σ' h1
    | none => False := by simp only [wS] <;> rfl
@[simp] theorem wS_sfld {c f : Sx} {o e : E} : wS C (.sfld c o f e) R σ h = wE C e σ h fun v h1 => wE C o σ h1 fun x h2 => aIns x h2 fun p c' fs => c' = c ∧ fs.length < 1000 ∧ R.nx σ (up h2 p (.ins c (putA f v fs))) := by simp only [wS]
@[simp] theorem wS_six {o i e : E} : wS C (.six o i e) R σ h = wE C e σ h fun v h1 => wE C o σ h1 fun x h2 => wE C i σ h2 fun y h3 => opSet x y v h3 fun h4 => R.nx σ h4 := by simp only [wS]
@[simp] theorem wS_aug {i : Nat} {o : Bop} {e : E} : wS C (.aug i o e) R σ h = match σ[i]? with
    | some (some x) => wE C e σ h fun y h1 => opAug o x y fun z => R.nx (σ.set i (some z)) h1
    | _ => False := by simp only [wS] <;> rfl
@[simp] theorem wS_raise {c : Sx} {fs : List Sx} {es : Es} : wS C (.raise c fs es) R σ h = wEs C es σ h fun ds h1 => ds.length = fs.length ∧ C.ex σ c (fs.zip ds) h1 := by simp only [wS]
@[simp] theorem wS_tryx {b u : Ss} {t : Sx} {subs all : List Sx} {i : Nat} : wS C (.tryx b t subs all i u) R σ h = wSs ⟨C.call, fun σ' c fs h' => c ∈ all ∧ (c ∈ subs → ∀ r, h' r = none → wSs C.nx u { nx := fun σ2 h2 => R.nx (σ2.set i none) h2, rt := R.rt, bk := fun σ2 h2 => R.bk (σ2.set i none) h2, ct := fun σ2 h2 => R.ct (σ2.set i none) h2 } (σ'.set i (some (.ref r))) (up h' r (.exc c fs))) ∧ (c ∉ subs → C.ex σ' c fs h')⟩ b R σ h := by simp only [wS]
@[simp] theorem wS_ex {e : E} : wS C (.ex e) R σ h = wE C e σ h fun _ h1 => R.nx σ h1 := by simp only [wS]
@[simp] theorem wS_ret {e : E} : wS C (.ret e) R σ h = wE C e σ h R.rt := by simp only [wS]
@[simp] theorem wS_retN : wS C .retN R σ h = R.rt .non h := by simp only [wS]
@[simp] theorem wS_ife {c : E} {a b : Ss} : wS C (.ife c a b) R σ h = wE C c σ h fun d h1 => match d with
    | .bl true => wSs C a R σ h1
    | .bl false => wSs C b R σ h1
    | _ => False := by
  simp only [wS, wT]
  congr
  funext d h1
  cases d with
  | bl b => cases b <;> rfl
  | _ => rfl
@[simp] theorem wS_for {t : Tgt} {k : Itk} {src : Es} {b : Ss} : wS C (.for_ t k src b) R σ h = wEs C src σ h fun ds h1 => walk k ds h1 fun xs ok =>
      loopW xs ok (fun x σ h P => match setT t x σ with
        | some σ' => wSs C b { nx := P, ct := P, bk := R.nx, rt := R.rt } σ' h
        | none => False) R.nx σ h1 := by simp only [wS] <;> rfl
@[simp] theorem wS_pass : wS C .pass R σ h = R.nx σ h := by simp only [wS]
@[simp] theorem wS_brk : wS C .brk R σ h = R.bk σ h := by simp only [wS]
@[simp] theorem wS_cont : wS C .cont R σ h = R.ct σ h := by simp only [wS]
@[simp] theorem wSs_nil : wSs C .nil R σ h = R.nx σ h := by simp only [wSs]
@[simp] theorem wSs_cons {s : S} {ss : Ss} : wSs C (.cons s ss) R σ h = wS C s { R with nx := fun σ' h' => wSs C ss R σ' h' } σ h := by simp only [wSs]
@[simp] theorem setT_nm {i : Nat} {d : D} : setT (.nm i) d σ = some (σ.set i (some d)) := rfl
@[simp] theorem setT_tp {ts : List Nat} {ds : List D} : setT (.tp ts) (.tup ds) σ = setT.setTs ts ds σ := rfl
@[simp] theorem setTs_nil : setT.setTs [] [] σ = some σ := rfl
@[simp] theorem setTs_cons {i : Nat} {is : List Nat} {d : D} {ds : List D} : setT.setTs (i :: is) (d :: ds) σ = setT.setTs is ds (σ.set i (some d)) := rfl
@[simp] theorem forget_nil : forget σ [] = σ := rfl
@[simp] theorem forget_cons {v : Nat} {vs : List Nat} : forget σ (v :: vs) = (forget σ vs).set v none := rfl
end
section
variable {h : AH} {Q : VQ} {q : Bool → Prop} {a b : Int} {s t : Sx} {xs ys : List D} {x y d : D} {p r : Nat}
@[simp] theorem bin_add : opBin .add x y h Q = opAdd x y h Q := rfl
@[simp] theorem bin_mul : opBin .mul x y h Q = opMul x y h Q := rfl
@[simp] theorem bin_sub : opBin .sub (.int a) (.int b) h Q = Q (.int (a - b)) h := rfl
@[simp] theorem bin_mod : opBin .mod (.int a) (.int b) h Q = (0 < b ∧ Q (.int (a % b)) h) := rfl
@[simp] theorem bin_fdiv : opBin .fdiv (.int a) (.int b) h Q = (divOk b ∧ Q (.int (a / b)) h) := rfl
@[simp] theorem bin_pow : opBin .pow (.int a) (.int b) h Q = (powOk a b ∧ Q (.int (a ^ b.toNat)) h) := rfl
@[simp] theorem add_int : opAdd (.int a) (.int b) h Q = Q (.int (a + b)) h := rfl
@[simp] theorem add_str : opAdd (.str s) (.str t) h Q = (s.length + t.length ≤ LINE ∧ Q (.str (s ++ t)) h) := rfl
@[simp] theorem add_tup : opAdd (.tup xs) (.tup ys) h Q = (xs.length + ys.length ≤ LINE ∧ Q (.tup (xs ++ ys)) h) := rfl
@[simp] theorem add_ref : opAdd (.ref p) (.ref r) h Q = ∃ xs ys, h p = some (.lst xs) ∧ h r = some (.lst ys) ∧ xs.length + ys.length ≤ LINE ∧ ∀ r, h r = none → Q (.ref r) (up h r (.lst (xs ++ ys))) := rfl
@[simp] theorem mul_int : opMul (.int a) (.int b) h Q = (mulOk a b ∧ Q (.int (a * b)) h) := rfl
@[simp] theorem cmp_eq : opCmp .eq x y h q = eqOkX x y h q := rfl
@[simp] theorem cmp_ne : opCmp .ne x y h q = eqOk x y h fun c => q (!c) := rfl
@[simp] theorem cmp_neb : opCmp .neb x y h q = neB x y h q := rfl
@[simp] theorem cmp_lt : opCmp .lt (.int a) (.int b) h q = q (decide (a < b)) := rfl
@[simp] theorem cmp_ltS : opCmp .lt (.str s) (.str t) h q = q (decide (s < t)) := rfl
@[simp] theorem cmp_le : opCmp .le (.int a) (.int b) h q = q (decide (a ≤ b)) := rfl
@[simp] theorem cmp_gt : opCmp .gt (.int a) (.int b) h q = q (decide (b < a)) := rfl
@[simp] theorem cmp_ge : opCmp .ge (.int a) (.int b) h q = q (decide (b ≤ a)) := rfl
@[simp] theorem cmp_in : opCmp .isin x y h q = memOk x y h q := rfl
@[simp] theorem cmp_nin : opCmp .notin x y h q = memOk x y h fun c => q (!c) := rfl
@[simp] theorem cmp_is : opCmp .is_ x .non h q = q (decide (x = .non)) := rfl
@[simp] theorem cmp_isnt : opCmp .isnt x .non h q = q (!decide (x = .non)) := rfl
@[simp] theorem cmp_isB {a b : Bool} : opCmp .is_ (.bl a) (.bl b) h q = q (decide (a = b)) := rfl
@[simp] theorem cmp_isntB {a b : Bool} : opCmp .isnt (.bl a) (.bl b) h q = q (!decide (a = b)) := rfl
@[simp] theorem eq_int : eqOk (.int a) (.int b) h q = q (decide (a = b)) := by simp [eqOk, pureD, plain]
@[simp] theorem eq_str : eqOk (.str s) (.str t) h q = q (decide (s = t)) := by simp [eqOk, pureD, plain]
@[simp] theorem eq_bl {a b : Bool} : eqOk (.bl a) (.bl b) h q = q (decide (a = b)) := rfl
@[simp] theorem eqX_int : eqOkX (.int a) (.int b) h q = q (decide (a = b)) := by simp [eqOkX, EqS]
@[simp] theorem eqX_str : eqOkX (.str s) (.str t) h q = q (decide (s = t)) := by simp [eqOkX, EqS]
@[simp] theorem eqX_bl {a b : Bool} : eqOkX (.bl a) (.bl b) h q = q (decide (a = b)) := by simp [eqOkX, EqS]
@[simp] theorem eq_tup : eqOk (.tup xs) (.tup ys) h q = (pureDs xs = true ∧ pureDs ys = true ∧ (plain 190 (.tup xs) = true ∨ plain 190 (.tup ys) = true) ∧ q (decide (xs = ys))) := by simp [eqOk, pureD]
@[simp] theorem eq_ref : eqOk (.ref p) (.ref r) h q = ∃ xs ys, h p = some (.lst xs) ∧ h r = some (.lst ys) ∧ pureDs xs = true ∧ pureDs ys = true ∧ (plains 190 xs = true ∨ plains 190 ys = true) ∧ q (decide (xs = ys)) := rfl
@[simp] theorem ix_tup {i : Int} : opIx (.tup xs) (.int i) h Q = match atI xs i with
    | some d => Q d h
    | none => False := rfl
@[simp] theorem ix_rol {i : Int} : opIx (.rol xs) (.int i) h Q = match atI xs i with
    | some d => Q d h
    | none => False := rfl
@[simp] theorem ix_str {i : Int} : opIx (.str s) (.int i) h Q = (s.length ≤ LINE ∧ match atI s i with
    | some c => Q (.str [c]) h
    | none => False) := rfl
theorem ix_lst {i : Int} (e : h p = some (.lst xs)) : opIx (.ref p) (.int i) h Q = match atI xs i with
    | some d => Q d h
    | none => False := by simp only [opIx, e] <;> rfl
theorem ix_dct {k : Nat} {kvs : List (D × D)} (e : h p = some (.dct k kvs)) : opIx (.ref p) y h Q = (keyOk k y = true ∧ match kvGet kvs y with
    | some d => Q d h
    | none => False) := by simp only [opIx, e] <;> rfl
@[simp] theorem slw_tup {lo hi : Option Int} : opSlW (.tup xs) lo hi h Q = Q (.tup (cut xs lo hi)) h := rfl
@[simp] theorem sl_rol {lo hi : Option Int} : opSl (.rol xs) lo hi h Q = ∀ r, h r = none → Q (.ref r) (up h r (.lst (cut xs lo hi))) := rfl
@[simp] theorem sl_str {lo hi : Option Int} : opSl (.str s) lo hi h Q = (s.length ≤ LINE ∧ Q (.str (cut s lo hi)) h) := rfl
theorem sl_lst {lo hi : Option Int} (e : h p = some (.lst xs)) : opSl (.ref p) lo hi h Q = ∀ r, h r = none → Q (.ref r) (up h r (.lst (cut xs lo hi))) := by simp only [opSl, e]
@[simp] theorem arg1_eq {f : D → Prop} : arg1 [d] f = f d := rfl
@[simp] theorem arg2_eq {f : D → D → Prop} : arg2 [x, y] f = f x y := rfl
@[simp] theorem anInt_eq {f : Int → Prop} : anInt (.int a) f = f a := rfl
@[simp] theorem aSome_eq {α : Type} {z : α} {f : α → Prop} : aSome (some z) f = f z := rfl
theorem aLst_eq {f : Nat → List D → Prop} (e : h p = some (.lst xs)) : aLst (.ref p) h f = f p xs := by simp only [aLst, e]
theorem aDct_eq {k : Nat} {kvs : List (D × D)} {f : Nat → Nat → List (D × D) → Prop} (e : h p = some (.dct k kvs)) : aDct (.ref p) h f = f p k kvs := by simp only [aDct, e]
@[simp] theorem len_str {f : Nat → Prop} : lenOk (.str s) h f = (s.length ≤ LINE ∧ f s.length) := rfl
@[simp] theorem len_tup {f : Nat → Prop} : lenOk (.tup xs) h f = f xs.length := rfl
@[simp] theorem len_rol {f : Nat → Prop} : lenOk (.rol xs) h f = f xs.length := rfl
theorem len_lst {f : Nat → Prop} (e : h p = some (.lst xs)) : lenOk (.ref p) h f = f xs.length := by simp only [lenOk, e]
@[simp] theorem toInt_int {f : Int → Prop} : toInt (.int a) f = f a := rfl
@[simp] theorem toInt_bl {b : Bool} {f : Int → Prop} : toInt (.bl b) f = f (if b then 1 else 0) := rfl
@[simp] theorem blt_len {ds : List D} : opBlt .len ds h Q = arg1 ds fun d => lenOk d h fun n => Q (.int n) h := rfl
@[simp] theorem blt_min2 {ds : List D} : opBlt .min2 ds h Q = arg2 ds fun x y => anInt x fun a => anInt y fun b => Q (.int (if b < a then b else a)) h := rfl
@[simp] theorem blt_max2 {ds : List D} : opBlt .max2 ds h Q = arg2 ds fun x y => anInt x fun a => anInt y fun b => Q (.int (if b > a then b else a)) h := rfl
@[simp] theorem blt_int1 {ds : List D} : opBlt .int1 ds h Q = arg1 ds fun d => toInt d fun i => Q (.int i) h := rfl
@[simp] theorem blt_sum {ds : List D} : opBlt .sum ds h Q = arg1 ds fun d => aLst d h fun _ xs => aSome (intsOf xs) fun ns => Q (.int ns.sum) h := rfl
@[simp] theorem blt_all {ds : List D} : opBlt .all ds h Q = arg1 ds fun d => aLst d h fun _ xs => aSome (bls xs) fun bs => Q (.bl (bs.all id)) h := rfl
@[simp] theorem blt_any {ds : List D} : opBlt .any ds h Q = arg1 ds fun d => aLst d h fun _ xs => aSome (bls xs) fun bs => Q (.bl (bs.any id)) h := rfl
@[simp] theorem blt_klist {ds : List D} : opBlt .klist ds h Q = arg1 ds fun d => aDctR d h fun _ _ kvs => ∀ r, h r = none → Q (.ref r) (up h r (.lst (kvs.map (·.1)))) := rfl
@[simp] theorem blt_max1 {ds : List D} : opBlt .max1 ds h Q = arg1 ds fun d => aLst d h fun _ xs => aSome (intsOf xs) fun ns => ns ≠ [] ∧ ∀ m, m ∈ ns → (∀ y, y ∈ ns → y ≤ m) → Q (.int m) h := rfl
@[simp] theorem blt_sorted {ds : List D} : opBlt .sorted ds h Q = arg1 ds fun d => aDctR d h fun _ _ kvs => aSome (strsOf (kvs.map (·.1))) fun ss => ss.length < 64 ∧ ∀ ys : List Sx, ys.Perm ss → ∀ r, h r = none → Q (.ref r) (up h r (.lst (ys.map .str))) := rfl
@[simp] theorem blt_sortd {ds : List D} : opBlt .sortd ds h Q = arg1 ds fun d => sortP d h fun xs => ∀ ys : List D, ys.Perm xs → ys.Pairwise (fun a b => ltD b a = false) → ∀ r, h r = none → Q (.ref r) (up h r (.lst ys)) := rfl
theorem sortP_lst {f : List D → Prop} (e : h p = some (.lst xs)) : sortP (.ref p) h f = (sortOk xs ∧ f xs) := by simp only [sortP, e]
theorem sortP_dct {kvs : List (D × D)} {f : List D → Prop} (e : h p = some (.dct 0 kvs)) : sortP (.ref p) h f = ((∃ ss, strsOf (kvs.map (·.1)) = some ss ∧ ss.length < 64) ∧ f (kvs.map (·.1))) := by simp only [sortP, e]
theorem sortP_rdct {kvs : List (D × D)} {f : List D → Prop} (e : h p = some (.rdct 0 kvs)) : sortP (.ref p) h f = ((∃ ss, strsOf (kvs.map (·.1)) = some ss ∧ ss.length < 64) ∧ f (kvs.map (·.1))) := by simp only [sortP, e]
@[simp] theorem cmp_ltT {ys : List D} : opCmp .lt (.tup xs) (.tup ys) h q = (cmpbs xs ys = true ∧ pureDs xs = true ∧ pureDs ys = true ∧ (plains 190 xs = true ∨ plains 190 ys = true) ∧ q (ltDs xs ys)) := rfl
@[simp] theorem blt_list {ds : List D} : opBlt .list ds h Q = arg1 ds fun d => aSome (seqOf d h) fun xs => ∀ r, h r = none → Q (.ref r) (up h r (.lst xs)) := rfl
@[simp] theorem blt_tuple {ds : List D} : opBlt .tuple ds h Q = arg1 ds fun d => aSome (seqOf d h) fun xs => Q (.tup xs) h := rfl
@[simp] theorem seq_tup : seqOf (.tup xs) h = some xs := rfl
@[simp] theorem seq_rol : seqOf (.rol xs) h = some xs := rfl
theorem seq_lst (e : h p = some (.lst xs)) : seqOf (.ref p) h = some xs := by simp only [seqOf, e]
@[simp] theorem recv_lst {m : Mth} {ds : List D} : opMth .append x ds h Q = arg1 ds fun d => aLst x h fun p xs => xs.length < LINE ∧ Q .non (up h p (.lst (xs ++ [d]))) := rfl
@[simp] theorem mth_pop : opMth .pop x [] h Q = aLst x h fun p xs => aSome xs[xs.length - 1]? fun y => Q y (up h p (.lst xs.dropLast)) := by simp [opMth]
@[simp] theorem aTup_eq {f : List D → Prop} : aTup (.tup xs) f = f xs := rfl
@[simp] theorem aStr_eq {f : Sx → Prop} : aStr (.str s) f = f s := rfl
@[simp] theorem aRng1 {f : Int → Int → Prop} : aRng [.int a] f = ((-(2 ^ 62) ≤ a ∧ a ≤ LINE) ∧ f 0 a) := rfl
@[simp] theorem aRng2 {f : Int → Int → Prop} : aRng [.int a, .int b] f = (((-(2 ^ 62) ≤ a ∧ a ≤ LINE) ∧ -(2 ^ 62) ≤ b ∧ b ≤ LINE ∧ (b - a).toNat ≤ LINE) ∧ f a b) := rfl
theorem mth_popI : opMth .popAt x [.int a] h Q = aLst x h fun p xs => (0 ≤ a ∧ a < 2 ^ 62) ∧ aSome xs[a.toNat]? fun y => Q y (up h p (.lst (xs.eraseIdx a.toNat))) := rfl
@[simp] theorem mth_popAt : opMth .popAt x [.int 0] h Q = aLst x h fun p xs => aSome xs[0]? fun y => Q y (up h p (.lst xs.tail)) := by
  rw [mth_popI]
  unfold aLst
  split
  · split
    · rename_i xs _
      have : xs.eraseIdx 0 = xs.tail := by cases xs <;> rfl
      simp [this]
    · rfl
  · rfl
@[simp] theorem mth_update : opMth .update x [d] h Q = aDct x h fun p kd kvs => aDct d h fun r kd' more => p ≠ r ∧ kd = 0 ∧ kd' = 0 ∧ kvs.length + more.length ≤ LINE ∧ Q .non (up h p (.dct 0 (mergeL kvs more))) := rfl
@[simp] theorem mth_insert : opMth .insert x [.int a, d] h Q = aLst x h fun p xs => (0 ≤ a ∧ a < 2 ^ 62) ∧ xs.length < LINE ∧ Q .non (up h p (.lst (xs.take a.toNat ++ [d] ++ xs.drop a.toNat))) := rfl
@[simp] theorem mth_index : opMth .index x [.int a] h Q = aLst x h fun _ xs => aSome (intsOf xs) fun ns => a ∈ ns ∧ Q (.int (ns.idxOf a : Nat)) h := rfl
@[simp] theorem mth_dclear : opMth .dclear x [] h Q = aDct x h fun p kd kvs => kd = 0 ∧ Q .non (up h p (.dct 0 [])) := by simp [opMth]
@[simp] theorem mth_clear : opMth .clear x [] h Q = aLst x h fun p xs => Q .non (up h p (.lst [])) := by simp [opMth]
@[simp] theorem mth_sindex {t : Sx} : opMth .sindex (.str s) [.str t] h Q = ∃ c, t = [c] ∧ c ∈ s ∧ ∀ i : Nat, s[i]? = some c → Q (.int (i : Nat)) h := rfl
@[simp] theorem recv_sindex : recvOk .sindex (.str s) h := trivial
@[simp] theorem mth_join : opMth .join (.str s) [d] h Q = aSome (seqOf d h) fun xs => aSome (strsOf xs) fun ss => (ss.map (·.length)).sum + ss.length * s.length ≤ LINE ∧ Q (.str (joinS s ss)) h := rfl
@[simp] theorem recv_join : recvOk .join (.str s) h := trivial
@[simp] theorem blt_dict1 {ds : List D} : opBlt .dict1 ds h Q = arg1 ds fun d => aDctR d h fun _ k kvs => ∀ r, h r = none → Q (.ref r) (up h r (.dct k kvs)) := rfl
@[simp] theorem mth_append : opMth .append x [d] h Q = aLst x h fun p xs => xs.length < LINE ∧ Q .non (up h p (.lst (xs ++ [d]))) := rfl
@[simp] theorem mth_extend : opMth .extend x [d] h Q = aLst x h fun p xs => aLst d h fun q ys => xs.length + ys.length ≤ LINE ∧ Q .non (up h p (.lst (xs ++ ys))) := rfl
@[simp] theorem mth_extendT : opMth .extendT x [d] h Q = aLst x h fun p xs => aTup d fun ys => xs.length + ys.length ≤ LINE ∧ Q .non (up h p (.lst (xs ++ ys))) := rfl
@[simp] theorem mth_reverse : opMth .reverse x [] h Q = aLst x h fun p xs => Q .non (up h p (.lst xs.reverse)) := by simp [opMth]
@[simp] theorem mth_get1 : opMth .get1 x [y] h Q = aDct x h fun p kd kvs => keyOk kd y = true ∧ Q ((kvGet kvs y).getD .non) h := rfl
@[simp] theorem mth_get2 : opMth .get2 x [y, d] h Q = aDct x h fun p kd kvs => keyOk kd y = true ∧ Q ((kvGet kvs y).getD d) h := rfl
def lstM : Mth → Bool
  | .append => true
  | .pop => true
  | .popAt => true
  | .extend => true
  | .extendT => true
  | .insert => true
  | .index => true
  | .reverse => true
  | .clear => true
  | _ => false
def dctM : Mth → Bool
  | .get1 => true
  | .get2 => true
  | .update => true
  | .dclear => true
  | _ => false
theorem recv_lstM {m : Mth} (hm : lstM m = true) (e : h p = some (.lst xs)) : recvOk m (.ref p) h := by
  cases m <;> first | exact absurd hm (by decide) | (simp only [recvOk, aLst, e])
theorem recv_ok {m : Mth} (hm : m ≠ .get1) (hm2 : m ≠ .get2) (e : h p = some (.lst xs)) (hm3 : lstM m = true := by rfl) : recvOk m (.ref p) h := recv_lstM hm3 e
theorem recv_dct {m : Mth} {k : Nat} {kvs : List (D × D)} (hm : dctM m = true) (e : h p = some (.dct k kvs)) : recvOk m (.ref p) h := by
  cases m <;> first | exact absurd hm (by decide) | (simp only [recvOk, aDct, e])
theorem set_lst {i : Int} {q : AH → Prop} (e : h p = some (.lst xs)) : opSet (.ref p) (.int i) d h q = ((0 ≤ i ∧ i < xs.length) ∧ q (up h p (.lst (xs.set i.toNat d)))) := by simp only [opSet, e, anInt]
theorem set_dct {k : Nat} {kvs : List (D × D)} {q : AH → Prop} (e : h p = some (.dct k kvs)) : opSet (.ref p) y d h q = (keyOk k y = true ∧ kvs.length < LINE ∧ q (up h p (.dct k (kvPut kvs y d)))) := by simp only [opSet, e]
@[simp] theorem walk_tup {q : List D → (AH → Prop) → Prop} : walk .seq [.tup xs] h q = q xs fun _ => True := rfl
@[simp] theorem walk_rol {q : List D → (AH → Prop) → Prop} : walk .seq [.rol xs] h q = q xs fun _ => True := rfl
@[simp] theorem walk_str {q : List D → (AH → Prop) → Prop} : walk .seq [.str s] h q = q (s.map fun c => .str [c]) fun _ => True := rfl
theorem walk_lst {q : List D → (AH → Prop) → Prop} (e : h p = some (.lst xs)) : walk .seq [.ref p] h q = q xs fun h' => h' p = some (.lst xs) := by simp only [walk, e]
@[simp] theorem walk_rng {q : List D → (AH → Prop) → Prop} : walk .rng [.int a] h q = (-(2 ^ 62) ≤ a ∧ a < 2 ^ 62 ∧ q (rangeL 0 a) fun _ => True) := rfl
@[simp] theorem walk_rrng {q : List D → (AH → Prop) → Prop} : walk .rrng [.int a] h q = (-(2 ^ 62) ≤ a ∧ a < 2 ^ 62 ∧ q (rangeL 0 a).reverse fun _ => True) := rfl
@[simp] theorem walk_rng3 {q : List D → (AH → Prop) → Prop} : walk .rng [.int a, .int b, .int (-1)] h q = ((-(2 ^ 62) ≤ a ∧ a < 2 ^ 62 ∧ -(2 ^ 62) ≤ b ∧ b < 2 ^ 62) ∧ q (rangeL (b + 1) (a + 1)).reverse fun _ => True) := by
  show (((-1 : Int) = -1 ∧ -(2 ^ 62) ≤ a ∧ a < 2 ^ 62 ∧ -(2 ^ 62) ≤ b ∧ b < 2 ^ 62) ∧ q (rangeL (b + 1) (a + 1)).reverse fun _ => True) = _
  simp only [true_and]
@[simp] theorem walk_rng2 {q : List D → (AH → Prop) → Prop} : walk .rng [.int a, .int b] h q = ((-(2 ^ 62) ≤ a ∧ a < 2 ^ 62 ∧ -(2 ^ 62) ≤ b ∧ b < 2 ^ 62) ∧ q (rangeL a b) fun _ => True) := rfl
theorem walk_enum {q : List D → (AH → Prop) → Prop} (e : h p = some (.lst xs)) : walk .enum [.ref p] h q = q (enumL 0 xs) fun h' => h' p = some (.lst xs) := by simp only [walk, e]
@[simp] theorem isi_int {t : Ty} : opIsi (.int a) t h = match t with | .int => some true | _ => some false := by cases t <;> rfl
@[simp] theorem isi_bl {b : Bool} {t : Ty} : opIsi (.bl b) t h = match t with | .int => some true | .bool => some true | _ => some false := by cases t <;> rfl
@[simp] theorem isi_tup {t : Ty} : opIsi (.tup xs) t h = match t with | .tuple => some true | _ => some false := by cases t <;> rfl
theorem isi_lst {t : Ty} (e : h p = some (.lst xs)) : opIsi (.ref p) t h = some (match t with | .list => true | _ => false) := by unfold opIsi; simp only [e] <;> (cases t <;> rfl)
@[simp] theorem isi_str {t : Ty} : opIsi (.str s) t h = match t with | .str => some true | _ => some false := by cases t <;> rfl
@[simp] theorem aug_int : opAug .add (.int a) (.int b) (fun d => Q d h) = Q (.int (a + b)) h := rfl
@[simp] theorem aug_intP {q : D → Prop} : opAug .add (.int a) (.int b) q = q (.int (a + b)) := rfl
@[simp] theorem aug_subP {q : D → Prop} : opAug .sub (.int a) (.int b) q = q (.int (a - b)) := rfl
@[simp] theorem aug_strP {q : D → Prop} : opAug .add (.str s) (.str t) q = (s.length + t.length ≤ LINE ∧ q (.str (s ++ t))) := rfl
end
/-! ### dicts, pairs of places and items, plain data -/
theorem Ke.mut {p q : Nat} {h h1 h2 : AH} (x : Ke p h h1) (n : h q = none) (y : Ke q h1 h2) : Ke p h h2 := fun a u e z => y a u (fun w => by subst w; rw [n] at z; cases z) (x a u e z)
theorem Ke.new {p q : Nat} {h h1 : AH} {o : Ob} (x : Ke p h h1) (n : h1 q = none) : Ke p h (up h1 q o) := x.trans (Ext.new n).ke
theorem kvGet_nil {k : D} : kvGet [] k = none := rfl
theorem kvGet_cons {k k' v : D} {kvs : List (D × D)} : kvGet ((k, v) :: kvs) k' = if k = k' then some v else kvGet kvs k' := by
  unfold kvGet
  by_cases e : k = k' <;> simp [e]
theorem kvGet_put {k v k' : D} : ∀ {kvs : List (D × D)}, kvGet (kvPut kvs k v) k' = if k = k' then some v else kvGet kvs k'
  | [] => by
    unfold kvPut
    simp [kvGet_cons, kvGet_nil]
  | (a, w) :: r => by
    have ih := kvGet_put (k := k) (v := v) (k' := k') (kvs := r)
    unfold kvPut at ih ⊢
    by_cases e : a = k
    · subst e
      simp only [List.any_cons, decide_true, Bool.true_or, if_true, List.map_cons, kvGet_cons]
      by_cases e2 : a = k'
      · simp [e2]
      · simp only [if_neg e2]
        by_cases e3 : (r.any fun kv => decide (kv.1 = a)) = true
        · rw [if_pos e3] at ih
          rw [ih, if_neg e2]
        · have : r.map (fun kv => if kv.1 = a then (kv.1, v) else kv) = r := by
            conv => rhs; rw [← List.map_id r]
            refine List.map_congr_left fun kv hkv => ?_
            rw [if_neg (fun z => e3 (List.any_eq_true.mpr ⟨kv, hkv, decide_eq_true z⟩))]
            rfl
          rw [this]
    · simp only [List.any_cons, decide_eq_false e, Bool.false_or]
      by_cases e3 : (r.any fun kv => decide (kv.1 = k)) = true
      · rw [if_pos e3] at ih
        simp only [e3, if_true, List.map_cons, if_neg e, kvGet_cons]
        by_cases e2 : a = k'
        · simp only [if_pos e2]
          rw [if_neg (fun z => e (e2.trans z.symm))]
        · simp only [if_neg e2]; exact ih
      · rw [if_neg e3] at ih
        rw [if_neg e3, List.cons_append, kvGet_cons, kvGet_cons]
        by_cases e2 : a = k'
        · rw [if_pos e2, if_pos e2, if_neg (fun z => e (e2.trans z.symm))]
        · rw [if_neg e2, if_neg e2]; exact ih
theorem kvPut_len {k v : D} {kvs : List (D × D)} : (kvPut kvs k v).length ≤ kvs.length + 1 := by
  unfold kvPut
  split <;> simp
theorem enumL_at {xs : List D} : ∀ {n i : Nat} {x : D}, (enumL n xs)[i]? = some x → ∃ y, xs[i]? = some y ∧ x = .tup [.int ((n + i : Nat) : Int), y] := by
  induction xs with
  | nil => intro n i x e; simp [enumL] at e
  | cons a r ih =>
    intro n i x e
    cases i with
    | zero => simp [enumL] at e; exact ⟨a, rfl, by simp [e]⟩
    | succ i =>
      simp only [enumL, List.getElem?_cons_succ] at e ⊢
      obtain ⟨y, e1, e2⟩ := ih e
      exact ⟨y, e1, by rw [e2]; congr 3; omega⟩
theorem enumL_len {xs : List D} : ∀ {n : Nat}, (enumL n xs).length = xs.length := by
  induction xs with
  | nil => intro n; rfl
  | cons a r ih => intro n; simp only [enumL, List.length_cons, ih]
theorem map_at {α : Type} {f : α → D} {xs : List α} {i : Nat} {x : D} (e : (xs.map f)[i]? = some x) : ∃ y, xs[i]? = some y ∧ x = f y := by
  rw [List.getElem?_map] at e
  cases e2 : xs[i]? with
  | none => rw [e2] at e; cases e
  | some z => rw [e2] at e; exact ⟨z, rfl, (Option.some.inj e).symm⟩
theorem eq_pure {a b : D} {h : AH} {Q : Bool → Prop} (pa : pureD a = true) (pb : pureD b = true) (l : plain 190 a = true ∨ plain 190 b = true) (k : Q (decide (a = b))) : eqOk a b h Q := by
  cases a with
  | bl _ => simp [pureD] at pa
  | ref _ => simp [pureD] at pa
  | rol _ => simp [pureD] at pa
  | _ => exact ⟨pa, pb, l, k⟩
theorem eq_pureX {a b : D} {h : AH} {Q : Bool → Prop} (pa : pureD a = true) (pb : pureD b = true) (l : plain 190 a = true ∨ plain 190 b = true) (k : Q (decide (a = b))) : eqOkX a b h Q := .inl (eq_pure pa pb l k)
theorem cut_none {α : Type} {xs : List α} {v : Int} (h : 0 ≤ v) : cut xs none (some v) = xs.take v.toNat := by
  have : ¬ v < 0 := by omega
  simp [cut, clip, this]
theorem letters_at {i : Int} (h0 : 0 ≤ i) (h1 : i < 26) : atI [97, 98, 99, 100, 101, 102, 103, 104, 105, 106, 107, 108, 109, 110, 111, 112, 113, 114, 115, 116, 117, 118, 119, 120, 121, 122] i = some (97 + i.toNat) := by
  have key : ∀ n : Fin 26, atI [97, 98, 99, 100, 101, 102, 103, 104, 105, 106, 107, 108, 109, 110, 111, 112, 113, 114, 115, 116, 117, 118, 119, 120, 121, 122] ((n.val : Nat) : Int) = some (97 + n.val) := by decide
  have := key ⟨i.toNat, by omega⟩
  simp only at this
  rw [show ((i.toNat : Nat) : Int) = i by omega] at this
  exact this
theorem RT_mk {Q : VQ} : ({ nx := fun _ h' => Q .non h', rt := Q, bk := fun _ _ => False, ct := fun _ _ => False } : Ends) = RT Q := rfl
theorem nodup_inj {α : Type} {xs : List α} (nd : xs.Nodup) {i j : Nat} {x : α} (a : xs[i]? = some x) (b : xs[j]? = some x) : i = j := by
  obtain ⟨l1, e1⟩ := List.getElem?_eq_some_iff.mp a
  obtain ⟨l2, e2⟩ := List.getElem?_eq_some_iff.mp b
  have key := List.pairwise_iff_getElem.mp nd
  rcases Nat.lt_trichotomy i j with h | h | h
  · exact absurd (e1.trans e2.symm) (key i j l1 l2 h)
  · exact h
  · exact absurd (e2.trans e1.symm) (key j i l2 l1 h)
/-! ### locked dicts -/
section
variable {C : Cx} {σ : St} {h : AH} {Q : VQ} {R : Ends} {p : Nat} {kd : Nat} {kvs : List (D × D)} {xs ys : List D}
theorem lock_at {i : Nat} {f : Nat → Nat → List (D × D) → Prop} (e : σ[i]? = some (some (.ref p))) (e2 : h p = some (.dct kd kvs)) : lockAt σ i h f = f p kd kvs := by unfold lockAt; rw [e]; dsimp only; rw [e2]
@[simp] theorem wE_lock {i : Nat} {e : E} : wE C (.lock i e) σ h Q = lockAt σ i h fun p kd kvs => wE C e σ (up h p (.rdct kd kvs)) fun d h' => Q d (up h' p (.dct kd kvs)) := by simp only [wE]
@[simp] theorem wS_lock {i : Nat} {s : S} : wS C (.lock i s) R σ h = lockAt σ i h fun p kd kvs => wS C s { nx := fun σ' h' => R.nx σ' (up h' p (.dct kd kvs)), rt := fun d h' => R.rt d (up h' p (.dct kd kvs)), bk := fun σ' h' => R.bk σ' (up h' p (.dct kd kvs)), ct := fun σ' h' => R.ct σ' (up h' p (.dct kd kvs)) } σ (up h p (.rdct kd kvs)) := by simp only [wS]
@[simp] theorem wS_lock2 {i : Nat} {s : S} : wS C (.lock2 i s) R σ h = ((lockAt σ i h fun p kd kvs => wS C s { nx := fun σ' h' => R.nx σ' (up h' p (.dct kd kvs)), rt := fun d h' => R.rt d (up h' p (.dct kd kvs)), bk := fun σ' h' => R.bk σ' (up h' p (.dct kd kvs)), ct := fun σ' h' => R.ct σ' (up h' p (.dct kd kvs)) } σ (up h p (.rdct kd kvs))) ∨ wS C s R σ h) := by simp only [wS]
theorem walk_keys {q : List D → (AH → Prop) → Prop} (e : h p = some (.rdct kd kvs)) : walk .keys [.ref p] h q = q (kvs.map (·.1)) fun _ => True := by simp only [walk, e]
theorem walk_values {q : List D → (AH → Prop) → Prop} (e : h p = some (.rdct kd kvs)) : walk .values [.ref p] h q = q (kvs.map (·.2)) fun _ => True := by simp only [walk, e]
theorem walk_items {q : List D → (AH → Prop) → Prop} (e : h p = some (.rdct kd kvs)) : walk .items [.ref p] h q = q (kvs.map fun kv => .tup [kv.1, kv.2]) fun _ => True := by simp only [walk, e]
theorem walk_revL {q : List D → (AH → Prop) → Prop} (e : h p = some (.lst xs)) : walk .rev [.ref p] h q = q xs.reverse fun h' => h' p = some (.lst xs) := by simp only [walk, e]
@[simp] theorem walk_revS {q : List D → (AH → Prop) → Prop} : walk .rev [.str s] h q = (s.length ≤ LINE ∧ q (s.map fun c => .str [c]).reverse fun _ => True) := rfl
@[simp] theorem walk_revT {q : List D → (AH → Prop) → Prop} : walk .rev [.tup xs] h q = q xs.reverse fun _ => True := rfl
@[simp] theorem walk_zip {q : List D → (AH → Prop) → Prop} : walk .zip [.tup xs, .tup ys] h q = q (zipL xs ys) fun _ => True := rfl
theorem ix_rdct {y : D} {Q : VQ} (e : h p = some (.rdct kd kvs)) : opIx (.ref p) y h Q = (keyOk kd y = true ∧ match kvGet kvs y with
    | some d => Q d h
    | none => False) := by simp only [opIx, e] <;> rfl
theorem len_dct {f : Nat → Prop} (e : h p = some (.dct kd kvs)) : lenOk (.ref p) h f = f kvs.length := by simp only [lenOk, e]
theorem len_rdct {f : Nat → Prop} (e : h p = some (.rdct kd kvs)) : lenOk (.ref p) h f = f kvs.length := by simp only [lenOk, e]
theorem mem_tup {x : D} {q : Bool → Prop} : memOk x (.tup xs) h q = (flat x = true ∧ xs.all flat = true ∧ q (xs.any fun y => decide (y = x))) := rfl
theorem mem_dcn {x : D} {q : Bool → Prop} {kvs : List (D × D)} (e : h p = some (.dcn kvs)) : memOk x (.ref p) h q = (nkOk x = true ∧ q (kvGet kvs x).isSome) := by simp only [memOk, e]
theorem ix_dcn {y : D} {Q : VQ} {kvs : List (D × D)} (e : h p = some (.dcn kvs)) : opIx (.ref p) y h Q = (nkOk y = true ∧ match kvGet kvs y with
    | some d => Q d h
    | none => False) := by simp only [opIx, e] <;> rfl
theorem set_dcn {y d : D} {q : AH → Prop} {kvs : List (D × D)} (e : h p = some (.dcn kvs)) : opSet (.ref p) y d h q = (nkOk y = true ∧ kvs.length < LINE ∧ q (up h p (.dcn (kvPut kvs y d)))) := by simp only [opSet, e]
theorem aIns_eq {c : Sx} {fs : List (Sx × D)} {f : Nat → Sx → List (Sx × D) → Prop} (e : h p = some (.ins c fs)) : aIns (.ref p) h f = f p c fs := by simp only [aIns, e]
theorem aVals_eq {kvs : List (D × D)} {f : List (D × D) → Prop} (e : h p = some (.dct 0 kvs)) : aVals (.ref p) h f = f kvs := by simp only [aVals, e]
theorem walk_zipL {r : Nat} {xs ys : List D} {q : List D → (AH → Prop) → Prop} (e1 : h p = some (.lst xs)) (e2 : h r = some (.lst ys)) : walk .zip [.ref p, .ref r] h q = q (zipL xs ys) fun h' => h' p = some (.lst xs) ∧ h' r = some (.lst ys) := by simp only [walk, e1, e2]
theorem mem_dct {x : D} {q : Bool → Prop} (e : h p = some (.dct kd kvs)) : memOk x (.ref p) h q = (keyOk kd x = true ∧ q (kvGet kvs x).isSome) := by simp only [memOk, e]
theorem mem_rdct {x : D} {q : Bool → Prop} (e : h p = some (.rdct kd kvs)) : memOk x (.ref p) h q = (keyOk kd x = true ∧ q (kvGet kvs x).isSome) := by simp only [memOk, e]
theorem aDctR_eq {f : Nat → Nat → List (D × D) → Prop} (e : h p = some (.dct kd kvs)) : aDctR (.ref p) h f = f p kd kvs := by simp only [aDctR, e]
theorem aDctR_req {f : Nat → Nat → List (D × D) → Prop} (e : h p = some (.rdct kd kvs)) : aDctR (.ref p) h f = f p kd kvs := by simp only [aDctR, e]
theorem up_lock {o o' : Ob} (e : h p = some o) : up (up h p o') p o = h := by
  funext b; simp only [up]; split
  · rename_i z; rw [z, e]
  · rfl
end
/-! ### loops turn by turn -/
def compU (ok : AH → Prop) (body : D → AH → (D → AH → Prop) → (AH → Prop) → Prop) (done : List D → AH → Prop) : Nat → List D → List D → AH → Prop
  | i, [], acc, h => (ok h ∧ acc.length ≤ i) ∧ done acc h
  | i, x :: xs, acc, h => (ok h ∧ acc.length ≤ i) ∧ body x h (fun y h' => compU ok body done (i + 1) xs (acc ++ [y]) h') (fun h' => compU ok body done (i + 1) xs acc h')
theorem compU_ok {ok : AH → Prop} {body : D → AH → (D → AH → Prop) → (AH → Prop) → Prop} {done : List D → AH → Prop} {i : Nat} {xs acc : List D} {h : AH} (q : compU ok body done i xs acc h) : ok h ∧ acc.length ≤ i := by
  cases xs <;> exact q.1
theorem comp_unroll {xs : List D} {ok : AH → Prop} {body : D → AH → (D → AH → Prop) → (AH → Prop) → Prop} {done : List D → AH → Prop} {h : AH} (hz : xs.length ≤ LINE) (q : compU ok body done 0 xs [] h) : compW xs ok body done h := by
  refine ⟨fun i acc h => compU ok body done i (xs.drop i) acc h, q, fun i acc h q => compU_ok q, hz, fun i x acc h e q => ?_, fun acc h q => ?_⟩
  · have hl := (List.getElem?_eq_some_iff.mp e).1
    have ex := (List.getElem?_eq_some_iff.mp e).2
    dsimp only at q
    rw [List.drop_eq_getElem_cons hl, ex] at q
    exact q.2
  · dsimp only at q
    rw [List.drop_length] at q
    exact q.2
def loopU (ok : AH → Prop) (body : D → St → AH → (St → AH → Prop) → Prop) (done : St → AH → Prop) : List D → St → AH → Prop
  | [], σ, h => ok h ∧ done σ h
  | x :: xs, σ, h => ok h ∧ body x σ h (fun σ' h' => loopU ok body done xs σ' h')
theorem loopU_ok {ok : AH → Prop} {body : D → St → AH → (St → AH → Prop) → Prop} {done : St → AH → Prop} {xs : List D} {σ : St} {h : AH} (q : loopU ok body done xs σ h) : ok h := by
  cases xs <;> exact q.1
theorem loop_unroll {xs : List D} {ok : AH → Prop} {body : D → St → AH → (St → AH → Prop) → Prop} {done : St → AH → Prop} {σ : St} {h : AH} (q : loopU ok body done xs σ h) : loopW xs ok body done σ h := by
  refine ⟨fun i σ h => loopU ok body done (xs.drop i) σ h, q, fun i σ h q => loopU_ok q, fun i x σ h e q => ?_, fun σ h q => ?_⟩
  · have hl := (List.getElem?_eq_some_iff.mp e).1
    have ex := (List.getElem?_eq_some_iff.mp e).2
    dsimp only at q
    rw [List.drop_eq_getElem_cons hl, ex] at q
    exact q.2
  · dsimp only at q
    rw [List.drop_length] at q
    exact q.2
theorem loopU_nil {ok : AH → Prop} {body : D → St → AH → (St → AH → Prop) → Prop} {done : St → AH → Prop} {σ : St} {h : AH} : loopU ok body done [] σ h = (ok h ∧ done σ h) := rfl
theorem loopU_cons {ok : AH → Prop} {body : D → St → AH → (St → AH → Prop) → Prop} {done : St → AH → Prop} {x : D} {xs : List D} {σ : St} {h : AH} : loopU ok body done (x :: xs) σ h = (ok h ∧ body x σ h fun σ' h' => loopU ok body done xs σ' h') := rfl
theorem compU_nil {ok : AH → Prop} {body : D → AH → (D → AH → Prop) → (AH → Prop) → Prop} {done : List D → AH → Prop} {i : Nat} {acc : List D} {h : AH} : compU ok body done i [] acc h = ((ok h ∧ acc.length ≤ i) ∧ done acc h) := rfl
theorem compU_cons {ok : AH → Prop} {body : D → AH → (D → AH → Prop) → (AH → Prop) → Prop} {done : List D → AH → Prop} {i : Nat} {x : D} {xs acc : List D} {h : AH} : compU ok body done i (x :: xs) acc h = ((ok h ∧ acc.length ≤ i) ∧ body x h (fun y h' => compU ok body done (i + 1) xs (acc ++ [y]) h') (fun h' => compU ok body done (i + 1) xs acc h')) := rfl
@[simp] theorem sl_tup {xs : List D} {lo hi : Option Int} {h : AH} {Q : VQ} : opSl (.tup xs) lo hi h Q = (¬ (clip xs.length 0 lo = 0 ∧ clip xs.length xs.length hi = xs.length) ∧ Q (.tup (cut xs lo hi)) h) := rfl
theorem cut_1 {x : D} {xs : List D} : cut (x :: xs) (some 1) none = xs := by simp [cut, clip]
theorem cut_h1 {x : D} {xs : List D} : cut (x :: xs) none (some 1) = [x] := by simp [cut, clip]
/-- a comprehension that makes one item of each, and no more than new objects -/
theorem compU_go {body : D → AH → (D → AH → Prop) → (AH → Prop) → Prop} {done : List D → AH → Prop} {h0 : AH} (R : D → D → Prop) (hb : ∀ d e h2 yes no, Ext h0 h2 → R d e → (∀ h', Ext h2 h' → yes e h') → body d h2 yes no) :
    ∀ (ds es : List D) (i : Nat) (acc : List D) (h : AH), All2 R ds es → acc.length ≤ i → Ext h0 h → (∀ h', Ext h0 h' → done (acc ++ es) h') → compU (fun _ => True) body done i ds acc h
  | [], [], i, acc, h, _, l, x, k => ⟨⟨trivial, l⟩, by simpa using k h x⟩
  | [], _ :: _, _, _, _, q, _, _, _ => q.elim
  | _ :: _, [], _, _, _, q, _, _, _ => q.elim
  | d :: ds, e :: es, i, acc, h, ⟨q1, q2⟩, l, x, k => ⟨⟨trivial, l⟩, hb d e h _ _ x q1 fun h' x' => compU_go R hb ds es (i + 1) (acc ++ [e]) h' q2 (by simp; omega) (x.trans x') fun h2 x2 => by simpa using k h2 x2⟩
theorem All2.len {R : D → D → Prop} : ∀ {ds es : List D}, All2 R ds es → ds.length = es.length
  | [], [], _ => rfl
  | [], _ :: _, q => q.elim
  | _ :: _, [], q => q.elim
  | _ :: _, _ :: _, ⟨_, q⟩ => by simp [All2.len q]
/-! ### dicts of distinct keys -/
theorem kvPut_new {k v : D} {kvs : List (D × D)} (h : ∀ kv, kv ∈ kvs → kv.1 ≠ k) : kvPut kvs k v = kvs ++ [(k, v)] := by
  unfold kvPut
  rw [if_neg]
  intro z
  obtain ⟨kv, hm, e⟩ := List.any_eq_true.mp z
  exact h kv hm (of_decide_eq_true e)
theorem mergeL_new : ∀ {more acc : List (D × D)}, ((acc ++ more).map (·.1)).Nodup → mergeL acc more = acc ++ more
  | [], acc, _ => by simp [mergeL]
  | (k, v) :: more, acc, nd => by
    have h1 : ∀ kv, kv ∈ acc → kv.1 ≠ k := fun kv hm e => by
      rw [List.map_append, List.nodup_append] at nd
      exact nd.2.2 kv.1 (List.mem_map_of_mem hm) k (by simp) e
    show mergeL (kvPut acc k v) more = _
    rw [kvPut_new h1, mergeL_new (by simpa using nd)]
    simp
theorem kvGet_mem {kvs : List (D × D)} (nd : (kvs.map (·.1)).Nodup) {k v : D} (hm : (k, v) ∈ kvs) : kvGet kvs k = some v := by
  induction kvs with
  | nil => cases hm
  | cons kv r ih =>
    obtain ⟨k', v'⟩ := kv
    rw [kvGet_cons]
    rw [List.map_cons, List.nodup_cons] at nd
    rcases List.mem_cons.mp hm with e | hm
    · cases e; simp
    · rw [if_neg (fun z => nd.1 (by rw [z]; exact List.mem_map.mpr ⟨(k, v), hm, rfl⟩))]
      exact ih nd.2 hm
theorem loopU_go {ok : AH → Prop} {body : D → St → AH → (St → AH → Prop) → Prop} {done : St → AH → Prop} (I : List D → St → AH → Prop) (hok : ∀ xs σ h, I xs σ h → ok h) (hs : ∀ x xs σ h, I (x :: xs) σ h → body x σ h (fun σ' h' => loopU ok body done xs σ' h')) (hd : ∀ σ h, I [] σ h → done σ h) : ∀ {xs : List D} {σ : St} {h : AH}, I xs σ h → loopU ok body done xs σ h
  | [], σ, h, q => ⟨hok _ _ _ q, hd _ _ q⟩
  | x :: xs, σ, h, q => ⟨hok _ _ _ q, hs _ _ _ _ q⟩
theorem erase_map {α β : Type} (f : α → β) : ∀ (l : List α) (i : Nat), (l.map f).eraseIdx i = (l.eraseIdx i).map f
  | [], _ => rfl
  | _ :: _, 0 => rfl
  | x :: l, i + 1 => by
    show f x :: (l.map f).eraseIdx i = f x :: (l.eraseIdx i).map f
    rw [erase_map f l i]
theorem erase_perm {α : Type} : ∀ (l : List α) (i : Nat) (h : i < l.length), (l[i] :: l.eraseIdx i).Perm l
  | [], i, h => absurd h (Nat.not_lt_zero i)
  | x :: l, 0, h => .refl _
  | x :: l, i + 1, h => by
    have ih := erase_perm l i (Nat.lt_of_succ_lt_succ h)
    exact (List.Perm.swap x (l[i]'(Nat.lt_of_succ_lt_succ h)) (l.eraseIdx i)).trans (List.Perm.cons x ih)
theorem mul_ref {p : Nat} {k : Int} {h : AH} {Q : VQ} : opMul (.ref p) (.int k) h Q = ∃ xs, h p = some (.lst xs) ∧ -(2 ^ 63) ≤ k ∧ k < 2 ^ 63 ∧ xs.length * k.toNat ≤ LINE ∧ ∀ r, h r = none → Q (.ref r) (up h r (.lst (List.replicate k.toNat xs).flatten)) := rfl
/-! ### plain data; books that are the same -/
theorem pureDs_of : ∀ {ds : List D}, (∀ d, d ∈ ds → pureD d = true) → pureDs ds = true
  | [], _ => by simp [pureDs]
  | d :: ds, a => by
    have ih := pureDs_of (ds := ds) fun x hx => a x (List.mem_cons_of_mem _ hx)
    simp [pureDs, a d (by simp), ih]
theorem plains_of {n : Nat} : ∀ {ds : List D}, (∀ d, d ∈ ds → plain n d = true) → plains n ds = true
  | [], _ => by simp [plains]
  | d :: ds, a => by
    have ih := plains_of (n := n) (ds := ds) fun x hx => a x (List.mem_cons_of_mem _ hx)
    simp [plains, a d (by simp), ih]
mutual
theorem plain_mono : ∀ {n m : Nat} {d : D}, n ≤ m → plain n d = true → plain m d = true
  | _, _, .non, _, _ => by simp [plain]
  | _, _, .int _, _, _ => by simp [plain]
  | _, _, .str _, _, _ => by simp [plain]
  | 0, _, .tup _, _, p => by simp [plain] at p
  | n + 1, 0, .tup _, l, _ => by omega
  | n + 1, m + 1, .tup ds, l, p => by simp only [plain] at p ⊢; exact plains_mono (by omega) p
  | _, _, .bl _, _, p => by simp [plain] at p
  | _, _, .ref _, _, p => by simp [plain] at p
  | _, _, .rol _, _, p => by simp [plain] at p
theorem plains_mono : ∀ {n m : Nat} {ds : List D}, n ≤ m → plains n ds = true → plains m ds = true
  | _, _, [], _, _ => by simp [plains]
  | n, m, d :: ds, l, p => by
    simp only [plains, Bool.and_eq_true] at p ⊢
    exact ⟨plain_mono l p.1, plains_mono l p.2⟩
end
def PP (n : Nat) (d : D) : Prop := pureD d = true ∧ plain n d = true
theorem PP.mono {n m : Nat} {d : D} (l : n ≤ m) (p : PP n d) : PP m d := ⟨p.1, plain_mono l p.2⟩
theorem PP.tup {n : Nat} {ds : List D} (a : ∀ d, d ∈ ds → PP n d) : PP (n + 1) (.tup ds) := ⟨by simp only [pureD]; exact pureDs_of fun d hd => (a d hd).1, by simp only [plain]; exact plains_of fun d hd => (a d hd).2⟩
theorem PP.str {n : Nat} {s : Sx} : PP n (.str s) := ⟨by simp [pureD], by simp [plain]⟩
theorem PP.int {n : Nat} {s : Int} : PP n (.int s) := ⟨by simp [pureD], by simp [plain]⟩
theorem hits_same {R : D → D → Bool → Prop} {kws : List (D × D)} : ∀ {sub : List (D × D)}, (∀ kv, kv ∈ sub → kvGet kws kv.1 = some kv.2 ∧ R kv.2 kv.2 true) → HitsD R kws sub true
  | [], _ => rfl
  | kv :: sub, a => .inr ⟨kv.2, true, true, (a kv (by simp)).1, (a kv (by simp)).2, hits_same fun x hx => a x (by simp [hx]), rfl⟩
theorem dct_same {p q : Nat} {h : AH} {kvs : List (D × D)} {n : Nat} (ne : p ≠ q) (e1 : h p = some (.dct 0 kvs)) (e2 : h q = some (.dct 0 kvs)) (nd : (kvs.map (·.1)).Nodup) (al : ∀ kv, kv ∈ kvs → PP (170 + n) kv.2) : EqD (n + 2) h (.ref p) (.ref q) true := by
  refine .inr (.inr (.inr (.inr ⟨p, q, kvs, kvs, true, rfl, rfl, ne, e1, e2, fun _ => hits_same fun kv hkv => ⟨kvGet_mem nd hkv, ?_⟩, by simp⟩)))
  exact .inl ⟨(al kv hkv).1, (al kv hkv).1, .inl (al kv hkv).2, by simp⟩
theorem cut_some {α : Type} {xs : List α} {v : Int} (h : 0 ≤ v) (g : v ≤ xs.length) : cut xs (some v) none = xs.drop v.toNat := by
  have : ¬ v < 0 := by omega
  simp [cut, clip, this]
  rw [List.take_of_length_le (by simp <;> omega)]
  congr 1
  omega
end M
namespace M
/-! ### sorted -/
theorem sorted_uniq : ∀ {ys zs : List D}, ys.Pairwise (fun a b => ltD b a = false) → zs.Pairwise (fun a b => ltD b a = false) → ys.Perm zs → ys = zs
  | [], zs, _, _, p => (List.nil_perm.mp p).symm ▸ rfl
  | y :: ys, [], _, _, p => (List.cons_ne_nil _ _ (List.perm_nil.mp p)).elim
  | y :: ys, z :: zs, h1, h2, p => by
    obtain ⟨a1, a2⟩ := List.pairwise_cons.mp h1
    obtain ⟨b1, b2⟩ := List.pairwise_cons.mp h2
    have e : y = z := Classical.byContradiction fun ne => by
      have m1 : y ∈ zs := (List.mem_cons.mp (p.mem_iff.mp List.mem_cons_self)).resolve_left ne
      have m2 : z ∈ ys := (List.mem_cons.mp (p.mem_iff.mpr List.mem_cons_self)).resolve_left (fun w => ne w.symm)
      exact ne (ltD_tot y z (b1 y m1) (a1 z m2))
    subst e
    rw [sorted_uniq a2 b2 (List.Perm.cons_inv p)]
theorem perm_of_sub {α : Type} : ∀ {xs ys : List α}, xs.Nodup → (∀ x ∈ xs, x ∈ ys) → ys.length ≤ xs.length → xs.Perm ys
  | [], ys, _, _, l => by
    cases ys with
    | nil => exact .refl _
    | cons y ys => simp at l
  | x :: xs, ys, nd, s, l => by
    rw [List.nodup_cons] at nd
    obtain ⟨as, bs, e⟩ := List.append_of_mem (s x List.mem_cons_self)
    subst e
    have ih : xs.Perm (as ++ bs) := perm_of_sub nd.2 (fun y hy => by
      have := s y (List.mem_cons_of_mem _ hy)
      rcases List.mem_append.mp this with h | h
      · exact List.mem_append_left _ h
      · rcases List.mem_cons.mp h with h | h
        · subst h; exact absurd hy nd.1
        · exact List.mem_append_right _ h) (by simp at l ⊢; omega)
    exact (List.Perm.cons x ih).trans List.perm_middle.symm
theorem mem_lst' {p : Nat} {h : AH} {x : D} {xs : List D} {q : Bool → Prop} (e : h p = some (.lst xs)) : memOk x (.ref p) h q = (pureD x = true ∧ pureDs xs = true ∧ (plain 190 x = true ∨ plains 190 xs = true) ∧ q (xs.any fun y => decide (y = x))) := by simp only [memOk, e]
end M
end
section
/-! The IR of the defs of a linked text: printed by gen.py. -/
namespace K15
open M
abbrev s_NoRules : Sx := [78, 111, 82, 117, 108, 101, 115]
abbrev s_NoText : Sx := [78, 111, 84, 101, 120, 116]
abbrev s_NoWay : Sx := [78, 111, 87, 97, 121]
abbrev s_PairError : Sx := [80, 97, 105, 114, 69, 114, 114, 111, 114]
abbrev s_ValueError : Sx := [86, 97, 108, 117, 101, 69, 114, 114, 111, 114]
abbrev s___init__ : Sx := [95, 95, 105, 110, 105, 116, 95, 95]
abbrev s__law_comes : Sx := [95, 108, 97, 119, 95, 99, 111, 109, 101, 115]
abbrev s__law_deck : Sx := [95, 108, 97, 119, 95, 100, 101, 99, 107]
abbrev s__law_due : Sx := [95, 108, 97, 119, 95, 100, 117, 101]
abbrev s__law_errors : Sx := [95, 108, 97, 119, 95, 101, 114, 114, 111, 114, 115]
abbrev s__law_in : Sx := [95, 108, 97, 119, 95, 105, 110]
abbrev s__law_kind : Sx := [95, 108, 97, 119, 95, 107, 105, 110, 100]
abbrev s__law_next : Sx := [95, 108, 97, 119, 95, 110, 101, 120, 116]
abbrev s__law_texts : Sx := [95, 108, 97, 119, 95, 116, 101, 120, 116, 115]
abbrev s__law_told : Sx := [95, 108, 97, 119, 95, 116, 111, 108, 100]
abbrev s__law_word : Sx := [95, 108, 97, 119, 95, 119, 111, 114, 100]
abbrev s_abcdefghi : Sx := [97, 98, 99, 100, 101, 102, 103, 104, 105]
abbrev s_abcdefghijklmnopqrstuvwxyz : Sx := [97, 98, 99, 100, 101, 102, 103, 104, 105, 106, 107, 108, 109, 110, 111, 112, 113, 114, 115, 116, 117, 118, 119, 120, 121, 122]
abbrev s_comes_to_itself : Sx := [99, 111, 109, 101, 115, 95, 116, 111, 95, 105, 116, 115, 101, 108, 102]
abbrev s_emp : Sx := []
abbrev s_law : Sx := [108, 97, 119]
abbrev s_look_rules : Sx := [108, 111, 111, 107, 95, 114, 117, 108, 101, 115]
abbrev s_name : Sx := [110, 97, 109, 101]
abbrev s_node : Sx := [110, 111, 100, 101]
abbrev s_none : Sx := [110, 111, 110, 101]
abbrev s_odd : Sx := [111, 100, 100]
abbrev s_one : Sx := [111, 110, 101]
abbrev s_pair : Sx := [112, 97, 105, 114]
abbrev s_refused : Sx := [114, 101, 102, 117, 115, 101, 100]
abbrev s_ring : Sx := [114, 105, 110, 103]
abbrev s_row : Sx := [114, 111, 119]
abbrev s_rule : Sx := [114, 117, 108, 101]
abbrev s_rules_in : Sx := [114, 117, 108, 101, 115, 95, 105, 110]
abbrev s_sum : Sx := [115, 117, 109]
abbrev s_thing : Sx := [116, 104, 105, 110, 103]
abbrev s_way : Sx := [119, 97, 121]
abbrev s_why : Sx := [119, 104, 121]
abbrev s_x4e6f52756c65732e5f5f696e : Sx := [78, 111, 82, 117, 108, 101, 115, 46, 95, 95, 105, 110, 105, 116, 95, 95]
abbrev s_x4e6f546578742e5f5f696e69 : Sx := [78, 111, 84, 101, 120, 116, 46, 95, 95, 105, 110, 105, 116, 95, 95]
abbrev s_x4e6f5761792e5f5f696e6974 : Sx := [78, 111, 87, 97, 121, 46, 95, 95, 105, 110, 105, 116, 95, 95]
abbrev s_x6c6574206279 : Sx := [108, 101, 116, 32, 98, 121]
def fd_NoRules___init__ : FD := ⟨2, 2, .cons (.bad) (.cons (.bad) .nil)⟩
def fd_NoWay___init__ : FD := ⟨4, 4, .cons (.bad) (.cons (.bad) (.cons (.bad) (.cons (.bad) .nil)))⟩
def fd_NoText___init__ : FD := ⟨2, 2, .cons (.bad) (.cons (.bad) .nil)⟩
def b5_rules_in : Ss := .cons (.ret (.var 2)) .nil
def b4_rules_in : Ss := .cons (.ex (.mth .extendT (.var 3) (.cons (.sl (.var 4) (.cons (.int 1) .nil) .nil) .nil))) .nil
def b3_rules_in : Ss := .cons (.ife (.bop false (.cons (.cmp .eq (.ix (.var 4) (.int 0)) (.str s_sum)) (.cons (.cmp .eq (.ix (.var 4) (.int 0)) (.str s_pair)) (.cons (.bop true (.cons (.cmp .eq (.ix (.var 4) (.int 0)) (.str s_node)) (.cons (.not (.var 1)) .nil))) .nil)))) b4_rules_in .nil) .nil
def b2_rules_in : Ss := .cons (.ex (.mth .append (.var 2) (.cons (.ix (.var 4) (.int 1)) .nil))) .nil
def b1_rules_in : Ss := .cons (.asg (.nm 4) (.mth .pop (.var 3) .nil)) (.cons (.ife (.cmp .eq (.ix (.var 4) (.int 0)) (.str s_rule)) b2_rules_in b3_rules_in) .nil)
def b0_rules_in : Ss := .cons (.asg (.nm 2) (.lst .nil)) (.cons (.asg (.nm 3) (.lst (.cons (.var 0) .nil))) (.cons (.whl (.cmp .gt (.blt .len (.cons (.var 3) .nil)) (.int 0)) b1_rules_in) b5_rules_in))
def fd_rules_in : FD := ⟨2, 5, b0_rules_in⟩  -- 0:kind 1:bare 2:found 3:todo 4:one
def b5_comes_to_itself : Ss := .cons (.ret (.bl false)) .nil
def b4_comes_to_itself : Ss := .cons (.six (.var 2) (.var 4) (.bl true)) (.cons (.ex (.mth .extend (.var 3) (.cons (.call s_rules_in (.cons (.ix (.var 0) (.var 4)) (.cons (.bl true) .nil))) .nil))) .nil)
def b3_comes_to_itself : Ss := .cons (.ife (.cmp .notin (.var 4) (.var 2)) b4_comes_to_itself .nil) .nil
def b2_comes_to_itself : Ss := .cons (.ret (.bl true)) .nil
def b1_comes_to_itself : Ss := .cons (.asg (.nm 4) (.mth .pop (.var 3) .nil)) (.cons (.ife (.cmp .eq (.var 4) (.var 1)) b2_comes_to_itself .nil) b3_comes_to_itself)
def b0_comes_to_itself : Ss := .cons (.asg (.nm 2) (.dct 0 .nil)) (.cons (.asg (.nm 3) (.call s_rules_in (.cons (.ix (.var 0) (.var 1)) (.cons (.bl true) .nil)))) (.cons (.whl (.cmp .gt (.blt .len (.cons (.var 3) .nil)) (.int 0)) b1_comes_to_itself) b5_comes_to_itself))
def fd_comes_to_itself : FD := ⟨2, 5, b0_comes_to_itself⟩  -- 0:rules 1:start 2:met 3:todo 4:rule
def b6_look_rules : Ss := .cons (.raise s_NoRules [s_rule] (.cons (.var 1) .nil)) .nil
def b5_look_rules : Ss := .cons (.ife (.call s_comes_to_itself (.cons (.var 0) (.cons (.var 1) .nil))) b6_look_rules .nil) .nil
def b4_look_rules : Ss := .cons (.for_ (.nm 1) .seq (.cons (.blt .sortd (.cons (.var 0) .nil)) .nil) b5_look_rules) .nil
def b3_look_rules : Ss := .cons (.raise s_NoRules [s_rule] (.cons (.var 1) .nil)) .nil
def b2_look_rules : Ss := .cons (.ife (.cmp .notin (.var 2) (.var 0)) b3_look_rules .nil) .nil
def b1_look_rules : Ss := .cons (.for_ (.nm 2) .seq (.cons (.call s_rules_in (.cons (.ix (.var 0) (.var 1)) (.cons (.bl false) .nil))) .nil) b2_look_rules) .nil
def b0_look_rules : Ss := .cons (.for_ (.nm 1) .seq (.cons (.blt .sortd (.cons (.var 0) .nil)) .nil) b1_look_rules) b4_look_rules
def fd_look_rules : FD := ⟨1, 3, b0_look_rules⟩  -- 0:rules 1:rule 2:other
def b10_law_deck : Ss := .cons (.ret (.var 1)) .nil
def b9_law_deck : Ss := .cons (.asg (.nm 4) (.bin .mod (.bin .add (.bin .add (.bin .mul (.var 3) (.int 48271)) (.bin .mul (.int 7919) (.var 2))) (.int 13)) (.int 2147483629))) (.cons (.asg (.nm 4) (.bin .mod (.bin .add (.bin .mul (.var 4) (.bin .add (.bin .fdiv (.var 4) (.int 5)) (.var 2))) (.bin .mul (.int 16807) (.var 2))) (.int 2147483587))) (.cons (.ex (.mth .append (.var 1) (.cons (.bin .mod (.bin .add (.bin .mul (.var 4) (.int 69621)) (.bin .fdiv (.var 4) (.int 127))) (.int 2147483647)) .nil))) .nil))
def b8_law_deck : Ss := .cons (.asg (.nm 3) (.bin .mod (.ix (.var 0) (.bin .mod (.var 2) (.blt .min2 (.cons (.int 63) (.cons (.blt .len (.cons (.var 0) .nil)) .nil))))) (.int 2147483629))) .nil
def b7_law_deck : Ss := .cons (.asg (.nm 3) (.bin .mul (.int 3) (.var 2))) (.cons (.ife (.cmp .gt (.blt .len (.cons (.var 0) .nil)) (.int 0)) b8_law_deck .nil) b9_law_deck)
def b6_law_deck : Ss := .cons (.for_ (.nm 2) .rng (.cons (.blt .len (.cons (.var 1) .nil)) (.cons (.int 60) .nil)) b7_law_deck) b10_law_deck
def b5_law_deck : Ss := .cons (.asg (.nm 1) (.sl (.var 1) .nil (.cons (.int 500) .nil))) .nil
def b4_law_deck : Ss := .cons (.ex (.mth .append (.var 1) (.cons (.bin .mod (.var 4) (.int 2147483647)) .nil))) (.cons (.asg (.nm 4) (.bin .fdiv (.var 4) (.int 2147483647))) .nil)
def b3_law_deck : Ss := .cons (.ife (.bop false (.cons (.cmp .eq (.var 2) (.int 0)) (.cons (.cmp .gt (.var 4) (.int 0)) .nil))) b4_law_deck .nil) .nil
def b2_law_deck : Ss := .cons (.asg (.nm 4) (.bin .mod (.var 3) (.bin .pow (.int 2147483647) (.int 60)))) (.cons (.for_ (.nm 2) .rng (.cons (.int 60) .nil) b3_law_deck) .nil)
def b1_law_deck : Ss := .cons (.for_ (.nm 3) .seq (.cons (.sl (.var 0) (.cons (.int 1) .nil) (.cons (.int 63) .nil)) .nil) b2_law_deck) b5_law_deck
def b0_law_deck : Ss := .cons (.asg (.nm 1) (.lst .nil)) (.cons (.ife (.bop true (.cons (.cmp .gt (.blt .len (.cons (.var 0) .nil)) (.int 1)) (.cons (.cmp .eq (.bin .mod (.ix (.var 0) (.int 0)) (.int 2)) (.int 1)) .nil))) b1_law_deck .nil) b6_law_deck)
def fd_law_deck : FD := ⟨1, 5, b0_law_deck⟩  -- 0:script 1:deck 2:k 3:cell 4:number
def b2_law_next : Ss := .cons (.asg (.nm 2) (.bin .mod (.bin .add (.bin .mul (.ix (.var 0) (.int 0)) (.int 48271)) (.int 7919)) (.int 2147483629))) (.cons (.six (.var 0) (.int 0) (.bin .mod (.bin .mul (.var 2) (.bin .add (.bin .fdiv (.var 2) (.int 5)) (.int 11))) (.int 2147483587))) (.cons (.ret (.bin .mod (.bin .mod (.bin .add (.bin .mul (.ix (.var 0) (.int 0)) (.int 69621)) (.bin .fdiv (.ix (.var 0) (.int 0)) (.int 127))) (.int 2147483647)) (.var 1))) .nil))
def b1_law_next : Ss := .cons (.ret (.bin .mod (.mth .popAt (.var 0) (.cons (.int 0) .nil)) (.var 1))) .nil
def b0_law_next : Ss := .cons (.ife (.cmp .gt (.blt .len (.cons (.var 0) .nil)) (.int 1)) b1_law_next .nil) b2_law_next
def fd_law_next : FD := ⟨2, 3, b0_law_next⟩  -- 0:deck 1:many 2:number
def b0_law_word : Ss := .cons (.asg (.nm 1) (.str s_abcdefghijklmnopqrstuvwxyz)) (.cons (.ret (.mth .join (.str s_emp) (.cons (.lc (.ix (.var 1) (.call s__law_next (.cons (.var 0) (.cons (.int 26) .nil)))) (.nm 2) [2] .rng (.cons (.bin .add (.int 1) (.call s__law_next (.cons (.var 0) (.cons (.int 8) .nil)))) .nil) .nil) .nil))) .nil)
def fd_law_word : FD := ⟨1, 3, b0_law_word⟩  -- 0:deck 1:letters 2:k
def b5_law_texts : Ss := .cons (.ret (.var 2)) .nil
def b4_law_texts : Ss := .cons (.ex (.mth .append (.var 2) (.cons (.var 4) .nil))) .nil
def b3_law_texts : Ss := .cons (.asg (.nm 4) (.bin .add (.sl (.var 4) .nil (.cons (.int 7) .nil)) (.var 5))) .nil
def b2_law_texts : Ss := .cons (.ife (.cmp .isin (.var 4) (.var 2)) b3_law_texts .nil) .nil
def b1_law_texts : Ss := .cons (.asg (.nm 4) (.call s__law_word (.cons (.var 0) .nil))) (.cons (.for_ (.nm 5) .seq (.cons (.str s_abcdefghi) .nil) b2_law_texts) b4_law_texts)
def b0_law_texts : Ss := .cons (.asg (.nm 2) (.lst .nil)) (.cons (.for_ (.nm 3) .rng (.cons (.var 1) .nil) b1_law_texts) b5_law_texts)
def fd_law_texts : FD := ⟨2, 6, b0_law_texts⟩  -- 0:deck 1:many 2:found 3:k 4:word 5:letter
def b8_law_kind : Ss := .cons (.ret (.tup (.cons (.var 5) .nil))) .nil
def b7_law_kind : Ss := .cons (.asg (.nm 6) (.call s__law_kind (.cons (.var 0) (.cons (.bin .sub (.var 1) (.int 1)) (.cons (.var 2) (.cons (.var 3) .nil)))))) (.cons (.ret (.tup (.cons (.var 5) (.cons (.var 6) (.cons (.call s__law_kind (.cons (.var 0) (.cons (.bin .sub (.var 1) (.int 1)) (.cons (.var 2) (.cons (.var 3) .nil))))) .nil))))) .nil)
def b6_law_kind : Ss := .cons (.ife (.bop false (.cons (.cmp .eq (.var 5) (.str s_sum)) (.cons (.cmp .eq (.var 5) (.str s_pair)) .nil))) b7_law_kind .nil) b8_law_kind
def b5_law_kind : Ss := .cons (.ret (.tup (.cons (.str s_node) (.cons (.call s__law_kind (.cons (.var 0) (.cons (.bin .sub (.var 1) (.int 1)) (.cons (.var 2) (.cons (.var 2) .nil))))) .nil)))) .nil
def b4_law_kind : Ss := .cons (.ife (.cmp .eq (.var 5) (.str s_node)) b5_law_kind .nil) b6_law_kind
def b3_law_kind : Ss := .cons (.ret (.tup (.cons (.str s_rule) (.cons (.ix (.var 3) (.call s__law_next (.cons (.var 0) (.cons (.blt .len (.cons (.var 3) .nil)) .nil)))) .nil)))) .nil
def b2_law_kind : Ss := .cons (.ife (.cmp .eq (.var 5) (.str s_rule)) b3_law_kind .nil) b4_law_kind
def b1_law_kind : Ss := .cons (.asg (.nm 5) (.str s_one)) .nil
def b0_law_kind : Ss := .cons (.asg (.nm 4) (.lst (.cons (.str s_one) (.cons (.str s_name) (.cons (.str s_rule) (.cons (.str s_none) (.cons (.str s_node) (.cons (.str s_sum) (.cons (.str s_pair) (.cons (.str s_sum) (.cons (.str s_pair) .nil))))))))))) (.cons (.asg (.nm 5) (.ix (.var 4) (.call s__law_next (.cons (.var 0) (.cons (.bin .add (.int 4) (.bin .mul (.int 5) (.blt .int1 (.cons (.cmp .gt (.var 1) (.int 0)) .nil)))) .nil))))) (.cons (.ife (.bop true (.cons (.cmp .eq (.var 5) (.str s_rule)) (.cons (.cmp .eq (.blt .len (.cons (.var 3) .nil)) (.int 0)) .nil))) b1_law_kind .nil) b2_law_kind))
def fd_law_kind : FD := ⟨4, 7, b0_law_kind⟩  -- 0:deck 1:deep 2:texts 3:ahead 4:some 5:way 6:one
def b6_law_in : Ss := .cons (.ret (.var 2)) .nil
def b5_law_in : Ss := .cons (.asg (.nm 2) (.bin .add (.var 2) (.call s__law_in (.cons (.var 3) (.cons (.var 1) .nil))))) .nil
def b4_law_in : Ss := .cons (.asg (.nm 2) (.lst .nil)) (.cons (.for_ (.nm 3) .seq (.cons (.sl (.var 0) (.cons (.int 1) .nil) .nil) .nil) b5_law_in) b6_law_in)
def b3_law_in : Ss := .cons (.ret (.lst .nil)) .nil
def b2_law_in : Ss := .cons (.ife (.bop false (.cons (.cmp .eq (.blt .len (.cons (.var 0) .nil)) (.int 1)) (.cons (.bop true (.cons (.var 1) (.cons (.cmp .eq (.ix (.var 0) (.int 0)) (.str s_node)) .nil))) .nil))) b3_law_in .nil) b4_law_in
def b1_law_in : Ss := .cons (.ret (.lst (.cons (.ix (.var 0) (.int 1)) .nil))) .nil
def b0_law_in : Ss := .cons (.ife (.cmp .eq (.ix (.var 0) (.int 0)) (.str s_rule)) b1_law_in .nil) b2_law_in
def fd_law_in : FD := ⟨2, 4, b0_law_in⟩  -- 0:kind 1:ahead 2:found 3:part
def b3_law_comes : Ss := .cons (.ret (.cmp .isin (.var 1) (.var 2))) .nil
def b2_law_comes : Ss := .cons (.six (.var 2) (.var 4) (.bl true)) (.cons (.ex (.mth .extend (.var 3) (.cons (.call s__law_in (.cons (.ix (.var 0) (.var 4)) (.cons (.bl true) .nil))) .nil))) .nil)
def b1_law_comes : Ss := .cons (.asg (.nm 4) (.mth .pop (.var 3) .nil)) (.cons (.ife (.cmp .notin (.var 4) (.var 2)) b2_law_comes .nil) .nil)
def b0_law_comes : Ss := .cons (.asg (.nm 2) (.dct 0 .nil)) (.cons (.asg (.nm 3) (.call s__law_in (.cons (.ix (.var 0) (.var 1)) (.cons (.bl true) .nil)))) (.cons (.whl (.cmp .gt (.blt .len (.cons (.var 3) .nil)) (.int 0)) b1_law_comes) b3_law_comes))
def fd_law_comes : FD := ⟨2, 5, b0_law_comes⟩  -- 0:rules 1:start 2:seen 3:todo 4:one
def b6_law_due : Ss := .cons (.ret (.non)) .nil
def b5_law_due : Ss := .cons (.ret (.var 1)) .nil
def b4_law_due : Ss := .cons (.ife (.call s__law_comes (.cons (.var 0) (.cons (.var 1) .nil))) b5_law_due .nil) .nil
def b3_law_due : Ss := .cons (.for_ (.nm 1) .seq (.cons (.blt .sortd (.cons (.var 0) .nil)) .nil) b4_law_due) b6_law_due
def b2_law_due : Ss := .cons (.ret (.var 1)) .nil
def b1_law_due : Ss := .cons (.ife (.blt .any (.cons (.lc (.cmp .notin (.var 2) (.var 0)) (.nm 2) [2] .seq (.cons (.call s__law_in (.cons (.ix (.var 0) (.var 1)) (.cons (.bl false) .nil))) .nil) .nil) .nil)) b2_law_due .nil) .nil
def b0_law_due : Ss := .cons (.for_ (.nm 1) .seq (.cons (.blt .sortd (.cons (.var 0) .nil)) .nil) b1_law_due) b3_law_due
def fd_law_due : FD := ⟨1, 3, b0_law_due⟩  -- 0:rules 1:rule 2:one
def b7_law_told : Ss := .cons (.ret (.tup (.cons (.str s_refused) (.cons (.fldx (.var 1) s_rule) .nil)))) .nil
def b6_law_told : Ss := .cons (.ret (.tup (.cons (.str s_odd) (.cons (.non) .nil)))) .nil
def b5_law_told : Ss := .cons (.asg (.nm 4) (.bop true (.cons (.isx (.var 1) s_NoRules [s_NoRules] [s_NoRules, s_NoWay, s_NoText]) (.cons (.isx (.var 1) s_ValueError [s_NoRules, s_NoWay, s_NoText] [s_NoRules, s_NoWay, s_NoText]) .nil)))) (.cons (.ife (.bop false (.cons (.not (.var 4)) (.cons (.isx (.var 1) s_NoText [s_NoText] [s_NoRules, s_NoWay, s_NoText]) (.cons (.isx (.var 1) s_NoWay [s_NoWay] [s_NoRules, s_NoWay, s_NoText]) .nil)))) b6_law_told .nil) b7_law_told)
def b4_law_told : Ss := .cons (.ret (.tup (.cons (.str s_x6c6574206279) (.cons (.var 2) .nil)))) .nil
def b3_law_told : Ss := .cons (.ife (.cmp .is_ (.var 1) (.non)) b4_law_told .nil) b5_law_told
def b2_law_told : Ss := .cons (.asg (.nm 1) (.var 3)) .nil
def b1_law_told : Ss := .cons (.asg (.nm 2) (.call s_look_rules (.cons (.var 0) .nil))) .nil
def b0_law_told : Ss := .cons (.asg (.nm 1) (.non)) (.cons (.asg (.nm 2) (.non)) (.cons (.tryx b1_law_told s_PairError [s_NoRules, s_NoWay, s_NoText] [s_NoRules, s_NoWay, s_NoText] 3 b2_law_told) b3_law_told))
def fd_law_told : FD := ⟨1, 5, b0_law_told⟩  -- 0:rules 1:caught 2:found 3:e 4:good
def b5_law_errors : Ss := .cons (.ret (.cmp .eq (.fldx (.ix (.var 3) (.int 2)) s_row) (.var 1))) .nil
def b4_law_errors : Ss := .cons (.ret (.bl false)) .nil
def b3_law_errors : Ss := .cons (.ife (.bop false (.cons (.cmp .ne (.fldx (.ix (.var 3) (.int 0)) s_rule) (.var 2)) (.cons (.cmp .ne (.tup (.cons (.fldx (.ix (.var 3) (.int 1)) s_way) (.cons (.fldx (.ix (.var 3) (.int 1)) s_why) (.cons (.fldx (.ix (.var 3) (.int 1)) s_thing) .nil)))) (.tup (.cons (.var 2) (.cons (.str s_ring) (.cons (.tup (.cons (.var 1) .nil)) .nil))))) .nil))) b4_law_errors .nil) b5_law_errors
def b2_law_errors : Ss := .cons (.ret (.bl false)) .nil
def b1_law_errors : Ss := .cons (.asg (.nm 6) (.lst (.cons (.isx (.var 5) s_NoRules [s_NoRules] [s_NoRules, s_NoWay, s_NoText]) (.cons (.isx (.var 5) s_NoWay [s_NoWay] [s_NoRules, s_NoWay, s_NoText]) (.cons (.isx (.var 5) s_NoText [s_NoText] [s_NoRules, s_NoWay, s_NoText]) .nil))))) (.cons (.ife (.bop false (.cons (.cmp .neb (.var 6) (.lc (.cmp .eq (.var 7) (.var 4)) (.nm 7) [7] .rng (.cons (.int 3) .nil) .nil)) (.cons (.not (.isx (.var 5) s_PairError [s_NoRules, s_NoWay, s_NoText] [s_NoRules, s_NoWay, s_NoText])) .nil))) b2_law_errors .nil) .nil)
def b0_law_errors : Ss := .cons (.asg (.nm 1) (.call s__law_next (.cons (.var 0) (.cons (.bin .pow (.int 10) (.int 9)) .nil)))) (.cons (.asg (.nm 2) (.call s__law_word (.cons (.var 0) .nil))) (.cons (.asg (.nm 3) (.lst (.cons (.newx s_NoRules [s_rule] (.cons (.var 2) .nil)) (.cons (.newx s_NoWay [s_way, s_why, s_thing] (.cons (.var 2) (.cons (.str s_ring) (.cons (.tup (.cons (.var 1) .nil)) .nil)))) (.cons (.newx s_NoText [s_row] (.cons (.var 1) .nil)) .nil))))) (.cons (.for_ (.tp [4, 5]) .enum (.cons (.var 3) .nil) b1_law_errors) b3_law_errors)))
def fd_law_errors : FD := ⟨1, 8, b0_law_errors⟩  -- 0:deck 1:number 2:word 3:some 4:k 5:one 6:kinds 7:j
def b13_law : Ss := .cons (.ret (.bop true (.cons (.cmp .eq (.var 4) (.var 5)) (.cons (.call s__law_errors (.cons (.var 1) .nil)) .nil)))) .nil
def b12_law : Ss := .cons (.ret (.bl false)) .nil
def b11_law : Ss := .cons (.ife (.bop false (.cons (.cmp .ne (.call s__law_told (.cons (.var 8) .nil)) (.tup (.cons (.str s_x6c6574206279) (.cons (.non) .nil)))) (.cons (.cmp .nes (.var 8) (.dpr (.lc (.tup (.cons (.var 9) (.cons (.tup (.cons (.str s_one) .nil)) .nil))) (.nm 9) [9] .seq (.cons (.var 2) .nil) .nil))) .nil))) b12_law .nil) .nil
def b10_law : Ss := .cons (.ret (.bl false)) .nil
def b9_law : Ss := .cons (.ife (.bop false (.cons (.cmp .ne (.call s__law_told (.cons (.var 4) .nil)) (.var 7)) (.cons (.cmp .nes (.var 4) (.var 5)) .nil))) b10_law .nil) b11_law
def b8_law : Ss := .cons (.for_ (.nm 10) .rng (.cons (.int 2) .nil) b9_law) b13_law
def b7_law : Ss := .cons (.six (.var 8) (.var 9) (.tup (.cons (.str s_one) .nil))) .nil
def b6_law : Ss := .cons (.asg (.nm 8) (.dct 0 .nil)) (.cons (.for_ (.nm 9) .seq (.cons (.var 2) .nil) b7_law) b8_law)
def b5_law : Ss := .cons (.asg (.nm 7) (.tup (.cons (.str s_refused) (.cons (.var 6) .nil)))) .nil
def b4_law : Ss := .cons (.asg (.nm 5) (.blt .dict1 (.cons (.var 4) .nil))) (.cons (.asg (.nm 6) (.call s__law_due (.cons (.var 4) .nil))) (.cons (.asg (.nm 7) (.tup (.cons (.str s_x6c6574206279) (.cons (.non) .nil)))) (.cons (.ife (.cmp .isnt (.var 6) (.non)) b5_law .nil) b6_law)))
def b3_law : Ss := .cons (.asg (.nm 12) (.ix (.lst (.cons (.var 3) (.cons (.sl (.var 3) (.cons (.bin .add (.var 11) (.int 1)) .nil) .nil) (.cons (.sl (.var 3) (.cons (.bin .add (.var 11) (.int 1)) .nil) .nil) .nil)))) (.call s__law_next (.cons (.var 1) (.cons (.int 3) .nil))))) (.cons (.six (.var 4) (.var 9) (.call s__law_kind (.cons (.var 1) (.cons (.call s__law_next (.cons (.var 1) (.cons (.int 5) .nil))) (.cons (.var 3) (.cons (.var 12) .nil)))))) .nil)
def b2_law : Ss := .cons (.asg (.nm 4) (.dct 0 .nil)) (.cons (.for_ (.tp [11, 9]) .enum (.cons (.var 2) .nil) b3_law) b4_law)
def b1_law : Ss := .cons (.asg (.nm 3) (.bin .add (.var 3) (.call s__law_texts (.cons (.var 1) (.cons (.int 2) .nil))))) .nil
def b0_law : Ss := .cons (.asg (.nm 1) (.call s__law_deck (.cons (.var 0) .nil))) (.cons (.asg (.nm 2) (.call s__law_texts (.cons (.var 1) (.cons (.call s__law_next (.cons (.var 1) (.cons (.int 9) .nil))) .nil)))) (.cons (.asg (.nm 3) (.blt .list (.cons (.var 2) .nil))) (.cons (.ife (.cmp .eq (.call s__law_next (.cons (.var 1) (.cons (.int 2) .nil))) (.int 1)) b1_law .nil) b2_law)))
def fd_law : FD := ⟨1, 13, b0_law⟩  -- 0:script 1:deck 2:texts 3:known 4:rules 5:saved 6:due 7:told 8:plain 9:text 10:turn 11:k 12:ahead
def prog : List (Sx × FD) := [(s_x4e6f52756c65732e5f5f696e, fd_NoRules___init__), (s_x4e6f5761792e5f5f696e6974, fd_NoWay___init__), (s_x4e6f546578742e5f5f696e69, fd_NoText___init__), (s_rules_in, fd_rules_in), (s_comes_to_itself, fd_comes_to_itself), (s_look_rules, fd_look_rules), (s__law_deck, fd_law_deck), (s__law_next, fd_law_next), (s__law_word, fd_law_word), (s__law_texts, fd_law_texts), (s__law_kind, fd_law_kind), (s__law_in, fd_law_in), (s__law_comes, fd_law_comes), (s__law_due, fd_law_due), (s__law_told, fd_law_told), (s__law_errors, fd_law_errors), (s_law, fd_law)]
end K15
end
section
namespace K15
open M
abbrev P := pOf prog
/-- a deck: a list of whole numbers, never empty -/
def IsDeck (p : Nat) (h : AH) : Prop := ∃ ns : List Int, ns ≠ [] ∧ h p = some (.lst (ns.map .int))
theorem IsDeck.ext {p : Nat} {h h' : AH} (d : IsDeck p h) (e : Ext h h') : IsDeck p h' := let ⟨ns, n0, q⟩ := d; ⟨ns, n0, e _ _ q⟩
theorem IsDeck.ke {p r : Nat} {h h' : AH} (d : IsDeck p h) (n : p ≠ r) (e : Ke r h h') : IsDeck p h' := let ⟨ns, n0, q⟩ := d; ⟨ns, n0, e _ _ n q⟩
theorem IsDeck.put {p r : Nat} {o : Ob} {h : AH} (d : IsDeck p h) (n : h r = none) : IsDeck p (up h r o) := d.ext (Ext.new n)
theorem IsDeck.ne {p r : Nat} {h : AH} (d : IsDeck p h) (n : h r = none) : r ≠ p := fun z => by
  subst z
  obtain ⟨ns, _, e⟩ := d
  rw [n] at e; cases e
theorem fresh_ke {p a : Nat} {h h' : AH} (x : Ke p h h') (d : IsDeck p h') (n : h' a = none) : h a = none := by
  cases e : h a with
  | none => rfl
  | some o =>
    exfalso
    have := x a o (d.ne n) e
    rw [n] at this; cases this
theorem atI_map {ns : List Int} {i : Int} (h0 : 0 ≤ i) (h1 : i < ns.length) : ∃ v, atI (ns.map D.int) i = some (.int v) := by
  refine ⟨ns[i.toNat]'(by omega), ?_⟩
  unfold atI
  rw [if_pos h0, List.getElem?_map, List.getElem?_eq_getElem (by omega)]
  rfl
theorem next_ok {n p : Nat} {many : Int} {h : AH} {Q : VQ} {X : XP} (hd : IsDeck p h) (hm : 0 < many)
    (k : ∀ v h', 0 ≤ v → v < many → IsDeck p h' → Ke p h h' → Q (.int v) h') : run P (n + 1) s__law_next [.ref p, .int many] h Q X := by
  obtain ⟨ns, n0, hp⟩ := hd
  refine run_of (fd := fd_law_next) rfl rfl ?_
  simp [fd_law_next, start, b0_law_next, b1_law_next, b2_law_next, len_lst hp]
  obtain ⟨a, r, rfl⟩ : ∃ a r, ns = a :: r := by cases ns with
    | nil => exact absurd rfl n0
    | cons a r => exact ⟨a, r, rfl⟩
  by_cases e : r = []
  · subst e
    rw [decide_eq_false (by simp)]
    dsimp only
    have h1 : opIx (.ref p) (.int 0) h = fun Q => Q (.int a) h := by
      funext Q
      rw [ix_lst hp]
      rfl
    simp [h1]
    refine ⟨.inr (by omega), ?_⟩
    have m0 := Int.emod_nonneg (a * 48271 + 7919) (show (2147483629 : Int) ≠ 0 by decide)
    have m1 := Int.emod_lt_of_pos (a * 48271 + 7919) (show (0 : Int) < 2147483629 by decide)
    generalize (a * 48271 + 7919) % 2147483629 = m at m0 m1 ⊢
    refine ⟨by unfold divOk; omega, .inl (by omega), ?_⟩
    generalize m * (m / 5 + 11) % 2147483587 = m2
    rw [set_lst hp]
    refine ⟨by simp, ?_⟩
    have h2 : (up h p (.lst (([a].map D.int).set (0 : Int).toNat (.int m2)))) p = some (.lst ([m2].map .int)) := by rw [up_same]; rfl
    have h3 : opIx (.ref p) (.int 0) (up h p (.lst (([a].map D.int).set (0 : Int).toNat (.int m2)))) = fun Q => Q (.int m2) (up h p (.lst (([a].map D.int).set (0 : Int).toNat (.int m2)))) := by
      funext Q
      rw [ix_lst h2]
      rfl
    simp only [h3, mul_int, bin_fdiv, bin_mod, add_int]
    exact ⟨.inr (by omega), by unfold divOk; omega, by omega, hm, k _ _ (Int.emod_nonneg _ (by omega)) (Int.emod_lt_of_pos _ hm) ⟨[m2], by simp, h2⟩ .put⟩
  · have e2 := List.length_pos_iff.mpr e
    rw [decide_eq_true (by simp; omega)]
    refine ⟨recv_ok (by simp) (by simp) hp, ?_⟩
    rw [aLst_eq hp]
    simp
    exact ⟨hm, k _ _ (Int.emod_nonneg _ (by omega)) (Int.emod_lt_of_pos _ hm) ⟨r, e, up_same⟩ .put⟩
theorem cut_map {ns : List Int} {lo hi : Option Int} : cut (ns.map D.int) lo hi = (cut ns lo hi).map .int := by
  simp [cut, List.map_take, List.map_drop]
/-- the deck's loops: names, the list so far -/
def DkInv (h : AH) (sc : List Int) (p i : Nat) : St → AH → Prop := fun σ h' => ∃ (ds : List Int) (a b c : Option D), σ = [some (.rol (sc.map .int)), some (.ref p), a, b, c] ∧ h' p = some (.lst (ds.map D.int)) ∧ Ext h h' ∧ ds.length ≤ i
def DkT (h : AH) (sc : List Int) (p i : Nat) : St → AH → Prop := fun σ h' => ∃ (ds : List Int) (a b c : Option D), σ = [some (.rol (sc.map .int)), some (.ref p), a, b, c] ∧ h' p = some (.lst (ds.map D.int)) ∧ Ext h h' ∧ ds.length = i
def DkIn (h : AH) (sc : List Int) (p r i : Nat) (cell : Int) (j : Nat) : St → AH → Prop := fun σ h' => ∃ (m : Int) (ds : List Int) (a : Option D), σ = [some (.rol (sc.map .int)), some (.ref p), a, some (.int cell), some (.int m)] ∧ h' p = some (.lst (ds.map D.int)) ∧ Ext h h' ∧ ds.length ≤ 60 * i + j ∧ h' r = some (.lst ((cut sc (some 1) (some 63)).map .int))
theorem app_ok {h0 h : AH} {p : Nat} {ds : List Int} {v : Int} (hp : h p = some (.lst (ds.map D.int))) (hn : h0 p = none) (ex : Ext h0 h) : (up h p (.lst (ds.map D.int ++ [.int v]))) p = some (.lst ((ds ++ [v]).map D.int)) ∧ Ext h0 (up h p (.lst (ds.map D.int ++ [.int v]))) := by
  refine ⟨by rw [up_same]; simp, ?_⟩
  exact ex.mut hn .put
theorem deck_ok {n : Nat} {ns : List Int} {h : AH} {Q : VQ} {X : XP} (k : ∀ p h', h p = none → Ext h h' → IsDeck p h' → Q (.ref p) h') : run P (n + 1) s__law_deck [.rol (ns.map .int)] h Q X := by
  refine run_of (fd := fd_law_deck) rfl rfl ?_
  simp [fd_law_deck, start, b0_law_deck]
  intro p0 hp0
  have tail : ∀ (p : Nat) (ds0 : List Int) h1 (R : Ends), h p = none → R.rt = Q → Ext h h1 → ds0.length ≤ 500 → ∀ a b c, h1 p = some (.lst (ds0.map .int)) → wSs ⟨run P n, fun _ => X⟩ b6_law_deck R [some (.rol (ns.map .int)), some (.ref p), a, b, c] h1 := by
    intro p ds0 h1 R hp hR ex l0 a b c h0
    simp [b6_law_deck]
    rw [len_lst h0]
    simp only [List.length_map, walk_rng2]
    refine ⟨by omega, loop_rng (fun i => DkT h ns p (ds0.length + i)) ⟨ds0, a, b, c, rfl, h0, ex, by omega⟩ (fun _ _ _ _ => trivial) ?_ ?_⟩
    · rintro i σ h' hi ⟨ds, a, b, c, rfl, hp', ex', hz⟩
      obtain ⟨kk, hkk⟩ : ∃ kk : Nat, ((ds0.length : Int) + (i : Int)) = (kk : Int) := ⟨ds0.length + i, by omega⟩
      rw [hkk]
      have cont : ∀ (cell : Int) (B : St → AH → Prop), 0 ≤ cell → cell < 2147483629 * 2 → wSs ⟨run P n, fun _ => X⟩ b9_law_deck { nx := DkT h ns p (ds0.length + (i + 1)), ct := DkT h ns p (ds0.length + (i + 1)), bk := B, rt := R.rt } [some (.rol (ns.map .int)), some (.ref p), some (.int kk), some (.int cell), c] h' := by
        intro cell B c0 c1
        simp [b9_law_deck]
        refine ⟨.inr (by omega), .inl (by omega), ?_⟩
        have m0 := Int.emod_nonneg (cell * 48271 + 7919 * ↑kk + 13) (show (2147483629 : Int) ≠ 0 by decide)
        have m1 := Int.emod_lt_of_pos (cell * 48271 + 7919 * ↑kk + 13) (show (0 : Int) < 2147483629 by decide)
        generalize (cell * 48271 + 7919 * ↑kk + 13) % 2147483629 = m at m0 m1 ⊢
        refine ⟨by unfold divOk; omega, .inl (by omega), .inl (by omega), recv_ok (by simp) (by simp) hp', ?_⟩
        generalize (m * (m / 5 + ↑kk) + 16807 * ↑kk) % 2147483587 = m2
        refine ⟨.inr (by omega), by unfold divOk; omega, ?_⟩
        rw [aLst_eq hp']
        refine ⟨by simp [LINE]; omega, _, _, _, _, rfl, (app_ok hp' hp ex').1, (app_ok hp' hp ex').2, by simp; omega⟩
      simp [b7_law_deck, b8_law_deck]
      refine ⟨.inr (by omega), ?_⟩
      by_cases hn : ns = []
      · subst hn
        exact cont _ _ (by omega) (by omega)
      · have hpos : 0 < ns.length := List.length_pos_iff.mpr hn
        rw [decide_eq_true hpos]
        dsimp only
        have hm : 0 < (if (ns.length : Int) < 63 then (ns.length : Int) else 63) := by split <;> omega
        have hm2 : (if (ns.length : Int) < 63 then (ns.length : Int) else 63) ≤ ns.length := by split <;> omega
        refine ⟨hm, ?_⟩
        obtain ⟨v, hv⟩ := atI_map (ns := ns) (i := (kk : Int) % if (ns.length : Int) < 63 then (ns.length : Int) else 63) (Int.emod_nonneg _ (by omega)) (Int.lt_of_lt_of_le (Int.emod_lt_of_pos _ hm) hm2)
        rw [hv]
        simp
        have m0 := Int.emod_nonneg v (show (2147483629 : Int) ≠ 0 by decide)
        have m1 := Int.emod_lt_of_pos v (show (0 : Int) < 2147483629 by decide)
        exact cont _ _ (by omega) (by omega)
    · rintro σ h' ⟨ds, a, b, c, rfl, hp', ex', hz⟩
      simp [b10_law_deck, hR]
      exact k p h' hp ex' ⟨ds, by intro z; subst z; simp at hz; omega, hp'⟩
  have odd : ∀ h1 (R : Ends), (∀ σ h', R.nx σ h' = wSs ⟨run P n, fun _ => X⟩ b6_law_deck (RT Q) σ h') → R.rt = Q → Ext h h1 → h1 p0 = some (.lst []) → wSs ⟨run P n, fun _ => X⟩ b1_law_deck R [some (.rol (ns.map .int)), some (.ref p0), none, none, none] h1 := by
    intro h1 R hN hR ex h0
    have hp := hp0
    simp [b1_law_deck]
    intro r hr
    have pr : p0 ≠ r := ne_new h0 hr
    rw [walk_lst up_same, cut_map]
    refine ⟨fun i σ h' => DkInv h ns p0 (60 * i) σ h' ∧ h' r = some (.lst ((cut ns (some 1) (some 63)).map .int)), ⟨⟨[], none, none, none, rfl, by rw [up_ne pr]; exact h0, ex.trans (Ext.new hr), Nat.le_refl _⟩, up_same⟩, fun i σ h' z => z.2, ?_, ?_⟩
    · rintro i x σ h' hx ⟨⟨ds, a, b, c, rfl, hp', ex', hz⟩, hr'⟩
      obtain ⟨cell, rfl⟩ : ∃ cell, x = .int cell := by
        rw [List.getElem?_map] at hx
        cases e : (cut ns (some 1) (some 63))[i]? with
        | none => rw [e] at hx; cases hx
        | some z => rw [e] at hx; exact ⟨z, (Option.some.inj hx).symm⟩
      have hi : i < 63 := by
        have := (List.getElem?_eq_some_iff.mp hx).1
        simp [cut, clip] at this
        omega
      simp [b2_law_deck]
      refine ⟨by unfold powOk; decide, ?_⟩
      refine loop_rng (fun j => DkIn h ns p0 r i cell j) ⟨_, ds, a, rfl, hp', ex', hz, hr'⟩ (fun _ _ _ _ => trivial) ?_ ?_
      · rintro j σ h2 hj ⟨m, ds, a, rfl, hp2, ex2, hz2, hr2⟩
        have done : ∀ (B : St → AH → Prop) (T : VQ), wSs ⟨run P n, fun _ => X⟩ b4_law_deck { nx := DkIn h ns p0 r i cell (j + 1), ct := DkIn h ns p0 r i cell (j + 1), rt := T, bk := B } [some (.rol (ns.map .int)), some (.ref p0), some (.int j), some (.int cell), some (.int m)] h2 := by
          intro B T
          simp [b4_law_deck]
          refine ⟨recv_ok (by simp) (by simp) hp2, ?_⟩
          rw [aLst_eq hp2]
          refine ⟨by simp [LINE]; omega, by unfold divOk; omega, _, _, _, rfl, (app_ok hp2 hp ex2).1, (app_ok hp2 hp ex2).2, by simp; omega, ?_⟩
          rw [up_ne pr.symm]
          exact hr2
        have skip : DkIn h ns p0 r i cell (j + 1) [some (.rol (ns.map .int)), some (.ref p0), some (.int j), some (.int cell), some (.int m)] h2 := ⟨m, ds, _, rfl, hp2, ex2, by omega, hr2⟩
        simp [b3_law_deck]
        by_cases e1 : j = 0
        · rw [decide_eq_true e1]
          exact done _ _
        · rw [decide_eq_false e1]
          by_cases e2 : 0 < m
          · rw [decide_eq_true e2]
            exact done _ _
          · rw [decide_eq_false e2]
            exact skip
      · rintro σ h2 ⟨m, ds, a, rfl, hp2, ex2, hz2, hr2⟩
        refine ⟨⟨ds, a, _, _, rfl, hp2, ex2, ?_⟩, hr2⟩
        simp at hz2
        omega
    · rintro σ h' ⟨⟨ds, a, b, c, rfl, hp', ex', hz⟩, hr'⟩
      simp [b5_law_deck]
      rw [sl_lst hp']
      intro q hq
      rw [cut_map, hN]
      refine tail q (cut ds none (some 500)) _ _ (fresh_back ex' hq) (by rfl) (ex'.trans (Ext.new hq)) (by simp [cut, clip]; omega) _ _ _ up_same
  have ex1 : Ext h (up h p0 (.lst [])) := Ext.new hp0
  by_cases e1 : 1 < (ns.length : Int)
  · rw [decide_eq_true e1]
    dsimp only
    obtain ⟨v, hv⟩ := atI_map (ns := ns) (i := 0) (by omega) (by omega)
    rw [hv]
    simp
    by_cases e2 : v % 2 = 1
    · rw [decide_eq_true e2]
      exact odd _ _ (fun σ h' => rfl) (by rfl) ex1 up_same
    · rw [decide_eq_false e2]
      exact tail p0 [] _ _ hp0 (by rfl) ex1 (by simp) _ _ _ up_same
  · rw [decide_eq_false e1]
    exact tail p0 [] _ _ hp0 (by rfl) ex1 (by simp) _ _ _ up_same
/-! ### drawn words and texts -/
theorem isdeck_ne {p q : Nat} {h : AH} {ss : List Sx} (d : IsDeck p h) (e : h q = some (.lst (ss.map .str))) : q ≠ p := fun z => by
  subst z
  obtain ⟨ns, n0, e2⟩ := d
  rw [e] at e2
  cases ns with
  | nil => exact n0 rfl
  | cons a r => cases ss <;> simp at e2
theorem strsOf_map : ∀ ss : List Sx, strsOf (ss.map .str) = some ss
  | [] => rfl
  | s :: r => by
    rw [List.map_cons]
    simp [strsOf, strsOf_map r]
theorem joinS_nil : ∀ ss : List Sx, joinS [] ss = ss.flatten
  | [] => rfl
  | [p] => by simp [joinS]
  | p :: q :: r => by
    rw [joinS, joinS_nil (q :: r)]
    simp
theorem len_ones : ∀ {ss : List Sx}, (∀ s ∈ ss, s.length = 1) → (ss.map (·.length)).sum = ss.length ∧ ss.flatten.length = ss.length
  | [], _ => by simp
  | s :: r, a => by
    obtain ⟨h1, h2⟩ := len_ones (ss := r) fun x hx => a x (List.mem_cons_of_mem _ hx)
    have := a s List.mem_cons_self
    simp [h1, h2, this]
    omega
def WdI (p : Nat) (h : AH) (i : Nat) (acc : List D) (h' : AH) : Prop := ∃ ss : List Sx, acc = ss.map .str ∧ ss.length = i ∧ (∀ s ∈ ss, s.length = 1) ∧ IsDeck p h' ∧ Ke p h h'
theorem word_ok {n p : Nat} {h : AH} {Q : VQ} {X : XP} (hd : IsDeck p h) (k : ∀ w h', 1 ≤ w.length → w.length ≤ 8 → IsDeck p h' → Ke p h h' → Q (.str w) h') : run P (n + 2) s__law_word [.ref p] h Q X := by
  refine run_of (fd := fd_law_word) rfl rfl ?_
  simp [fd_law_word, start, b0_law_word]
  refine next_ok hd (by decide) fun v h1 v0 v1 d1 k1 => ?_
  refine ⟨by omega, by omega, comp_rng (fun i acc h' => WdI p h1 i acc h') ⟨[], rfl, rfl, (fun s hs => nomatch hs), d1, .refl⟩ ?_ (by simp [LINE]; omega) ?_ ?_⟩
  · rintro i acc h' ⟨ss, rfl, l, _⟩
    exact ⟨trivial, by simp [l]⟩
  · rintro i acc h2 hi ⟨ss, rfl, l, a1, d2, k2⟩
    refine next_ok d2 (by decide) fun u h3 u0 u1 d3 k3 => ?_
    refine ⟨by simp [LINE], ?_⟩
    rw [letters_at u0 u1]
    refine ⟨ss ++ [[97 + u.toNat]], by simp, by simp [l], fun s hs => ?_, d3, k2.trans k3⟩
    rcases List.mem_append.mp hs with hs | hs
    · exact a1 s hs
    · rw [List.mem_singleton.mp hs]; rfl
  · rintro acc h2 ⟨ss, rfl, l, a1, d2, k2⟩
    intro r hr
    rw [seq_lst up_same, aSome_eq, strsOf_map, aSome_eq, joinS_nil]
    obtain ⟨e1, e2⟩ := len_ones a1
    refine ⟨by simp [e1, LINE]; omega, ?_⟩
    exact k _ _ (by omega) (by omega) (d2.put hr) ((k1.trans k2).trans (Ext.new hr).ke)

/-- one turn of making a text unlike those found -/
def tw (fs : List Sx) (w : Sx) (c : Nat) : Sx := if w ∈ fs then w.take 7 ++ [c] else w
theorem tw_pos {fs : List Sx} {w : Sx} {c : Nat} (h : w ∈ fs) : tw fs w c = w.take 7 ++ [c] := by unfold tw; rw [if_pos h]
theorem tw_neg {fs : List Sx} {w : Sx} {c : Nat} (h : w ∉ fs) : tw fs w c = w := by unfold tw; rw [if_neg h]
theorem tw_stay {fs : List Sx} {w : Sx} (h : w ∉ fs) : ∀ cs : List Nat, cs.foldl (tw fs) w = w
  | [] => rfl
  | c :: cs => by
    rw [List.foldl_cons]
    have : tw fs w c = w := by unfold tw; rw [if_neg h]
    rw [this]
    exact tw_stay h cs
theorem tw_len {fs : List Sx} {w : Sx} {c : Nat} (h : w.length ≤ 8) : (tw fs w c).length ≤ 8 := by
  unfold tw
  split
  · simp; omega
  · exact h
theorem tw_all {fs : List Sx} : ∀ {cs : List Nat} {w : Sx}, cs.foldl (tw fs) w ∈ fs → ∃ ls : List Sx, (∀ x ∈ ls, x ∈ fs) ∧ ls.map (·.getLast?) = cs.map some
  | [], w, _ => ⟨[], (fun x hx => nomatch hx), rfl⟩
  | c :: cs, w, h => by
    rw [List.foldl_cons] at h
    by_cases e : w ∈ fs
    · have e1 : tw fs w c = w.take 7 ++ [c] := by unfold tw; rw [if_pos e]
      obtain ⟨ls, a1, a2⟩ := tw_all h
      have e2 : tw fs w c ∈ fs := by
        refine Classical.byContradiction fun z => ?_
        rw [tw_stay z] at h
        exact z h
      refine ⟨tw fs w c :: ls, fun x hx => ?_, ?_⟩
      · rcases List.mem_cons.mp hx with z | z
        · rw [z]; exact e2
        · exact a1 x z
      · rw [List.map_cons, List.map_cons, a2, e1, List.getLast?_append]
        rfl
    · have e1 : tw fs w c = w := by unfold tw; rw [if_neg e]
      rw [e1, tw_stay e] at h
      exact absurd h e
theorem nd_len {α : Type} [BEq α] [LawfulBEq α] : ∀ {xs ys : List α}, xs.Nodup → (∀ x ∈ xs, x ∈ ys) → xs.length ≤ ys.length
  | [], _, _, _ => Nat.zero_le _
  | x :: xs, ys, nd, a => by
    rw [List.nodup_cons] at nd
    have hx := a x List.mem_cons_self
    have ih := nd_len (ys := ys.erase x) nd.2 fun z hz => by
      have ne : z ≠ x := fun e => nd.1 (e ▸ hz)
      exact (List.mem_erase_of_ne ne).mpr (a z (List.mem_cons_of_mem _ hz))
    rw [List.length_erase_of_mem hx] at ih
    have := List.length_pos_of_mem hx
    simp only [List.length_cons]
    omega
theorem tw_new {fs : List Sx} {w : Sx} (h : fs.length < 9) : s_abcdefghi.foldl (tw fs) w ∉ fs := fun z => by
  obtain ⟨ls, a1, a2⟩ := tw_all z
  have nd : ls.Nodup := by
    have : (ls.map (·.getLast?)).Nodup := by rw [a2]; decide
    exact List.Pairwise.imp (fun h e => h (by rw [e])) (List.pairwise_map.mp this)
  have := nd_len nd a1
  have l2 : (ls.map (·.getLast?)).length = 9 := by rw [a2]; rfl
  rw [List.length_map] at l2
  omega
theorem any_str {ss : List Sx} {w : Sx} : ((ss.map D.str).any fun y => decide (y = .str w)) = decide (w ∈ ss) := by
  induction ss with
  | nil => simp
  | cons s r ih =>
    rw [List.map_cons, List.any_cons, ih]
    by_cases e : s = w
    · subst e; simp
    · have e2 : ¬ w = s := fun z => e z.symm
      have e3 : ¬ D.str s = D.str w := fun z => e (by injection z)
      simp [e3, e2]
theorem pure_strs {ss : List Sx} : pureDs (ss.map D.str) = true := pureDs_of fun d hd => by
  obtain ⟨s, _, rfl⟩ := List.mem_map.mp hd
  simp [pureD]
theorem plain_strs {n : Nat} {ss : List Sx} : plains n (ss.map D.str) = true := plains_of fun d hd => by
  obtain ⟨s, _, rfl⟩ := List.mem_map.mp hd
  cases n <;> simp [plain]
theorem mem_strs {p : Nat} {h : AH} {ss : List Sx} {w : Sx} {q : Bool → Prop} (e : h p = some (.lst (ss.map .str))) : memOk (.str w) (.ref p) h q = q (decide (w ∈ ss)) := by
  simp only [memOk, e, pure_strs, plain_strs, any_str]
  simp [pureD]
/-- the texts' loops -/
def TxI (p q : Nat) (many : Int) (h : AH) (i : Nat) : St → AH → Prop := fun σ h' => ∃ (ss : List Sx) (a b c : Option D), σ = [some (.ref p), some (.int many), some (.ref q), a, b, c] ∧ h' q = some (.lst (ss.map .str)) ∧ ss.length = i ∧ ss.Nodup ∧ (∀ s ∈ ss, s.length ≤ 8) ∧ IsDeck p h' ∧ Ke p h h' ∧ h q = none
def TwI (p q : Nat) (many : Int) (ss : List Sx) (w : Sx) (h1 : AH) (x : Option D) (i : Nat) : St → AH → Prop := fun σ h' => h' = h1 ∧ ∃ c, σ = [some (.ref p), some (.int many), some (.ref q), x, some (.str ((s_abcdefghi.take i).foldl (tw ss) w)), c]
theorem texts_ok {n p : Nat} {many : Nat} {h : AH} {Q : VQ} {X : XP} (hm : many < 9) (hd : IsDeck p h)
    (k : ∀ (ss : List Sx) q h', h q = none → h' q = some (.lst (ss.map .str)) → ss.length = many → ss.Nodup → (∀ s ∈ ss, s.length ≤ 8) → IsDeck p h' → Ke p h h' → Q (.ref q) h') : run P (n + 3) s__law_texts [.ref p, .int many] h Q X := by
  refine run_of (fd := fd_law_texts) rfl rfl ?_
  simp [fd_law_texts, start, b0_law_texts]
  intro q hq
  refine ⟨by omega, loop_rng (fun i => TxI p q many h i) ⟨[], none, none, none, rfl, up_same, rfl, List.nodup_nil, (fun s hs => nomatch hs), hd.put hq, (Ext.new hq).ke, hq⟩ (fun _ _ _ _ => trivial) ?_ ?_⟩
  · rintro i σ h1 hi ⟨ss, a, b, c, rfl, e1, l, nd, a8, d1, k1, _⟩
    simp [b1_law_texts]
    refine word_ok d1 fun w h2 w1 w8 d2 k2 => ?_
    have qp : q ≠ p := isdeck_ne d1 e1
    have e2 : h2 q = some (.lst (ss.map .str)) := k2 _ _ qp e1
    refine ⟨fun j => TwI p q many ss w h2 (some (.int i)) j, ⟨rfl, c, rfl⟩, (fun _ _ _ _ => trivial), ?_, ?_⟩
    · rintro j x σ h3 hx ⟨rfl, c, rfl⟩
      have hx : (s_abcdefghi.map fun c => D.str [c])[j]? = some x := hx
      obtain ⟨ch, hc, rfl⟩ := map_at hx
      have hj : s_abcdefghi.take (j + 1) = s_abcdefghi.take j ++ [ch] := by rw [List.take_add_one, hc]; rfl
      have l8 : ∀ (cs : List Nat) (u : Sx), u.length ≤ 8 → (cs.foldl (tw ss) u).length ≤ 8 := fun cs => by
        induction cs with
        | nil => intro u hu; exact hu
        | cons c r ih => intro u hu; exact ih _ (tw_len hu)
      have lw := l8 (s_abcdefghi.take j) w w8
      simp [b2_law_texts, b3_law_texts]
      rw [mem_strs e2]
      by_cases z : (s_abcdefghi.take j).foldl (tw ss) w ∈ ss
      · rw [decide_eq_true z]
        dsimp only
        refine ⟨by simp [LINE]; omega, by rw [cut_none (by decide)]; simp [LINE]; omega, rfl, some (.str [ch]), ?_⟩
        rw [hj, List.foldl_append, cut_none (by decide)]
        simp only [List.foldl_cons, List.foldl_nil]
        rw [tw_pos z]
        rfl
      · rw [decide_eq_false z]
        dsimp only
        refine ⟨rfl, some (.str [ch]), ?_⟩
        rw [hj, List.foldl_append]
        simp only [List.foldl_cons, List.foldl_nil]
        rw [tw_neg z]
    · rintro σ h3 ⟨rfl, c, rfl⟩
      have l8 : ∀ (cs : List Nat) (u : Sx), u.length ≤ 8 → (cs.foldl (tw ss) u).length ≤ 8 := fun cs => by
        induction cs with
        | nil => intro u hu; exact hu
        | cons c r ih => intro u hu; exact ih _ (tw_len hu)
      rw [show ∀ k, k = 9 → s_abcdefghi.take k = s_abcdefghi from fun k e => by rw [e]; rfl]
      case a => rfl
      have nw := tw_new (fs := ss) (w := w) (by omega)
      generalize hu : s_abcdefghi.foldl (tw ss) w = u at nw
      have lu : u.length ≤ 8 := by rw [← hu]; exact l8 _ _ w8
      simp [b4_law_texts]
      refine ⟨recv_ok (by simp) (by simp) e2, ?_⟩
      rw [aLst_eq e2]
      refine ⟨by simp [LINE]; omega, ss ++ [u], _, _, _, rfl, by rw [up_same]; simp, by simp [l], ?_, ?_, ?_, ?_, hq⟩
      · rw [List.nodup_append]
        exact ⟨nd, by simp, fun a ha b hb e => by rw [List.mem_singleton.mp hb] at e; exact nw (e ▸ ha)⟩
      · intro s hs
        rcases List.mem_append.mp hs with hs | hs
        · exact a8 s hs
        · rw [List.mem_singleton.mp hs]; exact lu
      · exact d2.ke (fun z => qp z.symm) .put
      · exact (k1.trans k2).mut hq .put
  · rintro σ h1 ⟨ss, a, b, c, rfl, e1, l, nd, a8, d1, k1, _⟩
    simp [b5_law_texts]
    exact k ss q h1 hq e1 (by simpa using l) nd a8 d1 k1
/-! ### kinds -/
inductive Kd where
  | one | name | none | node (a : Kd) | sum (a b : Kd) | pair (a b : Kd) | rule (s : Sx)
def encK : Kd → D
  | .one => .tup [.str s_one]
  | .name => .tup [.str s_name]
  | .none => .tup [.str s_none]
  | .node a => .tup [.str s_node, encK a]
  | .sum a b => .tup [.str s_sum, encK a, encK b]
  | .pair a b => .tup [.str s_pair, encK a, encK b]
  | .rule s => .tup [.str s_rule, .str s]
def Kd.dp : Kd → Nat
  | .node a => a.dp + 1
  | .sum a b => max a.dp b.dp + 1
  | .pair a b => max a.dp b.dp + 1
  | _ => 0
/-- where its rules stand: bare ones, those within nodes -/
def Bw : (Sx → Prop) → (Sx → Prop) → Kd → Prop
  | b, _, .rule s => b s
  | _, a, .node k => Bw a a k
  | b, a, .sum x y => Bw b a x ∧ Bw b a y
  | b, a, .pair x y => Bw b a x ∧ Bw b a y
  | _, _, _ => True
theorem kind_ways {v : Int} {f : D → Prop} (v0 : 0 ≤ v) (v1 : v < 9) (one : f (.str s_one)) (nm : f (.str s_name)) (ru : f (.str s_rule)) (no : f (.str s_none)) (nd : 4 ≤ v → f (.str s_node)) (su : 4 ≤ v → f (.str s_sum)) (pa : 4 ≤ v → f (.str s_pair)) :
    match atI [D.str s_one, .str s_name, .str s_rule, .str s_none, .str s_node, .str s_sum, .str s_pair, .str s_sum, .str s_pair] v with
    | some d => f d
    | none => False := by
  have : v = 0 ∨ v = 1 ∨ v = 2 ∨ v = 3 ∨ v = 4 ∨ v = 5 ∨ v = 6 ∨ v = 7 ∨ v = 8 := by omega
  rcases this with rfl | rfl | rfl | rfl | rfl | rfl | rfl | rfl | rfl
  · exact one
  · exact nm
  · exact ru
  · exact no
  · exact nd (by decide)
  · exact su (by decide)
  · exact pa (by decide)
  · exact su (by decide)
  · exact pa (by decide)
/-- a kind that was drawn -/
def KdOk (d : Nat) (texts ahead : List Sx) (k : Kd) : Prop := k.dp ≤ d ∧ Bw (· ∈ ahead) (· ∈ texts) k
theorem kind_ok : ∀ (d n p q r : Nat) (texts ahead : List Sx) (h : AH) (Q : VQ) (X : XP), IsDeck p h → h q = some (.lst (texts.map .str)) → h r = some (.lst (ahead.map .str)) →
    (∀ k h', KdOk d texts ahead k → IsDeck p h' → Ke p h h' → Q (encK k) h') → run P (n + d + 2) s__law_kind [.ref p, .int d, .ref q, .ref r] h Q X := by
  intro d
  induction d with
  | zero =>
    intro n p q r texts ahead h Q X hd hq hr k
    refine run_of (fd := fd_law_kind) rfl rfl ?_
    simp [fd_law_kind, start, b0_law_kind]
    refine ⟨by simp [LINE], fun l hl => ?_⟩
    refine ⟨.inl ⟨by decide, by decide⟩, next_ok (hd.put hl) (by decide) fun v h1 v0 v1 d1 k1 => ?_⟩
    have el : h1 l = some (.lst [D.str s_one, .str s_name, .str s_rule, .str s_none, .str s_node, .str s_sum, .str s_pair, .str s_sum, .str s_pair]) := k1 _ _ (hd.ne hl) up_same
    have er : h1 r = some (.lst (ahead.map .str)) := k1 _ _ (isdeck_ne hd hr) (by rw [up_ne (ne_new hr hl)]; exact hr)
    have ke : Ke p h h1 := (Ext.new hl).ke.trans k1
    rw [ix_lst el]
    have one : ∀ c, wSs ⟨run P (n + 1), fun _ => X⟩ b2_law_kind (RT Q) [some (.ref p), some (.int 0), some (.ref q), some (.ref r), some (.ref l), some (.str s_one), c] h1 := fun c => by
      simp [b2_law_kind, b4_law_kind, b6_law_kind, b8_law_kind, LINE]
      exact k .one h1 ⟨Nat.le_refl _, trivial⟩ d1 ke
    refine kind_ways v0 (by omega) ?_ ?_ ?_ ?_ (fun z => by omega) (fun z => by omega) (fun z => by omega)
    · simpa using one none
    · simp [b2_law_kind, b4_law_kind, b6_law_kind, b8_law_kind, LINE]
      exact k .name h1 ⟨Nat.le_refl _, trivial⟩ d1 ke
    · simp
      rw [len_lst er]
      by_cases e : ahead = []
      · subst e
        simp [b1_law_kind]
        exact one none
      · have e2 := List.length_pos_iff.mpr e
        rw [decide_eq_false (by simp; omega)]
        simp [b2_law_kind, b3_law_kind]
        rw [len_lst er]
        refine next_ok d1 (by simp; omega) fun u h2 u0 u1 d2 k2 => ?_
        simp at u1
        rw [ix_lst (k2 _ _ (isdeck_ne d1 er) er)]
        have e3 : atI (ahead.map D.str) u = some (.str (ahead[u.toNat]'(by omega))) := by
          unfold atI
          rw [if_pos u0, List.getElem?_map, List.getElem?_eq_getElem (by omega)]
          rfl
        rw [e3]
        simp [LINE]
        exact k (.rule _) h2 ⟨Nat.le_refl _, List.getElem_mem _⟩ d2 (ke.trans k2)
    · simp [b2_law_kind, b4_law_kind, b6_law_kind, b8_law_kind, LINE]
      exact k .none h1 ⟨Nat.le_refl _, trivial⟩ d1 ke
  | succ d ih =>
    intro n p q r texts ahead h Q X hd hq hr k
    refine run_of (fd := fd_law_kind) rfl rfl ?_
    simp [fd_law_kind, start, b0_law_kind]
    refine ⟨by simp [LINE], fun l hl => ?_⟩
    refine ⟨.inl ⟨by decide, by decide⟩, next_ok (n := n + d + 1) (hd.put hl) (by decide) fun v h1 v0 v1 d1 k1 => ?_⟩
    have el : h1 l = some (.lst [D.str s_one, .str s_name, .str s_rule, .str s_none, .str s_node, .str s_sum, .str s_pair, .str s_sum, .str s_pair]) := k1 _ _ (hd.ne hl) up_same
    have er : h1 r = some (.lst (ahead.map .str)) := k1 _ _ (isdeck_ne hd hr) (by rw [up_ne (ne_new hr hl)]; exact hr)
    have eq1 : h1 q = some (.lst (texts.map .str)) := k1 _ _ (isdeck_ne hd hq) (by rw [up_ne (ne_new hq hl)]; exact hq)
    have ke : Ke p h h1 := (Ext.new hl).ke.trans k1
    rw [ix_lst el]
    have one : ∀ c, wSs ⟨run P (n + (d + 1) + 1), fun _ => X⟩ b2_law_kind (RT Q) [some (.ref p), some (.int (↑d + 1)), some (.ref q), some (.ref r), some (.ref l), some (.str s_one), c] h1 := fun c => by
      simp [b2_law_kind, b4_law_kind, b6_law_kind, b8_law_kind, LINE]
      exact k .one h1 ⟨Nat.zero_le _, trivial⟩ d1 ke
    have two : ∀ (mk : Kd → Kd → Kd) (w : Sx) (N1 N2 : St → AH → Prop), (∀ x y, (mk x y).dp = max x.dp y.dp + 1) → (∀ x y b a, Bw b a (mk x y) = (Bw b a x ∧ Bw b a y)) → (∀ x y, encK (mk x y) = .tup [.str w, encK x, encK y]) →
        wSs ⟨run P (n + (d + 1) + 1), fun _ => X⟩ b7_law_kind (RT Q) [some (.ref p), some (.int (↑d + 1)), some (.ref q), some (.ref r), some (.ref l), some (.str w), none] h1 := fun mk w _ _ m1 m2 m3 => by
      simp [b7_law_kind]
      refine ih n p q r texts ahead h1 _ _ d1 eq1 er fun x h2 hx d2 k2 => ?_
      refine ih n p q r texts ahead h2 _ _ d2 (k2 _ _ (isdeck_ne d1 eq1) eq1) (k2 _ _ (isdeck_ne d1 er) er) fun y h3 hy d3 k3 => ?_
      refine ⟨by simp [LINE], ?_⟩
      rw [← m3]
      exact k _ h3 ⟨by rw [m1]; have := hx.1; have := hy.1; omega, by rw [m2]; exact ⟨hx.2, hy.2⟩⟩ d3 ((ke.trans k2).trans k3)
    refine kind_ways v0 (by omega) ?_ ?_ ?_ ?_ (fun z => ?_) (fun z => ?_) (fun z => ?_)
    · simpa using one none
    · simp [b2_law_kind, b4_law_kind, b6_law_kind, b8_law_kind, LINE]
      exact k .name h1 ⟨Nat.zero_le _, trivial⟩ d1 ke
    · simp
      rw [len_lst er]
      by_cases e : ahead = []
      · subst e
        simp [b1_law_kind]
        exact one none
      · have e2 := List.length_pos_iff.mpr e
        rw [decide_eq_false (by simp; omega)]
        simp [b2_law_kind, b3_law_kind]
        rw [len_lst er]
        refine next_ok (n := n + d + 1) d1 (by simp; omega) fun u h2 u0 u1 d2 k2 => ?_
        simp at u1
        rw [ix_lst (k2 _ _ (isdeck_ne d1 er) er)]
        have e3 : atI (ahead.map D.str) u = some (.str (ahead[u.toNat]'(by omega))) := by
          unfold atI
          rw [if_pos u0, List.getElem?_map, List.getElem?_eq_getElem (by omega)]
          rfl
        rw [e3]
        simp [LINE]
        exact k (.rule _) h2 ⟨Nat.zero_le _, List.getElem_mem _⟩ d2 (ke.trans k2)
    · simp [b2_law_kind, b4_law_kind, b6_law_kind, b8_law_kind, LINE]
      exact k .none h1 ⟨Nat.zero_le _, trivial⟩ d1 ke
    · simp [b2_law_kind, b4_law_kind, b5_law_kind]
      refine ih n p q q texts texts h1 _ _ d1 eq1 eq1 fun x h2 hx d2 k2 => ?_
      refine ⟨by simp [LINE], ?_⟩
      exact k (.node x) h2 ⟨Nat.succ_le_succ hx.1, hx.2⟩ d2 (ke.trans k2)
    · simp [b2_law_kind, b4_law_kind, b6_law_kind]
      exact two .sum s_sum (fun _ _ => True) (fun _ _ => True) (fun _ _ => rfl) (fun _ _ _ _ => rfl) (fun _ _ => rfl)
    · simp [b2_law_kind, b4_law_kind, b6_law_kind]
      exact two .pair s_pair (fun _ _ => True) (fun _ _ => True) (fun _ _ => rfl) (fun _ _ _ _ => rfl) (fun _ _ => rfl)
@[local simp] theorem LINE_eqC : LINE = 16777216 := rfl
/-! ### rules in kinds: the plain law -/
def szK : Kd → Nat
  | .node a => szK a + 1
  | .sum a b => szK a + szK b + 1
  | .pair a b => szK a + szK b + 1
  | _ => 1
theorem szK_dp : ∀ (d : Nat) (k : Kd), k.dp ≤ d → szK k + 1 ≤ 2 ^ (d + 1)
  | d, .one, _ => by have := Nat.one_le_two_pow (n := d); simp only [szK, Nat.pow_succ]; omega
  | d, .name, _ => by have := Nat.one_le_two_pow (n := d); simp only [szK, Nat.pow_succ]; omega
  | d, .none, _ => by have := Nat.one_le_two_pow (n := d); simp only [szK, Nat.pow_succ]; omega
  | d, .rule s, _ => by have := Nat.one_le_two_pow (n := d); simp only [szK, Nat.pow_succ]; omega
  | 0, .node a, h => by simp [Kd.dp] at h
  | 0, .sum a b, h => by simp [Kd.dp] at h
  | 0, .pair a b, h => by simp [Kd.dp] at h
  | d + 1, .node a, h => by
    have := szK_dp d a (by simp only [Kd.dp] at h; omega)
    simp only [szK]
    rw [Nat.pow_succ]
    omega
  | d + 1, .sum a b, h => by
    have h1 := szK_dp d a (by simp only [Kd.dp] at h; omega)
    have h2 := szK_dp d b (by simp only [Kd.dp] at h; omega)
    simp only [szK]
    rw [Nat.pow_succ]
    omega
  | d + 1, .pair a b, h => by
    have h1 := szK_dp d a (by simp only [Kd.dp] at h; omega)
    have h2 := szK_dp d b (by simp only [Kd.dp] at h; omega)
    simp only [szK]
    rw [Nat.pow_succ]
    omega
theorem szK_31 {k : Kd} (h : k.dp ≤ 4) : szK k ≤ 31 := by have := szK_dp 4 k h; omega
def inK (b : Bool) : Kd → List Sx
  | .rule s => [s]
  | .node a => if b then [] else inK b a
  | .sum x y => inK b x ++ inK b y
  | .pair x y => inK b x ++ inK b y
  | _ => []
theorem inK_len (b : Bool) : ∀ k : Kd, (inK b k).length ≤ szK k
  | .one => by simp [inK, szK]
  | .name => by simp [inK, szK]
  | .none => by simp [inK, szK]
  | .rule s => by simp [inK, szK]
  | .node a => by
    have := inK_len b a
    cases b <;> simp [inK, szK] at this ⊢
    omega
  | .sum x y => by
    have := inK_len b x
    have := inK_len b y
    simp [inK, szK]
    omega
  | .pair x y => by
    have := inK_len b x
    have := inK_len b y
    simp [inK, szK]
    omega
theorem inK_bare : ∀ (k : Kd) (s : Sx), s ∈ inK true k → s ∈ inK false k
  | .one, s, h => by simp [inK] at h
  | .name, s, h => by simp [inK] at h
  | .none, s, h => by simp [inK] at h
  | .rule t, s, h => by simpa [inK] using h
  | .node a, s, h => by simp [inK] at h
  | .sum x y, s, h => by
    simp only [inK, List.mem_append] at h ⊢
    exact h.imp (inK_bare x s) (inK_bare y s)
  | .pair x y, s, h => by
    simp only [inK, List.mem_append] at h ⊢
    exact h.imp (inK_bare x s) (inK_bare y s)
def szT (ks : List Kd) : Nat := (ks.map szK).sum
theorem szT_cons {k : Kd} {ks : List Kd} : szT (k :: ks) = szK k + szT ks := by simp [szT]
theorem szK_pos : ∀ k : Kd, 1 ≤ szK k := fun k => by cases k <;> simp [szK]
theorem szT_len : ∀ ks : List Kd, ks.length ≤ szT ks
  | [] => by simp
  | k :: ks => by have := szT_len ks; have := szK_pos k; rw [szT_cons, List.length_cons]; omega
/-! ### rules_in -/
def RiW (k : Kd) (b : Bool) (pf pt : Nat) (h : AH) (m : Nat) : St → AH → Prop := fun σ h' => ∃ (found : List Sx) (T : List Kd) (x : Option D), σ = [some (encK k), some (.bl b), some (.ref pf), some (.ref pt), x] ∧
  h' pf = some (.lst (found.map .str)) ∧ h' pt = some (.lst (T.reverse.map encK)) ∧ Ext h h' ∧ m = szT T ∧ m ≤ szK k ∧ (found ++ T.flatMap (inK b)).Perm (inK b k)
theorem up_none {h : AH} {p r : Nat} {o : Ob} (e : up h p o r = none) : r ≠ p ∧ h r = none := by
  by_cases z : r = p
  · subst z; rw [up_same] at e; cases e
  · exact ⟨z, by rwa [up_ne z] at e⟩
theorem rules_in_ok {n : Nat} {k : Kd} {b : Bool} {h : AH} {Q : VQ} {X : XP} (hk : szK k ≤ 1000) (hQ : ∀ (L : List Sx) r h', h r = none → h' r = some (.lst (L.map .str)) → L.Perm (inK b k) → Ext h h' → Q (.ref r) h') : run P (n + 1) s_rules_in [encK k, .bl b] h Q X := by
  refine run_of (fd := fd_rules_in) rfl rfl ?_
  simp [fd_rules_in, start, b0_rules_in, LINE]
  intro pf hf pt ht
  obtain ⟨npt, ht'⟩ := up_none ht
  simp only [wS]
  refine ⟨RiW k b pf pt h, ⟨szK k, [], [k], none, rfl, ?_, ?_, ?_, by simp [szT], Nat.le_refl _, by simp⟩, ?_⟩
  · rw [up_ne (Ne.symm npt), up_same]; rfl
  · rw [up_same]; rfl
  · exact (Ext.new hf).trans (Ext.new ht)
  · rintro m σ h' ⟨found, T, x, rfl, e1, e2, ex, ms, mk, pm⟩
    have lt := szT_len T
    simp
    rw [len_lst e2]
    cases T with
    | nil =>
      simp [b5_rules_in]
      exact hQ found pf h' hf e1 (by simpa using pm) ex
    | cons one T =>
      rw [decide_eq_true (by simp)]
      simp [b1_rules_in]
      refine ⟨recv_ok (by simp) (by simp) e2, ?_⟩
      rw [aLst_eq e2]
      have e9 : ((one :: T).reverse.map encK)[((one :: T).reverse.map encK).length - 1]? = some (encK one) := by simp
      rw [e9]
      simp at pm
      rw [szT_cons] at ms
      have ft : up h' pt (.lst ((T.map encK).reverse)) pf = some (.lst (found.map .str)) := by rw [up_ne (Ne.symm npt)]; exact e1
      have l1 := pm.length_eq
      have l2 := inK_len b k
      have l3 := inK_len b one
      have l4 : T.length ≤ 1000 := by have := szT_len T; omega
      have lf : found.length ≤ 1000 := by simp at l1; omega
      have ex2 : Ext h (up h' pt (.lst ((T.map encK).reverse))) := ex.mut ht' .put
      have two : ∀ {a c : Kd} {u : List Sx}, (found ++ (inK b a ++ inK b c ++ u)).Perm (inK b k) → (found ++ (inK b c ++ (inK b a ++ u))).Perm (inK b k) := fun {a c u} z => by
        refine List.Perm.trans (List.Perm.append_left found ?_) z
        rw [← List.append_assoc]
        exact List.Perm.append_right u List.perm_append_comm
      cases one with
      | one =>
        simp [encK, atI, b3_rules_in, LINE]
        exact ⟨_, by simp [szK] at ms; omega, found, T, _, rfl, ft, by rw [up_same]; simp, ex2, rfl, by omega, by simpa [inK] using pm⟩
      | name =>
        simp [encK, atI, b3_rules_in, LINE]
        exact ⟨_, by simp [szK] at ms; omega, found, T, _, rfl, ft, by rw [up_same]; simp, ex2, rfl, by omega, by simpa [inK] using pm⟩
      | none =>
        simp [encK, atI, b3_rules_in, LINE]
        exact ⟨_, by simp [szK] at ms; omega, found, T, _, rfl, ft, by rw [up_same]; simp, ex2, rfl, by omega, by simpa [inK] using pm⟩
      | rule s =>
        simp [encK, atI, b2_rules_in, LINE]
        refine ⟨recv_ok (by simp) (by simp) ft, ?_⟩
        rw [aLst_eq ft]
        refine ⟨by simp; omega, _, by simp [szK] at ms; omega, found ++ [s], T, _, rfl, by rw [up_same]; simp, by rw [up_ne npt, up_same]; simp, ex2.mut hf .put, rfl, by omega, by simpa [inK] using pm⟩
      | node a =>
        cases b with
        | true =>
          simp [encK, atI, b3_rules_in, LINE]
          exact ⟨_, by simp [szK] at ms; omega, found, T, _, rfl, ft, by rw [up_same]; simp, ex2, rfl, by omega, by simpa [inK] using pm⟩
        | false =>
          simp [encK, atI, b3_rules_in, b4_rules_in, LINE]
          refine ⟨recv_ok (by simp) (by simp) up_same, by decide, ?_⟩
          rw [aLst_eq up_same]
          simp [cut, clip]
          refine ⟨by omega, szT (a :: T), by simp [szK] at ms; rw [szT_cons]; omega, found, a :: T, _, rfl, by rw [up_ne (Ne.symm npt)]; exact ft, by rw [up_same]; simp, ex2.mut ht' .put, rfl, by simp [szK, szT_cons] at ms ⊢; omega, ?_⟩
          simpa [inK] using pm
      | sum a c =>
        simp [encK, atI, b3_rules_in, b4_rules_in, LINE]
        refine ⟨recv_ok (by simp) (by simp) up_same, by decide, ?_⟩
        rw [aLst_eq up_same]
        simp [cut, clip]
        refine ⟨by omega, szT (c :: a :: T), by simp [szK] at ms; rw [szT_cons, szT_cons]; omega, found, c :: a :: T, _, rfl, by rw [up_ne (Ne.symm npt)]; exact ft, by rw [up_same]; simp, ex2.mut ht' .put, rfl, by simp [szK, szT_cons] at ms ⊢; omega, ?_⟩
        exact two pm
      | pair a c =>
        simp [encK, atI, b3_rules_in, b4_rules_in, LINE]
        refine ⟨recv_ok (by simp) (by simp) up_same, by decide, ?_⟩
        rw [aLst_eq up_same]
        simp [cut, clip]
        refine ⟨by omega, szT (c :: a :: T), by simp [szK] at ms; rw [szT_cons, szT_cons]; omega, found, c :: a :: T, _, rfl, by rw [up_ne (Ne.symm npt)]; exact ft, by rw [up_same]; simp, ex2.mut ht' .put, rfl, by simp [szK, szT_cons] at ms ⊢; omega, ?_⟩
        exact two pm
def LiK (b : Bool) (k : Kd) : Prop := ∀ (n : Nat) {h : AH} {Q : VQ} {X : XP}, k.dp ≤ n → szK k ≤ 1000 → (∀ r h', h r = none → h' r = some (.lst ((inK b k).map .str)) → Ext h h' → Q (.ref r) h') → run P (n + 1) s__law_in [encK k, .bl b] h Q X
theorem law_in_body {b : Bool} {x y : Kd} {w : Sx} {n : Nat} {h : AH} {Q : VQ} {X : XP} (ix : LiK b x) (iy : LiK b y) (hx : x.dp ≤ n) (hy : y.dp ≤ n) (hz : szK x + szK y ≤ 999) (hQ : ∀ r h', h r = none → h' r = some (.lst ((inK b x ++ inK b y).map .str)) → Ext h h' → Q (.ref r) h') :
    wSs ⟨run P (n + 1), fun _ => X⟩ b4_law_in (RT Q) [some (D.tup [D.str w, encK x, encK y]), some (D.bl b), none, none] h := by
  have lx := inK_len b x
  have ly := inK_len b y
  simp [b4_law_in]
  intro r hr
  refine ⟨by decide, ?_⟩
  simp [cut, clip]
  refine loop_unroll ?_
  rw [loopU_cons]
  refine ⟨trivial, ?_⟩
  simp [b5_law_in]
  refine ix n hx (by omega) fun r1 h1 f1 e1 x1 => ?_
  have er : h1 r = some (.lst []) := x1 _ _ up_same
  simp [er, e1, LINE]
  refine ⟨by omega, fun r2 f2 => ?_⟩
  have x2 : Ext h (up h1 r2 (.lst ((inK b x).map .str))) := ((Ext.new hr).trans x1).trans (Ext.new f2)
  rw [loopU_cons]
  refine ⟨trivial, ?_⟩
  simp
  refine iy n hy (by omega) fun r3 h3 f3 e3 x3 => ?_
  have er2 : h3 r2 = some (.lst ((inK b x).map .str)) := x3 _ _ up_same
  simp [er2, e3, LINE]
  refine ⟨by omega, fun r4 f4 => ?_⟩
  rw [loopU_nil]
  refine ⟨trivial, ?_⟩
  simp [b6_law_in]
  refine hQ r4 _ ?_ (by rw [up_same]; simp) ((x2.trans x3).trans (Ext.new f4))
  cases z : h r4 with
  | none => rfl
  | some o => rw [x3 _ _ (x2 _ _ z)] at f4; cases f4
theorem law_in_two {b : Bool} {k x y : Kd} {w : Sx} (wr : w ≠ s_rule) (wn : w ≠ s_node) (ek : encK k = .tup [.str w, encK x, encK y]) (ei : inK b k = inK b x ++ inK b y) (es : szK k = szK x + szK y + 1) (ed : k.dp = max x.dp y.dp + 1) (ix : LiK b x) (iy : LiK b y) : LiK b k := by
  intro n h Q X hn hz hQ
  refine run_of (fd := fd_law_in) rfl rfl ?_
  have lx := inK_len b x
  have ly := inK_len b y
  rw [ek]
  simp [fd_law_in, start, b0_law_in, b2_law_in, atI, LINE]
  rw [decide_eq_false wr]
  rw [ei] at hQ
  obtain ⟨m, rfl⟩ : ∃ m, n = m + 1 := ⟨n - 1, by omega⟩
  have go := law_in_body (w := w) (n := m) (X := X) (Q := Q) (h := h) ix iy (by omega) (by omega) (by omega) hQ
  simp
  by_cases hb : b = true
  · subst hb
    simp
    rw [decide_eq_false wn]
    exact go
  · have hb2 : b = false := by simpa using hb
    subst hb2
    simp
    exact go
theorem law_in_ok (b : Bool) : ∀ k : Kd, LiK b k
  | .one => fun n h Q X hn hz hQ => by
    refine run_of (fd := fd_law_in) rfl rfl ?_
    simp [fd_law_in, start, b0_law_in, b2_law_in, b3_law_in, encK, atI, LINE]
    exact fun r hr => hQ r _ hr up_same (Ext.new hr)
  | .name => fun n h Q X hn hz hQ => by
    refine run_of (fd := fd_law_in) rfl rfl ?_
    simp [fd_law_in, start, b0_law_in, b2_law_in, b3_law_in, encK, atI, LINE]
    exact fun r hr => hQ r _ hr up_same (Ext.new hr)
  | .none => fun n h Q X hn hz hQ => by
    refine run_of (fd := fd_law_in) rfl rfl ?_
    simp [fd_law_in, start, b0_law_in, b2_law_in, b3_law_in, encK, atI, LINE]
    exact fun r hr => hQ r _ hr up_same (Ext.new hr)
  | .rule s => fun n h Q X hn hz hQ => by
    refine run_of (fd := fd_law_in) rfl rfl ?_
    simp [fd_law_in, start, b0_law_in, b1_law_in, encK, atI, LINE]
    exact fun r hr => hQ r _ hr up_same (Ext.new hr)
  | .sum x y => law_in_two (w := s_sum) (by decide) (by decide) rfl rfl rfl rfl (law_in_ok b x) (law_in_ok b y)
  | .pair x y => law_in_two (w := s_pair) (by decide) (by decide) rfl rfl rfl rfl (law_in_ok b x) (law_in_ok b y)
  | .node x => fun n h Q X hn hz hQ => by
    refine run_of (fd := fd_law_in) rfl rfl ?_
    have ih := law_in_ok b x
    have lx := inK_len b x
    obtain ⟨m, rfl⟩ : ∃ m, n = m + 1 := ⟨n - 1, by simp [Kd.dp] at hn; omega⟩
    have z2 : szK x ≤ 999 := by simp [szK] at hz; omega
    cases b with
    | true =>
      simp [fd_law_in, start, b0_law_in, b2_law_in, b3_law_in, encK, atI, LINE]
      exact fun r hr => hQ r _ hr up_same (Ext.new hr)
    | false =>
      simp [fd_law_in, start, b0_law_in, b2_law_in, b4_law_in, encK, atI, LINE]
      intro r hr
      refine ⟨by decide, ?_⟩
      simp [cut, clip]
      refine loop_unroll ?_
      rw [loopU_cons]
      refine ⟨trivial, ?_⟩
      simp [b5_law_in]
      refine ih m (by simp [Kd.dp] at hn; omega) (by omega) fun r1 h1 f1 e1 x1 => ?_
      have er : h1 r = some (.lst []) := x1 _ _ up_same
      simp [er, e1, LINE]
      refine ⟨by omega, fun r2 f2 => ?_⟩
      rw [loopU_nil]
      refine ⟨trivial, ?_⟩
      simp [b6_law_in]
      refine hQ r2 _ ?_ (by rw [up_same]; simp [inK]) (((Ext.new hr).trans x1).trans (Ext.new f2))
      cases z : h r2 with
      | none => rfl
      | some o => rw [x1 _ _ (Ext.new hr _ _ z)] at f2; cases f2
/-! ### the rules, and what is reached -/
abbrev Rs := List (Sx × Kd)
def encRs (rs : Rs) : List (D × D) := rs.map fun x => (D.str x.1, encK x.2)
theorem kvGet_lk {α : Type} (f : α → D) : ∀ (l : List (Sx × α)) (s : Sx), kvGet (l.map fun x => (D.str x.1, f x.2)) (.str s) = (l.lookup s).map f
  | [], s => rfl
  | (a, b) :: l, s => by
    rw [List.map_cons, kvGet_cons, kvGet_lk f l s, List.lookup_cons]
    by_cases e : a = s
    · subst e; simp
    · have e2 : (s == a) = false := by simpa using fun z : s = a => e z.symm
      have e3 : ¬ D.str a = D.str s := fun z => e (by injection z)
      rw [e2, if_neg e3]
theorem kvGet_rs {rs : Rs} {s : Sx} : kvGet (encRs rs) (.str s) = (rs.lookup s).map encK := kvGet_lk encK rs s
theorem lookup_mem {rs : Rs} {s : Sx} {k : Kd} (h : rs.lookup s = some k) : (s, k) ∈ rs := by
  induction rs with
  | nil => cases h
  | cons y rs ih =>
    obtain ⟨a, b⟩ := y
    rw [List.lookup_cons] at h
    by_cases e : s = a
    · subst e
      simp at h
      subst h
      exact List.mem_cons_self
    · have e2 : (s == a) = false := by simpa using e
      rw [e2] at h
      exact List.mem_cons_of_mem _ (ih h)
theorem lookup_some {rs : Rs} {s : Sx} (h : s ∈ rs.map (·.1)) : ∃ k, rs.lookup s = some k := by
  induction rs with
  | nil => cases h
  | cons y rs ih =>
    obtain ⟨a, b⟩ := y
    rw [List.lookup_cons]
    by_cases e : s = a
    · subst e; exact ⟨b, by simp⟩
    · have e2 : (s == a) = false := by simpa using e
      rw [e2]
      refine ih ?_
      simp at h ⊢
      rcases h with h | h
      · exact absurd h e
      · exact h
theorem lookup_key {rs : Rs} {s : Sx} {k : Kd} (h : rs.lookup s = some k) : s ∈ rs.map (·.1) := List.mem_map.mpr ⟨_, lookup_mem h, rfl⟩
structure RsOk (rs : Rs) : Prop where
  dp : ∀ x ∈ rs, x.2.dp ≤ 4
  len : rs.length ≤ 8
theorem RsOk.sz {rs : Rs} (r : RsOk rs) {s : Sx} {k : Kd} (h : rs.lookup s = some k) : szK k ≤ 31 := szK_31 (r.dp _ (lookup_mem h))
def Cl (rs : Rs) : Prop := ∀ s k, rs.lookup s = some k → ∀ t ∈ inK true k, t ∈ rs.map (·.1)
def Stp (rs : Rs) (s t : Sx) : Prop := ∃ k, rs.lookup s = some k ∧ t ∈ inK true k
inductive Rch (rs : Rs) (s : Sx) : Sx → Prop where
  | base {t : Sx} : Stp rs s t → Rch rs s t
  | next {t u : Sx} : Rch rs s t → Stp rs t u → Rch rs s u
theorem stp_key {rs : Rs} (c : Cl rs) {s t : Sx} (h : Stp rs s t) : t ∈ rs.map (·.1) := by
  obtain ⟨k, e, m⟩ := h
  exact c _ _ e _ m
theorem rch_key {rs : Rs} (c : Cl rs) {s t : Sx} (h : Rch rs s t) : t ∈ rs.map (·.1) := by
  cases h with
  | base h => exact stp_key c h
  | next _ h => exact stp_key c h
structure CmI (rs : Rs) (s : Sx) (todo met : List Sx) : Prop where
  td : ∀ t ∈ todo, Rch rs s t
  mt : ∀ t ∈ met, Rch rs s t
  st : ∀ t, Stp rs s t → t ∈ todo ∨ t ∈ met
  cl : ∀ x ∈ met, ∀ t, Stp rs x t → t ∈ todo ∨ t ∈ met
theorem CmI.fin {rs : Rs} {s : Sx} {met : List Sx} (i : CmI rs s [] met) {t : Sx} (h : Rch rs s t) : t ∈ met := by
  induction h with
  | base h => exact (i.st _ h).resolve_left (by simp)
  | next _ h ih => exact (i.cl _ ih _ h).resolve_left (by simp)
theorem CmI.skip {rs : Rs} {s x : Sx} {T met : List Sx} (i : CmI rs s (x :: T) met) (hx : x ∈ met) : CmI rs s T met := by
  refine ⟨fun t h => i.td t (List.mem_cons_of_mem _ h), i.mt, fun t h => ?_, fun y hy t h => ?_⟩
  · rcases i.st t h with h | h
    · rcases List.mem_cons.mp h with rfl | h
      · exact .inr hx
      · exact .inl h
    · exact .inr h
  · rcases i.cl y hy t h with h | h
    · rcases List.mem_cons.mp h with rfl | h
      · exact .inr hx
      · exact .inl h
    · exact .inr h
theorem CmI.add {rs : Rs} {s x : Sx} {T met L : List Sx} {k : Kd} (i : CmI rs s (x :: T) met) (e : rs.lookup x = some k) (hL : ∀ t, t ∈ L ↔ t ∈ inK true k) : CmI rs s (L.reverse ++ T) (met ++ [x]) := by
  have rx := i.td x List.mem_cons_self
  have up : ∀ t, t ∈ x :: T ∨ t ∈ met → t ∈ L.reverse ++ T ∨ t ∈ met ++ [x] := fun t h => by
    simp at h ⊢
    rcases h with (h | h) | h
    · exact .inr (.inr h)
    · exact .inl (.inr h)
    · exact .inr (.inl h)
  refine ⟨fun t h => ?_, fun t h => ?_, fun t h => up t (i.st t h), fun y hy t h => ?_⟩
  · rcases List.mem_append.mp h with h | h
    · exact .next rx ⟨k, e, (hL t).mp (List.mem_reverse.mp h)⟩
    · exact i.td t (List.mem_cons_of_mem _ h)
  · rcases List.mem_append.mp h with h | h
    · exact i.mt t h
    · rw [List.mem_singleton.mp h]; exact rx
  · rcases List.mem_append.mp hy with hy | hy
    · exact up t (i.cl y hy t h)
    · rw [List.mem_singleton.mp hy] at h
      obtain ⟨k', e', m⟩ := h
      rw [e] at e'
      cases e'
      exact .inl (List.mem_append_left _ (List.mem_reverse.mpr ((hL t).mpr m)))
def encM (met : List Sx) : List (D × D) := met.map fun s => (D.str s, D.bl true)
theorem kvGet_met : ∀ {met : List Sx} {s : Sx}, (kvGet (encM met) (.str s)).isSome = decide (s ∈ met)
  | [], s => by simp [encM, kvGet_nil]
  | a :: met, s => by
    unfold encM
    rw [List.map_cons, kvGet_cons]
    by_cases e : a = s
    · subst e; simp
    · have e3 : ¬ D.str a = D.str s := fun z => e (by injection z)
      rw [if_neg e3]
      have := kvGet_met (met := met) (s := s)
      unfold encM at this
      rw [this]
      have e4 : ¬ s = a := fun z => e z.symm
      simp [e4]
theorem kvPut_met {met : List Sx} {s : Sx} (h : s ∉ met) : kvPut (encM met) (.str s) (.bl true) = encM (met ++ [s]) := by
  rw [kvPut_new]
  · simp [encM]
  · intro kv hkv
    obtain ⟨x, hx, rfl⟩ := List.mem_map.mp hkv
    intro z
    injection z with z
    exact h (z ▸ hx)
def CmW (rs : Rs) (q : Nat) (s : Sx) (pm pt : Nat) (h : AH) (G : List Sx → Prop) (m : Nat) : St → AH → Prop := fun σ h' => ∃ (T met : List Sx) (x : Option D), σ = [some (.ref q), some (.str s), some (.ref pm), some (.ref pt), x] ∧
  h' pm = some (.dct 0 (encM met)) ∧ h' pt = some (.lst (T.reverse.map .str)) ∧ Ext h h' ∧ m = T.length + 40 * (rs.length - met.length) ∧ m ≤ 1000 ∧ met.Nodup ∧ (∀ t ∈ met, t ∈ rs.map (·.1)) ∧ CmI rs s T met ∧ G met
theorem nd_len' {xs ys : List Sx} (h : xs.Nodup) (k : ∀ x ∈ xs, x ∈ ys) : xs.length ≤ ys.length := nd_len h k
theorem CmI.init {rs : Rs} {s : Sx} {k : Kd} {L : List Sx} (e : rs.lookup s = some k) (hL : ∀ t, t ∈ L ↔ t ∈ inK true k) : CmI rs s L.reverse [] := by
  refine ⟨fun t h => .base ⟨k, e, (hL t).mp (List.mem_reverse.mp h)⟩, fun t h => by simp at h, fun t h => ?_, fun x h => by simp at h⟩
  obtain ⟨k', e', m⟩ := h
  rw [e] at e'
  cases e'
  exact .inl (List.mem_reverse.mpr ((hL t).mpr m))
theorem comes_itself_ok {rs : Rs} (ro : RsOk rs) (cl : Cl rs) {n q : Nat} {s : Sx} {h : AH} {Q : VQ} {X : XP} (hq : h q = some (.dct 0 (encRs rs))) (hs : s ∈ rs.map (·.1)) (hQ : ∀ b h', (b = true ↔ Rch rs s s) → Ext h h' → Q (.bl b) h') : run P (n + 2) s_comes_to_itself [.ref q, .str s] h Q X := by
  have l8 := ro.len
  obtain ⟨k, ek⟩ := lookup_some hs
  have zk := ro.sz ek
  refine run_of (fd := fd_comes_to_itself) rfl rfl ?_
  simp [fd_comes_to_itself, start, b0_comes_to_itself]
  intro pm hm
  have hq1 := (Ext.new (o := .dct 0 []) hm) _ _ hq
  rw [ix_dct hq1, kvGet_rs, ek]
  simp
  refine ⟨rfl, ?_⟩
  refine rules_in_ok (n := n) (k := k) (b := true) (by omega) fun L pt h1 ft e1 pL x1 => ?_
  have lL := pL.length_eq
  have lk := inK_len true k
  obtain ⟨npt, ht'⟩ := up_none ft
  simp only [wS]
  refine ⟨CmW rs q s pm pt h fun met => s ∉ met, ⟨_, L.reverse, [], none, rfl, x1 _ _ up_same, by rw [e1]; simp, (Ext.new hm).trans x1, rfl, by simp; omega, by simp, fun t h => by simp at h, CmI.init ek fun t => pL.mem_iff, by simp⟩, ?_⟩
  rintro m σ h' ⟨T, met, x, rfl, em, et, ex, ms, m1000, nd, mk, ci, gs⟩
  have lm := nd_len nd mk
  simp at lm
  simp
  rw [len_lst et]
  cases T with
  | nil =>
    simp [b5_comes_to_itself]
    exact hQ false h' ⟨fun z => (nomatch z), fun z => absurd (ci.fin z) gs⟩ ex
  | cons t T =>
    rw [decide_eq_true (by simp)]
    simp [b1_comes_to_itself]
    refine ⟨recv_ok (by simp) (by simp) et, ?_⟩
    rw [aLst_eq et]
    have e9 : ((t :: T).reverse.map D.str)[((t :: T).reverse.map D.str).length - 1]? = some (.str t) := by simp
    rw [e9]
    simp
    simp at ms
    have kt := rch_key cl (ci.td t List.mem_cons_self)
    have ex2 : Ext h (up h' pt (.lst ((T.map D.str).reverse))) := ex.mut ht' .put
    have em2 : up h' pt (.lst ((T.map D.str).reverse)) pm = some (.dct 0 (encM met)) := by rw [up_ne (Ne.symm npt)]; exact em
    by_cases z : t = s
    · subst z
      simp [b2_comes_to_itself]
      exact hQ true _ ⟨fun _ => ci.td _ List.mem_cons_self, fun _ => rfl⟩ ex2
    · rw [decide_eq_false z]
      simp [b3_comes_to_itself]
      rw [mem_dct em2, kvGet_met]
      refine ⟨rfl, ?_⟩
      by_cases y : t ∈ met
      · rw [decide_eq_true y]
        simp
        exact ⟨_, by omega, T, met, _, rfl, em2, by rw [up_same]; simp, ex2, rfl, by omega, nd, mk, ci.skip y, gs⟩
      · rw [decide_eq_false y]
        simp [b4_comes_to_itself]
        rw [set_dct em2, kvPut_met y]
        have lm2 : (met ++ [t]).length ≤ (rs.map (·.1)).length := nd_len (List.nodup_append.mpr ⟨nd, by simp, fun a ha b hb => by
          rw [List.mem_singleton.mp hb]; exact fun z => y (z ▸ ha)⟩) fun a ha => by
            rcases List.mem_append.mp ha with ha | ha
            · exact mk a ha
            · rw [List.mem_singleton.mp ha]; exact kt
        simp at lm2
        have hm2 : up (up h' pt (.lst ((T.map D.str).reverse))) pm (.dct 0 (encM (met ++ [t]))) pt = some (.lst ((T.map D.str).reverse)) := by rw [up_ne npt, up_same]
        have ex3 : Ext h (up (up h' pt (.lst ((T.map D.str).reverse))) pm (.dct 0 (encM (met ++ [t])))) := ex2.mut hm .put
        have em3 : up (up h' pt (.lst ((T.map D.str).reverse))) pm (.dct 0 (encM (met ++ [t]))) pm = some (.dct 0 (encM (met ++ [t]))) := up_same
        refine ⟨rfl, by simp [encM, LINE]; omega, ?_⟩
        generalize up (up h' pt (.lst ((T.map D.str).reverse))) pm (.dct 0 (encM (met ++ [t]))) = h2 at hm2 ex3 em3 ⊢
        refine ⟨recv_ok (by simp) (by simp) hm2, ?_⟩
        obtain ⟨k2, ek2⟩ := lookup_some kt
        have zk2 := ro.sz ek2
        rw [ix_dct (ex3 _ _ hq), kvGet_rs, ek2]
        simp
        refine ⟨rfl, ?_⟩
        refine rules_in_ok (n := n) (k := k2) (b := true) (by omega) fun L2 r2 h3 f3 e3 p3 x3 => ?_
        have l3 := p3.length_eq
        have l4 := inK_len true k2
        rw [aLst_eq (x3 _ _ hm2), aLst_eq e3]
        refine ⟨by simp [LINE]; omega, _, ?_, L2.reverse ++ T, met ++ [t], _, rfl, ?_, by rw [up_same]; simp, (ex3.trans x3).mut ht' .put, rfl, ?_, List.nodup_append.mpr ⟨nd, by simp, fun a ha b hb => by
          rw [List.mem_singleton.mp hb]; exact fun z => y (z ▸ ha)⟩, fun a ha => by
            rcases List.mem_append.mp ha with ha | ha
            · exact mk a ha
            · rw [List.mem_singleton.mp ha]; exact kt, ci.add ek2 fun t => p3.mem_iff, ?_⟩
        · simp; omega
        · rw [up_ne (Ne.symm npt)]; exact x3 _ _ em3
        · simp; omega
        · simp
          exact ⟨gs, fun w => z w.symm⟩
theorem law_comes_ok {rs : Rs} (ro : RsOk rs) (cl : Cl rs) {n q : Nat} {s : Sx} {h : AH} {Q : VQ} {X : XP} (hq : h q = some (.dct 0 (encRs rs))) (hs : s ∈ rs.map (·.1)) (hQ : ∀ b h', (b = true ↔ Rch rs s s) → Ext h h' → Q (.bl b) h') : run P (n + 6) s__law_comes [.ref q, .str s] h Q X := by
  have l8 := ro.len
  obtain ⟨k, ek⟩ := lookup_some hs
  have zk := ro.sz ek
  refine run_of (fd := fd_law_comes) rfl rfl ?_
  simp [fd_law_comes, start, b0_law_comes]
  intro pm hm
  have hq1 := (Ext.new (o := .dct 0 []) hm) _ _ hq
  rw [ix_dct hq1, kvGet_rs, ek]
  simp
  refine ⟨rfl, ?_⟩
  refine law_in_ok true k (n + 4) (by have := ro.dp _ (lookup_mem ek); simp at this; omega) (by omega) fun pt h1 ft e1 x1 => ?_
  have lk := inK_len true k
  obtain ⟨npt, ht'⟩ := up_none ft
  simp only [wS]
  refine ⟨CmW rs q s pm pt h fun met => True, ⟨_, (inK true k).reverse, [], none, rfl, x1 _ _ up_same, by rw [e1]; simp, (Ext.new hm).trans x1, rfl, by simp; omega, by simp, fun t h => by simp at h, CmI.init ek fun t => Iff.rfl, trivial⟩, ?_⟩
  rintro m σ h' ⟨T, met, x, rfl, em, et, ex, ms, m1000, nd, mk, ci, gs⟩
  have lm := nd_len nd mk
  simp at lm
  simp
  rw [len_lst et]
  cases T with
  | nil =>
    simp [b3_law_comes]
    rw [mem_dct em, kvGet_met]
    refine ⟨rfl, hQ _ h' ?_ ex⟩
    simp
    exact ⟨fun z => ci.mt _ z, fun z => ci.fin z⟩
  | cons t T =>
    rw [decide_eq_true (by simp)]
    simp [b1_law_comes]
    refine ⟨recv_ok (by simp) (by simp) et, ?_⟩
    rw [aLst_eq et]
    have e9 : ((t :: T).reverse.map D.str)[((t :: T).reverse.map D.str).length - 1]? = some (.str t) := by simp
    rw [e9]
    simp
    simp at ms
    have kt := rch_key cl (ci.td t List.mem_cons_self)
    have ex2 : Ext h (up h' pt (.lst ((T.map D.str).reverse))) := ex.mut ht' .put
    have em2 : up h' pt (.lst ((T.map D.str).reverse)) pm = some (.dct 0 (encM met)) := by rw [up_ne (Ne.symm npt)]; exact em
    rw [mem_dct em2, kvGet_met]
    refine ⟨rfl, ?_⟩
    by_cases y : t ∈ met
    · rw [decide_eq_true y]
      simp
      exact ⟨_, by omega, T, met, _, rfl, em2, by rw [up_same]; simp, ex2, rfl, by omega, nd, mk, ci.skip y, gs⟩
    · rw [decide_eq_false y]
      simp [b2_law_comes]
      rw [set_dct em2, kvPut_met y]
      have lm2 : (met ++ [t]).length ≤ (rs.map (·.1)).length := nd_len (List.nodup_append.mpr ⟨nd, by simp, fun a ha b hb => by
        rw [List.mem_singleton.mp hb]; exact fun z => y (z ▸ ha)⟩) fun a ha => by
          rcases List.mem_append.mp ha with ha | ha
          · exact mk a ha
          · rw [List.mem_singleton.mp ha]; exact kt
      simp at lm2
      have hm2 : up (up h' pt (.lst ((T.map D.str).reverse))) pm (.dct 0 (encM (met ++ [t]))) pt = some (.lst ((T.map D.str).reverse)) := by rw [up_ne npt, up_same]
      have ex3 : Ext h (up (up h' pt (.lst ((T.map D.str).reverse))) pm (.dct 0 (encM (met ++ [t])))) := ex2.mut hm .put
      have em3 : up (up h' pt (.lst ((T.map D.str).reverse))) pm (.dct 0 (encM (met ++ [t]))) pm = some (.dct 0 (encM (met ++ [t]))) := up_same
      refine ⟨rfl, by simp [encM, LINE]; omega, ?_⟩
      generalize up (up h' pt (.lst ((T.map D.str).reverse))) pm (.dct 0 (encM (met ++ [t]))) = h2 at hm2 ex3 em3 ⊢
      refine ⟨recv_ok (by simp) (by simp) hm2, ?_⟩
      obtain ⟨k2, ek2⟩ := lookup_some kt
      have zk2 := ro.sz ek2
      rw [ix_dct (ex3 _ _ hq), kvGet_rs, ek2]
      simp
      refine ⟨rfl, ?_⟩
      refine law_in_ok true k2 (n + 4) (by have := ro.dp _ (lookup_mem ek2); simp at this; omega) (by omega) fun r2 h3 f3 e3 x3 => ?_
      have l4 := inK_len true k2
      rw [aLst_eq (x3 _ _ hm2), aLst_eq e3]
      refine ⟨by simp [LINE]; omega, _, ?_, (inK true k2).reverse ++ T, met ++ [t], _, rfl, ?_, by rw [up_same]; simp, (ex3.trans x3).mut ht' .put, rfl, ?_, List.nodup_append.mpr ⟨nd, by simp, fun a ha b hb => by
        rw [List.mem_singleton.mp hb]; exact fun z => y (z ▸ ha)⟩, fun a ha => by
          rcases List.mem_append.mp ha with ha | ha
          · exact mk a ha
          · rw [List.mem_singleton.mp ha]; exact kt, ci.add ek2 fun t => Iff.rfl, trivial⟩
      · simp; omega
      · rw [up_ne (Ne.symm npt)]; exact x3 _ _ em3
      · simp; omega
/-! ### what is due -/
def Bad1 (rs : Rs) (s : Sx) : Prop := ∃ k, rs.lookup s = some k ∧ ∃ t ∈ inK false k, t ∉ rs.map (·.1)
open Classical in
noncomputable def due (rs : Rs) (ks : List Sx) : Option Sx := match ks.find? (fun s => decide (Bad1 rs s)) with
  | some s => some s
  | none => ks.find? (fun s => decide (Rch rs s s))
theorem find_at {α : Type} {f : α → Bool} {pre post : List α} {s : α} (h : ∀ x ∈ pre, f x = false) (hs : f s = true) : (pre ++ s :: post).find? f = some s := by
  induction pre with
  | nil => simp [hs]
  | cons a pre ih =>
    rw [List.cons_append, List.find?_cons, h a List.mem_cons_self]
    exact ih fun x hx => h x (List.mem_cons_of_mem _ hx)
theorem find_no {α : Type} {f : α → Bool} {xs : List α} (h : ∀ x ∈ xs, f x = false) : xs.find? f = none := by
  rw [List.find?_eq_none]
  intro x hx
  rw [h x hx]
  simp
open Classical in
theorem due_1 {rs : Rs} {pre post : List Sx} {s : Sx} (h : ∀ x ∈ pre, ¬ Bad1 rs x) (hs : Bad1 rs s) : due rs (pre ++ s :: post) = some s := by
  unfold due
  rw [find_at (fun x hx => decide_eq_false (h x hx)) (decide_eq_true hs)]
open Classical in
theorem due_2 {rs : Rs} {pre post : List Sx} {s : Sx} (h0 : ∀ x ∈ pre ++ s :: post, ¬ Bad1 rs x) (h : ∀ x ∈ pre, ¬ Rch rs x x) (hs : Rch rs s s) : due rs (pre ++ s :: post) = some s := by
  unfold due
  rw [find_no fun x hx => decide_eq_false (h0 x hx)]
  exact find_at (fun x hx => decide_eq_false (h x hx)) (decide_eq_true hs)
open Classical in
theorem due_0 {rs : Rs} {ks : List Sx} (h0 : ∀ x ∈ ks, ¬ Bad1 rs x) (h : ∀ x ∈ ks, ¬ Rch rs x x) : due rs ks = none := by
  unfold due
  rw [find_no fun x hx => decide_eq_false (h0 x hx)]
  exact find_no fun x hx => decide_eq_false (h x hx)
structure SK (rs : Rs) (ks : List Sx) : Prop where
  pm : ks.Perm (rs.map (·.1))
  st : (ks.map D.str).Pairwise fun a b => ltD b a = false
theorem SK.uniq {rs : Rs} {ks ls : List Sx} (a : SK rs ks) (b : SK rs ls) : ks = ls := by
  have := sorted_uniq a.st b.st ((a.pm.trans b.pm.symm).map _)
  exact List.map_inj_right (fun x y z => by injection z) |>.mp this
theorem strs_of_perm {ys : List D} {ss : List Sx} (p : ys.Perm (ss.map D.str)) : ∃ ks : List Sx, ys = ks.map D.str ∧ ks.Perm ss := by
  have : ∀ l : List D, (∀ y ∈ l, ∃ s, y = D.str s) → ∃ ks : List Sx, l = ks.map D.str := by
    intro l
    induction l with
    | nil => exact fun _ => ⟨[], rfl⟩
    | cons y l ih =>
      intro h
      obtain ⟨s, rfl⟩ := h y List.mem_cons_self
      obtain ⟨ks, rfl⟩ := ih fun z hz => h z (List.mem_cons_of_mem _ hz)
      exact ⟨s :: ks, rfl⟩
  obtain ⟨ks, rfl⟩ := this ys fun y hy => by
    obtain ⟨s, _, rfl⟩ := List.mem_map.mp (p.mem_iff.mp hy)
    exact ⟨s, rfl⟩
  refine ⟨ks, rfl, ?_⟩
  have un : ∀ l : List Sx, (l.map D.str).map (fun d => match d with | .str s => s | _ => []) = l := fun l => by
    rw [List.map_map]
    exact List.map_id _
  have := p.map (fun d => match d with | .str s => s | _ => ([] : Sx))
  rwa [un, un] at this
theorem sk_of {rs : Rs} {ys : List D} (p : ys.Perm ((encRs rs).map (·.1))) (st : ys.Pairwise fun a b => ltD b a = false) : ∃ ks, ys = ks.map D.str ∧ SK rs ks := by
  have e : (encRs rs).map (·.1) = (rs.map (·.1)).map D.str := by simp [encRs, Function.comp_def]
  rw [e] at p
  obtain ⟨ks, rfl, q⟩ := strs_of_perm p
  exact ⟨ks, rfl, q, st⟩
theorem keys_sort {rs : Rs} (ro : RsOk rs) : ∃ ss, strsOf ((encRs rs).map (·.1)) = some ss ∧ ss.length < 64 := by
  have e : (encRs rs).map (·.1) = (rs.map (·.1)).map D.str := by simp [encRs, Function.comp_def]
  rw [e, strsOf_map]
  exact ⟨_, rfl, by have := ro.len; simp; omega⟩
theorem SK.cl {rs : Rs} {ks : List Sx} (k : SK rs ks) (h : ∀ x ∈ ks, ¬ Bad1 rs x) : Cl rs := fun s kd e t ht => Classical.byContradiction fun z =>
  h s (k.pm.mem_iff.mpr (lookup_key e)) ⟨kd, e, t, inK_bare _ _ ht, z⟩
theorem mem_keys {rs : Rs} {s : Sx} : (kvGet (encRs rs) (.str s)).isSome = decide (s ∈ rs.map (·.1)) := by
  rw [kvGet_rs]
  by_cases h : s ∈ rs.map (·.1)
  · obtain ⟨k, e⟩ := lookup_some h
    rw [e, decide_eq_true h]
    rfl
  · rw [decide_eq_false h]
    cases e : rs.lookup s with
    | none => rfl
    | some k => exact absurd (lookup_key e) h
/-! ### look_rules -/
theorem loop_suf {xs : List D} {ok : AH → Prop} {body : D → St → AH → (St → AH → Prop) → Prop} {done : St → AH → Prop} {σ : St} {h : AH} (I : List D → St → AH → Prop) (h0 : I xs σ h) (hok : ∀ ys σ h, I ys σ h → ok h) (hs : ∀ x ys σ h, I (x :: ys) σ h → body x σ h (I ys)) (hd : ∀ σ h, I [] σ h → done σ h) : loopW xs ok body done σ h := by
  refine ⟨fun i => I (xs.drop i), h0, fun i σ h => hok _ σ h, fun i x σ h e p => ?_, fun σ h p => hd σ h ?_⟩
  · have hl := (List.getElem?_eq_some_iff.mp e).1
    have ex := (List.getElem?_eq_some_iff.mp e).2
    dsimp only at p
    rw [List.drop_eq_getElem_cons hl, ex] at p
    exact hs _ _ _ _ p
  · dsimp only at p
    rwa [List.drop_length] at p
def Lk0 (rs : Rs) (q : Nat) (s : Sx) (L : List Sx) (h : AH) (xs : List D) : St → AH → Prop := fun σ h' => ∃ (pre post : List Sx) (b : Option D), L = pre ++ post ∧ xs = post.map .str ∧ σ = [some (.ref q), some (.str s), b] ∧ h' = h ∧ ∀ t ∈ pre, t ∈ rs.map (·.1)
def Lk1 (rs : Rs) (q r : Nat) (ks : List Sx) (h : AH) (B : Sx → Prop) (xs : List D) : St → AH → Prop := fun σ h' => ∃ (pre post : List Sx) (a b : Option D), ks = pre ++ post ∧ xs = post.map .str ∧ σ = [some (.ref q), a, b] ∧ Ext h h' ∧ h' r = some (.lst (ks.map .str)) ∧ ∀ t ∈ pre, ¬ B t
theorem look_rules_ok {rs : Rs} (ro : RsOk rs) {n q : Nat} {h : AH} {Q : VQ} {X : XP} (hq : h q = some (.dct 0 (encRs rs))) (hN : ∀ ks h', SK rs ks → due rs ks = none → Ext h h' → Q .non h') (hX : ∀ ks s h', SK rs ks → due rs ks = some s → Ext h h' → X s_NoRules [(s_rule, .str s)] h') : run P (n + 3) s_look_rules [.ref q] h Q X := by
  have l8 := ro.len
  refine run_of (fd := fd_look_rules) rfl rfl ?_
  simp [fd_look_rules, start, b0_look_rules]
  rw [sortP_dct hq]
  refine ⟨keys_sort ro, fun ys py sy r hr => ?_⟩
  obtain ⟨ks, rfl, sk⟩ := sk_of py sy
  rw [walk_lst up_same]
  refine loop_suf (Lk1 rs q r ks h (Bad1 rs)) ⟨[], ks, _, _, rfl, rfl, rfl, Ext.new hr, up_same, by simp⟩ (fun xs σ h' ⟨_, _, _, _, _, _, _, _, e, _⟩ => e) ?_ ?_
  · rintro x xs σ h' ⟨pre, post, a, b, ek, ex, rfl, xx, er, nb⟩
    cases post with
    | nil => cases ex
    | cons s post =>
      cases ex
      simp [b1_look_rules]
      have ms : s ∈ rs.map (·.1) := sk.pm.mem_iff.mp (by rw [ek]; simp)
      obtain ⟨k, e⟩ := lookup_some ms
      have zk := ro.sz e
      rw [ix_dct (xx _ _ hq), kvGet_rs, e]
      simp
      refine ⟨rfl, rules_in_ok (n := n + 1) (k := k) (b := false) (by omega) fun L rL h1 fL eL pL x1 => ?_⟩
      have x01 := xx.trans x1
      rw [walk_lst eL]
      refine loop_suf (Lk0 rs q s L h1) ⟨[], L, _, rfl, rfl, rfl, rfl, by simp⟩ (fun xs σ h' ⟨_, _, _, _, _, _, e, _⟩ => by rw [e]; exact eL) ?_ ?_
      · rintro x xs σ h2 ⟨pre2, post2, b2, eL2, ex2, rfl, rfl, in2⟩
        cases post2 with
        | nil => cases ex2
        | cons t post2 =>
          cases ex2
          simp [b2_look_rules]
          rw [mem_dct (x01 _ _ hq), mem_keys]
          refine ⟨rfl, ?_⟩
          by_cases z : t ∈ rs.map (·.1)
          · rw [decide_eq_true z]
            simp
            exact ⟨pre2 ++ [t], post2, _, by rw [eL2]; simp, rfl, rfl, rfl, fun u hu => by
              rcases List.mem_append.mp hu with hu | hu
              · exact in2 u hu
              · rw [List.mem_singleton.mp hu]; exact z⟩
          · rw [decide_eq_false z]
            simp [b3_look_rules]
            refine hX ks s h2 sk ?_ x01
            rw [ek]
            refine due_1 nb ⟨k, e, t, pL.mem_iff.mp (by rw [eL2]; simp), z⟩
      · rintro σ h2 ⟨pre2, post2, b2, eL2, ex2, rfl, rfl, in2⟩
        have : post2 = [] := by cases post2 with
          | nil => rfl
          | cons _ _ => cases ex2
        subst this
        rw [List.append_nil] at eL2
        subst eL2
        refine ⟨pre ++ [s], post, _, _, by rw [ek]; simp, rfl, rfl, x01, x1 _ _ er, fun u hu => ?_⟩
        rcases List.mem_append.mp hu with hu | hu
        · exact nb u hu
        · rw [List.mem_singleton.mp hu]
          rintro ⟨k', e', t, ht, nt⟩
          rw [e] at e'
          cases e'
          exact nt (in2 t (pL.mem_iff.mpr ht))
  · rintro σ h' ⟨pre, post, a, b, ek, ex, rfl, xx, er, nb⟩
    have : post = [] := by cases post with
      | nil => rfl
      | cons _ _ => cases ex
    subst this
    rw [List.append_nil] at ek
    subst ek
    have cl := sk.cl nb
    simp [b4_look_rules]
    rw [sortP_dct (xx _ _ hq)]
    refine ⟨keys_sort ro, fun ys py sy r2 hr2 => ?_⟩
    obtain ⟨ks2, rfl, sk2⟩ := sk_of py sy
    cases sk2.uniq sk
    rw [walk_lst up_same]
    refine loop_suf (Lk1 rs q r2 ks h fun s => Rch rs s s) ⟨[], ks, _, _, rfl, rfl, rfl, xx.trans (Ext.new hr2), up_same, by simp⟩ (fun xs σ h' ⟨_, _, _, _, _, _, _, _, e, _⟩ => e) ?_ ?_
    · rintro x xs σ h3 ⟨pre, post, a, b, ek, ex, rfl, xx, er, nr⟩
      cases post with
      | nil => cases ex
      | cons s post =>
        cases ex
        simp [b5_look_rules]
        have ms : s ∈ rs.map (·.1) := sk.pm.mem_iff.mp (by rw [ek]; simp)
        refine comes_itself_ok ro cl (n := n) (xx _ _ hq) ms fun c h4 hc x4 => ?_
        cases c with
        | true =>
          simp [b6_look_rules]
          refine hX ks s h4 sk ?_ (xx.trans x4)
          rw [ek]
          exact due_2 (by rw [← ek]; exact nb) nr (hc.mp rfl)
        | false =>
          simp
          refine ⟨pre ++ [s], post, _, _, by rw [ek]; simp, rfl, rfl, xx.trans x4, x4 _ _ er, fun u hu => ?_⟩
          rcases List.mem_append.mp hu with hu | hu
          · exact nr u hu
          · rw [List.mem_singleton.mp hu]
            exact fun z => nomatch hc.mpr z
    · rintro σ h3 ⟨pre, post, a, b, ek, ex, rfl, xx, er, nr⟩
      have : post = [] := by cases post with
        | nil => rfl
        | cons _ _ => cases ex
      subst this
      rw [List.append_nil] at ek
      subst ek
      exact hN _ h3 sk (due_0 nb nr) xx
theorem comp_map {α : Type} {g f : α → D} {ok : AH → Prop} {body : D → AH → (D → AH → Prop) → (AH → Prop) → Prop} {done : List D → AH → Prop} {h0 : AH} {xs : List α} (hz : xs.length ≤ LINE) (hok : ∀ h, Ext h0 h → ok h)
    (hb : ∀ a ∈ xs, ∀ h yes no, Ext h0 h → (∀ h', Ext h h' → yes (f a) h') → body (g a) h yes no) (hd : ∀ h', Ext h0 h' → done (xs.map f) h') : compW (xs.map g) ok body done h0 := by
  refine ⟨fun i acc h => acc = (xs.take i).map f ∧ Ext h0 h, ⟨by simp, .refl⟩, ?_, by rw [List.length_map]; exact hz, ?_, ?_⟩
  · rintro i acc h ⟨rfl, ex⟩
    exact ⟨hok h ex, by simp; omega⟩
  · rintro i x acc h e ⟨rfl, ex⟩
    obtain ⟨a, ha, rfl⟩ := map_at e
    refine hb a (List.mem_of_getElem? ha) h _ _ ex fun h' x' => ⟨?_, ex.trans x'⟩
    rw [List.take_add_one, ha]
    simp
  · rintro acc h ⟨rfl, ex⟩
    rw [List.length_map, List.take_length]
    exact hd h ex
theorem bls_bl {α : Type} {f : α → Bool} : ∀ {xs : List α}, bls (xs.map fun a => D.bl (f a)) = some (xs.map f)
  | [] => rfl
  | a :: xs => by simp [bls, bls_bl (xs := xs)]
theorem law_due_ok {rs : Rs} (ro : RsOk rs) {n q : Nat} {h : AH} {Q : VQ} {X : XP} (hq : h q = some (.dct 0 (encRs rs))) (hQ : ∀ ks h', SK rs ks → Ext h h' → Q (match due rs ks with | some s => .str s | none => .non) h') : run P (n + 7) s__law_due [.ref q] h Q X := by
  have l8 := ro.len
  refine run_of (fd := fd_law_due) rfl rfl ?_
  simp [fd_law_due, start, b0_law_due]
  rw [sortP_dct hq]
  refine ⟨keys_sort ro, fun ys py sy r hr => ?_⟩
  obtain ⟨ks, rfl, sk⟩ := sk_of py sy
  rw [walk_lst up_same]
  refine loop_suf (Lk1 rs q r ks h (Bad1 rs)) ⟨[], ks, _, _, rfl, rfl, rfl, Ext.new hr, up_same, by simp⟩ (fun xs σ h' ⟨_, _, _, _, _, _, _, _, e, _⟩ => e) ?_ ?_
  · rintro x xs σ h' ⟨pre, post, a, b, ek, ex, rfl, xx, er, nb⟩
    cases post with
    | nil => cases ex
    | cons s post =>
      cases ex
      simp [b1_law_due]
      have ms : s ∈ rs.map (·.1) := sk.pm.mem_iff.mp (by rw [ek]; simp)
      obtain ⟨k, e⟩ := lookup_some ms
      have zk := ro.sz e
      rw [ix_dct (xx _ _ hq), kvGet_rs, e]
      simp
      refine ⟨rfl, law_in_ok false k (n + 5) (by have := ro.dp _ (lookup_mem e); simp at this; omega) (by omega) fun rL h1 fL eL x1 => ?_⟩
      have x01 := xx.trans x1
      rw [walk_lst eL]
      refine comp_map (f := fun t => D.bl (!decide (t ∈ rs.map (·.1)))) (by have := inK_len false k; simp [LINE]; omega) (fun h2 x2 => x2 _ _ eL) (fun t mt h2 yes no x2 ky => ?_) fun h2 x2 => ?_
      · rw [mem_dct ((x01.trans x2) _ _ hq), mem_keys]
        exact ⟨rfl, ky h2 .refl⟩
      · intro r3 hr3
        rw [aLst_eq up_same, bls_bl]
        have ex3 : Ext h (up h2 r3 (.lst ((inK false k).map fun t => D.bl (!decide (t ∈ rs.map (·.1)))))) := (x01.trans x2).trans (Ext.new hr3)
        have er3 : up h2 r3 (.lst ((inK false k).map fun t => D.bl (!decide (t ∈ rs.map (·.1))))) r = some (.lst (ks.map .str)) := (Ext.new hr3) _ _ (x2 _ _ (x1 _ _ er))
        generalize up h2 r3 (.lst ((inK false k).map fun t => D.bl (!decide (t ∈ rs.map (·.1))))) = h4 at ex3 er3 ⊢
        dsimp only [aSome]
        cases z : ((inK false k).map fun t => !decide (t ∈ rs.map (·.1))).any id with
        | true =>
          simp [b2_law_due]
          have b1 : Bad1 rs s := by
            obtain ⟨c, hc, ht⟩ := List.any_eq_true.mp z
            obtain ⟨t, mt, rfl⟩ := List.mem_map.mp hc
            exact ⟨k, e, t, mt, by simpa using ht⟩
          have := hQ ks h4 sk ex3
          rw [ek, due_1 nb b1] at this
          exact this
        | false =>
          refine ⟨pre ++ [s], post, _, _, by rw [ek]; simp, rfl, rfl, ex3, er3, fun u hu => ?_⟩
          rcases List.mem_append.mp hu with hu | hu
          · exact nb u hu
          · rw [List.mem_singleton.mp hu]
            rintro ⟨k', e', t, ht, nt⟩
            rw [e] at e'
            cases e'
            have := List.any_eq_false.mp z (!decide (t ∈ rs.map (·.1))) (List.mem_map.mpr ⟨t, ht, rfl⟩)
            simp [nt] at this
  · rintro σ h' ⟨pre, post, a, b, ek, ex, rfl, xx, er, nb⟩
    have : post = [] := by cases post with
      | nil => rfl
      | cons _ _ => cases ex
    subst this
    rw [List.append_nil] at ek
    subst ek
    have cl := sk.cl nb
    simp [b3_law_due]
    rw [sortP_dct (xx _ _ hq)]
    refine ⟨keys_sort ro, fun ys py sy r2 hr2 => ?_⟩
    obtain ⟨ks2, rfl, sk2⟩ := sk_of py sy
    cases sk2.uniq sk
    rw [walk_lst up_same]
    refine loop_suf (Lk1 rs q r2 ks h fun s => Rch rs s s) ⟨[], ks, _, _, rfl, rfl, rfl, xx.trans (Ext.new hr2), up_same, by simp⟩ (fun xs σ h' ⟨_, _, _, _, _, _, _, _, e, _⟩ => e) ?_ ?_
    · rintro x xs σ h3 ⟨pre, post, a, b, ek, ex, rfl, xx, er, nr⟩
      cases post with
      | nil => cases ex
      | cons s post =>
        cases ex
        simp [b4_law_due]
        have ms : s ∈ rs.map (·.1) := sk.pm.mem_iff.mp (by rw [ek]; simp)
        refine law_comes_ok ro cl (n := n) (xx _ _ hq) ms fun c h4 hc x4 => ?_
        cases c with
        | true =>
          simp [b5_law_due]
          have := hQ ks h4 sk (xx.trans x4)
          rw [ek, due_2 (by rw [← ek]; exact nb) nr (hc.mp rfl)] at this
          exact this
        | false =>
          simp
          refine ⟨pre ++ [s], post, _, _, by rw [ek]; simp, rfl, rfl, xx.trans x4, x4 _ _ er, fun u hu => ?_⟩
          rcases List.mem_append.mp hu with hu | hu
          · exact nr u hu
          · rw [List.mem_singleton.mp hu]
            exact fun z => nomatch hc.mpr z
    · rintro σ h3 ⟨pre, post, a, b, ek, ex, rfl, xx, er, nr⟩
      have : post = [] := by cases post with
        | nil => rfl
        | cons _ _ => cases ex
      subst this
      rw [List.append_nil] at ek
      subst ek
      simp [b6_law_due]
      have := hQ _ h3 sk xx
      rw [due_0 nb nr] at this
      exact this
/-! ### what is told -/
theorem aExc_eq {h : AH} {p : Nat} {c : Sx} {fs : List (Sx × D)} {f : Nat → Sx → List (Sx × D) → Prop} (e : h p = some (.exc c fs)) : aExc (.ref p) h f = f p c fs := by simp only [aExc, e]
def dueD : Option Sx → D
  | some s => .tup [.str s_refused, .str s]
  | none => .tup [.str s_x6c6574206279, .non]
theorem law_told_ok {rs : Rs} (ro : RsOk rs) {n q : Nat} {h : AH} {Q : VQ} {X : XP} (hq : h q = some (.dct 0 (encRs rs))) (hQ : ∀ ks h', SK rs ks → Ext h h' → Q (dueD (due rs ks)) h') : run P (n + 4) s__law_told [.ref q] h Q X := by
  refine run_of (fd := fd_law_told) rfl rfl ?_
  simp [fd_law_told, start, b0_law_told, b1_law_told]
  refine look_rules_ok ro (n := n) hq (fun ks h' sk du ex => ?_) fun ks s h' sk du ex => ?_
  · simp [b3_law_told, b4_law_told]
    have := hQ ks h' sk ex
    rw [du] at this
    exact this
  · simp [b2_law_told, b3_law_told, b5_law_told, b6_law_told, b7_law_told]
    intro r hr
    have := hQ ks (up h' r (.exc s_NoRules [(s_rule, .str s)])) sk (ex.trans (Ext.new hr))
    rw [du] at this
    simp [aExc_eq (up_same (h := h') (a := r) (o := .exc s_NoRules [(s_rule, .str s)])), aSome, List.lookup]
    exact this
/-! ### _law_errors -/
def ecls : Nat → Sx
  | 0 => s_NoRules
  | 1 => s_NoWay
  | _ => s_NoText
theorem err_turn {n i x : Nat} (hi : i < 3) {a b c e k6 k7 : Option D} {H : AH} {fs : List (Sx × D)} {X : XP} {Q : VQ} {N B M : St → AH → Prop} (ex : H x = some (.exc (ecls i) fs)) (k : ∀ k6 k7 h', Ext H h' → N [a, b, c, e, some (.int i), some (.ref x), k6, k7] h') :
    wSs ⟨run P n, fun _ => X⟩ b1_law_errors { nx := N, rt := Q, bk := B, ct := M } [a, b, c, e, some (.int i), some (.ref x), k6, k7] H := by
  simp [b1_law_errors, LINE]
  rw [aExc_eq ex]
  have al : ecls i = s_NoRules ∨ ecls i = s_NoWay ∨ ecls i = s_NoText := by
    have e4 : i = 0 ∨ i = 1 ∨ i = 2 := by omega
    rcases e4 with rfl | rfl | rfl <;> decide
  refine ⟨al, ?_⟩
  rw [aExc_eq ex]
  refine ⟨al, ?_⟩
  rw [aExc_eq ex]
  refine ⟨al, fun r hr => ?_⟩
  have xr : x ≠ r := ne_new ex hr
  rw [show rangeL 0 3 = ([0, 1, 2] : List Int).map D.int from rfl]
  refine comp_map (f := fun j => D.bl (decide (j = (i : Int)))) (by simp [LINE]) (fun _ _ => trivial) (fun j hj h2 yes no x2 ky => ?_) fun h2 x2 => ?_
  · simp
    exact ky h2 .refl
  · intro r2 hr2
    have r12 : r ≠ r2 := ne_new (x2 _ _ up_same) hr2
    refine ⟨r, r2, [decide (ecls i = s_NoRules), decide (ecls i = s_NoWay), decide (ecls i = s_NoText)], [decide ((0 : Int) = i), decide ((1 : Int) = i), decide ((2 : Int) = i)], rfl, rfl, by rw [up_ne r12]; exact x2 _ _ up_same, up_same, ?_⟩
    have x3 : Ext H (up h2 r2 (.lst (([0, 1, 2] : List Int).map fun j => D.bl (decide (j = (i : Int)))))) := ((Ext.new hr).trans x2).trans (Ext.new hr2)
    generalize up h2 r2 (.lst (([0, 1, 2] : List Int).map fun j => D.bl (decide (j = (i : Int))))) = h4 at x3 ⊢
    have same : [decide (ecls i = s_NoRules), decide (ecls i = s_NoWay), decide (ecls i = s_NoText)] = [decide ((0 : Int) = i), decide ((1 : Int) = i), decide ((2 : Int) = i)] := by
      have e4 : i = 0 ∨ i = 1 ∨ i = 2 := by omega
      rcases e4 with rfl | rfl | rfl <;> decide
    rw [decide_eq_true same]
    simp
    rw [aExc_eq (x3 _ _ ex)]
    refine ⟨al, ?_⟩
    have e5 : (!decide (ecls i = s_NoRules) && (!decide (ecls i = s_NoWay) && !decide (ecls i = s_NoText))) = false := by
      have e4 : i = 0 ∨ i = 1 ∨ i = 2 := by omega
      rcases e4 with rfl | rfl | rfl <;> decide
    rw [e5]
    exact k _ _ h4 x3
theorem law_errors_ok {n p : Nat} {h : AH} {Q : VQ} {X : XP} (hd : IsDeck p h) (hQ : ∀ h', IsDeck p h' → Ke p h h' → Q (.bl true) h') : run P (n + 3) s__law_errors [.ref p] h Q X := by
  refine run_of (fd := fd_law_errors) rfl rfl ?_
  simp [fd_law_errors, start, b0_law_errors, LINE]
  refine ⟨by unfold powOk; decide, next_ok (n := n + 1) hd (by decide) fun v h1 v0 v1 d1 k1 => ?_⟩
  refine word_ok (n := n) d1 fun w h2 w1 w8 d2 k2 => ?_
  intro r0 f0 r1 f1 r2 f2 r3 f3
  have E0 : Ext h2 (up (up (up (up h2 r0 (.exc s_NoRules [(s_rule, .str w)])) r1 (.exc s_NoWay [(s_way, .str w), (s_why, .str s_ring), (s_thing, .tup [.int v])])) r2 (.exc s_NoText [(s_row, .int v)])) r3 (.lst [.ref r0, .ref r1, .ref r2])) := (((Ext.new f0).trans (Ext.new f1)).trans (Ext.new f2)).trans (Ext.new f3)
  have a0 : up (up (up (up h2 r0 (.exc s_NoRules [(s_rule, .str w)])) r1 (.exc s_NoWay [(s_way, .str w), (s_why, .str s_ring), (s_thing, .tup [.int v])])) r2 (.exc s_NoText [(s_row, .int v)])) r3 (.lst [.ref r0, .ref r1, .ref r2]) r0 = some (.exc s_NoRules [(s_rule, .str w)]) := (((Ext.new f1).trans (Ext.new f2)).trans (Ext.new f3)) _ _ up_same
  have a1 : up (up (up (up h2 r0 (.exc s_NoRules [(s_rule, .str w)])) r1 (.exc s_NoWay [(s_way, .str w), (s_why, .str s_ring), (s_thing, .tup [.int v])])) r2 (.exc s_NoText [(s_row, .int v)])) r3 (.lst [.ref r0, .ref r1, .ref r2]) r1 = some (.exc s_NoWay [(s_way, .str w), (s_why, .str s_ring), (s_thing, .tup [.int v])]) := ((Ext.new f2).trans (Ext.new f3)) _ _ up_same
  have a2 : up (up (up (up h2 r0 (.exc s_NoRules [(s_rule, .str w)])) r1 (.exc s_NoWay [(s_way, .str w), (s_why, .str s_ring), (s_thing, .tup [.int v])])) r2 (.exc s_NoText [(s_row, .int v)])) r3 (.lst [.ref r0, .ref r1, .ref r2]) r2 = some (.exc s_NoText [(s_row, .int v)]) := (Ext.new f3) _ _ up_same
  have a3 : up (up (up (up h2 r0 (.exc s_NoRules [(s_rule, .str w)])) r1 (.exc s_NoWay [(s_way, .str w), (s_why, .str s_ring), (s_thing, .tup [.int v])])) r2 (.exc s_NoText [(s_row, .int v)])) r3 (.lst [.ref r0, .ref r1, .ref r2]) r3 = some (.lst [.ref r0, .ref r1, .ref r2]) := up_same
  generalize up (up (up (up h2 r0 (.exc s_NoRules [(s_rule, .str w)])) r1 (.exc s_NoWay [(s_way, .str w), (s_why, .str s_ring), (s_thing, .tup [.int v])])) r2 (.exc s_NoText [(s_row, .int v)])) r3 (.lst [.ref r0, .ref r1, .ref r2]) = h3 at E0 a0 a1 a2 a3 ⊢
  rw [walk_enum a3]
  refine loop_unroll ?_
  rw [show enumL 0 [D.ref r0, .ref r1, .ref r2] = [D.tup [.int ((0 : Nat) : Int), .ref r0], .tup [.int ((1 : Nat) : Int), .ref r1], .tup [.int ((2 : Nat) : Int), .ref r2]] from rfl]
  rw [loopU_cons]
  refine ⟨a3, ?_⟩
  simp only [setT_tp, setTs_cons, setTs_nil, List.set_cons_succ, List.set_cons_zero]
  refine err_turn (i := 0) (by decide) a0 fun k6 k7 h4 x4 => ?_
  rw [loopU_cons]
  refine ⟨x4 _ _ a3, ?_⟩
  simp only [setT_tp, setTs_cons, setTs_nil, List.set_cons_succ, List.set_cons_zero]
  refine err_turn (i := 1) (by decide) (x4 _ _ a1) fun k6 k7 h5 x5 => ?_
  rw [loopU_cons]
  refine ⟨x5 _ _ (x4 _ _ a3), ?_⟩
  simp only [setT_tp, setTs_cons, setTs_nil, List.set_cons_succ, List.set_cons_zero]
  refine err_turn (i := 2) (by decide) (x5 _ _ (x4 _ _ a2)) fun k6 k7 h6 x6 => ?_
  have xx : Ext h3 h6 := (x4.trans x5).trans x6
  rw [loopU_nil]
  refine ⟨xx _ _ a3, ?_⟩
  simp [b3_law_errors, b4_law_errors, b5_law_errors, LINE]
  have b3 := xx _ _ a3
  have b0 := xx _ _ a0
  have b1 := xx _ _ a1
  have b2 := xx _ _ a2
  simp [ix_lst b3, atI, aExc_eq b0, aExc_eq b1, aExc_eq b2, aSome, List.lookup, pureDs, pureD, plain, plains]
  have E6 := E0.trans xx
  exact hQ h6 (d2.ext E6) ((k1.trans k2).trans E6.ke)
/-! ### the law -/
theorem pure_encK : ∀ k : Kd, pureD (encK k) = true
  | .one => rfl
  | .name => rfl
  | .none => rfl
  | .rule s => rfl
  | .node a => by simp [encK, pureD, pureDs, pure_encK a]
  | .sum a b => by simp [encK, pureD, pureDs, pure_encK a, pure_encK b]
  | .pair a b => by simp [encK, pureD, pureDs, pure_encK a, pure_encK b]
theorem plain_encK : ∀ (k : Kd) (n : Nat), k.dp < n → plain n (encK k) = true
  | .one, n + 1, _ => by simp [encK, plain, plains]
  | .name, n + 1, _ => by simp [encK, plain, plains]
  | .none, n + 1, _ => by simp [encK, plain, plains]
  | .rule s, n + 1, _ => by simp [encK, plain, plains]
  | .node a, n + 1, h => by simp [Kd.dp] at h; simp [encK, plain, plains, plain_encK a n (by omega)]
  | .sum a b, n + 1, h => by simp [Kd.dp] at h; simp [encK, plain, plains, plain_encK a n (by omega), plain_encK b n (by omega)]
  | .pair a b, n + 1, h => by simp [Kd.dp] at h; simp [encK, plain, plains, plain_encK a n (by omega), plain_encK b n (by omega)]
theorem rs_keys {rs : Rs} : (encRs rs).map (·.1) = (rs.map (·.1)).map D.str := by simp [encRs, Function.comp_def]
theorem str_nodup {ss : List Sx} (nd : ss.Nodup) : (ss.map D.str).Nodup := by
  refine List.Pairwise.map _ (fun a b h z => h (by injection z)) nd
theorem hits_rs {rs : Rs} (ro : RsOk rs) (nd : (rs.map (·.1)).Nodup) {h : AH} : HitsD (EqD 20 h) (encRs rs) (encRs rs) true := by
  refine hits_same fun kv hkv => ?_
  obtain ⟨x, hx, rfl⟩ := List.mem_map.mp hkv
  refine ⟨kvGet_mem (by rw [rs_keys]; exact str_nodup nd) hkv, .inl ⟨pure_encK _, pure_encK _, .inl (plain_encK _ _ (by have := ro.dp x hx; omega)), by simp⟩⟩
theorem kvPut_new_rs {rs : Rs} {t : Sx} {k : Kd} (h : t ∉ rs.map (·.1)) : kvPut (encRs rs) (.str t) (encK k) = encRs (rs ++ [(t, k)]) := by
  rw [kvPut_new]
  · simp [encRs]
  · intro kv hkv
    obtain ⟨x, hx, rfl⟩ := List.mem_map.mp hkv
    intro z
    injection z with z
    exact h (List.mem_map.mpr ⟨x, hx, z⟩)
def plR (ts : List Sx) : Rs := ts.map fun t => (t, Kd.one)
theorem plR_keys {ts : List Sx} : (plR ts).map (·.1) = ts := by simp [plR, Function.comp_def]
theorem plR_one {ts : List Sx} {s : Sx} {k : Kd} (e : (plR ts).lookup s = some k) : k = .one := by
  obtain ⟨t, _, z⟩ := List.mem_map.mp (lookup_mem e)
  cases z
  rfl
theorem plR_due {ts ks : List Sx} : due (plR ts) ks = none := by
  refine due_0 (fun x _ => ?_) fun x _ => ?_
  · rintro ⟨k, e, t, ht, _⟩
    rw [plR_one e] at ht
    simp [inK] at ht
  · intro z
    have no : ∀ a b, ¬ Stp (plR ts) a b := by
      rintro a b ⟨k, e, ht⟩
      rw [plR_one e] at ht
      simp [inK] at ht
    cases z with
    | base z => exact no _ _ z
    | next _ z => exact no _ _ z
theorem plR_ok {ts : List Sx} (l : ts.length ≤ 8) : RsOk (plR ts) := ⟨fun x hx => by
  obtain ⟨t, _, rfl⟩ := List.mem_map.mp hx
  simp [Kd.dp], by simpa [plR] using l⟩
def RuI (p q2 q3 q4 : Nat) (a : D) (ts : List Sx) (h : AH) (i : Nat) : St → AH → Prop := fun σ h' => ∃ (rs : Rs) (x9 x11 x12 : Option D), σ = [some a, some (.ref p), some (.ref q2), some (.ref q3), some (.ref q4), none, none, none, none, x9, none, x11, x12] ∧
  h' q4 = some (.dct 0 (encRs rs)) ∧ rs.map (·.1) = ts.take i ∧ (∀ x ∈ rs, x.2.dp ≤ 4) ∧ IsDeck p h' ∧ Ke p h h'
def PlI (p q2 q3 q4 q5 q8 : Nat) (a d6 d7 : D) (x11 x12 : Option D) (ts : List Sx) (h : AH) (i : Nat) : St → AH → Prop := fun σ h' => ∃ (x9 : Option D), σ = [some a, some (.ref p), some (.ref q2), some (.ref q3), some (.ref q4), some (.ref q5), some d6, some d7, some (.ref q8), x9, none, x11, x12] ∧
  h' q8 = some (.dct 0 (encRs (plR (ts.take i)))) ∧ Ext h h'
def TuI (p q2 q3 q4 q5 q8 : Nat) (a d6 d7 : D) (x9 x11 x12 : Option D) (h : AH) : St → AH → Prop := fun σ h' => ∃ (x10 : Option D), σ = [some a, some (.ref p), some (.ref q2), some (.ref q3), some (.ref q4), some (.ref q5), some d6, some d7, some (.ref q8), x9, x10, x11, x12] ∧ Ext h h'
theorem dueD_pp (o : Option Sx) : pureD (dueD o) = true ∧ plain 190 (dueD o) = true := by
  cases o <;> simp [dueD, pureD, pureDs, plain, plains]
theorem due_same {o : Option Sx} {h : AH} {Q : Bool → Prop} (k : Q true) : eqOk (dueD o) (dueD o) h Q := by
  refine eq_pure (dueD_pp o).1 (dueD_pp o).1 (.inl (dueD_pp o).2) ?_
  simpa using k
theorem prs_pl : ∀ ts : List Sx, prsOf (ts.map fun t => D.tup [.str t, .tup [.str s_one]]) = some (encRs (plR ts))
  | [] => rfl
  | t :: ts => by
    rw [List.map_cons]
    simp only [prsOf]
    rw [prs_pl ts]
    rfl
theorem keys_pl : ∀ ts : List Sx, keysOk 0 (encRs (plR ts)) = true
  | [] => rfl
  | t :: ts => by
    show (keyOk 0 (D.str t) && keysOk 0 (encRs (plR ts))) = true
    rw [keys_pl ts]
    rfl
theorem merge_pl {ts : List Sx} (nd : ts.Nodup) : mergeL [] (encRs (plR ts)) = encRs (plR ts) := by
  rw [mergeL_new]
  · rfl
  · rw [List.nil_append, rs_keys, plR_keys]
    exact str_nodup nd
theorem nes_same {rs : Rs} (ro : RsOk rs) (nd : (rs.map (·.1)).Nodup) {p q : Nat} {h : AH} {Q : Bool → Prop} (e1 : h p = some (.dct 0 (encRs rs))) (e2 : h q = some (.dct 0 (encRs rs))) (k : Q false) : opCmp .nes (.ref p) (.ref q) h Q := by
  refine ⟨p, q, encRs rs, encRs rs, true, rfl, rfl, e1, e2, fun _ => hits_rs ro nd, ?_⟩
  simpa using k
theorem law_turns {a d6 : D} {X : XP} {p q2 q3 q4 q5 q8 : Nat} {ts ks : List Sx} {rs : Rs} {x9 x11 x12 : Option D} {h : AH} (l8 : ts.length ≤ 8) (nd : ts.Nodup) (e2 : h q2 = some (.lst (ts.map .str))) (e4 : h q4 = some (.dct 0 (encRs rs))) (e5 : h q5 = some (.dct 0 (encRs rs))) (e8 : h q8 = some (.dct 0 (encRs (plR ts)))) (n45 : q4 ≠ q5) (ro : RsOk rs) (rn : (rs.map (·.1)).Nodup) (sk : SK rs ks) (hd : IsDeck p h) :
    wSs ⟨run P 228, fun _ => X⟩ b8_law (RT fun d _ => d = .bl true) [some a, some (.ref p), some (.ref q2), some (.ref q3), some (.ref q4), some (.ref q5), some d6, some (dueD (due rs ks)), some (.ref q8), x9, none, x11, x12] h := by
  simp [b8_law, LINE]
  refine loop_rng (fun _ => TuI p q2 q3 q4 q5 q8 a d6 (dueD (due rs ks)) x9 x11 x12 h) ⟨none, rfl, .refl⟩ (fun _ _ _ _ => trivial) ?_ ?_
  · rintro i σ h1 hi ⟨x10, rfl, x1⟩
    simp [b9_law]
    refine law_told_ok ro (n := 224) (x1 _ _ e4) fun ks2 h2 sk2 x2 => ?_
    cases sk2.uniq sk
    refine due_same ?_
    have x12 := x1.trans x2
    show opCmp .nes (.ref q4) (.ref q5) h2 _
    refine nes_same ro rn (x12 _ _ e4) (x12 _ _ e5) ?_
    simp [b11_law]
    refine law_told_ok (plR_ok l8) (n := 224) (x12 _ _ e8) fun ks3 h3 sk3 x3 => ?_
    rw [plR_due]
    refine due_same (o := none) ?_
    have x13 := x12.trans x3
    show walk .seq [.ref q2] h3 _
    rw [walk_lst (x13 _ _ e2)]
    refine comp_map (f := fun t => D.tup [.str t, .tup [.str s_one]]) (by simp [LINE]; omega) (fun h4 x4 => x4 _ _ (x13 _ _ e2)) (fun t mt h4 yes no x4 ky => ?_) fun h4 x4 => ?_
    · exact ky h4 .refl
    · intro r hr
      rw [aLst_eq up_same, prs_pl]
      refine ⟨keys_pl ts, fun r2 hr2 => ?_⟩
      have x5 : Ext h3 (up (up h4 r (.lst (ts.map fun t => D.tup [.str t, .tup [.str s_one]]))) r2 (.dct 0 (mergeL [] (encRs (plR ts))))) := (x4.trans (Ext.new hr)).trans (Ext.new hr2)
      refine nes_same (plR_ok l8) (by rw [plR_keys]; exact nd) (x5 _ _ (x13 _ _ e8)) (by rw [merge_pl nd]; exact up_same) ?_
      simp
      exact ⟨_, rfl, x13.trans x5⟩
  · rintro σ h1 ⟨x10, rfl, x1⟩
    simp [b13_law]
    refine .inr ⟨true, .inr (.inr ⟨q4, q5, encRs rs, encRs rs, true, rfl, rfl, n45, x1 _ _ e4, x1 _ _ e5, fun _ => hits_rs ro rn, by simp⟩), ?_⟩
    simp
    refine law_errors_ok (n := 225) (hd.ext x1) fun h2 _ _ => ?_
    simp
theorem law_rest {a : D} {X : XP} {p q2 q3 q4 : Nat} {ts : List Sx} {rs : Rs} {x9 x11 x12 : Option D} {h : AH} (l8 : ts.length ≤ 8) (nd : ts.Nodup) (e2 : h q2 = some (.lst (ts.map .str))) (e4 : h q4 = some (.dct 0 (encRs rs))) (ek : rs.map (·.1) = ts) (dp : ∀ x ∈ rs, x.2.dp ≤ 4) (hd : IsDeck p h) :
    wSs ⟨run P 228, fun _ => X⟩ b4_law (RT fun d _ => d = .bl true) [some a, some (.ref p), some (.ref q2), some (.ref q3), some (.ref q4), none, none, none, none, x9, none, x11, x12] h := by
  have ro : RsOk rs := ⟨dp, by have := congrArg List.length ek; simp at this; omega⟩
  have rn : (rs.map (·.1)).Nodup := by rw [ek]; exact nd
  simp [b4_law, LINE]
  rw [aDctR_eq e4]
  intro q5 f5
  have x5 : Ext h (up h q5 (.dct 0 (encRs rs))) := Ext.new f5
  have n45 : q4 ≠ q5 := ne_new e4 f5
  refine law_due_ok ro (n := 221) (x5 _ _ e4) fun ks h1 sk x1 => ?_
  have xx := x5.trans x1
  have rest : ∀ d6 : D, wSs ⟨run P 228, fun _ => X⟩ b6_law (RT fun d _ => d = .bl true) [some a, some (.ref p), some (.ref q2), some (.ref q3), some (.ref q4), some (.ref q5), some d6, some (dueD (due rs ks)), none, x9, none, x11, x12] h1 := fun d6 => by
    simp [b6_law]
    intro q8 f8
    have e21 := xx _ _ e2
    have x8 : Ext h1 (up h1 q8 (.dct 0 [])) := Ext.new f8
    rw [walk_lst (x8 _ _ e21)]
    refine ⟨PlI p q2 q3 q4 q5 q8 a d6 (dueD (due rs ks)) x11 x12 ts h1, ⟨x9, rfl, by rw [up_same]; rfl, x8⟩, ?_, ?_, ?_⟩
    · rintro i σ h' ⟨x9, rfl, e8, x'⟩
      exact x' _ _ e21
    · rintro i x σ h' e ⟨x9, rfl, e8, x'⟩
      obtain ⟨t, ht, rfl⟩ := map_at e
      have li := (List.getElem?_eq_some_iff.mp ht).1
      simp [b7_law, LINE]
      have tn : t ∉ (plR (ts.take i)).map (·.1) := by
        rw [plR_keys]
        intro z
        obtain ⟨j, hj, ej⟩ := List.mem_take_iff_getElem.mp z
        have := (List.getElem?_eq_some_iff.mp ht).2
        exact List.pairwise_iff_getElem.mp nd j i (by omega) li (by omega) (ej.trans this.symm)
      rw [set_dct e8]
      have := kvPut_new_rs (k := .one) tn
      rw [show D.tup [D.str s_one] = encK .one from rfl, this]
      refine ⟨rfl, by simp [encRs, plR, LINE]; omega, _, rfl, ?_, x'.mut f8 .put⟩
      rw [up_same, List.take_add_one, ht]
      simp [plR]
    · rintro σ h' ⟨x9, rfl, e8, x'⟩
      rw [List.length_map, List.take_length] at e8
      have x2 := xx.trans x'
      exact law_turns l8 nd (x2 _ _ e2) (x2 _ _ e4) (x' _ _ (x1 _ _ up_same)) e8 n45 ro rn sk (hd.ext x2)
  cases z : due rs ks with
  | none =>
    rw [z] at rest
    simp
    exact rest .non
  | some s =>
    rw [z] at rest
    simp [b5_law, LINE]
    exact rest (.str s)
theorem law_rules {a : D} {X : XP} {p q2 q3 : Nat} {ts ks : List Sx} {h : AH} (l8 : ts.length ≤ 8) (nd : ts.Nodup) (lk : ks.length ≤ 100) (lt : ts.length ≤ ks.length) (e2 : h q2 = some (.lst (ts.map .str))) (e3 : h q3 = some (.lst (ks.map .str))) (hd : IsDeck p h) :
    wSs ⟨run P 228, fun _ => X⟩ b2_law (RT fun d _ => d = .bl true) [some a, some (.ref p), some (.ref q2), some (.ref q3), none, none, none, none, none, none, none, none, none] h := by
  simp [b2_law]
  intro q4 h4
  have x4 : Ext h (up h q4 (.dct 0 [])) := Ext.new h4
  have n42 : q2 ≠ q4 := ne_new e2 h4
  have n43 : q3 ≠ q4 := ne_new e3 h4
  have n4p : q4 ≠ p := hd.ne h4
  rw [walk_enum (x4 _ _ e2)]
  refine ⟨RuI p q2 q3 q4 a ts h, ⟨[], none, none, none, rfl, by rw [up_same]; rfl, rfl, by simp, hd.put h4, x4.ke⟩, ?_, ?_, ?_⟩
  · rintro i σ h' ⟨rs, x9, x11, x12, rfl, e4, ek, dp, d', k'⟩
    exact k' _ _ (isdeck_ne hd e2) e2
  · rintro i x σ h' e ⟨rs, x9, x11, x12, rfl, e4, ek, dp, d', k'⟩
    obtain ⟨y, hy, rfl⟩ := enumL_at e
    obtain ⟨t, ht, rfl⟩ := map_at hy
    have li := (List.getElem?_eq_some_iff.mp ht).1
    simp [b3_law]
    have q3p : q3 ≠ p := isdeck_ne hd e3
    have e33 := k' _ _ q3p e3
    rw [sl_lst e33]
    intro r1 f1
    have x1 : Ext h' (up h' r1 (.lst (cut (ks.map D.str) (some ((i : Int) + 1)) none))) := Ext.new f1
    rw [sl_lst (x1 _ _ e33)]
    intro r2 f2 r f
    have cu : cut (ks.map D.str) (some ((i : Int) + 1)) none = (ks.drop (i + 1)).map D.str := by
      rw [cut_some (by omega) (by simp; omega)]
      rw [← List.map_drop]
      rfl
    rw [cu] at x1 f2 f ⊢
    have x2 := x1.trans (Ext.new f2 (o := .lst ((ks.drop (i + 1)).map D.str)))
    have x5 := x2.trans (Ext.new f (o := .lst [.ref q3, .ref r1, .ref r2]))
    have d5 := d'.ext x5
    refine next_ok (n := 227) d5 (by decide) fun v h6 v0 v1 d6 k6 => ?_
    have rp : r ≠ p := (d'.ext x2).ne f
    have r1p : r1 ≠ p := d'.ne f1
    have r2p : r2 ≠ p := (d'.ext x1).ne f2
    have er := k6 _ _ rp (up_same (h := up (up h' r1 (.lst ((ks.drop (i + 1)).map D.str))) r2 (.lst ((ks.drop (i + 1)).map D.str))) (a := r) (o := .lst [.ref q3, .ref r1, .ref r2]))
    have er1 := k6 _ _ r1p ((Ext.new f (o := .lst [.ref q3, .ref r1, .ref r2])) _ _ ((Ext.new f2 (o := .lst ((ks.drop (i + 1)).map D.str))) _ _ (up_same (h := h') (a := r1) (o := .lst ((ks.drop (i + 1)).map D.str)))))
    have er2 := k6 _ _ r2p ((Ext.new f (o := .lst [.ref q3, .ref r1, .ref r2])) _ _ (up_same (h := up h' r1 (.lst ((ks.drop (i + 1)).map D.str))) (a := r2) (o := .lst ((ks.drop (i + 1)).map D.str))))
    have e36 := k6 _ _ q3p (x5 _ _ e33)
    have e46 := k6 _ _ n4p (x5 _ _ e4)
    have kk : Ke p h h6 := (k'.trans x5.ke).trans k6
    rw [ix_lst er]
    have tn : t ∉ rs.map (·.1) := by
      rw [ek]
      intro z
      obtain ⟨j, hj, ej⟩ := List.mem_take_iff_getElem.mp z
      have := (List.getElem?_eq_some_iff.mp ht).2
      exact List.pairwise_iff_getElem.mp nd j i (by omega) li (by omega) (ej.trans this.symm)
    have go : ∀ (A : List Sx) (ra : Nat), h6 ra = some (.lst (A.map .str)) → run P 228 s__law_next [D.ref p, D.int 5] h6
        (fun d_2 h1 => run P 228 s__law_kind [D.ref p, d_2, D.ref q3, .ref ra] h1
          (fun v h1 => opSet (D.ref q4) (D.str t) v h1 fun h4 => RuI p q2 q3 q4 a ts h (i + 1)
            [some a, some (D.ref p), some (D.ref q2), some (D.ref q3), some (D.ref q4), none, none, none, none, some (D.str t), none, some (D.int ↑i), some (.ref ra)] h4) X) X := fun A ra era => by
      refine next_ok (n := 227) d6 (by decide) fun w h7 w0 w1 d7 k7 => ?_
      obtain ⟨w, rfl⟩ : ∃ u : Nat, w = u := ⟨w.toNat, by omega⟩
      have := kind_ok w (226 - w) p q3 ra ks A h7 (fun v h1 => opSet (D.ref q4) (D.str t) v h1 fun h4 => RuI p q2 q3 q4 a ts h (i + 1)
            [some a, some (D.ref p), some (D.ref q2), some (D.ref q3), some (D.ref q4), none, none, none, none, some (D.str t), none, some (D.int ↑i), some (.ref ra)] h4) X d7 (k7 _ _ q3p e36) (k7 _ _ (isdeck_ne d6 era) era) fun kd h8 kok d8 k8 => by
        have e48 := k8 _ _ n4p (k7 _ _ n4p e46)
        rw [set_dct e48, kvPut_new_rs tn]
        have lr : rs.length ≤ 8 := by
          have := congrArg List.length ek
          simp at this
          omega
        refine ⟨rfl, by simp [encRs, LINE]; omega, rs ++ [(t, kd)], _, _, _, rfl, up_same, ?_, fun x hx => ?_, d8.ke (Ne.symm n4p) .put, ?_⟩
        · rw [List.map_append, ek, List.take_add_one, ht]
          rfl
        · rcases List.mem_append.mp hx with hx | hx
          · exact dp x hx
          · rw [List.mem_singleton.mp hx]
            have := kok.1
            show kd.dp ≤ 4
            omega
        · exact ((kk.trans k7).trans k8).mut h4 .put
      rwa [show 226 - w + w + 2 = 228 by omega] at this
    have : v = 0 ∨ v = 1 ∨ v = 2 := by omega
    rcases this with rfl | rfl | rfl
    · exact go ks q3 e36
    · exact go _ r1 er1
    · exact go _ r2 er2
  · rintro σ h' ⟨rs, x9, x11, x12, rfl, e4, ek, dp, d', k'⟩
    rw [enumL_len, List.length_map, List.take_length] at ek
    exact law_rest l8 nd (k' _ _ (isdeck_ne hd e2) e2) e4 ek dp d'
theorem law_okN : ∀ ns : List Int, ns.length ≤ 63 → run P 229 s_law [.rol (ns.map .int)] (fun _ => none) (fun d _ => d = .bl true) (fun _ _ _ => False) := by
  intro ns hl
  refine run_of (fd := fd_law) rfl rfl ?_
  simp [fd_law, start, b0_law]
  refine deck_ok (n := 227) fun p h0 _ _ d0 => ?_
  refine next_ok (n := 227) d0 (by decide) fun v h1 v0 v1 d1 k1 => ?_
  obtain ⟨v, rfl⟩ : ∃ u : Nat, v = u := ⟨v.toNat, by omega⟩
  refine texts_ok (n := 225) (by omega) d1 fun ts q2 h2 f2 e2 l2 nd2 a8 d2 k2 => ?_
  simp [seq_lst e2]
  intro q3 f3
  have n23 : q2 ≠ q3 := ne_new e2 f3
  have x3 : Ext h2 (up h2 q3 (.lst (ts.map .str))) := Ext.new f3
  have q2p : q2 ≠ p := isdeck_ne d2 e2
  have q3p : q3 ≠ p := d2.ne f3
  refine next_ok (n := 227) (d2.put f3) (by decide) fun u h3 u0 u1 d3 k3 => ?_
  have e23 : h3 q2 = some (.lst (ts.map .str)) := k3 _ _ q2p (x3 _ _ e2)
  have e33 : h3 q3 = some (.lst (ts.map .str)) := k3 _ _ q3p up_same
  simp
  by_cases z : u = 1
  · rw [decide_eq_true z]
    simp [b1_law]
    refine texts_ok (n := 225) (many := 2) (by omega) d3 fun ts2 q5 h4 f5 e5 l5 nd5 a85 d4 k4 => ?_
    have e34 := k4 _ _ q3p e33
    simp [e34, e5, LINE]
    refine ⟨by omega, fun q6 f6 => ?_⟩
    exact law_rules (ks := ts ++ ts2) (by omega) nd2 (by simp; omega) (by simp) ((Ext.new f6) _ _ (k4 _ _ q2p e23)) (by rw [up_same]; simp) (d4.put f6)
  · rw [decide_eq_false z]
    exact law_rules (ks := ts) (by omega) nd2 (by omega) (by omega) e23 e33 d3
end K15
end
section
namespace K15
open PySem L2 Snd
def top (i : Nat) : Stmt := PySem.Challenge.pw_pairwright_k15_rules_refused.main.body.getD i (.Pass ⟨0, 0, 0, 0⟩)
def bn : List Str := [("any" : Str), ("dict" : Str), ("enumerate" : Str), ("int" : Str), ("isinstance" : Str), ("len" : Str), ("list" : Str), ("min" : Str), ("range" : Str), ("sorted" : Str)]
def F_NoRules___init__ : Fn := ⟨s_x4e6f52756c65732e5f5f696e, [("self" : Str), ("rule" : Str)], [("self" : Str), ("rule" : Str)], defArgs (inClass (top 2) 0), defBody (inClass (top 2) 0), defScope (inClass (top 2) 0), fd_NoRules___init__, some (s_NoRules, s___init__), 0⟩
def F_NoWay___init__ : Fn := ⟨s_x4e6f5761792e5f5f696e6974, [("self" : Str), ("way" : Str), ("why" : Str), ("thing" : Str)], [("self" : Str), ("way" : Str), ("why" : Str), ("thing" : Str)], defArgs (inClass (top 3) 0), defBody (inClass (top 3) 0), defScope (inClass (top 3) 0), fd_NoWay___init__, some (s_NoWay, s___init__), 0⟩
def F_NoText___init__ : Fn := ⟨s_x4e6f546578742e5f5f696e69, [("self" : Str), ("row" : Str)], [("self" : Str), ("row" : Str)], defArgs (inClass (top 4) 0), defBody (inClass (top 4) 0), defScope (inClass (top 4) 0), fd_NoText___init__, some (s_NoText, s___init__), 0⟩
def F_rules_in : Fn := ⟨s_rules_in, [("kind" : Str), ("bare" : Str), ("found" : Str), ("todo" : Str), ("one" : Str)], [("kind" : Str), ("bare" : Str)], defArgs (top 6), defBody (top 6), defScope (top 6), fd_rules_in, none, 0⟩
def F_comes_to_itself : Fn := ⟨s_comes_to_itself, [("rules" : Str), ("start" : Str), ("met" : Str), ("todo" : Str), ("rule" : Str)], [("rules" : Str), ("start" : Str)], defArgs (top 7), defBody (top 7), defScope (top 7), fd_comes_to_itself, none, 0⟩
def F_look_rules : Fn := ⟨s_look_rules, [("rules" : Str), ("rule" : Str), ("other" : Str)], [("rules" : Str)], defArgs (top 8), defBody (top 8), defScope (top 8), fd_look_rules, none, 0⟩
def F_law_deck : Fn := ⟨s__law_deck, [("script" : Str), ("deck" : Str), ("k" : Str), ("cell" : Str), ("number" : Str)], [("script" : Str)], defArgs (top 10), defBody (top 10), defScope (top 10), fd_law_deck, none, 0⟩
def F_law_next : Fn := ⟨s__law_next, [("deck" : Str), ("many" : Str), ("number" : Str)], [("deck" : Str), ("many" : Str)], defArgs (top 11), defBody (top 11), defScope (top 11), fd_law_next, none, 0⟩
def F_law_word : Fn := ⟨s__law_word, [("deck" : Str), ("letters" : Str), ("k" : Str)], [("deck" : Str)], defArgs (top 12), defBody (top 12), defScope (top 12), fd_law_word, none, 0⟩
def F_law_texts : Fn := ⟨s__law_texts, [("deck" : Str), ("many" : Str), ("found" : Str), ("k" : Str), ("word" : Str), ("letter" : Str)], [("deck" : Str), ("many" : Str)], defArgs (top 13), defBody (top 13), defScope (top 13), fd_law_texts, none, 0⟩
def F_law_kind : Fn := ⟨s__law_kind, [("deck" : Str), ("deep" : Str), ("texts" : Str), ("ahead" : Str), ("some" : Str), ("way" : Str), ("one" : Str)], [("deck" : Str), ("deep" : Str), ("texts" : Str), ("ahead" : Str)], defArgs (top 14), defBody (top 14), defScope (top 14), fd_law_kind, none, 0⟩
def F_law_in : Fn := ⟨s__law_in, [("kind" : Str), ("ahead" : Str), ("found" : Str), ("part" : Str)], [("kind" : Str), ("ahead" : Str)], defArgs (top 15), defBody (top 15), defScope (top 15), fd_law_in, none, 0⟩
def F_law_comes : Fn := ⟨s__law_comes, [("rules" : Str), ("start" : Str), ("seen" : Str), ("todo" : Str), ("one" : Str)], [("rules" : Str), ("start" : Str)], defArgs (top 16), defBody (top 16), defScope (top 16), fd_law_comes, none, 0⟩
def F_law_due : Fn := ⟨s__law_due, [("rules" : Str), ("rule" : Str), ("one" : Str)], [("rules" : Str)], defArgs (top 17), defBody (top 17), defScope (top 17), fd_law_due, none, 0⟩
def F_law_told : Fn := ⟨s__law_told, [("rules" : Str), ("caught" : Str), ("found" : Str), ("e" : Str), ("good" : Str)], [("rules" : Str)], defArgs (top 18), defBody (top 18), defScope (top 18), fd_law_told, none, 0⟩
def F_law_errors : Fn := ⟨s__law_errors, [("deck" : Str), ("number" : Str), ("word" : Str), ("some" : Str), ("k" : Str), ("one" : Str), ("kinds" : Str), ("j" : Str)], [("deck" : Str)], defArgs (top 19), defBody (top 19), defScope (top 19), fd_law_errors, none, 0⟩
def F_law : Fn := ⟨s_law, [("script" : Str), ("deck" : Str), ("texts" : Str), ("known" : Str), ("rules" : Str), ("saved" : Str), ("due" : Str), ("told" : Str), ("plain" : Str), ("text" : Str), ("turn" : Str), ("k" : Str), ("ahead" : Str)], [("script" : Str)], defArgs (top 20), defBody (top 20), defScope (top 20), fd_law, none, 0⟩
def tab : List Fn := [F_NoRules___init__, F_NoWay___init__, F_NoText___init__, F_rules_in, F_comes_to_itself, F_look_rules, F_law_deck, F_law_next, F_law_word, F_law_texts, F_law_kind, F_law_in, F_law_comes, F_law_due, F_law_told, F_law_errors, F_law]
def gc : Gc := ⟨[], [], [], [], [], [], [], [(s_NoRules, [s_rule]), (s_NoText, [s_row]), (s_NoWay, [s_way, s_why, s_thing])], [(s_ValueError, [s_NoRules, s_NoWay, s_NoText], [s_NoRules, s_NoWay, s_NoText]), (s_NoRules, [s_NoRules], [s_NoRules, s_NoWay, s_NoText]), (s_NoWay, [s_NoWay], [s_NoRules, s_NoWay, s_NoText]), (s_NoText, [s_NoText], [s_NoRules, s_NoWay, s_NoText]), (s_PairError, [s_NoRules, s_NoWay, s_NoText], [s_NoRules, s_NoWay, s_NoText])], [(s_PairError, [s_NoRules, s_NoWay, s_NoText], [s_NoRules, s_NoWay, s_NoText])], [s_PairError]⟩
def fs : List M.Sx := [s_x4e6f52756c65732e5f5f696e, s_x4e6f5761792e5f5f696e6974, s_x4e6f546578742e5f5f696e69, s_rules_in, s_comes_to_itself, s_look_rules, s__law_deck, s__law_next, s__law_word, s__law_texts, s__law_kind, s__law_in, s__law_comes, s__law_due, s__law_told, s__law_errors, s_law]
def gl : List M.Sx := [s_rules_in, s_comes_to_itself, s_look_rules, s__law_deck, s__law_next, s__law_word, s__law_texts, s__law_kind, s__law_in, s__law_comes, s__law_due, s__law_told, s__law_errors, s_law]
theorem tab_fs : tab.map (·.f) = fs := rfl
theorem tab_gl : glob tab = gl := rfl
theorem tab_t : gc.okT tab = true := by decide +kernel
theorem tab_nd : (tab.map (·.f)).Nodup := by rw [tab_fs]; decide +kernel
theorem ok_NoRules___init__ : F_NoRules___init__.ok bn gl gc = true := by decide +kernel
theorem ok_NoWay___init__ : F_NoWay___init__.ok bn gl gc = true := by decide +kernel
theorem ok_NoText___init__ : F_NoText___init__.ok bn gl gc = true := by decide +kernel
theorem ok_rules_in : F_rules_in.ok bn gl gc = true := by decide +kernel
theorem ok_comes_to_itself : F_comes_to_itself.ok bn gl gc = true := by decide +kernel
theorem ok_look_rules : F_look_rules.ok bn gl gc = true := by decide +kernel
theorem ok_law_deck : F_law_deck.ok bn gl gc = true := by decide +kernel
theorem ok_law_next : F_law_next.ok bn gl gc = true := by decide +kernel
theorem ok_law_word : F_law_word.ok bn gl gc = true := by decide +kernel
theorem ok_law_texts : F_law_texts.ok bn gl gc = true := by decide +kernel
theorem ok_law_kind : F_law_kind.ok bn gl gc = true := by decide +kernel
theorem ok_law_in : F_law_in.ok bn gl gc = true := by decide +kernel
theorem ok_law_comes : F_law_comes.ok bn gl gc = true := by decide +kernel
theorem ok_law_due : F_law_due.ok bn gl gc = true := by decide +kernel
theorem ok_law_told : F_law_told.ok bn gl gc = true := by decide +kernel
theorem ok_law_errors : F_law_errors.ok bn gl gc = true := by decide +kernel
theorem ok_law : F_law.ok bn gl gc = true := by decide +kernel
theorem tab_ok : AllP (fun F => F.ok bn (glob tab) gc = true) tab := by rw [tab_gl]; exact ⟨ok_NoRules___init__, ok_NoWay___init__, ok_NoText___init__, ok_rules_in, ok_comes_to_itself, ok_look_rules, ok_law_deck, ok_law_next, ok_law_word, ok_law_texts, ok_law_kind, ok_law_in, ok_law_comes, ok_law_due, ok_law_told, ok_law_errors, ok_law, trivial⟩
theorem bd_NoRules___init__ : F_NoRules___init__.BOk := .inl ⟨rfl, fun _ _ _ _ _ _ us hl => match us, hl with | [_, _], _ => rfl⟩
theorem bd_NoWay___init__ : F_NoWay___init__.BOk := .inl ⟨rfl, fun _ _ _ _ _ _ us hl => match us, hl with | [_, _, _, _], _ => rfl⟩
theorem bd_NoText___init__ : F_NoText___init__.BOk := .inl ⟨rfl, fun _ _ _ _ _ _ us hl => match us, hl with | [_, _], _ => rfl⟩
theorem bd_rules_in : F_rules_in.BOk := .inl ⟨rfl, fun _ _ _ _ _ _ us hl => match us, hl with | [_, _], _ => rfl⟩
theorem bd_comes_to_itself : F_comes_to_itself.BOk := .inl ⟨rfl, fun _ _ _ _ _ _ us hl => match us, hl with | [_, _], _ => rfl⟩
theorem bd_look_rules : F_look_rules.BOk := .inl ⟨rfl, fun _ _ _ _ _ _ us hl => match us, hl with | [_], _ => rfl⟩
theorem bd_law_deck : F_law_deck.BOk := .inl ⟨rfl, fun _ _ _ _ _ _ us hl => match us, hl with | [_], _ => rfl⟩
theorem bd_law_next : F_law_next.BOk := .inl ⟨rfl, fun _ _ _ _ _ _ us hl => match us, hl with | [_, _], _ => rfl⟩
theorem bd_law_word : F_law_word.BOk := .inl ⟨rfl, fun _ _ _ _ _ _ us hl => match us, hl with | [_], _ => rfl⟩
theorem bd_law_texts : F_law_texts.BOk := .inl ⟨rfl, fun _ _ _ _ _ _ us hl => match us, hl with | [_, _], _ => rfl⟩
theorem bd_law_kind : F_law_kind.BOk := .inl ⟨rfl, fun _ _ _ _ _ _ us hl => match us, hl with | [_, _, _, _], _ => rfl⟩
theorem bd_law_in : F_law_in.BOk := .inl ⟨rfl, fun _ _ _ _ _ _ us hl => match us, hl with | [_, _], _ => rfl⟩
theorem bd_law_comes : F_law_comes.BOk := .inl ⟨rfl, fun _ _ _ _ _ _ us hl => match us, hl with | [_, _], _ => rfl⟩
theorem bd_law_due : F_law_due.BOk := .inl ⟨rfl, fun _ _ _ _ _ _ us hl => match us, hl with | [_], _ => rfl⟩
theorem bd_law_told : F_law_told.BOk := .inl ⟨rfl, fun _ _ _ _ _ _ us hl => match us, hl with | [_], _ => rfl⟩
theorem bd_law_errors : F_law_errors.BOk := .inl ⟨rfl, fun _ _ _ _ _ _ us hl => match us, hl with | [_], _ => rfl⟩
theorem bd_law : F_law.BOk := .inl ⟨rfl, fun _ _ _ _ _ _ us hl => match us, hl with | [_], _ => rfl⟩
theorem tab_bd : AllP Fn.BOk tab := ⟨bd_NoRules___init__, bd_NoWay___init__, bd_NoText___init__, bd_rules_in, bd_comes_to_itself, bd_look_rules, bd_law_deck, bd_law_next, bd_law_word, bd_law_texts, bd_law_kind, bd_law_in, bd_law_comes, bd_law_due, bd_law_told, bd_law_errors, bd_law, trivial⟩
theorem tab_P : tabP tab = M.pOf prog := rfl
abbrev R : PySem.W.OpenRow := PySem.W.OpenLaw.row PySem.Challenge.rw_pairwright_k15_rules_refused
abbrev hfa : List He.Fa := headFa tab bn gc
abbrev hfn : List He.DefD := headFn tab
abbrev hk : PySem.W.Hook := Snd.hookY 4 hfa hfn (headTs gc) (headEx gc)
def ob (s : PySem.W.SharedT) : He.AlX := Snd.obsY 4 hfa hfn (headTs gc) (headEx gc) (HandSHeadRun.getT s)  -- He.hookX
theorem ob_eq (s : PySem.W.SharedT) : ob s = hk.obs s.abs := Snd.obsY_eq (HandSHeadRun.getT_eq s)
theorem gc_t : gc.chr = true := by decide +kernel
def loose : List Str := [("PairError" : Str), ("NoRules" : Str), ("NoWay" : Str), ("NoText" : Str), ("rules_in" : Str), ("comes_to_itself" : Str), ("look_rules" : Str), ("_law_deck" : Str), ("_law_next" : Str), ("_law_word" : Str), ("_law_texts" : Str), ("_law_kind" : Str), ("_law_in" : Str), ("_law_comes" : Str), ("_law_due" : Str), ("_law_told" : Str), ("_law_errors" : Str)]
def lawAt : Nat := 20
end K15
end
section
namespace K15
theorem law_okF : Snd.LawOk (M.pOf prog) 229 s_law := fun ns hl => law_okN ns hl
end K15
end
section
open PySem PySem.W PySem.Calls PyProof.Rows
namespace K15
open PySem PySem.Spec PyProof.Rows L2 Snd
theorem run (w : World) : HandSHeadRun.RunEq R (PySem.W.view R.prog [lawAt]) hk ob 4000 loose w := by
  intro os
  kernel_rfl
end K15
set_option maxRecDepth 100000 in
set_option maxHeartbeats 0 in
theorem PySem.Challenge.cw_pairwright_k15_rules_refused_holds : PySem.Challenge.rw_pairwright_k15_rules_refused.Holds := by
  w_on; o_law
  refine HandSHeadRun.head_any (r := OpenLaw.row PySem.Challenge.rw_pairwright_k15_rules_refused) (q := view (OpenLaw.row PySem.Challenge.rw_pairwright_k15_rules_refused).prog [K15.lawAt]) (H := K15.hk) (ob := K15.ob) (M := 4000) (loose := K15.loose) (d := HandSHeadRun.topDef (OpenLaw.row PySem.Challenge.rw_pairwright_k15_rules_refused).prog K15.lawAt) (kwd := []) K15.ob_eq
    (by kernel_rfl) (fun s => by kernel_rfl) K15.run (by kernel_rfl) (by kernel_rfl) (by kernel_rfl) (by rfl) (by first | assumption | decide +kernel) (by decide +kernel) ⟨rfl, rfl, rfl, rfl, rfl, by decide +kernel⟩ ?hw ?hc
  case hw => w_witness2
  case hc =>
    refine L2.walk_ofG (l := PySem.Challenge.rw_pairwright_k15_rules_refused) (n := 63) (k := 229 + 2) (x := "script") rfl (by decide) (by kernel_rfl) ⟨rfl, by decide, by decide⟩ ?F
    intro w mg fa h Y G hmg0
    obtain ⟨K, KX, c⟩ := Y
    have hmg : mg (Snd.sV K15.F_law.f) = some (.ref fa) := by
      have e : (HandSHeadRun.topDef (OpenLaw.row PySem.Challenge.rw_pairwright_k15_rules_refused).prog K15.lawAt).name = Snd.sV K15.F_law.f := by kernel_rfl
      rw [← e]
      exact hmg0
    obtain ⟨fd, hb, hF⟩ := Snd.law_factsX (P := (PySem.Challenge.rw_pairwright_k15_rules_refused).prog) (w := w) (gc := K15.gc) (L := K15.F_law) K15.gc_t rfl rfl (by unfold K15.tab; simp) rfl KX G hmg c K15.tab_nd K15.tab_ok K15.tab_bd K15.tab_t 229
    refine ⟨K, fd, Snd.spC ⟨K, (PySem.Challenge.rw_pairwright_k15_rules_refused).prog, w, mg⟩ (M.pOf K15.prog) 229 K15.F_law.f, KX, hb, fun H a ns hl hO hS => Snd.law_sp K15.law_okF H a ns hl hO hS, ?_⟩
    rw [← K15.tab_P] at *
    exact hF
end
