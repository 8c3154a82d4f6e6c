import PyProof.Rows.All
import Wide.All
import OpenK.AllK
import Wide.FinOn
import HandS.ForMost
import HandS.Wide
import HandS.Deep
import HandS.IsInst
import HandS.Defaults
import HandS.Ends
import HandS.Head0
import HandS.Head1
import HandS.Head2
import HandS.HeadEnd
import HandS.HeadHook1
import HandS.HeadHook2
import PySem.Challenge.RW_pairwright_k47_copies
set_option Elab.async false
set_option linter.all false
set_option maxRecDepth 100000
set_option maxHeartbeats 0
section
/-! Core: values, heaps, the IR, its weakest-precondition reading. Pure Lean, no kit. -/
namespace M
abbrev Sx := List Nat
noncomputable section
def LINE : Nat := 16777216

inductive D where
  | non | bl (b : Bool) | int (i : Int) | str (s : Sx) | tup (ds : List D) | ref (a : Nat) | rol (ds : List D)
noncomputable instance : DecidableEq D := fun _ _ => Classical.propDecidable _

inductive Ob where
  | lst (xs : List D)
  | dct (k : Nat) (kvs : List (D × D))
  | rdct (k : Nat) (kvs : List (D × D))
  | ins (c : Sx) (fs : List (Sx × D))

abbrev AH := Nat → Option Ob
def up (h : AH) (a : Nat) (o : Ob) : AH := fun b => if b = a then some o else h b
abbrev St := List (Option D)
abbrev VQ := D → AH → Prop
abbrev XP := Sx → List D → AH → Prop

structure Ends where
  nx : St → AH → Prop
  rt : VQ
  bk : St → AH → Prop
  ct : St → AH → Prop
structure Cx where
  call : Sx → List D → AH → VQ → XP → Prop
  ex : XP

inductive Bop where | add | sub | mul | mod | fdiv | pow
inductive Cop where | eq | ne | lt | le | gt | ge | isin | notin | is_ | isnt
inductive Blt where | len | min2 | max2 | int1 | abs | sum | all | any | list | tuple | sorted | str1 | repr | dict1 | min1 | max1
inductive Mth where | append | pop | popAt | extend | insert | reverse | clear | get1 | get2 | setdefault | update | join | split | index | remove
inductive Itk where | seq | rng | zip | enum | items | values | rev
inductive Ty where | int | bool | tuple | str | list | dict
inductive Tgt where
  | nm (i : Nat)
  | tp (ts : List Nat)

mutual
inductive E where
  | var (i : Nat)
  | int (n : Int)
  | str (s : Sx)
  | bl (b : Bool)
  | non
  | gint (x : Sx) (n : Int)
  | gstr (x : Sx) (s : Sx)
  | tup (es : Es)
  | lst (es : Es)
  | dct (k : Nat) (es : Es)
  | bin (o : Bop) (a b : E)
  | neg (a : E)
  | cmp (o : Cop) (a b : E)
  | chn (o o' : Cop) (a b c : E)
  | bop (isAnd : Bool) (es : Es)
  | not (a : E)
  | ite (c a b : E)
  | ix (a i : E)
  | sl (a : E) (lo hi : Es)
  | call (f : Sx) (es : Es)
  | blt (b : Blt) (es : Es)
  | isi (a : E) (t : Ty)
  | mth (m : Mth) (o : E) (es : Es)
  | lc (elt : E) (t : Tgt) (own : List Nat) (k : Itk) (src : Es) (ifs : Es)
inductive Es where
  | nil
  | cons (e : E) (es : Es)
end

mutual
inductive S where
  | asg (t : Tgt) (e : E)
  | six (o i e : E)
  | aug (i : Nat) (o : Bop) (e : E)
  | ex (e : E)
  | ret (e : E)
  | retN
  | ife (c : E) (a b : Ss)
  | whl (c : E) (b : Ss)
  | for_ (t : Tgt) (k : Itk) (src : Es) (b : Ss)
  | pass | brk | cont
inductive Ss where
  | nil
  | cons (s : S) (ss : Ss)
end

/-! ### operations on values -/
def mulOk (a b : Int) : Prop := (-(2 ^ 64) < a ∧ a < 2 ^ 64) ∨ (-(2 ^ 64) < b ∧ b < 2 ^ 64)
def divOk (b : Int) : Prop := 0 < b ∧ b < 2 ^ 64
def powOk (a b : Int) : Prop := 0 ≤ b ∧ b ≤ 1000000 ∧ a.natAbs < 2 ^ 64

def opAdd : D → D → AH → VQ → Prop
  | .int a, .int b, h, Q => Q (.int (a + b)) h
  | .str a, .str b, h, Q => a.length + b.length ≤ LINE ∧ Q (.str (a ++ b)) h
  | .tup a, .tup b, h, Q => a ≠ [] ∧ a.length + b.length ≤ LINE ∧ Q (.tup (a ++ b)) h
  | .ref p, .ref q, h, Q => ∃ xs ys, h p = some (.lst xs) ∧ h q = some (.lst ys) ∧ xs.length + ys.length ≤ LINE ∧ ∀ r, h r = none → Q (.ref r) (up h r (.lst (xs ++ ys)))
  | _, _, _, _ => False
def opMul : D → D → AH → VQ → Prop
  | .int a, .int b, h, Q => mulOk a b ∧ Q (.int (a * b)) h
  | .ref p, .int k, h, Q => ∃ xs, h p = some (.lst xs) ∧ -(2 ^ 63) ≤ k ∧ k < 2 ^ 63 ∧ xs.length * k.toNat ≤ LINE ∧ ∀ r, h r = none → Q (.ref r) (up h r (.lst (List.replicate k.toNat xs).flatten))
  | _, _, _, _ => False
def opInt (f : Int → Int → (Int → Prop) → Prop) : D → D → AH → VQ → Prop
  | .int a, .int b, h, Q => f a b fun c => Q (.int c) h
  | _, _, _, _ => False
def opBin (o : Bop) (x y : D) (h : AH) (Q : VQ) : Prop := match o with
  | .add => opAdd x y h Q
  | .mul => opMul x y h Q
  | .sub => opInt (fun a b q => q (a - b)) x y h Q
  | .mod => opInt (fun a b q => 0 < b ∧ q (a % b)) x y h Q
  | .fdiv => opInt (fun a b q => divOk b ∧ q (a / b)) x y h Q
  | .pow => opInt (fun a b q => powOk a b ∧ q (a ^ b.toNat)) x y h Q

mutual
/-- data without objects and truths, nested at most n deep -/
def plain : Nat → D → Bool
  | _, .non => true
  | _, .int _ => true
  | _, .str _ => true
  | 0, .tup _ => false
  | n + 1, .tup ds => plains n ds
  | _, _ => false
def plains : Nat → List D → Bool
  | _, [] => true
  | n, d :: ds => plain n d && plains n ds
end
mutual
def pureD : D → Bool
  | .non => true
  | .int _ => true
  | .str _ => true
  | .tup ds => pureDs ds
  | _ => false
def pureDs : List D → Bool
  | [] => true
  | d :: ds => pureD d && pureDs ds
end
def flat : D → Bool
  | .non => true
  | .int _ => true
  | .str _ => true
  | _ => false

def eqOk (a b : D) (h : AH) (Q : Bool → Prop) : Prop := match a with
  | .bl a => (match b with
    | .bl b => Q (decide (a = b))
    | _ => False)
  | .ref p => (match b with
    | .ref q => ∃ xs ys, h p = some (.lst xs) ∧ h q = some (.lst ys) ∧ pureDs xs = true ∧ pureDs ys = true ∧ (plains 190 xs = true ∨ plains 190 ys = true) ∧ Q (decide (xs = ys))
    | _ => False)
  | a => pureD a = true ∧ pureD b = true ∧ (plain 190 a = true ∨ plain 190 b = true) ∧ Q (decide (a = b))

def kvGet (kvs : List (D × D)) (k : D) : Option D := (kvs.find? fun kv => decide (kv.1 = k)).map (·.2)
def kvPut (kvs : List (D × D)) (k v : D) : List (D × D) :=
  if (kvs.any fun kv => decide (kv.1 = k)) = true then kvs.map (fun kv => if kv.1 = k then (kv.1, v) else kv) else kvs ++ [(k, v)]
/-- keys by the kind of dict: 0 intsOf and texts, 1 tuples of such -/
def keyOk : Nat → D → Bool
  | 0, .int _ => true
  | 0, .str _ => true
  | _, _ => false

def memOk (x y : D) (h : AH) (Q : Bool → Prop) : Prop := match y with
  | .ref p => (match h p with
    | some (.dct k kvs) => keyOk k x = true ∧ Q (kvGet kvs x).isSome
    | some (.lst xs) => pureD x = true ∧ pureDs xs = true ∧ (plain 190 x = true ∨ plains 190 xs = true) ∧ Q (xs.any fun y => decide (y = x))
    | _ => False)
  | .tup xs => flat x = true ∧ xs.all flat = true ∧ Q (xs.any fun y => decide (y = x))
  | _ => False
def cmpInt (f : Int → Int → Bool) : D → D → (Bool → Prop) → Prop
  | .int a, .int b, Q => Q (f a b)
  | _, _, _ => False
def cmpLt : D → D → (Bool → Prop) → Prop
  | .int a, .int b, Q => Q (decide (a < b))
  | .str a, .str b, Q => Q (decide (a < b))
  | _, _, _ => False
def isNon (x y : D) (Q : Bool → Prop) : Prop := match y with
  | .non => Q (decide (x = .non))
  | _ => False

def opCmp (o : Cop) (x y : D) (h : AH) (Q : Bool → Prop) : Prop := match o with
  | .eq => eqOk x y h Q
  | .ne => eqOk x y h fun c => Q (!c)
  | .lt => cmpLt x y Q
  | .le => cmpInt (fun a b => decide (a ≤ b)) x y Q
  | .gt => cmpInt (fun a b => decide (b < a)) x y Q
  | .ge => cmpInt (fun a b => decide (b ≤ a)) x y Q
  | .isin => memOk x y h Q
  | .notin => memOk x y h fun c => Q (!c)
  | .is_ => isNon x y Q
  | .isnt => isNon x y fun c => Q (!c)

def atI {α : Type} (xs : List α) (i : Int) : Option α := if 0 ≤ i then xs[i.toNat]? else if -(xs.length : Int) ≤ i then xs[(i + xs.length).toNat]? else none
def ixAt (ds : List D) (y : D) (h : AH) (Q : VQ) : Prop := match y with
  | .int i => (match atI ds i with
    | some d => Q d h
    | none => False)
  | _ => False
def ixStr (s : Sx) (y : D) (h : AH) (Q : VQ) : Prop := match y with
  | .int i => s.length ≤ LINE ∧ (match atI s i with
    | some c => Q (.str [c]) h
    | none => False)
  | _ => False
def opIx (x y : D) (h : AH) (Q : VQ) : Prop := match x with
  | .tup ds => ixAt ds y h Q
  | .rol ds => ixAt ds y h Q
  | .str s => ixStr s y h Q
  | .ref p => (match h p with
    | some (.lst xs) => ixAt xs y h Q
    | some (.dct kd kvs) => keyOk kd y = true ∧ (match kvGet kvs y with
      | some d => Q d h
      | none => False)
    | _ => False)
  | _ => False

/-- where a slice's bound lies -/
def clip (n d : Nat) : Option Int → Nat
  | none => d
  | some i => if i < 0 then (i + n).toNat else min i.toNat n
def cut {α : Type} (xs : List α) (lo hi : Option Int) : List α := (xs.drop (clip xs.length 0 lo)).take (clip xs.length xs.length hi - clip xs.length 0 lo)
def opSl (x : D) (lo hi : Option Int) (h : AH) (Q : VQ) : Prop := match x with
  | .tup ds => ¬ (clip ds.length 0 lo = 0 ∧ clip ds.length ds.length hi = ds.length) ∧ Q (.tup (cut ds lo hi)) h
  | .rol ds => ∀ r, h r = none → Q (.ref r) (up h r (.lst (cut ds lo hi)))
  | .str s => s.length ≤ LINE ∧ Q (.str (cut s lo hi)) h
  | .ref p => (match h p with
    | some (.lst xs) => ∀ r, h r = none → Q (.ref r) (up h r (.lst (cut xs lo hi)))
    | _ => False)
  | _ => False

def intsOf : List D → Option (List Int)
  | [] => some []
  | .int i :: ds => (intsOf ds).map (i :: ·)
  | _ => none
def bls : List D → Option (List Bool)
  | [] => some []
  | .bl i :: ds => (bls ds).map (i :: ·)
  | _ => none
/-- what may be read as a list or a tuple -/
def seqOf : D → AH → Option (List D)
  | .tup xs, _ => some xs
  | .rol xs, _ => some xs
  | .ref p, h => match h p with
    | some (.lst xs) => some xs
    | _ => none
  | _, _ => none

/-- one argument, two -/
def arg1 (ds : List D) (f : D → Prop) : Prop := match ds with
  | [d] => f d
  | _ => False
def arg2 (ds : List D) (f : D → D → Prop) : Prop := match ds with
  | [d, e] => f d e
  | _ => False
def anInt (d : D) (f : Int → Prop) : Prop := match d with
  | .int i => f i
  | _ => False
def aRef (d : D) (f : Nat → Prop) : Prop := match d with
  | .ref p => f p
  | _ => False
def aLst (d : D) (h : AH) (f : Nat → List D → Prop) : Prop := match d with
  | .ref p => (match h p with
    | some (.lst xs) => f p xs
    | _ => False)
  | _ => False
def aDct (d : D) (h : AH) (f : Nat → Nat → List (D × D) → Prop) : Prop := match d with
  | .ref p => (match h p with
    | some (.dct k kvs) => f p k kvs
    | _ => False)
  | _ => False
def aSome {α : Type} (o : Option α) (f : α → Prop) : Prop := match o with
  | some a => f a
  | none => False
def lenOk (d : D) (h : AH) (f : Nat → Prop) : Prop := match d with
  | .str s => s.length ≤ LINE ∧ f s.length
  | d => aSome (seqOf d h) fun xs => f xs.length
def toInt (d : D) (f : Int → Prop) : Prop := match d with
  | .int i => f i
  | .bl b => f (if b then 1 else 0)
  | _ => False
def opBlt (b : Blt) (ds : List D) (h : AH) (Q : VQ) : Prop := match b with
  | .len => arg1 ds fun d => lenOk d h fun n => Q (.int n) h
  | .min2 => arg2 ds fun x y => anInt x fun a => anInt y fun b => Q (.int (if b < a then b else a)) h
  | .max2 => arg2 ds fun x y => anInt x fun a => anInt y fun b => Q (.int (if b > a then b else a)) h
  | .int1 => arg1 ds fun d => toInt d fun i => Q (.int i) h
  | .abs => arg1 ds fun d => anInt d fun a => Q (.int (if a < 0 then -a else a)) h
  | .sum => arg1 ds fun d => aLst d h fun _ xs => aSome (intsOf xs) fun ns => Q (.int ns.sum) h
  | .all => arg1 ds fun d => aLst d h fun _ xs => aSome (bls xs) fun bs => Q (.bl (bs.all id)) h
  | .any => arg1 ds fun d => aLst d h fun _ xs => aSome (bls xs) fun bs => Q (.bl (bs.any id)) h
  | .list => arg1 ds fun d => aSome (seqOf d h) fun xs => ∀ r, h r = none → Q (.ref r) (up h r (.lst xs))
  | .tuple => arg1 ds fun d => aSome (seqOf d h) fun xs => Q (.tup xs) h
  | _ => False

def opIsi : D → Ty → Option Bool
  | .non, _ => some false
  | .bl _, .bool => some true
  | .bl _, .int => some true
  | .bl _, _ => some false
  | .int _, .int => some true
  | .int _, _ => some false
  | .str _, .str => some true
  | .str _, _ => some false
  | .tup _, .tuple => some true
  | .tup _, _ => some false
  | .ref _, _ => none
  | .rol _, _ => none

def opMth (m : Mth) (x : D) (ds : List D) (h : AH) (Q : VQ) : Prop := match m with
  | .append => arg1 ds fun d => aLst x h fun p xs => xs.length < LINE ∧ Q .non (up h p (.lst (xs ++ [d])))
  | .pop => ds = [] ∧ aLst x h fun p xs => aSome xs[xs.length - 1]? fun y => Q y (up h p (.lst xs.dropLast))
  | .popAt => arg1 ds fun d => d = .int 0 ∧ aLst x h fun p xs => aSome xs[0]? fun y => Q y (up h p (.lst xs.tail))
  | .extend => arg1 ds fun d => aLst x h fun p xs => aLst d h fun q ys => xs.length + ys.length ≤ LINE ∧ Q .non (up h p (.lst (xs ++ ys)))
  | .reverse => ds = [] ∧ aLst x h fun p xs => Q .non (up h p (.lst xs.reverse))
  | .clear => ds = [] ∧ aLst x h fun p xs => Q .non (up h p (.lst []))
  | .get1 => arg1 ds fun k => aDct x h fun p kd kvs => keyOk kd k = true ∧ Q ((kvGet kvs k).getD .non) h
  | .get2 => arg2 ds fun k d => aDct x h fun p kd kvs => keyOk kd k = true ∧ Q ((kvGet kvs k).getD d) h
  | _ => False

/-- of what a method is asked -/
def recvOk (m : Mth) (d : D) (h : AH) : Prop := match m with
  | .get1 => aDct d h fun _ _ _ => True
  | .get2 => aDct d h fun _ _ _ => True
  | _ => aLst d h fun _ _ => True
/-- o[i] = v -/
def opSet (x y v : D) (h : AH) (Q : AH → Prop) : Prop := match x with
  | .ref p => (match h p with
    | some (.lst xs) => anInt y fun i => (0 ≤ i ∧ i < xs.length) ∧ Q (up h p (.lst (xs.set i.toNat v)))
    | some (.dct kd kvs) => keyOk kd y = true ∧ kvs.length < LINE ∧ Q (up h p (.dct kd (kvPut kvs y v)))
    | _ => False)
  | _ => False

def keysOk (k : Nat) : List (D × D) → Bool
  | [] => true
  | kv :: r => keyOk k kv.1 && keysOk k r
def mergeL : List (D × D) → List (D × D) → List (D × D)
  | acc, [] => acc
  | acc, kv :: r => mergeL (kvPut acc kv.1 kv.2) r
def pairUp : List D → Option (List (D × D))
  | [] => some []
  | a :: b :: r => (pairUp r).map ((a, b) :: ·)
  | _ => none

/-- x op= y of numbers, of texts -/
def opAug (o : Bop) (x y : D) (Q : D → Prop) : Prop := match o with
  | .add => (match x with
    | .int a => (match y with
      | .int b => Q (.int (a + b))
      | _ => False)
    | .str a => (match y with
      | .str b => a.length + b.length ≤ LINE ∧ Q (.str (a ++ b))
      | _ => False)
    | _ => False)
  | .sub => (match x with
    | .int a => (match y with
      | .int b => Q (.int (a - b))
      | _ => False)
    | _ => False)
  | _ => False

/-! ### what is walked -/
def rangeL (lo hi : Int) : List D := (List.range (hi - lo).toNat).map fun (k : Nat) => D.int (lo + (k : Int))
def zipL : List D → List D → List D
  | x :: xs, y :: ys => .tup [x, y] :: zipL xs ys
  | _, _ => []
def enumL (i : Nat) : List D → List D
  | [] => []
  | x :: xs => .tup [.int i, x] :: enumL (i + 1) xs
/-- Q of the items, and of what must stay true of the heap while they are walked -/
def walk : Itk → List D → AH → (List D → (AH → Prop) → Prop) → Prop
  | .seq, [.tup xs], _, Q => Q xs fun _ => True
  | .seq, [.rol xs], _, Q => Q xs fun _ => True
  | .seq, [.str s], _, Q => Q (s.map fun c => .str [c]) fun _ => True
  | .seq, [.ref p], h, Q => match h p with
    | some (.lst xs) => Q xs fun h' => h' p = some (.lst xs)
    | _ => False
  | .rng, [.int n], _, Q => -(2 ^ 62) ≤ n ∧ n < 2 ^ 62 ∧ Q (rangeL 0 n) fun _ => True
  | .rng, [.int a, .int b], _, Q => (-(2 ^ 62) ≤ a ∧ a < 2 ^ 62 ∧ -(2 ^ 62) ≤ b ∧ b < 2 ^ 62) ∧ Q (rangeL a b) fun _ => True
  | .enum, [.ref p], h, Q => match h p with
    | some (.lst xs) => Q (enumL 0 xs) fun h' => h' p = some (.lst xs)
    | _ => False
  | _, _, _, _ => False

def setT : Tgt → D → St → Option St
  | .nm i, d, σ => some (σ.set i (some d))
  | .tp ts, .tup ds, σ => setTs ts ds σ
  | _, _, _ => none
where
  setTs : List Nat → List D → St → Option St
    | [], [], σ => some σ
    | i :: is, d :: ds, σ => setTs is ds (σ.set i (some d))
    | _, _, _ => none

def forget (σ : St) : List Nat → St
  | [] => σ
  | v :: vs => (forget σ vs).set v none

/-- a loop over xs by an invariant over (turn, names, heap) -/
def loopW (xs : List D) (ok : AH → Prop) (body : D → St → AH → (St → AH → Prop) → Prop) (done : St → AH → Prop) (σ : St) (h : AH) : Prop :=
  ∃ P : Nat → St → AH → Prop, P 0 σ h ∧ (∀ i σ h, P i σ h → ok h) ∧ (∀ i x σ h, xs[i]? = some x → P i σ h → body x σ h (P (i + 1))) ∧ ∀ σ h, P xs.length σ h → done σ h
/-- a comprehension by an invariant over (turn, list so far, heap) -/
def compW (xs : List D) (ok : AH → Prop) (body : D → AH → (D → AH → Prop) → (AH → Prop) → Prop) (done : List D → AH → Prop) (h : AH) : Prop :=
  ∃ P : Nat → List D → AH → Prop, P 0 [] h ∧ (∀ i acc h, P i acc h → ok h ∧ acc.length ≤ i) ∧ xs.length ≤ LINE ∧
    (∀ i x acc h, xs[i]? = some x → P i acc h → body x h (fun y h' => P (i + 1) (acc ++ [y]) h') (fun h' => P (i + 1) acc h')) ∧ ∀ acc h, P xs.length acc h → done acc h

/-! ### the readings -/
mutual
def wE (C : Cx) : E → St → AH → VQ → Prop
  | .var i, σ, h, Q => match σ[i]? with
    | some (some d) => Q d h
    | _ => False
  | .int n, _, h, Q => Q (.int n) h
  | .str s, _, h, Q => Q (.str s) h
  | .bl b, _, h, Q => Q (.bl b) h
  | .non, _, h, Q => Q .non h
  | .gint _ n, _, h, Q => Q (.int n) h
  | .gstr _ s, _, h, Q => Q (.str s) h
  | .tup es, σ, h, Q => wEs C es σ h fun ds h1 => ds.length ≤ LINE ∧ Q (.tup ds) h1
  | .lst es, σ, h, Q => wEs C es σ h fun ds h1 => ds.length ≤ LINE ∧ ∀ r, h1 r = none → Q (.ref r) (up h1 r (.lst ds))
  | .dct k es, σ, h, Q => match es with
    | .nil => ∀ r, h r = none → Q (.ref r) (up h r (.dct k []))
    | _ => False
  | .bin o a b, σ, h, Q => wE C a σ h fun x h1 => wE C b σ h1 fun y h2 => opBin o x y h2 Q
  | .neg a, σ, h, Q => wE C a σ h fun x h1 => match x with
    | .int i => Q (.int (-i)) h1
    | _ => False
  | .cmp o a b, σ, h, Q => wE C a σ h fun x h1 => wE C b σ h1 fun y h2 => opCmp o x y h2 fun c => Q (.bl c) h2
  | .chn o o' a b c, σ, h, Q => wE C a σ h fun x h1 => wE C b σ h1 fun y h2 => opCmp o x y h2 fun k => match k with
    | true => wE C c σ h2 fun z h3 => opCmp o' y z h3 fun k' => Q (.bl k') h3
    | false => Q (.bl false) h2
  | .bop isAnd es, σ, h, Q => wB C isAnd es σ h Q
  | .not a, σ, h, Q => wE C a σ h fun x h1 => match x with
    | .bl b => Q (.bl (!b)) h1
    | _ => False
  | .ite c a b, σ, h, Q => wE C c σ h fun x h1 => match x with
    | .bl true => wE C a σ h1 Q
    | .bl false => wE C b σ h1 Q
    | _ => False
  | .ix a i, σ, h, Q => wE C a σ h fun x h1 => wE C i σ h1 fun y h2 => opIx x y h2 Q
  | .sl a lo hi, σ, h, Q => wE C a σ h fun x h1 => wO C lo σ h1 fun l h2 => wO C hi σ h2 fun u h3 => opSl x l u h3 Q
  | .call f es, σ, h, Q => wEs C es σ h fun ds h1 => C.call f ds h1 Q C.ex
  | .blt b es, σ, h, Q => wEs C es σ h fun ds h1 => opBlt b ds h1 Q
  | .isi a t, σ, h, Q => wE C a σ h fun x h1 => match opIsi x t with
    | some b => Q (.bl b) h1
    | none => False
  | .mth m o es, σ, h, Q => wE C o σ h fun x h1 => recvOk m x h1 ∧ wEs C es σ h1 fun ds h2 => opMth m x ds h2 Q
  | .lc elt t own k src ifs, σ, h, Q => wEs C src σ h fun ds h1 => walk k ds h1 fun xs ok =>
      compW xs ok (fun x h2 yes no => match setT t x (forget σ own) with
        | some σ' => wB C true ifs σ' h2 fun c h3 => match c with
          | .bl true => wE C elt σ' h3 yes
          | .bl false => no h3
          | _ => False
        | none => False) (fun acc h2 => ∀ r, h2 r = none → Q (.ref r) (up h2 r (.lst acc))) h1
def wEs (C : Cx) : Es → St → AH → (List D → AH → Prop) → Prop
  | .nil, _, h, Q => Q [] h
  | .cons e es, σ, h, Q => wE C e σ h fun d h1 => wEs C es σ h1 fun ds h2 => Q (d :: ds) h2
/-- and, or: the empty one is True, False -/
def wB (C : Cx) : Bool → Es → St → AH → VQ → Prop
  | isAnd, .nil, _, h, Q => Q (.bl isAnd) h
  | isAnd, .cons e es, σ, h, Q => wE C e σ h fun d h1 => match d with
    | .bl b => (match b == isAnd with
      | true => wB C isAnd es σ h1 Q
      | false => Q (.bl b) h1)
    | _ => False
def wO (C : Cx) : Es → St → AH → (Option Int → AH → Prop) → Prop
  | .nil, _, h, Q => Q none h
  | .cons e .nil, σ, h, Q => wE C e σ h fun d h1 => match d with
    | .int n => Q (some n) h1
    | _ => False
  | .cons _ (.cons _ _), _, _, _ => False
end
/-- a test -/
def wT (C : Cx) (e : E) (σ : St) (h : AH) (Q : Bool → AH → Prop) : Prop := wE C e σ h fun d h1 => match d with
  | .bl b => Q b h1
  | _ => False

mutual
def wS (C : Cx) : S → Ends → St → AH → Prop
  | .asg t e, R, σ, h => wE C e σ h fun d h1 => match setT t d σ with
    | some σ' => R.nx σ' h1
    | none => False
  | .six o i e, R, σ, h => wE C e σ h fun v h1 => wE C o σ h1 fun x h2 => wE C i σ h2 fun y h3 => opSet x y v h3 fun h4 => R.nx σ h4
  | .aug i o e, R, σ, h => match σ[i]? with
    | some (some x) => wE C e σ h fun y h1 => opAug o x y fun z => R.nx (σ.set i (some z)) h1
    | _ => False
  | .ex e, R, σ, h => wE C e σ h fun _ h1 => R.nx σ h1
  | .ret e, R, σ, h => wE C e σ h R.rt
  | .retN, R, σ, h => R.rt .non h
  | .ife c a b, R, σ, h => wT C c σ h fun k h1 => match k with
    | true => wSs C a R σ h1
    | false => wSs C b R σ h1
  | .whl c b, R, σ, h => ∃ W : Nat → St → AH → Prop, (∃ m, W m σ h) ∧ ∀ m σ h, W m σ h → wT C c σ h fun k h1 => match k with
    | true => wSs C b { nx := fun σ' h' => ∃ m', m' < m ∧ W m' σ' h', ct := fun σ' h' => ∃ m', m' < m ∧ W m' σ' h', bk := R.nx, rt := R.rt } σ h1
    | false => R.nx σ h1
  | .for_ t k src b, R, σ, h => wEs C src σ h fun ds h1 => walk k ds h1 fun xs ok =>
      loopW xs ok (fun x σ h P => match setT t x σ with
        | some σ' => wSs C b { nx := P, ct := P, bk := R.nx, rt := R.rt } σ' h
        | none => False) R.nx σ h1
  | .pass, R, σ, h => R.nx σ h
  | .brk, R, σ, h => R.bk σ h
  | .cont, R, σ, h => R.ct σ h
def wSs (C : Cx) : Ss → Ends → St → AH → Prop
  | .nil, R, σ, h => R.nx σ h
  | .cons s ss, R, σ, h => wS C s { R with nx := fun σ' h' => wSs C ss R σ' h' } σ h
end

/-- a def: its parameters' number, all its names' number, its body -/
structure FD where
  ps : Nat
  n : Nat
  body : Ss
abbrev Prog := Sx → Option FD
def pOf (l : List (Sx × FD)) : Prog := fun f => (l.find? fun p => p.1 == f).map (·.2)
def start (fd : FD) (ds : List D) : St := ds.map some ++ List.replicate (fd.n - fd.ps) none
def run (P : Prog) : Nat → Sx → List D → AH → VQ → XP → Prop
  | 0, _, _, _, _, _ => False
  | n + 1, f, ds, h, Q, X => match P f with
    | some fd => ds.length = fd.ps ∧ wSs ⟨run P n, X⟩ fd.body { nx := fun _ h' => Q .non h', rt := Q, bk := fun _ _ => False, ct := fun _ _ => False } (start fd ds) h
    | none => False
end
end M
end
section
/-! Sound1: how the model's values and heap bear the IR's. -/
namespace Snd
open PySem L2
abbrev SD := M.D
abbrev Fr := PySem.W.Frag

def sV (s : M.Sx) : Str := ⟨s.toArray⟩
def sOk (s : M.Sx) : Prop := ∀ c ∈ s, c < 0x110000
def KTup (K : Fr) (a : Addr) (vs : List V) : Prop := ∃ (o : Obj) (its : Array Value) (n : Nat), K.lookup a = some o ∧ o.cls = .type "tuple" ∧ o.data = .seq its n ∧ its.size ≤ sizeLine ∧ Vals vs its.toList
def KLst (K : Fr) (a : Addr) (vs : List V) : Prop := ∃ (o : Obj) (its : Array Value) (n : Nat), K.lookup a = some o ∧ o.cls = .type "list" ∧ o.dict = none ∧ o.data = .seq its n ∧ its.size ≤ sizeLine ∧ Vals vs its.toList

mutual
def Rep (K : Fr) (H : Hp) : SD → V → Prop
  | .non, v => v = .non
  | .bl b, v => v = .bl b
  | .int i, v => v = .int i
  | .str s, v => v = .str (sV s) ∧ sOk s
  | .tup ds, v => ∃ a vs, v = .ref a ∧ (H a = some (.tup vs) ∨ KTup K a vs) ∧ Reps K H ds vs
  | .rol ds, v => ∃ a vs, v = .ref a ∧ ((∃ o, H a = some (.frz o (.lst vs))) ∨ KLst K a vs) ∧ Reps K H ds vs
  | .ref a, v => v = .ref a
def Reps (K : Fr) (H : Hp) : List SD → List V → Prop
  | [], vs => vs = []
  | d :: ds, vs => ∃ v r, vs = v :: r ∧ Rep K H d v ∧ Reps K H ds r
end

/-- dict keys -/
def keyV : SD → Option Key
  | .int i => some (.inl i)
  | .str s => some (.inr (sV s))
  | _ => none
def ObRep (K : Fr) (H : Hp) (a : Addr) : M.Ob → Prop
  | .lst xs => ∃ vs, H a = some (.lst vs) ∧ Reps K H xs vs
  | .dct 0 kvs => ∃ ps : List (Key × V), H a = some (.dK ps) ∧ Paired (fun (x : SD × SD) (p : Key × V) => keyV x.1 = some p.1 ∧ (∀ s, x.1 = .str s → sOk s) ∧ Rep K H x.2 p.2) kvs ps
  | _ => False
def RH (K : Fr) (H : Hp) (h : M.AH) : Prop := ∀ a o, h a = some o → ObRep K H a o
/-- what is tracked and not in h stays as it is, and stays out of it -/
def Frm (H : Hp) (h : M.AH) (H' : Hp) (h' : M.AH) : Prop := ∀ a o, H a = some o → h a = none → H' a = some o ∧ h' a = none
/-- names -/
def RS (K : Fr) (H : Hp) (σ : L2.St) (σa : M.St) : Prop := σ.length = σa.length ∧ ∀ (i : Nat) d, σa[i]? = some (some d) → ∃ v, σ[i]? = some (some v) ∧ Rep K H d v
/-- tuples and locked lists stay -/
def Kp (H H' : Hp) : Prop := (∀ a vs, H a = some (.tup vs) → H' a = some (.tup vs)) ∧ ∀ a o u, H a = some (.frz o u) → H' a = some (.frz o u)

section
variable {K : Fr} {H H1 H2 H' : Hp} {h h1 h2 h' : M.AH}
theorem Frm.refl : Frm H h H h := fun _ _ e n => ⟨e, n⟩
theorem Frm.trans (a : Frm H h H1 h1) (b : Frm H1 h1 H2 h2) : Frm H h H2 h2 := fun x o e n => let ⟨e1, n1⟩ := a x o e n; b x o e1 n1
theorem ObRep.some {a : Addr} {o : M.Ob} (r : ObRep K H a o) : ∃ u, H a = some u ∧ (∀ vs, u ≠ .tup vs) ∧ ∀ ob w, u ≠ .frz ob w := by
  match o, r with
  | .lst xs, ⟨vs, e, _⟩ => exact ⟨_, e, (by intro _ z; cases z), (by intro _ _ z; cases z)⟩
  | .dct 0 kvs, ⟨vs, e, _⟩ => exact ⟨_, e, (by intro _ z; cases z), (by intro _ _ z; cases z)⟩
theorem RH.none_tup (r : RH K H h) {a : Addr} {vs : List V} (e : H a = some (.tup vs)) : h a = none := by
  cases q : h a with
  | none => rfl
  | some o =>
    obtain ⟨u, e', n, _⟩ := (r a o q).some
    rw [e] at e'
    exact absurd (Option.some.inj e').symm (n vs)
theorem RH.none_frz (r : RH K H h) {a : Addr} {ob u} (e : H a = some (.frz ob u)) : h a = none := by
  cases q : h a with
  | none => rfl
  | some o =>
    obtain ⟨w, e', _, n⟩ := (r a o q).some
    rw [e] at e'
    exact absurd (Option.some.inj e').symm (n ob u)
theorem RH.none (r : RH K H h) {a : Addr} (e : H a = none) : h a = none := by
  cases q : h a with
  | none => rfl
  | some o =>
    obtain ⟨w, e', _, n⟩ := (r a o q).some
    rw [e] at e'
    cases e'
theorem Frm.kp (f : Frm H h H' h') (r : RH K H h) : Kp H H' := ⟨fun _ _ e => (f _ _ e (r.none_tup e)).1, fun _ _ _ e => (f _ _ e (r.none_frz e)).1⟩
theorem Kp.refl : Kp H H := ⟨fun _ _ e => e, fun _ _ _ e => e⟩
theorem Kp.trans (a : Kp H H1) (b : Kp H1 H2) : Kp H H2 := ⟨fun x v e => b.1 x v (a.1 x v e), fun x o u e => b.2 x o u (a.2 x o u e)⟩
mutual
theorem Rep.kp (k : Kp H H') : ∀ {d : SD} {v : V}, Rep K H d v → Rep K H' d v
  | .non, _, r => r
  | .bl _, _, r => r
  | .int _, _, r => r
  | .str _, _, r => r
  | .ref _, _, r => r
  | .tup _, _, ⟨a, vs, e, t, rs⟩ => ⟨a, vs, e, t.imp (k.1 _ _) id, Reps.kp k rs⟩
  | .rol _, _, ⟨a, vs, e, t, rs⟩ => ⟨a, vs, e, t.imp (fun ⟨o, z⟩ => ⟨o, k.2 _ _ _ z⟩) id, Reps.kp k rs⟩
theorem Reps.kp (k : Kp H H') : ∀ {ds : List SD} {vs : List V}, Reps K H ds vs → Reps K H' ds vs
  | [], _, r => r
  | _ :: _, _, ⟨v, r, e, a, b⟩ => ⟨v, r, e, Rep.kp k a, Reps.kp k b⟩
end
theorem RS.kp {σ : L2.St} {σa : M.St} (k : Kp H H') (r : RS K H σ σa) : RS K H' σ σa := ⟨r.1, fun i d e => let ⟨v, e1, q⟩ := r.2 i d e; ⟨v, e1, q.kp k⟩⟩
theorem ObRep.kp {a : Addr} {o : M.Ob} (k : Kp H H') (e : H' a = H a) (r : ObRep K H a o) : ObRep K H' a o := by
  match o, r with
  | .lst xs, ⟨vs, q, r⟩ => exact ⟨vs, e.trans q, r.kp k⟩
  | .dct 0 kvs, ⟨vs, q, r⟩ => exact ⟨vs, e.trans q, Paired.mapP r fun _ _ z => ⟨z.1, z.2.1, z.2.2.kp k⟩⟩
theorem Reps.length : ∀ {ds : List SD} {vs : List V}, Reps K H ds vs → vs.length = ds.length
  | [], _, r => by cases (show _ = [] from r); rfl
  | _ :: _, _, ⟨v, r, e, _, b⟩ => by subst e; simp [Reps.length b]
theorem Reps.get : ∀ {ds : List SD} {vs : List V} {i : Nat} {d : SD}, Reps K H ds vs → ds[i]? = some d → ∃ v, vs[i]? = some v ∧ Rep K H d v
  | [], _, _, _, _, e => by simp at e
  | _ :: _, _, 0, d, ⟨v, r, e, a, _⟩, q => by subst e; simp at q; subst q; exact ⟨v, rfl, a⟩
  | _ :: _, _, i + 1, d, ⟨v, r, e, _, b⟩, q => by subst e; obtain ⟨w, z, y⟩ := Reps.get (i := i) b (by simpa using q); exact ⟨w, by simpa using z, y⟩
theorem Reps.append : ∀ {ds es : List SD} {vs ws : List V}, Reps K H ds vs → Reps K H es ws → Reps K H (ds ++ es) (vs ++ ws)
  | [], _, _, _, r, s => by cases (show _ = [] from r); exact s
  | _ :: _, _, _, _, ⟨v, r, e, a, b⟩, s => by subst e; exact ⟨v, _, rfl, a, Reps.append b s⟩
theorem Reps.one {d : SD} {v : V} (r : Rep K H d v) : Reps K H [d] [v] := ⟨v, [], rfl, r, rfl⟩
theorem Reps.take : ∀ (n : Nat) {ds : List SD} {vs : List V}, Reps K H ds vs → Reps K H (ds.take n) (vs.take n)
  | 0, _, _, _ => by simp [Reps]
  | n + 1, [], _, r => by cases (show _ = [] from r); simp [Reps]
  | n + 1, _ :: _, _, ⟨v, r, e, a, b⟩ => by subst e; exact ⟨v, _, rfl, a, Reps.take n b⟩
theorem Reps.drop : ∀ (n : Nat) {ds : List SD} {vs : List V}, Reps K H ds vs → Reps K H (ds.drop n) (vs.drop n)
  | 0, _, _, r => r
  | n + 1, [], _, r => by cases (show _ = [] from r); simp [Reps]
  | n + 1, _ :: _, _, ⟨v, r, e, a, b⟩ => by subst e; exact Reps.drop n b
theorem Reps.set {d : SD} {v : V} (q : Rep K H d v) : ∀ (n : Nat) {ds : List SD} {vs : List V}, Reps K H ds vs → Reps K H (ds.set n d) (vs.set n v)
  | _, [], _, r => by cases (show _ = [] from r); simp [Reps]
  | 0, _ :: _, _, ⟨w, r, e, a, b⟩ => by subst e; exact ⟨v, r, rfl, q, b⟩
  | n + 1, _ :: _, _, ⟨w, r, e, a, b⟩ => by subst e; exact ⟨w, _, rfl, a, Reps.set q n b⟩
theorem Reps.rev : ∀ {ds : List SD} {vs : List V}, Reps K H ds vs → Reps K H ds.reverse vs.reverse
  | [], _, r => by cases (show _ = [] from r); simp [Reps]
  | _ :: _, _, ⟨w, r, e, a, b⟩ => by subst e; rw [List.reverse_cons, List.reverse_cons]; exact (Reps.rev b).append (.one a)
theorem Reps.nil {vs : List V} (r : Reps K H [] vs) : vs = [] := r
theorem Reps.cons {d : SD} {ds : List SD} {v : V} {vs : List V} (a : Rep K H d v) (b : Reps K H ds vs) : Reps K H (d :: ds) (v :: vs) := ⟨v, vs, rfl, a, b⟩
theorem Reps.rep {ds : List SD} {vs : List V} (r : Reps K H ds vs) : ∀ k : Nat, Reps K H (List.replicate k ds).flatten (List.replicate k vs).flatten
  | 0 => by simp [Reps]
  | k + 1 => by rw [List.replicate_succ, List.flatten_cons, List.replicate_succ, List.flatten_cons]; exact r.append (Reps.rep r k)
theorem Reps.dropLast {ds : List SD} {vs : List V} (r : Reps K H ds vs) : Reps K H ds.dropLast vs.dropLast := by
  rw [List.dropLast_eq_take, List.dropLast_eq_take, r.length]
  exact r.take _

/-! ### a new object, a written one -/
theorem up_same {a : Nat} {o : M.Ob} : M.up h a o a = some o := by unfold M.up; rw [if_pos rfl]
theorem up_ne {a b : Nat} {o : M.Ob} (e : b ≠ a) : M.up h a o b = h b := by unfold M.up; rw [if_neg e]
theorem kp_new {p : Addr} {o : HO} (n : H p = none) : Kp H (upd H p o) := ⟨fun a vs e => by rw [upd_ne (ne_of_none e n)]; exact e, fun a ob u e => by rw [upd_ne (ne_of_none e n)]; exact e⟩
/-- an object that only the model knows (a tuple) -/
theorem frm_hid {p : Addr} {o : HO} (n : H p = none) : Frm H h (upd H p o) h := fun a u e q => ⟨by rw [upd_ne (ne_of_none e n)]; exact e, q⟩
theorem rh_hid {p : Addr} {o : HO} (r : RH K H h) (n : H p = none) : RH K (upd H p o) h := fun a u e => (r a u e).kp (kp_new n) (by
  obtain ⟨w, z, _⟩ := (r a u e).some
  exact upd_ne (ne_of_none z n))
theorem frm_new {p : Addr} {o : HO} {ob : M.Ob} (n : H p = none) : Frm H h (upd H p o) (M.up h p ob) := fun a u e q => by
  have ne := ne_of_none e n
  exact ⟨by rw [upd_ne ne]; exact e, by rw [up_ne ne]; exact q⟩
theorem rh_new {p : Addr} {o : HO} {ob : M.Ob} (r : RH K H h) (n : H p = none) (q : ObRep K (upd H p o) p ob) : RH K (upd H p o) (M.up h p ob) := fun a u e => by
  by_cases z : a = p
  · subst z; rw [up_same] at e; cases e; exact q
  · rw [up_ne z] at e; exact rh_hid r n a u e
/-- a written object -/
theorem kp_put {p : Addr} {o : HO} {ob : M.Ob} (r : RH K H h) (e : h p = some ob) : Kp H (upd H p o) := by
  obtain ⟨u, z, n1, n2⟩ := (r p ob e).some
  refine ⟨fun a vs q => ?_, fun a ob u q => ?_⟩
  · rw [upd_ne (fun y => by subst y; rw [z] at q; exact n1 _ (Option.some.inj q))]; exact q
  · rw [upd_ne (fun y => by subst y; rw [z] at q; exact n2 _ _ (Option.some.inj q))]; exact q
theorem frm_put {p : Addr} {o : HO} {ob ob' : M.Ob} (e : h p = some ob) : Frm H h (upd H p o) (M.up h p ob') := fun a u z q => by
  have ne : a ≠ p := fun y => by subst y; rw [e] at q; cases q
  exact ⟨by rw [upd_ne ne]; exact z, by rw [up_ne ne]; exact q⟩
theorem rh_put {p : Addr} {o : HO} {ob ob' : M.Ob} (r : RH K H h) (e : h p = some ob) (q : ObRep K (upd H p o) p ob') : RH K (upd H p o) (M.up h p ob') := fun a u z => by
  by_cases y : a = p
  · subst y; rw [up_same] at z; cases z; exact q
  · rw [up_ne y] at z
    exact (r a u z).kp (kp_put r e) (upd_ne y)
end
end Snd
end
section
/-! Sound2: the operations. -/
namespace Snd
open PySem L2 PySem.Spec PyProof.Rows

/-- what stands behind: Q of whatever bears d, in whatever heap bears h' -/
def Kont (K : Fr) (H : Hp) (h : M.AH) (Qa : M.VQ) (Q : VK) : Prop := ∀ d h' v H', Qa d h' → Frm H h H' h' → Rep K H' d v → RH K H' h' → Q v H'
/-- the same of a truth, of the heap -/
def KontB (K : Fr) (H : Hp) (h : M.AH) (Qa : Bool → Prop) (Q : VK) : Prop := ∀ b, Qa b → Q (.bl b) H
section
variable {K : Fr} {H H1 H' : Hp} {h h1 h' : M.AH} {Qa : M.VQ} {Q : VK}
theorem Kont.go (k : Kont K H h Qa Q) (f : Frm H h H1 h1) : Kont K H1 h1 Qa Q := fun d h' v H' q f' r rh => k d h' v H' q (f.trans f') r rh
theorem Kont.now (k : Kont K H h Qa Q) (rh : RH K H h) {d : SD} {v : V} (q : Qa d h) (r : Rep K H d v) : Q v H := k d h v H q .refl r rh
theorem line_eq : (sizeLine : Nat) = M.LINE := by rw [sizeLine_eq]; rfl
theorem sV_len (s : M.Sx) : (sV s).length = s.length := by simp [sV, Str.length]
theorem sV_app (a b : M.Sx) : sV a ++ sV b = sV (a ++ b) := by
  show Str.append _ _ = _
  simp [sV, Str.append]
theorem sV_inj {a b : M.Sx} (e : sV a = sV b) : a = b := by
  have e1 : a.toArray = b.toArray := congrArg Str.cps e
  simpa using congrArg Array.toList e1
theorem sV_cps (a : M.Sx) : (sV a).cps.toList = a := by simp [sV]
theorem sOk_app {a b : M.Sx} (x : sOk a) (y : sOk b) : sOk (a ++ b) := fun c hc => (List.mem_append.mp hc).elim (x c) (y c)

/-! ### two places -/
def rAddS : R2 := fun x y H Q => ∃ i j, x = .str i ∧ y = .str j ∧ i.length + j.length ≤ sizeLine ∧ Q (.str (i ++ j)) H
def rAddT (K : Fr) : R2 := rCatT K
def rPow : R2 := rI CPow fun i j => .int (i ^ j.toNat)
def rAdd4 (K : Fr) : R2 := fun x y H Q => (rI0 fun i j => .int (i + j)) x y H Q ∨ rAddS x y H Q ∨ rCatT K x y H Q ∨ rCat x y H Q
def rMul3 : R2 := fun x y H Q => (rI CMul fun i j => .int (i * j)) x y H Q ∨ rRep x y H Q
def rBin (K : Fr) : M.Bop → R2
  | .add => rAdd4 K
  | .sub => rI0 fun i j => .int (i - j)
  | .mul => rMul3
  | .mod => rI (fun _ j => 0 < j) fun i j => .int (i % j)
  | .fdiv => rI CDivW fun i j => .int (i / j)
  | .pow => rPow
def bop : M.Bop → Operator
  | .add => .Add | .sub => .Sub | .mul => .Mult | .mod => .Mod | .fdiv => .FloorDiv | .pow => .Pow
theorem op_bin {X : Cx} (o : M.Bop) : OpR X (binaryOp (bop o)) (rBin X.K o) := by
  cases o
  · exact op_add.or (op_add_str.or (op_catT.or op_cat))
  · exact op_sub
  · exact op_mul.or op_rep
  · exact op_mod
  · exact op_fdivW
  · exact op_pow
theorem log_small {b : Int} (h0 : 0 < b) (h1 : b < 2 ^ 64) : b.natAbs.log2 < 9000 :=
  (wide_div (i := 0) (b := 64) h0 (by omega) (by decide) (by decide)).2
theorem opInt_inv {f : Int → Int → (Int → Prop) → Prop} {dx dy : SD} (q : M.opInt f dx dy h Qa) : ∃ a b, dx = .int a ∧ dy = .int b ∧ f a b fun c => Qa (.int c) h := by
  cases dx with
  | int a => cases dy with
    | int b => exact ⟨a, b, rfl, rfl, q⟩
    | _ => exact False.elim q
  | _ => exact False.elim q
theorem opAdd_inv {dx dy : SD} (q : M.opAdd dx dy h Qa) : (∃ a b, dx = .int a ∧ dy = .int b ∧ Qa (.int (a + b)) h) ∨ (∃ a b, dx = .str a ∧ dy = .str b ∧ a.length + b.length ≤ M.LINE ∧ Qa (.str (a ++ b)) h) ∨
    (∃ a b, dx = .tup a ∧ dy = .tup b ∧ a ≠ [] ∧ a.length + b.length ≤ M.LINE ∧ Qa (.tup (a ++ b)) h) ∨
    ∃ p p2, dx = .ref p ∧ dy = .ref p2 ∧ ∃ xs ys, h p = some (.lst xs) ∧ h p2 = some (.lst ys) ∧ xs.length + ys.length ≤ M.LINE ∧ ∀ r, h r = none → Qa (.ref r) (M.up h r (.lst (xs ++ ys))) := by
  cases dx with
  | int a => cases dy with
    | int b => exact .inl ⟨a, b, rfl, rfl, q⟩
    | _ => exact False.elim q
  | str a => cases dy with
    | str b => exact .inr (.inl ⟨a, b, rfl, rfl, q.1, q.2⟩)
    | _ => exact False.elim q
  | tup a => cases dy with
    | tup b => exact .inr (.inr (.inl ⟨a, b, rfl, rfl, q.1, q.2.1, q.2.2⟩))
    | _ => exact False.elim q
  | ref a => cases dy with
    | ref b => exact .inr (.inr (.inr ⟨a, b, rfl, rfl, q⟩))
    | _ => exact False.elim q
  | _ => exact False.elim q
theorem opMul_inv {dx dy : SD} (q : M.opMul dx dy h Qa) : (∃ a b, dx = .int a ∧ dy = .int b ∧ M.mulOk a b ∧ Qa (.int (a * b)) h) ∨
    ∃ p n, dx = .ref p ∧ dy = .int n ∧ ∃ xs, h p = some (.lst xs) ∧ -(2 ^ 63) ≤ n ∧ n < 2 ^ 63 ∧ xs.length * n.toNat ≤ M.LINE ∧ ∀ r, h r = none → Qa (.ref r) (M.up h r (.lst (List.replicate n.toNat xs).flatten)) := by
  cases dx with
  | int a => cases dy with
    | int b => exact .inl ⟨a, b, rfl, rfl, q.1, q.2⟩
    | _ => exact False.elim q
  | ref a => cases dy with
    | int b => exact .inr ⟨a, b, rfl, rfl, q⟩
    | _ => exact False.elim q
  | _ => exact False.elim q
theorem add_ok {dx dy : SD} {x y : V} (rh : RH K H h) (rx : Rep K H dx x) (ry : Rep K H dy y) (q : M.opAdd dx dy h Qa) (k : Kont K H h Qa Q) : rAdd4 K x y H Q := by
  have hl := line_eq
  rcases opAdd_inv q with ⟨a, b, rfl, rfl, q⟩ | ⟨a, b, rfl, rfl, hz, q⟩ | ⟨a, b, rfl, rfl, ne, hz, q⟩ | ⟨p, p2, rfl, rfl, xs, ys, e1, e2, hz, q⟩
  · cases (show x = _ from rx); cases (show y = _ from ry)
    exact .inl ⟨a, b, rfl, rfl, k.now rh q rfl⟩
  · obtain ⟨rx, ox⟩ := rx
    obtain ⟨ry, oy⟩ := ry
    subst rx; subst ry
    refine .inr (.inl ⟨sV a, sV b, rfl, rfl, by rw [sV_len, sV_len, hl]; exact hz, ?_⟩)
    rw [sV_app]
    exact k.now rh q ⟨rfl, sOk_app ox oy⟩
  · obtain ⟨p, vs, e1, t1, r1⟩ := rx
    obtain ⟨p2, ws, e2, t2, r2⟩ := ry
    subst e1; subst e2
    have l1 := r1.length
    have l2 := r2.length
    have s1 : SqT K H p vs := t1.imp .inl id
    have s2 : SqT K H p2 ws := t2.imp .inl id
    refine .inr (.inr (.inl ⟨p, p2, vs, ws, rfl, rfl, s1, s2, ?_, by omega, ?_⟩))
    · intro e; subst e; cases a with
      | nil => exact ne rfl
      | cons _ _ => simp at l1
    · refine ⟨fun e => ?_, fun ne2 l hn => ?_⟩
      · have : b = [] := by
          subst e; cases b with
          | nil => rfl
          | cons _ _ => simp at l2
        subst this
        refine k.now rh q ⟨p, vs, rfl, t1, by simpa using r1⟩
      · refine k _ _ _ _ q (frm_hid hn) ⟨l, vs ++ ws, rfl, .inl upd_same, (r1.kp (kp_new hn)).append (r2.kp (kp_new hn))⟩ (rh_hid rh hn)
  · cases (show x = _ from rx); cases (show y = _ from ry)
    obtain ⟨vs, a1, r1⟩ := rh p _ e1
    obtain ⟨ws, a2, r2⟩ := rh p2 _ e2
    have l1 := r1.length
    have l2 := r2.length
    refine .inr (.inr (.inr ⟨p, p2, vs, ws, rfl, rfl, a1, a2, by omega, fun l hn => ?_⟩))
    exact k _ _ _ _ (q l (rh.none hn)) (frm_new hn) rfl (rh_new rh hn ⟨_, upd_same, (r1.kp (kp_new hn)).append (r2.kp (kp_new hn))⟩)
theorem mul_ok {dx dy : SD} {x y : V} (rh : RH K H h) (rx : Rep K H dx x) (ry : Rep K H dy y) (q : M.opMul dx dy h Qa) (k : Kont K H h Qa Q) : rMul3 x y H Q := by
  have hl := line_eq
  rcases opMul_inv q with ⟨a, b, rfl, rfl, c, q⟩ | ⟨p, n, rfl, rfl, xs, e1, n1, n2, hz, q⟩
  · cases (show x = _ from rx); cases (show y = _ from ry)
    exact .inl ⟨a, b, rfl, rfl, c, k.now rh q rfl⟩
  · cases (show x = _ from rx); cases (show y = _ from ry)
    obtain ⟨vs, a1, r1⟩ := rh p _ e1
    have l1 := r1.length
    refine .inr ⟨p, n, vs, rfl, rfl, a1, n1, n2, by rw [l1, hl]; exact hz, fun l hn => ?_⟩
    exact k _ _ _ _ (q l (rh.none hn)) (frm_new hn) rfl (rh_new rh hn ⟨_, upd_same, (r1.kp (kp_new hn)).rep _⟩)
theorem bin_ok {o : M.Bop} {dx dy : SD} {x y : V} (rh : RH K H h) (rx : Rep K H dx x) (ry : Rep K H dy y) (q : M.opBin o dx dy h Qa) (k : Kont K H h Qa Q) : rBin K o x y H Q := by
  cases o with
  | add => exact add_ok rh rx ry q k
  | mul => exact mul_ok rh rx ry q k
  | sub =>
    simp only [M.opBin] at q
    obtain ⟨a, b, rfl, rfl, q⟩ := opInt_inv q
    cases (show x = _ from rx); cases (show y = _ from ry)
    exact ⟨a, b, rfl, rfl, k.now rh q rfl⟩
  | mod =>
    simp only [M.opBin] at q
    obtain ⟨a, b, rfl, rfl, c, q⟩ := opInt_inv q
    cases (show x = _ from rx); cases (show y = _ from ry)
    exact ⟨a, b, rfl, rfl, c, k.now rh q rfl⟩
  | fdiv =>
    simp only [M.opBin] at q
    obtain ⟨a, b, rfl, rfl, c, q⟩ := opInt_inv q
    cases (show x = _ from rx); cases (show y = _ from ry)
    exact ⟨a, b, rfl, rfl, ⟨c.1, log_small c.1 c.2⟩, k.now rh q rfl⟩
  | pow =>
    simp only [M.opBin] at q
    obtain ⟨a, b, rfl, rfl, c, q⟩ := opInt_inv q
    cases (show x = _ from rx); cases (show y = _ from ry)
    exact ⟨a, b, rfl, rfl, c, k.now rh q rfl⟩

/-! ### data as the model reads it -/
mutual
def toPy : SD → PyData
  | .non => .none
  | .bl b => .bool b
  | .int i => .int i
  | .str s => .str (sV s)
  | .tup ds => .tuple (toPys ds)
  | .rol ds => .list (toPys ds)
  | .ref _ => .none
def toPys : List SD → List PyData
  | [] => []
  | d :: ds => toPy d :: toPys ds
end
theorem ba {a b : Bool} (h : (a && b) = true) : a = true ∧ b = true := Bool.and_eq_true_iff.mp h
mutual
theorem rep_dp : ∀ {d : SD} {v : V}, M.pureD d = true → Rep K H d v → Dp K H v (toPy d)
  | .non, _, _, r => by cases (show _ = _ from r); exact .non
  | .int i, _, _, r => by cases (show _ = _ from r); exact .int i
  | .str s, _, _, r => by cases (show _ = _ from r.1); exact .str _
  | .tup ds, _, p, ⟨a, vs, e, t, rs⟩ => by subst e; exact .tup (t.imp .inl id) (reps_dp (by simpa only [M.pureD] using p) rs)
  | .bl _, _, p, _ => by simp [M.pureD] at p
  | .ref _, _, p, _ => by simp [M.pureD] at p
  | .rol _, _, p, _ => by simp [M.pureD] at p
theorem reps_dp : ∀ {ds : List SD} {vs : List V}, M.pureDs ds = true → Reps K H ds vs → DpAll K H vs (toPys ds)
  | [], _, _, r => by cases (show _ = _ from r); exact .nil
  | d :: ds, _, p, ⟨v, r, e, a, b⟩ => by
    subst e
    obtain ⟨p1, p2⟩ := ba (show (M.pureD d && M.pureDs ds) = true by simpa only [M.pureDs] using p)
    exact .cons (rep_dp p1 a) (reps_dp p2 b)
end
mutual
theorem rep_can : ∀ {d : SD} {v : V}, M.pureD d = true → Rep K H d v → (toPy d).canLay0 = true
  | .non, _, _, r => rfl
  | .int i, _, _, r => rfl
  | .str s, _, _, r => by
    have ok := r.2
    show PyData.strOk (sV s) = true
    simp only [PyData.strOk, sV, Array.all_eq_true_iff_forall_mem, List.mem_toArray, decide_eq_true_eq]
    exact ok
  | .tup ds, _, p, ⟨a, vs, e, t, rs⟩ => by
    show PyData.canLayAll0 (toPys ds) = true
    exact reps_can (by simpa only [M.pureD] using p) rs
  | .bl _, _, p, _ => by simp [M.pureD] at p
  | .ref _, _, p, _ => by simp [M.pureD] at p
  | .rol _, _, p, _ => by simp [M.pureD] at p
theorem reps_can : ∀ {ds : List SD} {vs : List V}, M.pureDs ds = true → Reps K H ds vs → PyData.canLayAll0 (toPys ds) = true
  | [], _, _, r => rfl
  | d :: ds, _, p, ⟨v, r, e, a, b⟩ => by
    obtain ⟨p1, p2⟩ := ba (show (M.pureD d && M.pureDs ds) = true by simpa only [M.pureDs] using p)
    show (PyData.canLay0 (toPy d) && PyData.canLayAll0 (toPys ds)) = true
    rw [rep_can p1 a, reps_can p2 b]
    rfl
end
mutual
theorem py_depth : ∀ (n : Nat) (d : SD), M.plain n d = true → (toPy d).depth ≤ n
  | _, .non, _ => by simp [toPy, PyData.depth]
  | _, .int i, _ => by simp [toPy, PyData.depth]
  | _, .str s, _ => by simp [toPy, PyData.depth]
  | 0, .tup ds, p => by simp [M.plain] at p
  | n + 1, .tup ds, p => by
    have := pys_depth n ds (by simpa only [M.plain] using p)
    simp only [toPy, PyData.depth]
    omega
  | 0, .bl _, p => by simp [M.plain] at p
  | n + 1, .bl _, p => by simp [M.plain] at p
  | 0, .ref _, p => by simp [M.plain] at p
  | n + 1, .ref _, p => by simp [M.plain] at p
  | 0, .rol _, p => by simp [M.plain] at p
  | n + 1, .rol _, p => by simp [M.plain] at p
theorem pys_depth : ∀ (n : Nat) (ds : List SD), M.plains n ds = true → PyData.depthAll (toPys ds) ≤ n
  | _, [], _ => by simp [toPys, PyData.depthAll]
  | n, d :: ds, p => by
    obtain ⟨p1, p2⟩ := ba (show (M.plain n d && M.plains n ds) = true by cases n <;> simpa only [M.plains] using p)
    have := py_depth n d p1
    have := pys_depth n ds p2
    simp only [toPys, PyData.depthAll]
    omega
end
mutual
theorem eqv_py : ∀ (a b : SD), M.pureD a = true → M.pureD b = true → PyData.eqv (toPy a) (toPy b) = decide (a = b)
  | .non, b, _, q => by cases b <;> simp [M.pureD, toPy, PyData.eqv] at q ⊢
  | .int i, b, _, q => by cases b <;> simp [M.pureD, toPy, PyData.eqv, Bool.beq_eq_decide_eq] at q ⊢
  | .str s, b, _, q => by
    cases b <;> simp [M.pureD, toPy, PyData.eqv, Bool.beq_eq_decide_eq] at q ⊢
    rename_i t
    exact ⟨sV_inj, fun e => by rw [e]⟩
  | .tup ds, b, p, q => by
    cases b <;> simp [M.pureD, toPy, PyData.eqv] at p q ⊢
    exact eqv_pys ds _ p q
  | .bl _, b, p, _ => by simp [M.pureD] at p
  | .ref _, b, p, _ => by simp [M.pureD] at p
  | .rol _, b, p, _ => by simp [M.pureD] at p
theorem eqv_pys : ∀ (as bs : List SD), M.pureDs as = true → M.pureDs bs = true → PyData.eqvAll (toPys as) (toPys bs) = decide (as = bs)
  | [], [], _, _ => by simp [toPys, PyData.eqvAll]
  | [], _ :: _, _, _ => by simp [toPys, PyData.eqvAll]
  | _ :: _, [], _, _ => by simp [toPys, PyData.eqvAll]
  | a :: as, b :: bs, p, q => by
    obtain ⟨p1, p2⟩ := ba (show (M.pureD a && M.pureDs as) = true by simpa only [M.pureDs] using p)
    obtain ⟨q1, q2⟩ := ba (show (M.pureD b && M.pureDs bs) = true by simpa only [M.pureDs] using q)
    simp only [toPys, PyData.eqvAll, eqv_py a b p1 q1, eqv_pys as bs p2 q2, List.cons.injEq, Bool.decide_and]
end
end
end Snd
end
section
/-! Sound3: comparisons, items, slices, stores. -/
namespace Snd
open PySem L2 PySem.Spec PyProof.Rows
section
variable {K : Fr} {H H1 H' : Hp} {h h1 h' : M.AH} {Qa : M.VQ} {Q : VK} {qb : Bool → Prop}

/-! ### == -/
def rEqP (K : Fr) : R2 := fun x y H Q => ∃ d e, Dp K H x d ∧ Dp K H y e ∧ d.canLay0 = true ∧ e.canLay0 = true ∧ (d.depth ≤ 191 ∨ e.depth ≤ 191) ∧ Q (.bl (PyData.eqv d e)) H
def rNeP (K : Fr) : R2 := fun x y H Q => ∃ d e, Dp K H x d ∧ Dp K H y e ∧ d.canLay0 = true ∧ e.canLay0 = true ∧ (d.depth ≤ 191 ∨ e.depth ≤ 191) ∧ Q (.bl (!PyData.eqv d e)) H
theorem op_eqP {X : Cx} (hu : X.A.units + 200 < cLine) : OpR X (compareOp .Eq) (rEqP X.K) := by
  intro pins s σ H x y v u Q I rx ry h
  obtain ⟨d, e, hd, he, sd, se, dp, q⟩ := h
  obtain ⟨as, r1⟩ := Dp.reads I d x v hd rx
  obtain ⟨bs, r2⟩ := Dp.reads I e y u he ry
  exact SeqAt.compareEq_reads r1 r2 sd se (by omega) ⟨.bl _, H, I, rfl, q⟩
theorem op_neP {X : Cx} (hu : X.A.units + 200 < cLine) : OpR X (compareOp .NotEq) (rNeP X.K) := by
  intro pins s σ H x y v u Q I rx ry h
  obtain ⟨d, e, hd, he, sd, se, dp, q⟩ := h
  obtain ⟨as, r1⟩ := Dp.reads I d x v hd rx
  obtain ⟨bs, r2⟩ := Dp.reads I e y u he ry
  exact SeqAt.compareNe_reads r1 r2 sd se (by omega) ⟨.bl _, H, I, rfl, q⟩
/-- what two equal things are asked -/
def EqK (K : Fr) (x y : V) (H : Hp) (P : Bool → Prop) : Prop := (∃ a b, x = .bl a ∧ y = .bl b ∧ P (decide (a = b))) ∨ ∃ d e, Dp K H x d ∧ Dp K H y e ∧ d.canLay0 = true ∧ e.canLay0 = true ∧ (d.depth ≤ 191 ∨ e.depth ≤ 191) ∧ P (PyData.eqv d e)
theorem eqk {dx dy : SD} {x y : V} {P : Bool → Prop} (rh : RH K H h) (rx : Rep K H dx x) (ry : Rep K H dy y) (q : M.eqOk dx dy h P) : EqK K x y H P := by
  have plainCase : M.pureD dx = true ∧ M.pureD dy = true ∧ (M.plain 190 dx = true ∨ M.plain 190 dy = true) ∧ P (decide (dx = dy)) → EqK K x y H P := fun ⟨p1, p2, dp, q⟩ => by
    refine .inr ⟨toPy dx, toPy dy, rep_dp p1 rx, rep_dp p2 ry, rep_can p1 rx, rep_can p2 ry, ?_, by rw [eqv_py dx dy p1 p2]; exact q⟩
    rcases dp with dp | dp
    · exact .inl (Nat.le_succ_of_le (py_depth _ _ dp))
    · exact .inr (Nat.le_succ_of_le (py_depth _ _ dp))
  cases dx with
  | bl a => cases dy with
    | bl b =>
      cases (show x = _ from rx); cases (show y = _ from ry)
      exact .inl ⟨a, b, rfl, rfl, q⟩
    | _ => exact False.elim q
  | ref p => cases dy with
    | ref p2 =>
      cases (show x = _ from rx); cases (show y = _ from ry)
      obtain ⟨xs, ys, e1, e2, p1, p2, dp, q⟩ := q
      obtain ⟨vs, a1, r1⟩ := rh _ _ e1
      obtain ⟨ws, a2, r2⟩ := rh _ _ e2
      refine .inr ⟨.list (toPys xs), .list (toPys ys), .lst (SqL.of a1) (reps_dp p1 r1), .lst (SqL.of a2) (reps_dp p2 r2), reps_can p1 r1, reps_can p2 r2, ?_, ?_⟩
      · simp only [PyData.depth]
        rcases dp with dp | dp
        · exact .inl (Nat.succ_le_succ (pys_depth _ _ dp))
        · exact .inr (Nat.succ_le_succ (pys_depth _ _ dp))
      · simp only [PyData.eqv, eqv_pys xs ys p1 p2]
        exact q
    | _ => exact False.elim q
  | non => exact plainCase q
  | int _ => exact plainCase q
  | str _ => exact plainCase q
  | tup _ => exact plainCase q
  | rol _ => exact plainCase q

/-! ### in -/
def rDin (neg : Bool) : R2 := fun x y H Q => ∃ a o, y = .ref a ∧ DGet H a x o ∧ Q (.bl (if neg then !o.isSome else o.isSome)) H
theorem op_din {X : Cx} (hu : X.A.units + 1 < cLine) : OpR X (compareOp .In) (rDin false) := by
  intro pins s σ H x y v u Q I rx ry h
  obtain ⟨a, o, rfl, g, q⟩ := h
  obtain rfl : u = Value.ref a := ry
  exact d_in hu I g rx fun s3 I3 => ⟨.bl o.isSome, H, I3, rfl, q⟩
theorem op_dnotin {X : Cx} (hu : X.A.units + 1 < cLine) : OpR X (compareOp .NotIn) (rDin true) := by
  intro pins s σ H x y v u Q I rx ry h
  obtain ⟨a, o, rfl, g, q⟩ := h
  obtain rfl : u = Value.ref a := ry
  exact d_notIn hu I g rx fun s3 I3 => ⟨.bl (!o.isSome), H, I3, rfl, q⟩
def rLin (K : Fr) (neg : Bool) : R2 := fun x y H Q => ∃ d ds, Dp K H x d ∧ Dp K H y (.list ds) ∧ d.canLay0 = true ∧ PyData.canLayAll0 ds = true ∧ (d.depth ≤ 191 ∨ PyData.depthAll ds ≤ 191) ∧ Q (.bl (if neg then !ds.any fun z => PyData.eqv z d else ds.any fun z => PyData.eqv z d)) H
theorem op_lin {X : Cx} (hu : X.A.units + 200 < cLine) : OpR X (compareOp .In) (rLin X.K false) := by
  intro pins s σ H x y v u Q I rx ry h
  obtain ⟨d, ds, hd, he, sd, se, dp, q⟩ := h
  obtain ⟨as, r1⟩ := Dp.reads I d x v hd rx
  obtain ⟨bs, r2⟩ := Dp.reads I (.list ds) y u he ry
  exact SeqAt.in_list_reads r2 r1 se sd (by omega) ⟨.bl _, H, I, rfl, q⟩
theorem op_lnotin {X : Cx} (hu : X.A.units + 200 < cLine) : OpR X (compareOp .NotIn) (rLin X.K true) := by
  intro pins s σ H x y v u Q I rx ry h
  obtain ⟨d, ds, hd, he, sd, se, dp, q⟩ := h
  obtain ⟨as, r1⟩ := Dp.reads I d x v hd rx
  obtain ⟨bs, r2⟩ := Dp.reads I (.list ds) y u he ry
  exact SeqAt.notIn_list_reads r2 r1 se sd (by omega) ⟨.bl _, H, I, rfl, q⟩
theorem any_py : ∀ (xs : List SD) (x : SD), M.pureDs xs = true → M.pureD x = true → ((toPys xs).any fun z => PyData.eqv z (toPy x)) = xs.any fun y => decide (y = x)
  | [], _, _, _ => rfl
  | y :: ys, x, p, q => by
    obtain ⟨p1, p2⟩ := ba (show (M.pureD y && M.pureDs ys) = true by simpa only [M.pureDs] using p)
    show (PyData.eqv (toPy y) (toPy x) || (toPys ys).any fun z => PyData.eqv z (toPy x)) = _
    rw [eqv_py y x p1 q, any_py ys x p2 q, List.any_cons]
/-- keys -/
theorem keyV_inj {a b : SD} {k : Key} (h1 : keyV a = some k) (h2 : keyV b = some k) : a = b := by
  cases a <;> simp [keyV] at h1
  · cases b <;> simp [keyV] at h2
    · subst h1; rw [Sum.inl.inj h2]
    · subst h1; cases h2
  · cases b <;> simp [keyV] at h2
    · subst h1; cases h2
    · subst h1; rw [sV_inj (Sum.inr.inj h2)]
theorem keyV_rep {d : SD} {k : Key} {v : V} (e : keyV d = some k) (r : Rep K H d v) : v = kV k := by
  cases d <;> simp [keyV] at e
  · subst e; exact r
  · subst e; exact r.1
theorem keyOk0 {d : SD} (k : M.keyOk 0 d = true) : ∃ x, keyV d = some x := by
  cases d <;> first | exact ⟨_, rfl⟩ | simp [M.keyOk] at k
theorem rep_str {d : SD} {v : V} (r : Rep K H d v) : ∀ s, d = .str s → sOk s := fun s e => by subst e; exact r.2
theorem reps_str {ds : List SD} {vs : List V} (r : Reps K H ds vs) : ∀ d ∈ ds, ∀ s, d = .str s → sOk s := by
  induction ds generalizing vs with
  | nil => intro d hd; cases hd
  | cons a as ih =>
    obtain ⟨v, w, _, r1, r2⟩ := r
    intro d hd
    rcases List.mem_cons.mp hd with e | hd
    · subst e; exact rep_str r1
    · exact ih r2 d hd

/-- a table of any kind of keys: how the two look-ups agree -/
structure KeyRel (κ : Type) [DecidableEq κ] (K : Fr) (H : Hp) (R : SD → κ → Prop) : Prop where
  inj : ∀ a b k, R a k → R b k → a = b
  fn : ∀ a k k', R a k → R a k' → k = k'
abbrev PR {κ : Type} (K : Fr) (H : Hp) (R : SD → κ → Prop) := fun (x : SD × SD) (p : κ × V) => R x.1 p.1 ∧ Rep K H x.2 p.2
section
variable {κ : Type} [DecidableEq κ] {R : SD → κ → Prop} (kr : KeyRel κ K H R)
include kr
theorem kv_get {kvs : List (SD × SD)} {ps : List (κ × V)} (r : Paired (PR K H R) kvs ps) {d : SD} {k : κ} (hk : R d k) :
    (M.kvGet kvs d = none ∧ valV ps k = none) ∨ ∃ e v, M.kvGet kvs d = some e ∧ valV ps k = some v ∧ Rep K H e v := by
  induction r with
  | nil => exact .inl ⟨rfl, rfl⟩
  | @cons x p xs ps hx t ih =>
    by_cases e : x.1 = d
    · have e2 : p.1 = k := kr.fn _ _ _ (e ▸ hx.1) hk
      exact .inr ⟨x.2, p.2, by simp [M.kvGet, List.find?_cons, e], valV_pos e2, hx.2⟩
    · have e2 : ¬ p.1 = k := fun z => e (kr.inj _ _ _ (z ▸ hx.1) hk)
      have e3 : M.kvGet (x :: xs) d = M.kvGet xs d := by simp [M.kvGet, List.find?_cons, e]
      rw [e3, valV_neg e2]
      exact ih
theorem kv_any {kvs : List (SD × SD)} {ps : List (κ × V)} (r : Paired (PR K H R) kvs ps) {d : SD} {k : κ} (hk : R d k) :
    (kvs.any fun kv => decide (kv.1 = d)) = ps.any fun kv => decide (kv.1 = k) := by
  induction r with
  | nil => rfl
  | @cons x p xs ps hx t ih =>
    rw [List.any_cons, List.any_cons, ih]
    congr 1
    by_cases e : x.1 = d
    · have e2 : p.1 = k := kr.fn _ _ _ (e ▸ hx.1) hk
      rw [decide_eq_true e, decide_eq_true e2]
    · have e2 : ¬ p.1 = k := fun z => e (kr.inj _ _ _ (z ▸ hx.1) hk)
      rw [decide_eq_false e, decide_eq_false e2]
theorem kv_repl {kvs : List (SD × SD)} {ps : List (κ × V)} (r : Paired (PR K H R) kvs ps) {d e : SD} {k : κ} {v : V} (hk : R d k) (re : Rep K H e v) :
    Paired (PR K H R) (kvs.map fun kv => if kv.1 = d then (kv.1, e) else kv) (ps.map fun kv => if kv.1 = k then (kv.1, v) else kv) := by
  induction r with
  | nil => exact .nil
  | @cons x p xs ps hx t ih =>
    rw [List.map_cons, List.map_cons]
    refine .cons ?_ ih
    by_cases e : x.1 = d
    · have e2 : p.1 = k := kr.fn _ _ _ (e ▸ hx.1) hk
      rw [if_pos e, if_pos e2]
      exact ⟨hx.1, re⟩
    · have e2 : ¬ p.1 = k := fun z => e (kr.inj _ _ _ (z ▸ hx.1) hk)
      rw [if_neg e, if_neg e2]
      exact hx
theorem kv_put {kvs : List (SD × SD)} {ps : List (κ × V)} (r : Paired (PR K H R) kvs ps) {d e : SD} {k : κ} {v : V} (hk : R d k) (re : Rep K H e v) : Paired (PR K H R) (M.kvPut kvs d e) (putK ps k v) := by
  unfold M.kvPut putK
  rw [kv_any kr r hk]
  by_cases z : (ps.any fun kv => decide (kv.1 = k)) = true
  · rw [if_pos z, if_pos z]; exact kv_repl kr r hk re
  · rw [if_neg z, if_neg z]; exact Paired.snoc r ⟨hk, re⟩
end
def R0 : SD → Key → Prop := fun d k => keyV d = some k ∧ ∀ s, d = .str s → sOk s
theorem kr0 : KeyRel Key K H R0 := ⟨fun a b k h1 h2 => keyV_inj h1.1 h2.1, fun a k k' h1 h2 => Option.some.inj (h1.1.symm.trans h2.1)⟩
theorem dct0 {p : Addr} {kvs : List (SD × SD)} : ObRep K H p (.dct 0 kvs) ↔ ∃ ps : List (Key × V), H p = some (.dK ps) ∧ Paired (PR K H R0) kvs ps :=
  ⟨fun ⟨ps, e, r⟩ => ⟨ps, e, Paired.mapP r fun _ _ z => ⟨⟨z.1, z.2.1⟩, z.2.2⟩⟩, fun ⟨ps, e, r⟩ => ⟨ps, e, Paired.mapP r fun _ _ z => ⟨z.1.1, z.1.2, z.2⟩⟩⟩
/-- what a dict says of a key -/
theorem dget_ok {p : Addr} {kd : Nat} {kvs : List (SD × SD)} {d : SD} {v : V} (o : ObRep K H p (.dct kd kvs)) (kk : M.keyOk kd d = true) (r : Rep K H d v) :
    ∃ ov, DGet H p v ov ∧ ((M.kvGet kvs d = none ∧ ov = none) ∨ ∃ e w, M.kvGet kvs d = some e ∧ ov = some w ∧ Rep K H e w) := by
  match kd, o, kk with
  | 0, o, kk =>
    obtain ⟨ps, e, pr⟩ := dct0.mp o
    obtain ⟨k, ek⟩ := keyOk0 kk
    have ev := keyV_rep ek r
    subst ev
    refine ⟨valV ps k, DGet.k e, ?_⟩
    exact (kv_get kr0 pr ⟨ek, rep_str r⟩).imp (fun z => z) (fun ⟨e, v, a, b, c⟩ => ⟨e, v, a, b, c⟩)
theorem dput_ok {p : Addr} {kd : Nat} {kvs : List (SD × SD)} {d e : SD} {v w : V} (o : ObRep K H p (.dct kd kvs)) (kk : M.keyOk kd d = true) (r : Rep K H d v) (re : Rep K H e w) (hz : kvs.length < M.LINE) (hp : h p = some (.dct kd kvs)) (rh : RH K H h) :
    ∃ H', DPut H p v w H' ∧ Frm H h H' (M.up h p (.dct kd (M.kvPut kvs d e))) ∧ RH K H' (M.up h p (.dct kd (M.kvPut kvs d e))) := by
  match kd, o, kk, hp with
  | 0, o, kk, hp =>
    obtain ⟨ps, e1, pr⟩ := dct0.mp o
    obtain ⟨k, ek⟩ := keyOk0 kk
    have ev := keyV_rep ek r
    subst ev
    have hl := line_eq
    have hn := Paired.length pr
    refine ⟨_, DPut.k e1 (by omega), frm_put hp, rh_put rh hp ?_⟩
    refine dct0.mpr ⟨_, upd_same, ?_⟩
    have kp : Kp H (upd H p (.dK (putK ps k w))) := kp_put rh hp
    exact Paired.mapP (kv_put kr0 pr ⟨ek, rep_str r⟩ re) fun _ _ z => ⟨z.1, z.2.kp kp⟩

/-! ### comparisons -/
def cop : M.Cop → CmpOp
  | .eq => .Eq | .ne => .NotEq | .lt => .Lt | .le => .LtE | .gt => .Gt | .ge => .GtE | .isin => .In | .notin => .NotIn | .is_ => .Is | .isnt => .IsNot
def rLtS : R2 := fun x y H Q => ∃ i j, x = .str i ∧ y = .str j ∧ Q (.bl (decide (i.cps.toList < j.cps.toList))) H
def rCmp (K : Fr) : M.Cop → R2
  | .eq => fun x y H Q => (scal x y = true ∧ Q (.bl (decide (x = y))) H) ∨ rEqP K x y H Q
  | .ne => fun x y H Q => (scal x y = true ∧ Q (.bl (!decide (x = y))) H) ∨ rNeP K x y H Q
  | .lt => fun x y H Q => (rI0 fun i j => .bl (decide (i < j))) x y H Q ∨ rLtS x y H Q
  | .le => rI0 fun i j => .bl (decide (i ≤ j))
  | .gt => rI0 fun i j => .bl (decide (j < i))
  | .ge => rI0 fun i j => .bl (decide (j ≤ i))
  | .isin => fun x y H Q => rDin false x y H Q ∨ rLin K false x y H Q ∨ rIn K false x y H Q
  | .notin => fun x y H Q => rDin true x y H Q ∨ rLin K true x y H Q ∨ rIn K true x y H Q
  | .is_ => fun x y H Q => y = .non ∧ Q (.bl (decide (x = .non))) H
  | .isnt => fun x y H Q => y = .non ∧ Q (.bl (!decide (x = .non))) H
theorem op_cmp {X : Cx} (hu : X.A.units + 200 < cLine) (o : M.Cop) : OpR X (compareOp (cop o)) (rCmp X.K o) := by
  cases o
  · exact op_eq.or (op_eqP hu)
  · exact op_ne.or (op_neP hu)
  · exact op_lt.or op_lt_str
  · exact op_le
  · exact op_gt
  · exact op_ge
  · exact (op_din (by omega)).or ((op_lin hu).or op_in_seq)
  · exact (op_dnotin (by omega)).or ((op_lnotin hu).or op_notIn_seq)
  · exact op_isN
  · exact op_notN
theorem rep_non {d : SD} {v : V} (r : Rep K H d v) : decide (v = .non) = decide (d = .non) := by
  cases d with
  | non => cases (show v = _ from r); simp
  | bl _ => cases (show v = _ from r); simp
  | int _ => cases (show v = _ from r); simp
  | str _ => cases (show v = _ from r.1); simp
  | ref _ => cases (show v = _ from r); simp
  | tup _ => obtain ⟨a, vs, e, _⟩ := r; subst e; simp
  | rol _ => obtain ⟨a, vs, e, _⟩ := r; subst e; simp
theorem flat_eq {a b : SD} {x y : V} (fa : M.flat a = true) (fb : M.flat b = true) (ra : Rep K H a x) (rb : Rep K H b y) : flatV x = true ∧ eqV x y = decide (a = b) := by
  cases a <;> simp [M.flat] at fa
  · cases (show x = _ from ra)
    cases b <;> simp [M.flat] at fb
    · cases (show y = _ from rb); simp [flatV, eqV]
    · cases (show y = _ from rb); simp [flatV, eqV]
    · cases (show y = _ from rb.1); simp [flatV, eqV]
  · cases (show x = _ from ra)
    cases b <;> simp [M.flat] at fb
    · cases (show y = _ from rb); simp [flatV, eqV]
    · cases (show y = _ from rb); simp [flatV, eqV, Bool.beq_eq_decide_eq]
    · cases (show y = _ from rb.1); simp [flatV, eqV]
  · cases (show x = _ from ra.1)
    cases b <;> simp [M.flat] at fb
    · cases (show y = _ from rb); simp [flatV, eqV]
    · cases (show y = _ from rb); simp [flatV, eqV]
    · cases (show y = _ from rb.1)
      simp only [flatV, eqV, Bool.beq_eq_decide_eq, decide_eq_decide, true_and, M.D.str.injEq]
      exact ⟨sV_inj, fun e => by rw [e]⟩
theorem flat_any {x : SD} {v : V} (fx : M.flat x = true) (rx : Rep K H x v) : ∀ {xs : List SD} {vs : List V}, xs.all M.flat = true → Reps K H xs vs → vs.all flatV = true ∧ inV v vs = xs.any fun y => decide (y = x)
  | [], vs, _, r => by cases (show vs = _ from r); exact ⟨rfl, rfl⟩
  | y :: ys, vs, fa, ⟨w, r, e, a, b⟩ => by
    subst e
    rw [List.all_cons] at fa
    obtain ⟨f1, f2⟩ := ba fa
    obtain ⟨h1, h2⟩ := flat_any fx rx f2 b
    obtain ⟨h3, h4⟩ := flat_eq f1 fx a rx
    refine ⟨by rw [List.all_cons, h3, h1]; rfl, ?_⟩
    show (w :: r).any _ = _
    rw [List.any_cons, List.any_cons, h4]
    exact congrArg _ h2
theorem mem_ok {neg : Bool} {dx dy : SD} {x y : V} {P : Bool → Prop} (rh : RH K H h) (rx : Rep K H dx x) (ry : Rep K H dy y) (q : M.memOk dx dy h P) (k : ∀ b, P b → Q (.bl (if neg then !b else b)) H) :
    rDin neg x y H Q ∨ rLin K neg x y H Q ∨ rIn K neg x y H Q := by
  cases dy with
  | ref p =>
    cases (show y = _ from ry)
    simp only [M.memOk] at q
    cases e : h p with
    | none => rw [e] at q; exact q.elim
    | some o =>
      rw [e] at q
      cases o with
      | dct kd kvs =>
        obtain ⟨kk, q⟩ := q
        obtain ⟨ov, g, r⟩ := dget_ok (rh p _ e) kk rx
        refine .inl ⟨p, ov, rfl, g, k _ ?_⟩
        rcases r with ⟨e1, e2⟩ | ⟨_, _, e1, e2, _⟩
        · rw [e1] at q; rw [e2]; exact q
        · rw [e1] at q; rw [e2]; exact q
      | lst xs =>
        obtain ⟨p1, p2, dp, q⟩ := q
        obtain ⟨vs, a1, r1⟩ := rh p _ e
        refine .inr (.inl ⟨toPy dx, toPys xs, rep_dp p1 rx, .lst (SqL.of a1) (reps_dp p2 r1), rep_can p1 rx, reps_can p2 r1, ?_, ?_⟩)
        · rcases dp with dp | dp
          · exact .inl (Nat.le_succ_of_le (py_depth _ _ dp))
          · exact .inr (Nat.le_succ_of_le (pys_depth _ _ dp))
        · rw [any_py xs dx p2 p1]
          exact k _ q
      | _ => exact q.elim
  | tup xs =>
    obtain ⟨a, vs, e, t, rs⟩ := ry
    subst e
    obtain ⟨f1, f2, q⟩ := q
    obtain ⟨h1, h2⟩ := flat_any f1 rx f2 rs
    refine .inr (.inr ⟨a, vs, rfl, .inr (t.imp .inl id), ?_, h1, ?_⟩)
    · exact (flat_eq f1 f1 rx rx).1
    · rw [h2]
      exact k _ q
  | _ => exact False.elim q
theorem cmpInt_inv {f : Int → Int → Bool} {dx dy : SD} {P : Bool → Prop} (q : M.cmpInt f dx dy P) : ∃ a b, dx = .int a ∧ dy = .int b ∧ P (f a b) := by
  cases dx with
  | int a => cases dy with
    | int b => exact ⟨a, b, rfl, rfl, q⟩
    | _ => exact False.elim q
  | _ => exact False.elim q
theorem cmpLt_inv {dx dy : SD} {P : Bool → Prop} (q : M.cmpLt dx dy P) : (∃ a b, dx = .int a ∧ dy = .int b ∧ P (decide (a < b))) ∨ ∃ a b, dx = .str a ∧ dy = .str b ∧ P (decide (a < b)) := by
  cases dx with
  | int a => cases dy with
    | int b => exact .inl ⟨a, b, rfl, rfl, q⟩
    | _ => exact False.elim q
  | str a => cases dy with
    | str b => exact .inr ⟨a, b, rfl, rfl, q⟩
    | _ => exact False.elim q
  | _ => exact False.elim q
theorem isNon_inv {dx dy : SD} {P : Bool → Prop} (q : M.isNon dx dy P) : dy = .non ∧ P (decide (dx = .non)) := by
  cases dy with
  | non => exact ⟨rfl, q⟩
  | _ => exact False.elim q
theorem cmp_ok {o : M.Cop} {dx dy : SD} {x y : V} {P : Bool → Prop} (rh : RH K H h) (rx : Rep K H dx x) (ry : Rep K H dy y) (q : M.opCmp o dx dy h P) (k : ∀ b, P b → Q (.bl b) H) : rCmp K o x y H Q := by
  cases o with
  | eq =>
    simp only [M.opCmp] at q
    rcases eqk rh rx ry q with ⟨a, b, rfl, rfl, q⟩ | ⟨d, e, h1, h2, h3, h4, h5, q⟩
    · exact .inl ⟨rfl, k _ (by simpa using q)⟩
    · exact .inr ⟨d, e, h1, h2, h3, h4, h5, k _ q⟩
  | ne =>
    simp only [M.opCmp] at q
    rcases eqk rh rx ry q with ⟨a, b, rfl, rfl, q⟩ | ⟨d, e, h1, h2, h3, h4, h5, q⟩
    · exact .inl ⟨rfl, k _ (by simpa using q)⟩
    · exact .inr ⟨d, e, h1, h2, h3, h4, h5, k _ q⟩
  | lt =>
    simp only [M.opCmp] at q
    rcases cmpLt_inv q with ⟨a, b, rfl, rfl, q⟩ | ⟨a, b, rfl, rfl, q⟩
    · cases (show x = _ from rx); cases (show y = _ from ry)
      exact .inl ⟨a, b, rfl, rfl, k _ q⟩
    · cases (show x = _ from rx.1); cases (show y = _ from ry.1)
      exact .inr ⟨_, _, rfl, rfl, k _ (by rw [sV_cps, sV_cps]; exact q)⟩
  | le =>
    simp only [M.opCmp] at q
    obtain ⟨a, b, rfl, rfl, q⟩ := cmpInt_inv q
    cases (show x = _ from rx); cases (show y = _ from ry)
    exact ⟨a, b, rfl, rfl, k _ q⟩
  | gt =>
    simp only [M.opCmp] at q
    obtain ⟨a, b, rfl, rfl, q⟩ := cmpInt_inv q
    cases (show x = _ from rx); cases (show y = _ from ry)
    exact ⟨a, b, rfl, rfl, k _ q⟩
  | ge =>
    simp only [M.opCmp] at q
    obtain ⟨a, b, rfl, rfl, q⟩ := cmpInt_inv q
    cases (show x = _ from rx); cases (show y = _ from ry)
    exact ⟨a, b, rfl, rfl, k _ q⟩
  | isin =>
    simp only [M.opCmp] at q
    exact mem_ok (neg := false) rh rx ry q fun b hb => k b hb
  | notin =>
    simp only [M.opCmp] at q
    exact mem_ok (neg := true) rh rx ry q fun b hb => k _ hb
  | is_ =>
    simp only [M.opCmp] at q
    obtain ⟨rfl, q⟩ := isNon_inv q
    cases (show y = _ from ry)
    exact ⟨rfl, k _ (by rw [rep_non rx]; exact q)⟩
  | isnt =>
    simp only [M.opCmp] at q
    obtain ⟨rfl, q⟩ := isNon_inv q
    cases (show y = _ from ry)
    exact ⟨rfl, k _ (by rw [rep_non rx]; exact q)⟩
end
end Snd
end
section
/-! Sound4: items, slices, built-in functions, methods, stores. -/
namespace Snd
open PySem L2 PySem.Spec PyProof.Rows
section
variable {K : Fr} {H H1 H' : Hp} {h h1 h' : M.AH} {Qa : M.VQ} {Q : VK} {qb : Bool → Prop}
theorem atI_eq {α : Type} (xs : List α) (i : Int) : M.atI xs i = L2.atI xs i := by
  unfold M.atI L2.atI ixN
  by_cases h0 : 0 ≤ i
  · rw [if_pos h0, if_pos h0]
    by_cases h1 : i < xs.length
    · rw [if_pos h1]; rfl
    · rw [if_neg h1]
      exact List.getElem?_eq_none (by omega)
  · rw [if_neg h0, if_neg h0]
    by_cases h1 : -(xs.length : Int) ≤ i
    · rw [if_pos h1, if_pos h1]; rfl
    · rw [if_neg h1, if_neg h1]; rfl
theorem atI_rep {ds : List SD} {vs : List V} {i : Int} {d : SD} (r : Reps K H ds vs) (e : M.atI ds i = some d) : ∃ v, L2.atI vs i = some v ∧ Rep K H d v := by
  rw [atI_eq] at e
  have hl := r.length
  unfold L2.atI at e ⊢
  rw [hl]
  cases z : ixN ds.length i with
  | none => rw [z] at e; cases e
  | some j =>
    rw [z] at e
    obtain ⟨v, h1, h2⟩ := r.get (i := j) (d := d) e
    exact ⟨v, h1, h2⟩
def rIxD : R2 := fun x y H Q => ∃ a v, x = .ref a ∧ DGet H a y (some v) ∧ Q v H
theorem ix_dict {X : Cx} (hu : X.A.units + 1 < cLine) : IxR X rIxD := by
  intro value slice pins s σ H x y v u Q I rx ry h hs
  obtain ⟨a, w, rfl, g, q⟩ := h
  cases rx
  exact tail_any (dict_typeIs I g) PySem.F.slot_dict_getitem.lookup (d_getItem hu I g ry fun w' s3 I3 rw' => ⟨w, H, I3, rw', q⟩) hs
def rIx4 (K : Fr) : R2 := fun x y H Q => rIx K x y H Q ∨ rIxD x y H Q
theorem ix_all {X : Cx} (hu : X.A.units + 1 < cLine) : IxR X (rIx4 X.K) := ix_seq.or (ix_dict hu)
theorem ixAt_inv {ds : List SD} {dy : SD} (q : M.ixAt ds dy h Qa) : ∃ i d, dy = .int i ∧ M.atI ds i = some d ∧ Qa d h := by
  cases dy with
  | int i =>
    simp only [M.ixAt] at q
    cases e : M.atI ds i with
    | none => rw [e] at q; exact q.elim
    | some d => rw [e] at q; exact ⟨i, d, rfl, e, q⟩
  | _ => exact False.elim q
theorem rol_sql {a : Addr} {vs : List V} (t : (∃ o, H a = some (.frz o (.lst vs))) ∨ KLst K a vs) : SqL K H a vs := t.imp (fun ⟨o, e⟩ => .inr ⟨o, e⟩) id
theorem ix_ok {dx dy : SD} {x y : V} (rh : RH K H h) (rx : Rep K H dx x) (ry : Rep K H dy y) (q : M.opIx dx dy h Qa) (k : Kont K H h Qa Q) : rIx4 K x y H Q := by
  have hl := line_eq
  cases dx with
  | tup ds =>
    obtain ⟨a, vs, e, t, rs⟩ := rx
    subst e
    obtain ⟨i, d, rfl, e, q⟩ := ixAt_inv (show M.ixAt ds dy h Qa from q)
    cases (show y = _ from ry)
    obtain ⟨v, e2, r⟩ := atI_rep rs e
    exact .inl (.inr (.inl ⟨a, vs, i, v, rfl, rfl, t.imp .inl id, e2, k.now rh q r⟩))
  | rol ds =>
    obtain ⟨a, vs, e, t, rs⟩ := rx
    subst e
    obtain ⟨i, d, rfl, e, q⟩ := ixAt_inv (show M.ixAt ds dy h Qa from q)
    cases (show y = _ from ry)
    obtain ⟨v, e2, r⟩ := atI_rep rs e
    exact .inl (.inl ⟨a, vs, i, v, rfl, rfl, rol_sql t, e2, k.now rh q r⟩)
  | str s =>
    cases dy with
    | int i =>
      obtain ⟨rx, ok⟩ := rx
      subst rx
      cases (show y = _ from ry)
      obtain ⟨hz, q⟩ := (show s.length ≤ M.LINE ∧ _ from q)
      cases e : M.atI s i with
      | none => rw [e] at q; exact q.elim
      | some c =>
        rw [e] at q
        refine .inl (.inr (.inr ⟨sV s, i, c, rfl, rfl, by rw [sV_len, hl]; exact hz, ?_, k.now rh q ⟨rfl, ?_⟩⟩))
        · rw [sV_cps, ← atI_eq]; exact e
        · intro z hz2
          have : z = c := by simpa using hz2
          subst this
          rw [atI_eq] at e
          obtain ⟨j, _, hj, _⟩ := atI_get e
          exact ok _ (List.mem_of_getElem? hj)
    | _ => exact False.elim q
  | ref p =>
    cases (show x = _ from rx)
    simp only [M.opIx] at q
    cases e : h p with
    | none => rw [e] at q; exact q.elim
    | some o =>
      rw [e] at q
      cases o with
      | lst xs =>
        obtain ⟨vs, a1, r1⟩ := rh p _ e
        obtain ⟨i, d, rfl, e3, q⟩ := ixAt_inv (show M.ixAt xs dy h Qa from q)
        cases (show y = _ from ry)
        obtain ⟨v, e2, r⟩ := atI_rep r1 e3
        exact .inl (.inl ⟨p, vs, i, v, rfl, rfl, SqL.of a1, e2, k.now rh q r⟩)
      | dct kd kvs =>
        obtain ⟨kk, q⟩ := q
        obtain ⟨ov, g, r⟩ := dget_ok (rh p _ e) kk ry
        rcases r with ⟨e1, e2⟩ | ⟨d, w, e1, e2, r⟩
        · rw [e1] at q; exact q.elim
        · rw [e1] at q; subst e2
          exact .inr ⟨p, w, rfl, g, k.now rh q r⟩
      | _ => exact q.elim
  | _ => exact False.elim q

/-! ### slices -/
theorem clip_lo (n d : Nat) (o : Option Int) : M.clip n d o = if o = none then d else HT.sIx n d o := by
  cases o with
  | none => rfl
  | some i =>
    rw [if_neg (by simp)]
    have e := HT.clip_eq i n d
    show (if i < 0 then (i + n).toNat else min i.toNat n) = _
    split
    · rename_i hi
      rw [if_pos hi] at e
      omega
    · rename_i hi
      rw [if_neg hi] at e
      omega
theorem cut_eq {α : Type} (xs : List α) (lo hi : Option Int) : M.cut xs lo hi = (xs.drop (HT.sIx xs.length 0 lo)).take (HT.sIx xs.length xs.length hi - HT.sIx xs.length 0 lo) := by
  have h1 : M.clip xs.length 0 lo = HT.sIx xs.length 0 lo := by
    rw [clip_lo]; split
    · rename_i e; rw [e, HT.sIx_none]
    · rfl
  have h2 : M.clip xs.length xs.length hi = HT.sIx xs.length xs.length hi := by
    rw [clip_lo]; split
    · rename_i e; rw [e, HT.sIx_none]
    · rfl
  unfold M.cut
  rw [h1, h2]
theorem cut_rep {ds : List SD} {vs : List V} {lo hi : Option Int} (r : Reps K H ds vs) : Reps K H (M.cut ds lo hi) (cutV vs lo hi) := by
  rw [cut_eq, ← r.length]
  exact (r.drop _).take _
def rSlTW (K : Fr) : V → Option Int → Option Int → Hp → VK → Prop := fun x lo hi H Q => ∃ a xs, x = .ref a ∧ SqT K H a xs ∧ (HT.sIx xs.length 0 lo = 0 ∧ HT.sIx xs.length xs.length hi = xs.length) ∧ Q (.ref a) H
def rSl (K : Fr) : V → Option Int → Option Int → Hp → VK → Prop := fun x lo hi H Q => rSlT K x lo hi H Q ∨ rSlL K x lo hi H Q ∨ rSlS x lo hi H Q
theorem sl_all {X : Cx} : SlR X (rSl X.K) := sl_tup.or (sl_list.or sl_str)
def slPart (ds : List SD) (lo hi : Option Int) : Prop := ¬ (M.clip ds.length 0 lo = 0 ∧ M.clip ds.length ds.length hi = ds.length)
theorem sl_ok {dx : SD} {x : V} {lo hi : Option Int} (rh : RH K H h) (rx : Rep K H dx x) (q : M.opSl dx lo hi h Qa) (k : Kont K H h Qa Q) : rSl K x lo hi H Q := by
  have hl := line_eq
  cases dx with
  | tup ds =>
    obtain ⟨a, vs, e, t, rs⟩ := rx
    subst e
    obtain ⟨np, q⟩ := q
    have ln := rs.length
    have h1 : M.clip ds.length 0 lo = HT.sIx ds.length 0 lo := by
      rw [clip_lo]; split
      · rename_i e; rw [e, HT.sIx_none]
      · rfl
    have h2 : M.clip ds.length ds.length hi = HT.sIx ds.length ds.length hi := by
      rw [clip_lo]; split
      · rename_i e; rw [e, HT.sIx_none]
      · rfl
    refine .inl ⟨a, vs, rfl, t.imp .inl id, by rw [ln, ← h1, ← h2]; exact np, fun p hn => ?_⟩
    exact k _ _ _ _ q (frm_hid hn) ⟨p, _, rfl, .inl upd_same, (cut_rep rs).kp (kp_new hn)⟩ (rh_hid rh hn)
  | rol ds =>
    obtain ⟨a, vs, e, t, rs⟩ := rx
    subst e
    refine .inr (.inl ⟨a, vs, rfl, rol_sql t, fun p hn => ?_⟩)
    exact k _ _ _ _ (q p (rh.none hn)) (frm_new hn) rfl (rh_new rh hn ⟨_, upd_same, (cut_rep rs).kp (kp_new hn)⟩)
  | str s =>
    obtain ⟨rx, ok⟩ := rx
    subst rx
    obtain ⟨hz, q⟩ := q
    refine .inr (.inr ⟨sV s, rfl, by rw [sV_len, hl]; exact hz, ?_⟩)
    have e : cutS (sV s) lo hi = sV (M.cut s lo hi) := by
      unfold cutS
      rw [sV_len, sV_cps, cut_eq]
      rfl
    rw [e]
    refine k.now rh q ⟨rfl, fun c hc => ok c ?_⟩
    unfold M.cut at hc
    exact List.mem_of_mem_drop (List.mem_of_mem_take hc)
  | ref p =>
    cases (show x = _ from rx)
    simp only [M.opSl] at q
    cases e : h p with
    | none => rw [e] at q; exact q.elim
    | some o =>
      rw [e] at q
      cases o with
      | lst xs =>
        obtain ⟨vs, a1, r1⟩ := rh p _ e
        refine .inr (.inl ⟨p, vs, rfl, SqL.of a1, fun l hn => ?_⟩)
        exact k _ _ _ _ (q l (rh.none hn)) (frm_new hn) rfl (rh_new rh hn ⟨_, upd_same, (cut_rep r1).kp (kp_new hn)⟩)
      | _ => exact q.elim
  | _ => exact False.elim q

/-! ### built-in functions -/
theorem arg1_inv {ds : List SD} {f : SD → Prop} (q : M.arg1 ds f) : ∃ d, ds = [d] ∧ f d := by
  match ds, q with
  | [d], q => exact ⟨d, rfl, q⟩
theorem arg2_inv {ds : List SD} {f : SD → SD → Prop} (q : M.arg2 ds f) : ∃ d e, ds = [d, e] ∧ f d e := by
  match ds, q with
  | [d, e], q => exact ⟨d, e, rfl, q⟩
theorem anInt_inv {d : SD} {f : Int → Prop} (q : M.anInt d f) : ∃ i, d = .int i ∧ f i := by
  cases d with
  | int i => exact ⟨i, rfl, q⟩
  | _ => exact False.elim q
theorem aSome_inv {α : Type} {o : Option α} {f : α → Prop} (q : M.aSome o f) : ∃ a, o = some a ∧ f a := by
  cases o with
  | some a => exact ⟨a, rfl, q⟩
  | none => exact False.elim q
theorem aLst_inv {d : SD} {f : Nat → List SD → Prop} (q : M.aLst d h f) : ∃ p xs, d = .ref p ∧ h p = some (.lst xs) ∧ f p xs := by
  cases d with
  | ref p =>
    simp only [M.aLst] at q
    cases e : h p with
    | none => rw [e] at q; exact q.elim
    | some o => rw [e] at q; cases o with
      | lst xs => exact ⟨p, xs, rfl, e, q⟩
      | _ => exact q.elim
  | _ => exact False.elim q
theorem aDct_inv {d : SD} {f : Nat → Nat → List (SD × SD) → Prop} (q : M.aDct d h f) : ∃ p k kvs, d = .ref p ∧ h p = some (.dct k kvs) ∧ f p k kvs := by
  cases d with
  | ref p =>
    simp only [M.aDct] at q
    cases e : h p with
    | none => rw [e] at q; exact q.elim
    | some o => rw [e] at q; cases o with
      | dct k xs => exact ⟨p, k, xs, rfl, e, q⟩
      | _ => exact q.elim
  | _ => exact False.elim q
theorem toInt_inv {d : SD} {f : Int → Prop} (q : M.toInt d f) : (∃ i, d = .int i ∧ f i) ∨ ∃ b, d = .bl b ∧ f (if b then 1 else 0) := by
  cases d with
  | int i => exact .inl ⟨i, rfl, q⟩
  | bl b => exact .inr ⟨b, rfl, q⟩
  | _ => exact False.elim q
theorem seq_rep {d : SD} {v : V} {xs : List SD} (rh : RH K H h) (r : Rep K H d v) (e : M.seqOf d h = some xs) : ∃ p vs, v = .ref p ∧ ((SqL K H p vs ∧ ∀ zs, d ≠ .tup zs) ∨ (SqT K H p vs ∧ d = .tup xs)) ∧ Reps K H xs vs := by
  cases d with
  | tup ds =>
    simp only [M.seqOf, Option.some.injEq] at e
    subst e
    obtain ⟨a, vs, e, t, rs⟩ := r
    exact ⟨a, vs, e, .inr ⟨t.imp .inl id, rfl⟩, rs⟩
  | rol ds =>
    simp only [M.seqOf, Option.some.injEq] at e
    subst e
    obtain ⟨a, vs, e, t, rs⟩ := r
    exact ⟨a, vs, e, .inl ⟨rol_sql t, fun _ z => by cases z⟩, rs⟩
  | ref p =>
    simp only [M.seqOf] at e
    cases e1 : h p with
    | none => rw [e1] at e; cases e
    | some o => rw [e1] at e; cases o with
      | lst ys =>
        simp only [Option.some.injEq] at e
        subst e
        obtain ⟨vs, a1, r1⟩ := rh p _ e1
        exact ⟨p, vs, r, .inl ⟨SqL.of a1, fun _ z => by cases z⟩, r1⟩
      | _ => cases e
  | _ => simp [M.seqOf] at e
theorem ints_rep : ∀ {xs : List SD} {vs : List V} {ns : List Int}, M.intsOf xs = some ns → Reps K H xs vs → vs = ns.map V.int
  | [], vs, ns, e, r => by simp only [M.intsOf, Option.some.injEq] at e; subst e; exact r
  | d :: ds, vs, ns, e, ⟨v, w, ev, a, b⟩ => by
    subst ev
    cases d with
    | int i =>
      simp only [M.intsOf] at e
      cases z : M.intsOf ds with
      | none => rw [z] at e; cases e
      | some ms =>
        rw [z] at e
        simp only [Option.map_some, Option.some.injEq] at e
        subst e
        rw [ints_rep z b, show v = V.int i from a]
        rfl
    | _ => simp [M.intsOf] at e
theorem bls_rep : ∀ {xs : List SD} {vs : List V} {ns : List Bool}, M.bls xs = some ns → Reps K H xs vs → vs = ns.map V.bl
  | [], vs, ns, e, r => by simp only [M.bls, Option.some.injEq] at e; subst e; exact r
  | d :: ds, vs, ns, e, ⟨v, w, ev, a, b⟩ => by
    subst ev
    cases d with
    | bl i =>
      simp only [M.bls] at e
      cases z : M.bls ds with
      | none => rw [z] at e; cases e
      | some ms =>
        rw [z] at e
        simp only [Option.map_some, Option.some.injEq] at e
        subst e
        rw [bls_rep z b, show v = V.bl i from a]
        rfl
    | _ => simp [M.bls] at e
theorem reps1 {d : SD} {vs : List V} (r : Reps K H [d] vs) : ∃ v, vs = [v] ∧ Rep K H d v := by
  obtain ⟨v, w, e, a, b⟩ := r
  cases (show w = _ from b)
  exact ⟨v, e, a⟩
theorem reps2 {d e : SD} {vs : List V} (r : Reps K H [d, e] vs) : ∃ v w, vs = [v, w] ∧ Rep K H d v ∧ Rep K H e w := by
  obtain ⟨v, w, ev, a, b⟩ := r
  obtain ⟨u, e2, c⟩ := reps1 b
  subst e2
  exact ⟨v, u, ev, a, c⟩

theorem lenOk_inv {d : SD} {f : Nat → Prop} (q : M.lenOk d h f) : (∃ s, d = .str s ∧ s.length ≤ M.LINE ∧ f s.length) ∨ ∃ xs, M.seqOf d h = some xs ∧ f xs.length := by
  cases d with
  | str s => exact .inl ⟨s, rfl, q.1, q.2⟩
  | non => exact .inr (aSome_inv (o := M.seqOf .non h) (f := fun xs => f xs.length) q)
  | bl b => exact .inr (aSome_inv (o := M.seqOf (.bl b) h) (f := fun xs => f xs.length) q)
  | int b => exact .inr (aSome_inv (o := M.seqOf (.int b) h) (f := fun xs => f xs.length) q)
  | tup b => exact .inr (aSome_inv (o := M.seqOf (.tup b) h) (f := fun xs => f xs.length) q)
  | rol b => exact .inr (aSome_inv (o := M.seqOf (.rol b) h) (f := fun xs => f xs.length) q)
  | ref b => exact .inr (aSome_inv (o := M.seqOf (.ref b) h) (f := fun xs => f xs.length) q)
inductive BK where | b (id : String) | t (T : String)
def bltK : M.Blt → Option BK
  | .len => some (.b "len") | .min2 => some (.b "min") | .max2 => some (.b "max") | .int1 => some (.t "int") | .abs => some (.b "abs") | .sum => some (.b "sum") | .all => some (.b "all") | .any => some (.b "any")
  | .list => some (.t "list") | .tuple => some (.t "tuple") | _ => none
def BK.val : BK → Value
  | .b id => .builtin id
  | .t T => .type T
def BK.name : BK → Str
  | .b id => Str.ofString id
  | .t T => Str.ofString T
def rBlt (K : Fr) : M.Blt → List V → Hp → VK → Prop
  | .len => fun xs H Q => ∃ x n, xs = [x] ∧ LenV K x H n ∧ Q (.int n) H
  | .min2 => fun xs H Q => ∃ i j, xs = [.int i, .int j] ∧ Q (.int (if j < i then j else i)) H
  | .max2 => fun xs H Q => ∃ i j, xs = [.int i, .int j] ∧ Q (.int (if j > i then j else i)) H
  | .int1 => fun xs H Q => (∃ i, xs = [.int i] ∧ Q (.int i) H) ∨ ∃ k, xs = [.bl k] ∧ Q (.int (if k then 1 else 0)) H
  | .abs => fun xs H Q => ∃ i, xs = [.int i] ∧ Q (.int (if i < 0 then -i else i)) H
  | .sum => rSum K
  | .all => rAll K
  | .any => rAny K
  | .list => fun xs H Q => ∃ p ys, xs = [.ref p] ∧ (SqL K H p ys ∨ SqT K H p ys) ∧ ∀ l, H l = none → Q (.ref l) (upd H l (.lst ys))
  | .tuple => fun xs H Q => ∃ p ys, xs = [.ref p] ∧ ((SqL K H p ys ∧ ∀ l, H l = none → Q (.ref l) (upd H l (.tup ys))) ∨ (SqT K H p ys ∧ Q (.ref p) H))
  | _ => fun _ _ _ => False
theorem call_blt {X : Cx} (hc : X.calm = true) (b : M.Blt) {bk : BK} (e : bltK b = some bk) : CallR X bk.val (rBlt X.K b) := by
  cases b <;> simp only [bltK, Option.some.injEq, reduceCtorEq] at e <;> subst e
  · exact call_len
  · exact call_min2 hc
  · exact call_max2 hc
  · exact call_int1
  · exact call_abs
  · exact cr_sum hc
  · exact cr_all hc
  · exact cr_any hc
  · exact call_list_of
  · exact call_tuple_of
theorem blt_ok {b : M.Blt} {ds : List SD} {vs : List V} (rh : RH K H h) (r : Reps K H ds vs) (q : M.opBlt b ds h Qa) (k : Kont K H h Qa Q) : rBlt K b vs H Q := by
  have hl := line_eq
  cases b <;> simp only [M.opBlt] at q
  case len =>
    obtain ⟨d, rfl, q1⟩ := arg1_inv q
    obtain ⟨v, rfl, rv⟩ := reps1 r
    rcases lenOk_inv q1 with ⟨s, rfl, hz, q⟩ | ⟨xs, e, q⟩
    · refine ⟨v, s.length, rfl, ?_, k.now rh q rfl⟩
      cases (show v = _ from rv.1)
      exact ⟨by rw [sV_len, hl]; exact hz, (sV_len s).symm⟩
    · obtain ⟨p, ws, ev, t, rs⟩ := seq_rep rh rv e
      subst ev
      refine ⟨_, xs.length, rfl, ?_, k.now rh q rfl⟩
      rcases t with ⟨t, _⟩ | ⟨t, _⟩
      · exact .inl ⟨ws, t, rs.length.symm⟩
      · exact .inr ⟨ws, t, rs.length.symm⟩
  case min2 =>
    obtain ⟨d, e, rfl, q⟩ := arg2_inv q
    obtain ⟨v, w, rfl, rv, rw'⟩ := reps2 r
    obtain ⟨i, rfl, q⟩ := anInt_inv q
    obtain ⟨j, rfl, q⟩ := anInt_inv q
    cases (show v = _ from rv); cases (show w = _ from rw')
    exact ⟨i, j, rfl, k.now rh q rfl⟩
  case max2 =>
    obtain ⟨d, e, rfl, q⟩ := arg2_inv q
    obtain ⟨v, w, rfl, rv, rw'⟩ := reps2 r
    obtain ⟨i, rfl, q⟩ := anInt_inv q
    obtain ⟨j, rfl, q⟩ := anInt_inv q
    cases (show v = _ from rv); cases (show w = _ from rw')
    exact ⟨i, j, rfl, k.now rh q rfl⟩
  case int1 =>
    obtain ⟨d, rfl, q⟩ := arg1_inv q
    obtain ⟨v, rfl, rv⟩ := reps1 r
    rcases toInt_inv q with ⟨i, rfl, q⟩ | ⟨i, rfl, q⟩
    · cases (show v = _ from rv)
      exact .inl ⟨i, rfl, k.now rh q rfl⟩
    · cases (show v = _ from rv)
      exact .inr ⟨i, rfl, k.now rh q rfl⟩
  case abs =>
    obtain ⟨d, rfl, q⟩ := arg1_inv q
    obtain ⟨v, rfl, rv⟩ := reps1 r
    obtain ⟨i, rfl, q⟩ := anInt_inv q
    cases (show v = _ from rv)
    exact ⟨i, rfl, k.now rh q rfl⟩
  case sum =>
    obtain ⟨d, rfl, q⟩ := arg1_inv q
    obtain ⟨v, rfl, rv⟩ := reps1 r
    obtain ⟨p, xs, rfl, e, q⟩ := aLst_inv q
    obtain ⟨ns, e2, q⟩ := aSome_inv q
    cases (show v = _ from rv)
    obtain ⟨vs, a1, r1⟩ := rh p _ e
    have := ints_rep e2 r1
    subst this
    exact ⟨p, ns, rfl, SqL.of a1, k.now rh q rfl⟩
  case all =>
    obtain ⟨d, rfl, q⟩ := arg1_inv q
    obtain ⟨v, rfl, rv⟩ := reps1 r
    obtain ⟨p, xs, rfl, e, q⟩ := aLst_inv q
    obtain ⟨ns, e2, q⟩ := aSome_inv q
    cases (show v = _ from rv)
    obtain ⟨vs, a1, r1⟩ := rh p _ e
    have := bls_rep e2 r1
    subst this
    exact ⟨p, ns, rfl, SqL.of a1, k.now rh q rfl⟩
  case any =>
    obtain ⟨d, rfl, q⟩ := arg1_inv q
    obtain ⟨v, rfl, rv⟩ := reps1 r
    obtain ⟨p, xs, rfl, e, q⟩ := aLst_inv q
    obtain ⟨ns, e2, q⟩ := aSome_inv q
    cases (show v = _ from rv)
    obtain ⟨vs, a1, r1⟩ := rh p _ e
    have := bls_rep e2 r1
    subst this
    exact ⟨p, ns, rfl, SqL.of a1, k.now rh q rfl⟩
  case list =>
    obtain ⟨d, rfl, q⟩ := arg1_inv q
    obtain ⟨v, rfl, rv⟩ := reps1 r
    obtain ⟨xs, e, q⟩ := aSome_inv q
    obtain ⟨p, ws, ev, t, rs⟩ := seq_rep rh rv e
    subst ev
    refine ⟨p, ws, rfl, t.imp (·.1) (·.1), fun l hn => ?_⟩
    exact k _ _ _ _ (q l (rh.none hn)) (frm_new hn) rfl (rh_new rh hn ⟨_, upd_same, rs.kp (kp_new hn)⟩)
  case tuple =>
    obtain ⟨d, rfl, q⟩ := arg1_inv q
    obtain ⟨v, rfl, rv⟩ := reps1 r
    obtain ⟨xs, e, q⟩ := aSome_inv q
    obtain ⟨p, ws, ev, t, rs⟩ := seq_rep rh rv e
    subst ev
    refine ⟨p, ws, rfl, ?_⟩
    rcases t with ⟨t, _⟩ | ⟨t, e3⟩
    · refine .inl ⟨t, fun l hn => ?_⟩
      exact k _ _ _ _ q (frm_hid hn) ⟨l, ws, rfl, .inl upd_same, rs.kp (kp_new hn)⟩ (rh_hid rh hn)
    · subst e3
      exact .inr ⟨t, k.now rh q rv⟩

/-! ### isinstance -/
def tyS : M.Ty → String
  | .int => "int" | .bool => "bool" | .tuple => "tuple" | .str => "str" | .list => "list" | .dict => "dict"
theorem isi_ok {d : SD} {t : M.Ty} {v : V} {b : Bool} (rh : RH K H h) (r : Rep K H d v) (e : M.opIsi d t = some b) (q : Q (.bl b) H) : rIsi K [v, .ty (tyS t)] H Q := by
  have go : ∀ (T : String), TyX K H v (.type T) → kitB T (tyS t) = some b → rIsi K [v, .ty (tyS t)] H Q := fun T ty k => ⟨v, _, _, _, b, rfl, .ty _, ty, kit_ty k, q⟩
  cases d with
  | non =>
    cases (show v = _ from r)
    refine ⟨_, _, _, _, b, rfl, .ty _, .base .non, ?_, q⟩
    cases t <;> simp only [M.opIsi, Option.some.injEq] at e <;> subst e <;> rfl
  | bl y =>
    cases (show v = _ from r)
    refine go "bool" (.base (.bl y)) ?_
    cases t <;> simp only [M.opIsi, Option.some.injEq] at e <;> subst e <;> decide +kernel
  | int y =>
    cases (show v = _ from r)
    refine go "int" (.base (.int y)) ?_
    cases t <;> simp only [M.opIsi, Option.some.injEq] at e <;> subst e <;> decide +kernel
  | str y =>
    cases (show v = _ from r.1)
    refine go "str" (.base (.str _)) ?_
    cases t <;> simp only [M.opIsi, Option.some.injEq] at e <;> subst e <;> decide +kernel
  | tup y =>
    obtain ⟨a, vs, e1, tt, rs⟩ := r
    subst e1
    refine go "tuple" ?_ ?_
    · rcases tt with tt | ⟨o, its, n, e1, e2, _⟩
      · exact .base (.tup tt)
      · exact .kTuple e1 e2
    · cases t <;> simp only [M.opIsi, Option.some.injEq] at e <;> subst e <;> decide +kernel
  | _ => simp [M.opIsi] at e

/-! ### methods -/
def mthT : M.Mth → Option (String × String × Str)
  | .append => some ("list", "list.append", "append") | .pop => some ("list", "list.pop", "pop") | .popAt => some ("list", "list.pop", "pop") | .extend => some ("list", "list.extend", "extend")
  | .reverse => some ("list", "list.reverse", "reverse") | .clear => some ("list", "list.clear", "clear") | .get1 => some ("dict", "dict.get", "get") | .get2 => some ("dict", "dict.get", "get") | _ => none
def rGet1 : V → List V → Hp → VK → Prop := fun x vs H Q => ∃ a y o, x = .ref a ∧ vs = [y] ∧ DGet H a y o ∧ Q (o.getD .non) H
def rGet2 : V → List V → Hp → VK → Prop := fun x vs H Q => ∃ a y z o, x = .ref a ∧ vs = [y, z] ∧ DGet H a y o ∧ Q (o.getD z) H
theorem mt_get1 {X : Cx} (hu : X.A.units + 1 < cLine) : MtR X "dict.get" rGet1 := by
  intro pins s σ H x vs v us Q I rx rv h
  obtain ⟨a, y, o, rfl, rfl, g, q⟩ := h
  cases rx
  obtain ⟨u, rfl, ru⟩ := rv.one
  exact d_get1 hu I g ru fun w' s3 I3 rw' => ⟨_, H, I3, rw', q⟩
theorem mt_get2 {X : Cx} (hu : X.A.units + 1 < cLine) : MtR X "dict.get" rGet2 := by
  intro pins s σ H x vs v us Q I rx rv h
  obtain ⟨a, y, z, o, rfl, rfl, g, q⟩ := h
  cases rx
  obtain ⟨u, u2, rfl, ru, ru2⟩ := rv.two
  exact d_get2 hu I g ru ru2 fun w' s3 I3 rw' => ⟨_, H, I3, rw', q⟩
def rMth : M.Mth → V → List V → Hp → VK → Prop
  | .append => rAppend | .pop => rPop | .popAt => rPopAt | .extend => rExtend | .reverse => rReverse | .clear => rClear | .get1 => rGet1 | .get2 => rGet2 | _ => fun _ _ _ _ => False
structure MFact (m : M.Mth) (T id : String) (nm : Str) : Prop where
  pa : PlainAttrs T
  slot : Slot T nm id
  ty : typeOf (.builtin id) = pure (.type "method_descriptor")
theorem mth_fact {m : M.Mth} {T id : String} {nm : Str} (e : mthT m = some (T, id, nm)) : MFact m T id nm := by
  cases m <;> simp only [mthT, Option.some.injEq, Prod.mk.injEq, reduceCtorEq] at e <;> obtain ⟨rfl, rfl, rfl⟩ := e
  · exact ⟨PySem.F.plainAttrs_list, PySem.F.slot_list_append, PySem.F.type_list_append⟩
  · exact ⟨PySem.F.plainAttrs_list, PySem.F.slot_list_pop, PySem.F.type_list_pop⟩
  · exact ⟨PySem.F.plainAttrs_list, PySem.F.slot_list_pop, PySem.F.type_list_pop⟩
  · exact ⟨PySem.F.plainAttrs_list, PySem.F.slot_list_extend, PySem.F.type_list_extend⟩
  · exact ⟨PySem.F.plainAttrs_list, PySem.F.slot_list_reverse, PySem.F.type_list_reverse⟩
  · exact ⟨PySem.F.plainAttrs_list, PySem.F.slot_list_clear, PySem.F.type_list_clear⟩
  · exact ⟨PySem.F.plainAttrs_dict, PySem.F.slot_dict_get, PySem.F.type_dict_get⟩
  · exact ⟨PySem.F.plainAttrs_dict, PySem.F.slot_dict_get, PySem.F.type_dict_get⟩
theorem mth_rule {X : Cx} (hu : X.A.units + 1 < cLine) {m : M.Mth} {T id : String} {nm : Str} (e : mthT m = some (T, id, nm)) : MtR X id (rMth m) := by
  cases m <;> simp only [mthT, Option.some.injEq, Prod.mk.injEq, reduceCtorEq] at e <;> obtain ⟨rfl, rfl, rfl⟩ := e
  · exact mt_append
  · exact mt_pop
  · exact mt_popAt
  · exact mt_extend
  · exact mt_reverse
  · exact mt_clear
  · exact mt_get1 hu
  · exact mt_get2 hu
theorem recv_ok {m : M.Mth} {T id : String} {nm : Str} (e : mthT m = some (T, id, nm)) {d : SD} {v : V} (rh : RH K H h) (r : Rep K H d v) (q : M.recvOk m d h) : tyV K T v H := by
  have lst : M.aLst d h (fun _ _ => True) → tyV K "list" v H := fun q => by
    obtain ⟨p, xs, rfl, e1, _⟩ := aLst_inv q
    cases (show v = _ from r)
    obtain ⟨vs, a1, r1⟩ := rh p _ e1
    exact .inl ⟨rfl, vs, SqL.of a1⟩
  have dct : M.aDct d h (fun _ _ _ => True) → tyV K "dict" v H := fun q => by
    obtain ⟨p, kd, xs, rfl, e1, _⟩ := aDct_inv q
    cases (show v = _ from r)
    have o := rh p _ e1
    match kd, o with
    | 0, ⟨ps, a1, _⟩ => exact .inr (.inr (.inl ⟨rfl, .inl ⟨ps, a1⟩⟩))
  cases m <;> simp only [mthT, Option.some.injEq, Prod.mk.injEq, reduceCtorEq] at e <;> obtain ⟨rfl, rfl, rfl⟩ := e
  · exact lst q
  · exact lst q
  · exact lst q
  · exact lst q
  · exact lst q
  · exact lst q
  · exact dct q
  · exact dct q
theorem lst_put {p : Addr} {xs ys : List SD} {ws : List V} {d : SD} {v : V} (rh : RH K H h) (e : h p = some (.lst xs)) (q : Qa d (M.up h p (.lst ys))) (k : Kont K H h Qa Q) (rd : Rep K H d v) (rs : Reps K H ys ws) :
    Q v (upd H p (.lst ws)) := by
  have kp : Kp H (upd H p (.lst ws)) := kp_put rh e
  exact k _ _ _ _ q (frm_put e) (rd.kp kp) (rh_put rh e ⟨_, upd_same, rs.kp kp⟩)
theorem mth_ok {m : M.Mth} {d : SD} {v : V} {ds : List SD} {vs : List V} (rh : RH K H h) (rd : Rep K H d v) (r : Reps K H ds vs) (q : M.opMth m d ds h Qa) (k : Kont K H h Qa Q) : rMth m v vs H Q := by
  have hl := line_eq
  cases m <;> simp only [M.opMth] at q
  case append =>
    obtain ⟨e, rfl, q⟩ := arg1_inv q
    obtain ⟨w, rfl, rw'⟩ := reps1 r
    obtain ⟨p, xs, rfl, e1, hz, q⟩ := aLst_inv q
    cases (show v = _ from rd)
    obtain ⟨ws, a1, r1⟩ := rh p _ e1
    have ln := r1.length
    exact ⟨p, ws, w, rfl, rfl, a1, by omega, lst_put rh e1 q k rfl (r1.append (.one rw'))⟩
  case pop =>
    obtain ⟨rfl, q⟩ := q
    cases (show vs = _ from r)
    obtain ⟨p, xs, rfl, e1, q⟩ := aLst_inv q
    obtain ⟨y, e2, q⟩ := aSome_inv q
    cases (show v = _ from rd)
    obtain ⟨ws, a1, r1⟩ := rh p _ e1
    have ln := r1.length
    obtain ⟨w, e3, ry⟩ := r1.get e2
    exact ⟨p, ws, w, rfl, rfl, a1, by rw [ln]; exact e3, lst_put rh e1 q k ry r1.dropLast⟩
  case popAt =>
    obtain ⟨e, rfl, rfl, q1⟩ := arg1_inv q
    obtain ⟨w, rfl, rw'⟩ := reps1 r
    cases (show w = _ from rw')
    obtain ⟨p, xs, rfl, e1, q⟩ := aLst_inv q1
    obtain ⟨y, e2, q⟩ := aSome_inv q
    cases (show v = _ from rd)
    obtain ⟨ws, a1, r1⟩ := rh p _ e1
    have ln := r1.length
    obtain ⟨w, e3, ry⟩ := r1.get e2
    have hlt : 0 < ws.length := (List.getElem?_eq_some_iff.mp e3).1
    refine ⟨p, ws, 0, 0, w, rfl, rfl, a1, by decide, by decide, ?_, e3, ?_⟩
    · exact seqIndex_of (by decide) (by omega)
    · have z : ws.eraseIdx 0 = ws.drop 1 := by cases ws <;> simp
      rw [z]
      have z2 : xs.tail = xs.drop 1 := by cases xs <;> simp
      rw [z2] at q
      exact lst_put rh e1 q k ry (r1.drop 1)
  case extend =>
    obtain ⟨e, rfl, q⟩ := arg1_inv q
    obtain ⟨w, rfl, rw'⟩ := reps1 r
    obtain ⟨p, xs, rfl, e1, q⟩ := aLst_inv q
    obtain ⟨p2, ys, rfl, e2, hz, q⟩ := aLst_inv q
    cases (show v = _ from rd); cases (show w = _ from rw')
    obtain ⟨ws, a1, r1⟩ := rh p _ e1
    obtain ⟨zs, a2, r2⟩ := rh p2 _ e2
    have ln := r1.length
    have ln2 := r2.length
    exact ⟨p, p2, ws, zs, rfl, rfl, a1, a2, by omega, lst_put rh e1 q k rfl (r1.append r2)⟩
  case reverse =>
    obtain ⟨rfl, q⟩ := q
    cases (show vs = _ from r)
    obtain ⟨p, xs, rfl, e1, q⟩ := aLst_inv q
    cases (show v = _ from rd)
    obtain ⟨ws, a1, r1⟩ := rh p _ e1
    exact ⟨p, ws, rfl, rfl, a1, lst_put rh e1 q k rfl r1.rev⟩
  case clear =>
    obtain ⟨rfl, q⟩ := q
    cases (show vs = _ from r)
    obtain ⟨p, xs, rfl, e1, q⟩ := aLst_inv q
    cases (show v = _ from rd)
    obtain ⟨ws, a1, r1⟩ := rh p _ e1
    exact ⟨p, ws, rfl, rfl, a1, lst_put rh e1 q k rfl rfl⟩
  case get1 =>
    obtain ⟨e, rfl, q⟩ := arg1_inv q
    obtain ⟨w, rfl, rw'⟩ := reps1 r
    obtain ⟨p, kd, kvs, rfl, e1, kk, q⟩ := aDct_inv q
    cases (show v = _ from rd)
    obtain ⟨ov, g, z⟩ := dget_ok (rh p _ e1) kk rw'
    refine ⟨p, w, ov, rfl, rfl, g, ?_⟩
    rcases z with ⟨z1, z2⟩ | ⟨x, y, z1, z2, z3⟩
    · rw [z1] at q; rw [z2]; exact k.now rh q rfl
    · rw [z1] at q; rw [z2]; exact k.now rh q z3
  case get2 =>
    obtain ⟨e, f, rfl, q⟩ := arg2_inv q
    obtain ⟨w, u, rfl, rw', ru⟩ := reps2 r
    obtain ⟨p, kd, kvs, rfl, e1, kk, q⟩ := aDct_inv q
    cases (show v = _ from rd)
    obtain ⟨ov, g, z⟩ := dget_ok (rh p _ e1) kk rw'
    refine ⟨p, w, u, ov, rfl, rfl, g, ?_⟩
    rcases z with ⟨z1, z2⟩ | ⟨x, y, z1, z2, z3⟩
    · rw [z1] at q; rw [z2]; exact k.now rh q ru
    · rw [z1] at q; rw [z2]; exact k.now rh q z3

/-! ### o[i] = v -/
def rSetD : TSet := fun o i v H Q => ∃ p H', o = .ref p ∧ DPut H p i v H' ∧ Q H'
theorem PSet.or {X : Cx} {t t' : TSet} (a : PSet X t) (b : PSet X t') : PSet X (fun o i v H Q => t o i v H Q ∨ t' o i v H Q) := by
  intro pins s σ H o i v ov iv u Q I r1 r2 r3 q
  rcases q with q | q
  · exact a pins s σ H o i v ov iv u Q I r1 r2 r3 q
  · exact b pins s σ H o i v ov iv u Q I r1 r2 r3 q
theorem set_dict {X : Cx} (hu : X.A.units + 1 < cLine) : PSet X rSetD := by
  intro pins s σ H o i v ov iv u Q I r1 r2 r3 q
  obtain ⟨p, H', rfl, g, q⟩ := q
  cases r1
  exact d_setItem hu I g r2 r3 fun s4 I4 => ⟨H', I4, q⟩
def rSet : TSet := fun o i v H Q => rSetL o i v H Q ∨ rSetD o i v H Q
theorem set_all {X : Cx} (hu : X.A.units + 1 < cLine) : PSet X rSet := PSet.or set_list (set_dict hu)
def KontH (K : Fr) (H : Hp) (h : M.AH) (Qa : M.AH → Prop) (Q : Hp → Prop) : Prop := ∀ h' H', Qa h' → Frm H h H' h' → RH K H' h' → Q H'
theorem set_ok {Qa : M.AH → Prop} {Q : Hp → Prop} {dx dy dv : SD} {x y v : V} (rh : RH K H h) (rx : Rep K H dx x) (ry : Rep K H dy y) (rv : Rep K H dv v) (q : M.opSet dx dy dv h Qa) (k : KontH K H h Qa Q) : rSet x y v H Q := by
  cases dx with
  | ref p =>
    cases (show x = _ from rx)
    simp only [M.opSet] at q
    cases e : h p with
    | none => rw [e] at q; exact q.elim
    | some o => rw [e] at q; cases o with
      | lst xs =>
        obtain ⟨i, rfl, ⟨h0, h1⟩, q⟩ := anInt_inv q
        cases (show y = _ from ry)
        obtain ⟨ws, a1, r1⟩ := rh p _ e
        have ln := r1.length
        have kp : Kp H (upd H p (.lst (ws.set i.toNat v))) := kp_put rh e
        refine .inl ⟨p, ws, i, i.toNat, rfl, rfl, a1, ?_, k _ _ q (frm_put e) (rh_put rh e ⟨_, upd_same, (Reps.set rv _ r1).kp kp⟩)⟩
        unfold ixN
        rw [if_pos h0, if_pos (by omega)]
      | dct kd kvs =>
        obtain ⟨kk, hz, q⟩ := q
        obtain ⟨H', g, f, rh'⟩ := dput_ok (rh p _ e) kk ry rv hz e rh
        exact .inr ⟨p, H', rfl, g, k _ _ q f rh'⟩
      | _ => exact q.elim
  | _ => exact False.elim q
end
end Snd
end
section
/-! Sound5: expressions: the readings of the IR over those of the model. -/
namespace Snd
open PySem L2 PySem.Spec PyProof.Rows
abbrev WE := M.St → M.AH → M.VQ → Prop
abbrev WA := M.St → M.AH → (List SD → M.AH → Prop) → Prop
abbrev WO := M.St → M.AH → (Option Int → M.AH → Prop) → Prop
/-- a reading of the IR as one of the model -/
def lift (K : Fr) (w : WE) : TE := fun σ H Q => ∃ σa h Qa, RS K H σ σa ∧ RH K H h ∧ w σa h Qa ∧ Kont K H h Qa Q
def liftT (K : Fr) (w : WE) : TT := fun σ H Q => ∃ σa h Qa, RS K H σ σa ∧ RH K H h ∧ w σa h Qa ∧ ∀ d h', Qa d h' → ∃ b, d = .bl b ∧ ∀ H', Frm H h H' h' → RH K H' h' → Q b H'
def KontA (K : Fr) (H : Hp) (h : M.AH) (Qa : List SD → M.AH → Prop) (Q : List V → Hp → Prop) : Prop := ∀ ds h' vs H', Qa ds h' → Frm H h H' h' → Reps K H' ds vs → RH K H' h' → Q vs H'
def liftA (K : Fr) (w : WA) : TA := fun σ H Q => ∃ σa h Qa, RS K H σ σa ∧ RH K H h ∧ w σa h Qa ∧ KontA K H h Qa Q
def liftO (K : Fr) (w : WO) : TO := fun σ H Q => ∃ σa h Qa, RS K H σ σa ∧ RH K H h ∧ w σa h Qa ∧ ∀ o h' H', Qa o h' → Frm H h H' h' → RH K H' h' → Q o H'

theorem _root_.L2.PE.imp {X : L2.Cx} {e : Expr} {t t' : TE} (a : PE X e t) (i : ∀ σ H Q, t' σ H Q → t σ H Q) : PE X e t' := ⟨fun pins s σ H Q I h => a.run pins s σ H Q I (i σ H Q h)⟩
theorem _root_.L2.PT.imp {X : L2.Cx} {e : Expr} {t t' : TT} (a : PT X e t) (i : ∀ σ H Q, t' σ H Q → t σ H Q) : PT X e t' := ⟨fun pins s σ H Q I h => a.run pins s σ H Q I (i σ H Q h)⟩
theorem _root_.L2.PW.imp {X : L2.Cx} {e : Expr} {t t' : TT} (a : PW X e t) (i : ∀ σ H Q, t' σ H Q → t σ H Q) : PW X e t' := ⟨fun wh pins s σ H Q I h => a.run wh pins s σ H Q I (i σ H Q h)⟩
theorem _root_.L2.PA.imp {X : L2.Cx} {e : List Expr} {t t' : TA} (a : PA X e t) (i : ∀ σ H Q, t' σ H Q → t σ H Q) : PA X e t' := ⟨fun pos pins s σ H Q I h => a.run pos pins s σ H Q I (i σ H Q h)⟩
theorem _root_.L2.PO.imp {X : L2.Cx} {e : Option Expr} {t t' : TO} (a : PO X e t) (i : ∀ σ H Q, t' σ H Q → t σ H Q) : PO X e t' := ⟨fun pins s σ H Q I h => a.run pins s σ H Q I (i σ H Q h)⟩

section
variable {X : L2.Cx} {K : Fr} {σ : L2.St} {σa : M.St} {H H1 : Hp} {h h1 : M.AH} {w wa wb wc : WE} {Qa : M.VQ} {a b c e : Expr} {pos : Pos}
theorem lift_go {R : VK} (rs : RS K H σ σa) (rh : RH K H h) (q : w σa h Qa) (k : ∀ d h' v H', Qa d h' → Frm H h H' h' → Rep K H' d v → RH K H' h' → RS K H' σ σa → R v H') : lift K w σ H R :=
  ⟨σa, h, Qa, rs, rh, q, fun d h' v H' q f r rh' => k d h' v H' q f r rh' (rs.kp (f.kp rh))⟩
theorem liftA_go {w : WA} {Qa : List SD → M.AH → Prop} {R : List V → Hp → Prop} (rs : RS K H σ σa) (rh : RH K H h) (q : w σa h Qa) (k : ∀ d h' v H', Qa d h' → Frm H h H' h' → Reps K H' d v → RH K H' h' → RS K H' σ σa → R v H') : liftA K w σ H R :=
  ⟨σa, h, Qa, rs, rh, q, fun d h' v H' q f r rh' => k d h' v H' q f r rh' (rs.kp (f.kp rh))⟩

/-! ### names and constants -/
theorem s_var {i : Nat} {x : Str} (hN : X.N[i]? = some x) (hv : Vis X.env.scope x) (hd : (x == ("__debug__" : Str)) = false) (hcd : (x == ("__classdict__" : Str)) = false) :
    PE X (.Name x pos) (lift X.K fun σ h Q => match σ[i]? with | some (some d) => Q d h | _ => False) := by
  refine (pe_var hN hv hd hcd).imp fun σ H Q ⟨σa, h, Qa, rs, rh, q, k⟩ => ?_
  dsimp only at q
  cases e : σa[i]? with
  | none => rw [e] at q; exact q.elim
  | some o => cases o with
    | none => rw [e] at q; exact q.elim
    | some d =>
      rw [e] at q
      obtain ⟨v, e2, r⟩ := rs.2 i d e
      exact ⟨v, e2, k.now rh q r⟩
theorem s_const {v : V} {d : SD} (p : PE X e (tC v)) (r : ∀ H, Rep X.K H d v) : PE X e (lift X.K fun _ h Q => Q d h) :=
  p.imp fun σ H Q ⟨σa, h, Qa, rs, rh, q, k⟩ => k.now rh q (r H)

/-! ### operators -/
theorem s_bin {o : M.Bop} (ha : PE X a (lift X.K wa)) (hb : PE X b (lift X.K wb)) : PE X (.BinOp a (bop o) b pos) (lift X.K fun σ h Q => wa σ h fun x h1 => wb σ h1 fun y h2 => M.opBin o x y h2 Q) := by
  refine (pe_op (op_bin o) ha hb).imp fun σ H Q ⟨σa, h, Qa, rs, rh, q, k⟩ => ?_
  exact lift_go rs rh q fun dx h1 x H1 q1 f1 r1 rh1 rs1 => lift_go rs1 rh1 q1 fun dy h2 y H2 q2 f2 r2 rh2 rs2 =>
    bin_ok rh2 (r1.kp (f2.kp rh1)) r2 q2 (k.go (f1.trans f2))
theorem s_neg (ha : PE X a (lift X.K wa)) : PE X (.UnaryOp .USub a pos) (lift X.K fun σ h Q => wa σ h fun x h1 => match x with | .int i => Q (.int (-i)) h1 | _ => False) := by
  refine (pe_un un_neg ha).imp fun σ H Q ⟨σa, h, Qa, rs, rh, q, k⟩ => ?_
  refine lift_go rs rh q fun dx h1 x H1 q1 f1 r1 rh1 rs1 => ?_
  cases dx with
  | int i =>
    cases (show x = _ from r1)
    exact ⟨i, rfl, (k.go f1).now rh1 q1 rfl⟩
  | _ => exact q1.elim
theorem s_not (ha : PE X a (lift X.K wa)) : PE X (.UnaryOp .Not a pos) (lift X.K fun σ h Q => wa σ h fun x h1 => match x with | .bl b => Q (.bl (!b)) h1 | _ => False) := by
  refine (pe_not ha).imp fun σ H Q ⟨σa, h, Qa, rs, rh, q, k⟩ => ?_
  refine lift_go rs rh q fun dx h1 x H1 q1 f1 r1 rh1 rs1 => ?_
  cases dx with
  | bl i =>
    cases (show x = _ from r1)
    exact ⟨i, rfl, (k.go f1).now rh1 q1 rfl⟩
  | _ => exact q1.elim
theorem t_not (ha : PT X a (liftT X.K wa)) : PT X (.UnaryOp .Not a pos) (liftT X.K fun σ h Q => wa σ h fun x h1 => match x with | .bl b => Q (.bl (!b)) h1 | _ => False) := by
  refine (pt_not ha).imp fun σ H Q ⟨σa, h, Qa, rs, rh, q, k⟩ => ?_
  refine ⟨σa, h, _, rs, rh, q, fun d h' q1 => ?_⟩
  cases d with
  | bl b =>
    obtain ⟨b', e, kk⟩ := k _ _ q1
    cases e
    exact ⟨b, rfl, fun H' f rh' => kk H' f rh'⟩
  | _ => exact q1.elim
theorem s_cmp (hu : X.A.units + 200 < cLine) {o : M.Cop} (hm : behindInMarks (cop o) b = false) (ha : PE X a (lift X.K wa)) (hb : PE X b (lift X.K wb)) :
    PE X (.Compare a [cop o] [b] pos) (lift X.K fun σ h Q => wa σ h fun x h1 => wb σ h1 fun y h2 => M.opCmp o x y h2 fun c => Q (.bl c) h2) := by
  refine (pe_cmpR (op_cmp hu o) ha hb hm).imp fun σ H Q ⟨σa, h, Qa, rs, rh, q, k⟩ => ?_
  exact lift_go rs rh q fun dx h1 x H1 q1 f1 r1 rh1 rs1 => lift_go rs1 rh1 q1 fun dy h2 y H2 q2 f2 r2 rh2 rs2 =>
    cmp_ok rh2 (r1.kp (f2.kp rh1)) r2 q2 fun b hb => (k.go (f1.trans f2)).now rh2 hb rfl
theorem t_cmp (hu : X.A.units + 200 < cLine) {o : M.Cop} (hm : behindInMarks (cop o) b = false) (ha : PE X a (lift X.K wa)) (hb : PE X b (lift X.K wb)) :
    PT X (.Compare a [cop o] [b] pos) (liftT X.K fun σ h Q => wa σ h fun x h1 => wb σ h1 fun y h2 => M.opCmp o x y h2 fun c => Q (.bl c) h2) := by
  refine (pt_cmpR (op_cmp hu o) ha hb hm).imp fun σ H Q ⟨σa, h, Qa, rs, rh, q, k⟩ => ?_
  exact lift_go rs rh q fun dx h1 x H1 q1 f1 r1 rh1 rs1 => lift_go rs1 rh1 q1 fun dy h2 y H2 q2 f2 r2 rh2 rs2 =>
    cmp_ok rh2 (r1.kp (f2.kp rh1)) r2 q2 fun b hb => by
      obtain ⟨b', e, kk⟩ := k _ _ hb
      cases e
      exact ⟨b, rfl, kk H2 (f1.trans f2) rh2⟩
theorem s_chn (hu : X.A.units + 200 < cLine) {o o' : M.Cop} (hm : lastMarks [cop o, cop o'] [b, c] = false) (ha : PE X a (lift X.K wa)) (hb : PE X b (lift X.K wb)) (hc : PE X c (lift X.K wc)) :
    PE X (.Compare a [cop o, cop o'] [b, c] pos) (lift X.K fun σ h Q => wa σ h fun x h1 => wb σ h1 fun y h2 => M.opCmp o x y h2 fun k => match k with
    | true => wc σ h2 fun z h3 => M.opCmp o' y z h3 fun k' => Q (.bl k') h3
    | false => Q (.bl false) h2) := by
  refine (pe_chain (op_cmp hu o) (op_cmp hu o') ha hb hc hm).imp fun σ H Q ⟨σa, h, Qa, rs, rh, q, k⟩ => ?_
  exact lift_go rs rh q fun dx h1 x H1 q1 f1 r1 rh1 rs1 => lift_go rs1 rh1 q1 fun dy h2 y H2 q2 f2 r2 rh2 rs2 =>
    cmp_ok rh2 (r1.kp (f2.kp rh1)) r2 q2 fun b hb => ⟨b, rfl, by
      cases b with
      | true =>
        refine lift_go rs2 rh2 hb fun dz h3 z H3 q3 f3 r3 rh3 rs3 => ?_
        exact cmp_ok rh3 (r2.kp (f3.kp rh2)) r3 q3 fun b' hb' => (k.go ((f1.trans f2).trans f3)).now rh3 hb' rfl
      | false => exact (k.go (f1.trans f2)).now rh2 hb rfl⟩
theorem t_chn (hu : X.A.units + 200 < cLine) {o o' : M.Cop} (hm : lastMarks [cop o, cop o'] [b, c] = false) (ha : PE X a (lift X.K wa)) (hb : PE X b (lift X.K wb)) (hc : PE X c (lift X.K wc)) :
    PT X (.Compare a [cop o, cop o'] [b, c] pos) (liftT X.K fun σ h Q => wa σ h fun x h1 => wb σ h1 fun y h2 => M.opCmp o x y h2 fun k => match k with
    | true => wc σ h2 fun z h3 => M.opCmp o' y z h3 fun k' => Q (.bl k') h3
    | false => Q (.bl false) h2) := by
  refine (pt_chain (op_cmp hu o) (op_cmp hu o') ha hb hc hm).imp fun σ H Q ⟨σa, h, Qa, rs, rh, q, k⟩ => ?_
  exact lift_go rs rh q fun dx h1 x H1 q1 f1 r1 rh1 rs1 => lift_go rs1 rh1 q1 fun dy h2 y H2 q2 f2 r2 rh2 rs2 =>
    cmp_ok rh2 (r1.kp (f2.kp rh1)) r2 q2 fun b hb => ⟨b, rfl, by
      cases b with
      | true =>
        refine lift_go rs2 rh2 hb fun dz h3 z H3 q3 f3 r3 rh3 rs3 => ?_
        exact cmp_ok rh3 (r2.kp (f3.kp rh2)) r3 q3 fun b' hb' => by
          obtain ⟨b'', e, kk⟩ := k _ _ hb'
          cases e
          exact ⟨b', rfl, kk H3 ((f1.trans f2).trans f3) rh3⟩
      | false =>
        obtain ⟨b'', e, kk⟩ := k _ _ hb
        cases e
        exact ⟨false, rfl, kk H2 (f1.trans f2) rh2⟩⟩
theorem s_ite (hc : PT X c (liftT X.K wc)) (ha : PE X a (lift X.K wa)) (hb : PE X b (lift X.K wb)) :
    PE X (.IfExp c a b pos) (lift X.K fun σ h Q => wc σ h fun x h1 => match x with
    | .bl true => wa σ h1 Q
    | .bl false => wb σ h1 Q
    | _ => False) := by
  refine (pe_ifExp hc ha hb).imp fun σ H Q ⟨σa, h, Qa, rs, rh, q, k⟩ => ?_
  refine ⟨σa, h, _, rs, rh, q, fun d h' q1 => ?_⟩
  cases d with
  | bl b =>
    refine ⟨b, rfl, fun H' f rh' => ?_⟩
    cases b with
    | true => exact lift_go (rs.kp (f.kp rh)) rh' q1 fun d h2 v H2 q2 f2 r2 rh2 _ => k _ _ _ _ q2 (f.trans f2) r2 rh2
    | false => exact lift_go (rs.kp (f.kp rh)) rh' q1 fun d h2 v H2 q2 f2 r2 rh2 _ => k _ _ _ _ q2 (f.trans f2) r2 rh2
  | _ => exact q1.elim
theorem pt_plain (ha : PE X e (lift X.K wa)) (he : ∀ whole, isTrue e X.env whole = (do let v ← whole; standAt e.pos; holding [v] (truthy v))) : PT X e (liftT X.K wa) := by
  refine (pt_val ha he).imp fun σ H Q ⟨σa, h, Qa, rs, rh, q, k⟩ => ?_
  refine ⟨σa, h, Qa, rs, rh, q, fun d h' v H' q1 f r rh' => ?_⟩
  obtain ⟨b, rfl, kk⟩ := k d h' q1
  exact ⟨b, r, kk H' f rh'⟩

/-! ### items, slices -/
theorem s_ix (hu : X.A.units + 200 < cLine) (hs : PlainIx b) (ha : PE X a (lift X.K wa)) (hb : PE X b (lift X.K wb)) : PE X (.Subscript a b pos) (lift X.K fun σ h Q => wa σ h fun x h1 => wb σ h1 fun y h2 => M.opIx x y h2 Q) := by
  refine (pe_ix (ix_all (by omega)) ha hb hs).imp fun σ H Q ⟨σa, h, Qa, rs, rh, q, k⟩ => ?_
  exact lift_go rs rh q fun dx h1 x H1 q1 f1 r1 rh1 rs1 => lift_go rs1 rh1 q1 fun dy h2 y H2 q2 f2 r2 rh2 rs2 =>
    ix_ok rh2 (r1.kp (f2.kp rh1)) r2 q2 (k.go (f1.trans f2))
theorem s_part (he : PE X e (lift X.K w)) : PO X (some e) (liftO X.K fun σ h Q => w σ h fun d h1 => match d with | .int n => Q (some n) h1 | _ => False) := by
  refine (po_some he).imp fun σ H Q ⟨σa, h, Qa, rs, rh, q, k⟩ => ?_
  refine lift_go rs rh q fun d h1 v H1 q1 f1 r1 rh1 _ => ?_
  cases d with
  | int i =>
    cases (show v = _ from r1)
    exact ⟨i, rfl, k _ _ _ q1 f1 rh1⟩
  | _ => exact q1.elim
theorem s_nopart : PO X none (liftO X.K fun _ h Q => Q none h) := po_none.imp fun σ H Q ⟨σa, h, Qa, rs, rh, q, k⟩ => k _ _ _ q .refl rh
theorem s_sl {lo hi : Option Expr} {wl wh : WO} {p2 : Pos} (ha : PE X a (lift X.K wa)) (hl : PO X lo (liftO X.K wl)) (hh : PO X hi (liftO X.K wh)) :
    PE X (.Subscript a (.Slice lo hi none p2) pos) (lift X.K fun σ h Q => wa σ h fun x h1 => wl σ h1 fun l h2 => wh σ h2 fun u h3 => M.opSl x l u h3 Q) := by
  refine (pe_slice sl_all ha hl hh).imp fun σ H Q ⟨σa, h, Qa, rs, rh, q, k⟩ => ?_
  refine lift_go rs rh q fun dx h1 x H1 q1 f1 r1 rh1 rs1 => ?_
  refine ⟨σa, h1, _, rs1, rh1, q1, fun l h2 H2 q2 f2 rh2 => ?_⟩
  refine ⟨σa, h2, _, rs1.kp (f2.kp rh1), rh2, q2, fun u h3 H3 q3 f3 rh3 => ?_⟩
  exact sl_ok rh3 ((r1.kp (f2.kp rh1)).kp (f3.kp rh2)) q3 (k.go ((f1.trans f2).trans f3))

/-! ### argument lists, displays -/
theorem s_nil : PA X [] (liftA X.K fun _ h Q => Q [] h) := pa_nil.imp fun σ H Q ⟨σa, h, Qa, rs, rh, q, k⟩ => k _ _ _ _ q .refl rfl rh
theorem s_cons {es : List Expr} {wr : WA} (hs : starEach (e :: es) X.env = (false, eval e X.env) :: starEach es X.env) (he : PE X e (lift X.K w)) (hr : PA X es (liftA X.K wr)) :
    PA X (e :: es) (liftA X.K fun σ h Q => w σ h fun d h1 => wr σ h1 fun ds h2 => Q (d :: ds) h2) := by
  refine (pa_cons he hr hs).imp fun σ H Q ⟨σa, h, Qa, rs, rh, q, k⟩ => ?_
  exact lift_go rs rh q fun d h1 v H1 q1 f1 r1 rh1 rs1 => liftA_go rs1 rh1 q1 fun ds h2 vs H2 q2 f2 r2 rh2 _ => k _ _ _ _ q2 (f1.trans f2) (Reps.cons (r1.kp (f2.kp rh1)) r2) rh2
theorem s_tup {es : List Expr} {wr : WA} {x1} (hr : PA X es (liftA X.K wr)) : PE X (.Tuple es x1 pos) (lift X.K fun σ h Q => wr σ h fun ds h1 => ds.length ≤ M.LINE ∧ Q (.tup ds) h1) := by
  refine (pe_tup hr).imp fun σ H Q ⟨σa, h, Qa, rs, rh, q, k⟩ => ?_
  refine liftA_go rs rh q fun ds h1 vs H1 ⟨hz, q1⟩ f1 r1 rh1 _ => ⟨by rw [r1.length, line_eq]; exact hz, fun p hn => ?_⟩
  exact k _ _ _ _ q1 (f1.trans (frm_hid hn)) ⟨p, vs, rfl, .inl upd_same, r1.kp (kp_new hn)⟩ (rh_hid rh1 hn)
theorem s_lst {es : List Expr} {wr : WA} (hr : PA X es (liftA X.K wr)) : PE X (.List es pos) (lift X.K fun σ h Q => wr σ h fun ds h1 => ds.length ≤ M.LINE ∧ ∀ r, h1 r = none → Q (.ref r) (M.up h1 r (.lst ds))) := by
  refine (pe_lst hr).imp fun σ H Q ⟨σa, h, Qa, rs, rh, q, k⟩ => ?_
  refine liftA_go rs rh q fun ds h1 vs H1 ⟨hz, q1⟩ f1 r1 rh1 _ => ⟨by rw [r1.length, line_eq]; exact hz, fun p hn => ?_⟩
  exact k _ _ _ _ (q1 p (rh1.none hn)) (f1.trans (frm_new hn)) rfl (rh_new rh1 hn ⟨_, upd_same, r1.kp (kp_new hn)⟩)
theorem s_dct : PE X (.Dict [] [] pos) (lift X.K fun _ h Q => ∀ r, h r = none → Q (.ref r) (M.up h r (.dct 0 []))) := by
  refine pe_dnewK.imp fun σ H Q ⟨σa, h, Qa, rs, rh, q, k⟩ => ?_
  intro d hn
  exact k _ _ _ _ (q d (rh.none hn)) (frm_new hn) rfl (rh_new rh hn (dct0.mpr ⟨[], upd_same, .nil⟩))

/-! ### calls -/
theorem s_blt {x : Str} {p : Pos} {es : List Expr} {wr : WA} {b : M.Blt} {bk : BK} (hcalm : X.calm = true) (eb : bltK b = some bk) (hx : x = bk.name) (hg : Gl X x) (hm : X.mg x = none)
    (he : starEach (e :: es) X.env = (false, eval e X.env) :: starEach es X.env) (hpl : (backTo pos (starEach es X.env)).any (·.1) = false) (hr : PA X (e :: es) (liftA X.K wr)) :
    PE X (.Call (.Name x p) (e :: es) [] pos) (lift X.K fun σ h Q => wr σ h fun ds h1 => M.opBlt b ds h1 Q) := by
  subst hx
  have key : PE X (.Call (.Name bk.name p) (e :: es) [] pos) (tCB (rBlt X.K b) (liftA X.K wr)) := by
    have cr := call_blt (X := X) hcalm b eb
    cases b <;> simp only [bltK, Option.some.injEq, reduceCtorEq] at eb <;> subst eb
    all_goals first
      | exact pe_callB cr hg hm (by decide +kernel) hr (by decide +kernel) (by decide +kernel) he hpl
      | exact pe_callTy cr hg hm (by decide +kernel) hr (by decide +kernel) (by decide +kernel) he hpl
  refine key.imp fun σ H Q ⟨σa, h, Qa, rs, rh, q, k⟩ => ?_
  exact liftA_go rs rh q fun ds h1 vs H1 q1 f1 r1 rh1 _ => blt_ok rh1 r1 q1 (k.go f1)
theorem s_isi {t : M.Ty} {p p2 : Pos} {xt : Str} (hg : Gl X "isinstance") (hm : X.mg "isinstance" = none) (hxt : xt = Str.ofString (tyS t)) (hg2 : Gl X xt) (hm2 : X.mg xt = none)
    (he : starEach [a, .Name xt p2] X.env = (false, eval a X.env) :: starEach [.Name xt p2] X.env) (ha : PE X a (lift X.K wa)) :
    PE X (.Call (.Name "isinstance" p) [a, .Name xt p2] [] pos) (lift X.K fun σ h Q => wa σ h fun x h1 => match M.opIsi x t with | some b => Q (.bl b) h1 | none => False) := by
  subst hxt
  have pt : PE X (.Name (Str.ofString (tyS t)) p2) (tC (.ty (tyS t))) := by
    cases t <;> exact pe_bltn (v := .ty _) hg2 hm2 (u := .type _) (by decide +kernel) rfl (by decide +kernel) (by decide +kernel)
  refine (pe_callB call_isi hg hm (by decide +kernel) (pa_cons ha (pa_cons pt pa_nil) he) (by decide +kernel) (by decide +kernel) he rfl).imp fun σ H Q ⟨σa, h, Qa, rs, rh, q, k⟩ => ?_
  refine lift_go rs rh q fun dx h1 x H1 q1 f1 r1 rh1 rs1 => ?_
  cases e : M.opIsi dx t with
  | none => rw [e] at q1; exact q1.elim
  | some b =>
    rw [e] at q1
    exact isi_ok rh1 r1 e ((k.go f1).now rh1 q1 rfl)
theorem s_mth0 (hu : X.A.units + 200 < cLine) {m : M.Mth} {T id : String} {nm nm2 : Str} {apos cpos : Pos} (em : mthT m = some (T, id, nm)) (hnm : nm2 = nm) (hbase : attributeBase a nm X.env (eval a X.env) = eval a X.env) (hline : (apos.endLine == cpos.line) = true) (ha : PE X a (lift X.K wa)) :
    PE X (.Call (.Attribute a nm2 apos) [] [] cpos) (lift X.K fun σ h Q => wa σ h fun x h1 => M.recvOk m x h1 ∧ M.opMth m x [] h1 Q) := by
  subst hnm
  have F := mth_fact em
  refine (pe_bm0 F.pa F.slot F.ty (mth_rule (by omega) em) ha hbase hline).imp fun σ H Q ⟨σa, h, Qa, rs, rh, q, k⟩ => ?_
  exact lift_go rs rh q fun dx h1 x H1 ⟨q0, q1⟩ f1 r1 rh1 rs1 => ⟨recv_ok em rh1 r1 q0, mth_ok (ds := []) (vs := []) rh1 r1 rfl q1 (k.go f1)⟩
theorem s_mth (hu : X.A.units + 200 < cLine) {m : M.Mth} {T id : String} {nm nm2 : Str} {apos cpos : Pos} {es : List Expr} {wr : WA} (em : mthT m = some (T, id, nm)) (hnm : nm2 = nm) (hbase : attributeBase a nm X.env (eval a X.env) = eval a X.env)
    (hfew : ((backTo cpos (starEach (e :: es) X.env)).all (fun x => !x.1) && (backToKw cpos (keywordEach [] X.env)).all (fun x => x.1.isSome)
      && decide ((e :: es).length + ([] : List Keyword).length + (if ([] : List Keyword).isEmpty then 0 else 1) < 30)) = true)
    (hline : (apos.endLine == cpos.line) = true) (hs : starEach (e :: es) X.env = (false, eval e X.env) :: starEach es X.env) (hplain : (backTo cpos (starEach es X.env)).any (·.1) = false) (ha : PE X a (lift X.K wa)) (hr : PA X (e :: es) (liftA X.K wr)) :
    PE X (.Call (.Attribute a nm2 apos) (e :: es) [] cpos) (lift X.K fun σ h Q => wa σ h fun x h1 => M.recvOk m x h1 ∧ wr σ h1 fun ds h2 => M.opMth m x ds h2 Q) := by
  subst hnm
  have F := mth_fact em
  refine (pe_bm F.pa F.slot F.ty (mth_rule (by omega) em) ha hr hbase hfew hline hs hplain).imp fun σ H Q ⟨σa, h, Qa, rs, rh, q, k⟩ => ?_
  refine lift_go rs rh q fun dx h1 x H1 ⟨q0, q1⟩ f1 r1 rh1 rs1 => ⟨recv_ok em rh1 r1 q0, ?_⟩
  exact liftA_go rs1 rh1 q1 fun ds h2 vs H2 q2 f2 r2 rh2 _ => mth_ok rh2 (r1.kp (f2.kp rh1)) r2 q2 (k.go (f1.trans f2))
/-- what a def of the program promises -/
def spC (K : Fr) (P : M.Prog) (n : Nat) (f : M.Sx) : Sp := fun vs H Q _ => ∃ ds h Qa xx, Reps K H ds vs ∧ RH K H h ∧ M.run P n f ds h Qa xx ∧ Kont K H h Qa Q
theorem s_call {x : Str} {p : Pos} {es : List Expr} {wr : WA} {P : M.Prog} {n : Nat} {f : M.Sx} {fa : Addr} {fd : FuncData} {ps : List Str} {xx : M.XP} (F : FnOk X.prog X.w X.K X.mg X.base CX0 n fa fd ps (spC X.K P n f)) (hroom : Room n X.A) (hg : Gl X x) (hm : X.mg x = some (.ref fa))
    (hk : PySem.W.keepIn X.K (.ref fa) = true) (hb : Binds X.K fd ps []) (hdb : (x == ("__debug__" : Str)) = false)
    (he : starEach (e :: es) X.env = (false, eval e X.env) :: starEach es X.env) (hpl : (backTo pos (starEach es X.env)).any (·.1) = false) (hr : PA X (e :: es) (liftA X.K wr)) :
    PE X (.Call (.Name x p) (e :: es) [] pos) (lift X.K fun σ h Q => wr σ h fun ds h1 => M.run P n f ds h1 Q xx) := by
  refine (pe_call F hroom hg hm hk hb .nil pass0 hr hdb he hpl).imp fun σ H Q ⟨σa, h, Qa, rs, rh, q, k⟩ => ?_
  refine liftA_go rs rh q fun ds h1 vs H1 q1 f1 r1 rh1 _ => ?_
  exact ⟨ds, h1, Qa, xx, by rw [List.append_nil]; exact r1, rh1, q1, k.go f1⟩
theorem s_call0 {x : Str} {p : Pos} {P : M.Prog} {n : Nat} {f : M.Sx} {fa : Addr} {fd : FuncData} {ps : List Str} {xx : M.XP} (F : FnOk X.prog X.w X.K X.mg X.base CX0 n fa fd ps (spC X.K P n f)) (hroom : Room n X.A) (hg : Gl X x) (hm : X.mg x = some (.ref fa))
    (hk : PySem.W.keepIn X.K (.ref fa) = true) (hb : Binds X.K fd ps []) (hdb : (x == ("__debug__" : Str)) = false) :
    PE X (.Call (.Name x p) [] [] pos) (lift X.K fun σ h Q => M.run P n f [] h Q xx) := by
  refine (pe_call0 F hroom hg hm hk hb .nil pass0 hdb).imp fun σ H Q ⟨σa, h, Qa, rs, rh, q, k⟩ => ?_
  exact ⟨[], h, Qa, xx, rfl, rh, q, k⟩
end
end Snd
end
section
/-! Sound6: what is walked, targets, comprehensions, statements. -/
namespace Snd
open PySem L2 PySem.Spec PyProof.Rows
section
variable {X : L2.Cx} {K : Fr} {σ : L2.St} {σa : M.St} {H H1 : Hp} {h h1 : M.AH} {w wa wb wc : WE} {Qa : M.VQ} {a b c e : Expr} {pos : Pos} {tg : Expr}
/-- an iterator of the model bears the items xs, as long as ok holds -/
def Walks (K : Fr) (H1 : Hp) (J : It) (xs : List SD) (ok : M.AH → Prop) : Prop := ∀ (i : Nat) (H : Hp) (h : M.AH), Kp H1 H → RH K H h → ok h →
  (i < xs.length → J.go i H) ∧ (xs.length ≤ i → J.stop i H) ∧ ∀ x H', J.yld i H x H' → ∀ d, xs[i]? = some d → Rep K H' d x ∧ Frm H h H' h ∧ RH K H' h
theorem PI.imp' {t t' : TI} (a : PI X tg e t) (i : ∀ σ H Q, t' σ H Q → t σ H Q) : PI X tg e t' := ⟨fun pins s σ H Q I h => a.run pins s σ H Q I (i σ H Q h)⟩
def liftI (K : Fr) (k : M.Itk) (w : WA) : TI := fun σ H R => ∃ σa h Qd, RS K H σ σa ∧ RH K H h ∧ w σa h Qd ∧ ∀ ds h1, Qd ds h1 → ∃ QW : List SD → (M.AH → Prop) → Prop, M.walk k ds h1 QW ∧
  ∀ xs ok J H1, QW xs ok → Frm H h H1 h1 → RH K H1 h1 → Walks K H1 J xs ok → R J H1
/-- a list, a tuple, a text -/
def iSeq (K : Fr) (tl : TE) : TI := fun σ H R => tl σ H fun x H1 => (∃ a, x = .ref a ∧ (∃ xs, SqL K H1 a xs) ∧ R (Itl K a) H1) ∨ (∃ a, x = .ref a ∧ (∃ xs, SqT K H1 a xs) ∧ R (Itt K a) H1) ∨ ∃ z, x = .str z ∧ R (Its z) H1
theorem pi_seq {l : Expr} {tl : TE} (hl : PE X l tl) : PI X tg l (iSeq X.K tl) := by
  refine ⟨fun pins s σ H R I hw => thn (hl.run pins s σ H _ I hw) ?_⟩
  rintro v s1 ⟨x, H1, J, rv, q⟩
  rcases q with ⟨ad, rfl, ⟨xs, hx⟩, q⟩ | ⟨ad, rfl, ⟨xs, hx⟩, q⟩ | ⟨z, rfl, q⟩
  · cases rv
    obtain ⟨its, r, p, hz⟩ := J.list hx
    exact wpAny_pyIter_list p.isList (pi_one (tk := s1.toks) J _ (turn_list ad _) ⟨_, Heap.get?_push_size _ rfl, rfl, rfl⟩ q)
  · cases rv
    obtain ⟨its, r, p, hz⟩ := J.tuple hx
    exact wpAny_pyIter_tuple (show s1.heap.IsTuple ad its.toArray from p) (pi_one (tk := s1.toks) J _ (turn_tuple ad _) ⟨_, Heap.get?_push_size _ rfl, rfl, rfl⟩ q)
  · obtain ⟨t, rfl⟩ := rv
    cases wide : z.cps.all (· < 128)
    · exact wpAny_pyIter_wide wide (pi_one (tk := s1.toks) J _ (turn_str _ z t "str_iterator" (.inr rfl)) ⟨_, Heap.get?_push_size _ rfl, rfl, rfl⟩ q)
    · exact wpAny_pyIter_ascii wide (pi_one (tk := s1.toks) J _ (turn_str _ z t "str_ascii_iterator" (.inl rfl)) ⟨_, Heap.get?_push_size _ rfl, rfl, rfl⟩ q)
theorem sql_inj {p : Addr} {vs ws : List V} (e : H p = some (.lst vs)) (h : SqL K H p ws) (no : ¬ KLst K p ws) : ws = vs := by
  rcases h with (h | ⟨o, h⟩) | h
  · rw [e] at h; cases h; rfl
  · rw [e] at h; cases h
  · exact absurd h no
/-- a list's items at a turn: what the walk yields is what stands there -/
theorem walks_lst {p : Addr} {xs : List SD} : Walks K H1 (Itl K p) xs (fun h' => h' p = some (.lst xs)) := by
  intro i H h kp rh ok
  obtain ⟨vs, e, r⟩ := rh p _ ok
  have ln := r.length
  refine ⟨fun hi => ⟨vs, vs[i]'(by omega), SqL.of e, by simp⟩, fun hi => ⟨vs, SqL.of e, by omega⟩, ?_⟩
  rintro x H' ⟨rfl, y⟩ d hd
  obtain ⟨v, h1, h2⟩ := r.get hd
  have := y vs (SqL.of e)
  rw [h1] at this
  cases this
  exact ⟨h2, .refl, rh⟩
theorem walks_rol {p : Addr} {xs : List SD} {vs : List V} (t : (∃ o, H1 p = some (.frz o (.lst vs))) ∨ KLst K p vs) (r : Reps K H1 xs vs) : Walks K H1 (Itl K p) xs (fun _ => True) := by
  intro i H h kp rh ok
  have ln := r.length
  have hs : SqL K H p vs := rol_sql (t.imp (fun ⟨o, e⟩ => ⟨o, kp.2 _ _ _ e⟩) id)
  refine ⟨fun hi => ⟨vs, vs[i]'(by omega), hs, by simp⟩, fun hi => ⟨vs, hs, by omega⟩, ?_⟩
  rintro x H' ⟨rfl, y⟩ d hd
  obtain ⟨v, h1, h2⟩ := (r.kp kp).get hd
  have := y vs hs
  rw [h1] at this
  cases this
  exact ⟨h2, .refl, rh⟩
theorem walks_tup {p : Addr} {xs : List SD} {vs : List V} (t : H1 p = some (.tup vs) ∨ KTup K p vs) (r : Reps K H1 xs vs) : Walks K H1 (Itt K p) xs (fun _ => True) := by
  intro i H h kp rh ok
  have ln := r.length
  have hs : SqT K H p vs := (t.imp (kp.1 _ _) id).imp .inl id
  refine ⟨fun hi => ⟨vs, vs[i]'(by omega), hs, by simp⟩, fun hi => ⟨vs, hs, by omega⟩, ?_⟩
  rintro x H' ⟨rfl, y⟩ d hd
  obtain ⟨v, h1, h2⟩ := (r.kp kp).get hd
  have := y vs hs
  rw [h1] at this
  cases this
  exact ⟨h2, .refl, rh⟩
theorem walks_str {s : M.Sx} (ok : sOk s) : Walks K H1 (Its (sV s)) (s.map fun c => .str [c]) (fun _ => True) := by
  intro i H h kp rh _
  have sz : (sV s).cps.size = s.length := by simp [sV]
  refine ⟨fun hi => by show i < (sV s).cps.size; rw [sz]; simpa using hi, fun hi => by show (sV s).cps.size ≤ i; rw [sz]; simpa using hi, ?_⟩
  rintro x H' ⟨rfl, c, hc, rfl⟩ d hd
  rw [List.getElem?_map] at hd
  have e : s[i]? = some c := by
    rw [← Array.getElem?_toList, sV_cps] at hc
    exact hc
  rw [e] at hd
  simp only [Option.map_some, Option.some.injEq] at hd
  subst hd
  exact ⟨⟨rfl, fun z hz => by
    have : z = c := by simpa using hz
    subst this
    exact ok _ (List.mem_of_getElem? e)⟩, .refl, rh⟩
theorem walks_rng (lo hi : Int) (n : Nat) (hn : n = (hi - lo).toNat) : Walks K H1 (Itr lo n) (M.rangeL lo hi) (fun _ => True) := by
  intro i H h kp rh _
  have ln : (M.rangeL lo hi).length = n := by simp [M.rangeL, hn]
  refine ⟨fun q => by show i < n; omega, fun q => by show n ≤ i; omega, ?_⟩
  rintro x H' ⟨rfl, rfl⟩ d hd
  have hi : i < n := by rw [← ln]; exact (List.getElem?_eq_some_iff.mp hd).1
  simp only [M.rangeL, List.getElem?_map] at hd
  rw [List.getElem?_range (by omega)] at hd
  simp only [Option.map_some, Option.some.injEq] at hd
  subst hd
  exact ⟨rfl, .refl, rh⟩
theorem enumL_get : ∀ (xs : List SD) (k i : Nat) (d : SD), (M.enumL k xs)[i]? = some d → ∃ x, xs[i]? = some x ∧ d = .tup [.int ((k + i : Nat) : Int), x]
  | [], k, i, d, e => by simp [M.enumL] at e
  | x :: xs, k, 0, d, e => by
    simp only [M.enumL, List.getElem?_cons_zero, Option.some.injEq] at e
    exact ⟨x, rfl, e.symm⟩
  | x :: xs, k, i + 1, d, e => by
    simp only [M.enumL, List.getElem?_cons_succ] at e
    obtain ⟨y, h1, h2⟩ := enumL_get xs (k + 1) i d e
    refine ⟨y, by simpa using h1, ?_⟩
    rw [h2]
    have : k + 1 + i = k + (i + 1) := by omega
    rw [this]
theorem enumL_len : ∀ (xs : List SD) (k : Nat), (M.enumL k xs).length = xs.length
  | [], _ => rfl
  | x :: xs, k => by simp [M.enumL, enumL_len xs (k + 1)]
theorem walks_enum {p : Addr} {xs : List SD} : Walks K H1 (Ite K p) (M.enumL 0 xs) (fun h' => h' p = some (.lst xs)) := by
  intro i H h kp rh ok
  obtain ⟨vs, e, r⟩ := rh p _ ok
  have ln := r.length
  have ln2 := enumL_len xs 0
  refine ⟨fun hi => ⟨vs, vs[i]'(by omega), SqL.of e, by simp⟩, fun hi => ⟨vs, SqL.of e, by omega⟩, ?_⟩
  rintro x H' ⟨T, y, rfl, hn, rfl, hy⟩ d hd
  obtain ⟨z, h1, rfl⟩ := enumL_get xs 0 i d hd
  obtain ⟨v, h2, h3⟩ := r.get h1
  have := hy vs (SqL.of e)
  rw [h2] at this
  cases this
  refine ⟨⟨T, _, rfl, .inl upd_same, Reps.cons (by simp [Rep]) (.one (h3.kp (kp_new hn)))⟩, frm_hid hn, rh_hid rh hn⟩

theorem i_seq (hl : PE X e (lift X.K w)) : PI X tg e (liftI X.K .seq fun σ h Q => w σ h fun d h1 => Q [d] h1) := by
  refine PI.imp' (pi_seq hl) fun σ H R ⟨σa, h, Qd, rs, rh, q, k⟩ => ?_
  refine lift_go rs rh q fun d h1 v H1 q1 f1 r1 rh1 _ => ?_
  obtain ⟨QW, hw, kk⟩ := k _ _ q1
  cases d with
  | tup xs =>
    obtain ⟨ad, vs, ev, t, rr⟩ := r1
    exact .inr (.inl ⟨ad, ev, ⟨vs, t.imp .inl id⟩, kk _ _ _ _ hw f1 rh1 (walks_tup t rr)⟩)
  | rol xs =>
    obtain ⟨ad, vs, ev, t, rr⟩ := r1
    exact .inl ⟨ad, ev, ⟨vs, rol_sql t⟩, kk _ _ _ _ hw f1 rh1 (walks_rol t rr)⟩
  | str s => exact .inr (.inr ⟨sV s, r1.1, kk _ _ _ _ hw f1 rh1 (walks_str r1.2)⟩)
  | ref p =>
    simp only [M.walk] at hw
    cases e1 : h1 p with
    | none => rw [e1] at hw; exact hw.elim
    | some o => rw [e1] at hw; cases o with
      | lst xs =>
        obtain ⟨vs, e2, rr⟩ := rh1 p _ e1
        exact .inl ⟨p, r1, ⟨vs, SqL.of e2⟩, kk _ _ _ _ hw f1 rh1 walks_lst⟩
      | _ => exact hw.elim
  | _ => exact hw.elim
theorem walk_rng_inv {ds : List SD} {QW : List SD → (M.AH → Prop) → Prop} (q : M.walk .rng ds h QW) : (∃ n, ds = [.int n] ∧ -(2 ^ 62) ≤ n ∧ n < 2 ^ 62 ∧ QW (M.rangeL 0 n) fun _ => True) ∨
    ∃ a b, ds = [.int a, .int b] ∧ (-(2 ^ 62) ≤ a ∧ a < 2 ^ 62 ∧ -(2 ^ 62) ≤ b ∧ b < 2 ^ 62) ∧ QW (M.rangeL a b) fun _ => True := by
  match ds with
  | [] => exact False.elim q
  | [d] => cases d with
    | int n => exact .inl ⟨n, rfl, q⟩
    | _ => exact False.elim q
  | [d, e] => cases d with
    | int a => cases e with
      | int b => exact .inr ⟨a, b, rfl, q⟩
      | _ => exact False.elim q
    | _ => cases e <;> exact False.elim q
  | d :: e :: f :: r => cases d <;> cases e <;> exact False.elim q
theorem i_rng1 {p : Pos} (hg : Gl X "range") (hm : X.mg "range" = none) (hs : starEach [a] X.env = [(false, eval a X.env)]) (ha : PE X a (lift X.K wa)) :
    PI X tg (.Call (.Name "range" p) [a] [] pos) (liftI X.K .rng fun σ h Q => wa σ h fun d h1 => Q [d] h1) := by
  refine PI.imp' (pi_range1 hg hm (pa_cons ha pa_nil hs) hs) fun σ H R ⟨σa, h, Qd, rs, rh, q, k⟩ => ?_
  refine lift_go rs rh q fun d h1 v H1 q1 f1 r1 rh1 _ => ?_
  obtain ⟨QW, hw, kk⟩ := k _ _ q1
  rcases walk_rng_inv hw with ⟨n, e, h1, h2, hw2⟩ | ⟨x, y, e, _⟩
  · cases e
    cases (show v = _ from r1)
    exact ⟨n, rfl, h1, h2, kk _ _ _ _ hw2 f1 rh1 (walks_rng 0 n _ (by simp))⟩
  · cases e
theorem i_rng2 {p : Pos} (hg : Gl X "range") (hm : X.mg "range" = none) (hs : starEach [a, b] X.env = [(false, eval a X.env), (false, eval b X.env)]) (hs2 : starEach [b] X.env = [(false, eval b X.env)]) (ha : PE X a (lift X.K wa)) (hb : PE X b (lift X.K wb)) :
    PI X tg (.Call (.Name "range" p) [a, b] [] pos) (liftI X.K .rng fun σ h Q => wa σ h fun d h1 => wb σ h1 fun d2 h2 => Q [d, d2] h2) := by
  refine PI.imp' (pi_range2 hg hm (pa_cons ha (pa_cons hb pa_nil hs2) (by rw [hs, hs2])) hs hs2) fun σ H R ⟨σa, h, Qd, rs, rh, q, k⟩ => ?_
  refine lift_go rs rh q fun d h1 v H1 q1 f1 r1 rh1 rs1 => lift_go rs1 rh1 q1 fun d2 h2 v2 H2 q2 f2 r2 rh2 rs2 => ?_
  obtain ⟨QW, hw, kk⟩ := k _ _ q2
  rcases walk_rng_inv hw with ⟨n, e, h1, h2, hw2⟩ | ⟨x, y, e, hb, hw2⟩
  · cases e
  · cases e
    cases (show v = _ from r1); cases (show v2 = _ from r2)
    exact ⟨x, y, rfl, hb, kk _ _ _ _ hw2 (f1.trans f2) rh2 (walks_rng x y _ rfl)⟩
theorem walk_enum_inv {ds : List SD} {QW : List SD → (M.AH → Prop) → Prop} (q : M.walk .enum ds h QW) : ∃ p xs, ds = [.ref p] ∧ h p = some (.lst xs) ∧ QW (M.enumL 0 xs) fun h' => h' p = some (.lst xs) := by
  match ds with
  | [] => exact False.elim q
  | [d] => cases d with
    | ref p =>
      simp only [M.walk] at q
      cases e : h p with
      | none => rw [e] at q; exact q.elim
      | some o => rw [e] at q; cases o with
        | lst xs => exact ⟨p, xs, rfl, e, q⟩
        | _ => exact q.elim
    | _ => exact False.elim q
  | d :: e :: r => cases d <;> exact False.elim q
theorem i_enum {p tpos : Pos} {elts : List Expr} {kk : Nat} (hg : Gl X "enumerate") (hm : X.mg "enumerate" = none) (hs : starEach [a] X.env = [(false, eval a X.env)]) (ha : PE X a (lift X.K wa)) :
    PI X (.Tuple elts kk tpos) (.Call (.Name "enumerate" p) [a] [] pos) (liftI X.K .enum fun σ h Q => wa σ h fun d h1 => Q [d] h1) := by
  refine PI.imp' (pi_enum hg hm (pa_cons ha pa_nil hs) hs) fun σ H R ⟨σa, h, Qd, rs, rh, q, k⟩ => ?_
  refine lift_go rs rh q fun d h1 v H1 q1 f1 r1 rh1 _ => ?_
  obtain ⟨QW, hw, kk⟩ := k _ _ q1
  obtain ⟨p, xs, e, e1, hw2⟩ := walk_enum_inv hw
  cases e
  cases (show v = _ from r1)
  obtain ⟨vs, e2, rr⟩ := rh1 p _ e1
  exact ⟨p, vs, rfl, SqL.of e2, kk _ _ _ _ hw2 f1 rh1 walks_enum⟩

/-! ### targets -/
def gNames : List Nat → TGs
  | [] => gNil
  | i :: is => gCons (gName i) (gNames is)
def gOf (K : Fr) : M.Tgt → TG
  | .nm i => gName i
  | .tp ts => gTup K ts.length (gNames ts)
theorem rs_set {i : Nat} {d : SD} {v : V} (rs : RS K H σ σa) (r : Rep K H d v) : RS K H (σ.set i (some v)) (σa.set i (some d)) := by
  refine ⟨by simpa using rs.1, fun j e q => ?_⟩
  by_cases z : i = j
  · subst z
    by_cases hl : i < σa.length
    · rw [List.getElem?_set_self hl] at q
      cases q
      exact ⟨v, by rw [List.getElem?_set_self (by rw [rs.1]; exact hl)], r⟩
    · rw [List.getElem?_eq_none (by simpa using hl)] at q; cases q
  · rw [List.getElem?_set_ne z] at q
    obtain ⟨u, e1, e2⟩ := rs.2 j e q
    exact ⟨u, by rw [List.getElem?_set_ne z]; exact e1, e2⟩
theorem setTs_ok : ∀ {is : List Nat} {ds : List SD} {vs : List V} {σ : L2.St} {σa σb : M.St} {Q : L2.St → Hp → Prop}, M.setT.setTs is ds σa = some σb → RS K H σ σa → Reps K H ds vs → (∀ σ', RS K H σ' σb → Q σ' H) → gNames is vs σ H Q
  | [], [], vs, σ, σa, σb, Q, e, rs, r, k => by
    simp only [M.setT.setTs, Option.some.injEq] at e
    subst e
    exact ⟨r, k σ rs⟩
  | [], _ :: _, vs, σ, σa, σb, Q, e, _, _, _ => by simp [M.setT.setTs] at e
  | _ :: _, [], vs, σ, σa, σb, Q, e, _, _, _ => by simp [M.setT.setTs] at e
  | i :: is, d :: ds, vs, σ, σa, σb, Q, e, rs, ⟨v, r, ev, r1, r2⟩, k => by
    simp only [M.setT.setTs] at e
    exact ⟨v, r, ev, setTs_ok e (rs_set rs r1) r2 k⟩
theorem setTs_len : ∀ {is : List Nat} {ds : List SD} {σa σb : M.St}, M.setT.setTs is ds σa = some σb → is.length = ds.length
  | [], [], _, _, _ => rfl
  | [], _ :: _, _, _, e => by simp [M.setT.setTs] at e
  | _ :: _, [], _, _, e => by simp [M.setT.setTs] at e
  | i :: is, d :: ds, _, _, e => by simp only [M.setT.setTs] at e; simp [setTs_len e]
theorem setT_ok {t : M.Tgt} {d : SD} {v : V} {σb : M.St} {Q : L2.St → Hp → Prop} (e : M.setT t d σa = some σb) (rs : RS K H σ σa) (r : Rep K H d v) (k : ∀ σ', RS K H σ' σb → Q σ' H) : gOf K t v σ H Q := by
  cases t with
  | nm i =>
    simp only [M.setT, Option.some.injEq] at e
    subst e
    exact k _ (rs_set rs r)
  | tp ts =>
    cases d with
    | tup ds =>
      obtain ⟨ad, vs, ev, t, rr⟩ := r
      exact ⟨ad, vs, ev, t.imp .inl id, by rw [rr.length, setTs_len e], setTs_ok e rs rr k⟩
    | _ => simp [M.setT] at e
theorem wipe_rs (rs : RS K H σ σa) : ∀ vs : List Nat, RS K H (wipe σ vs) (M.forget σa vs)
  | [] => rs
  | v :: vs => by
    have ih := wipe_rs rs vs
    unfold wipe M.forget
    refine ⟨by simpa using ih.1, fun j e q => ?_⟩
    by_cases z : v = j
    · subst z
      by_cases hl : v < (M.forget σa vs).length
      · rw [List.getElem?_set_self hl] at q; cases q
      · rw [List.getElem?_eq_none (by simpa using hl)] at q; cases q
    · rw [List.getElem?_set_ne z] at q
      obtain ⟨u, e1, e2⟩ := ih.2 j e q
      exact ⟨u, by rw [List.getElem?_set_ne z]; exact e1, e2⟩
/-- storing to a comprehension's own names, then forgetting them -/
theorem wipe_set {i : Nat} {v : Option V} : ∀ {vs : List Nat} {σ : L2.St}, i ∈ vs → wipe (σ.set i v) vs = wipe σ vs
  | j :: vs, σ, hm => by
    unfold wipe
    by_cases z : i ∈ vs
    · rw [wipe_set z]
    · have e : j = i := by
        rcases List.mem_cons.mp hm with e | e
        · exact e.symm
        · exact absurd e z
      subst e
      have : ∀ {ws : List Nat} {τ : L2.St}, j ∉ ws → wipe (τ.set j v) ws = (wipe τ ws).set j v := by
        intro ws
        induction ws with
        | nil => intro τ _; rfl
        | cons k ws ih =>
          intro τ hk
          unfold wipe
          rw [ih (fun q => hk (List.mem_cons_of_mem _ q)), List.set_comm]
          exact fun q => hk (by rw [← q]; exact List.mem_cons_self)
      rw [this z, List.set_set]
theorem wipe_wipe : ∀ {vs : List Nat} {σ : L2.St}, wipe (wipe σ vs) vs = wipe σ vs := by
  have gen : ∀ {ws vs : List Nat} {σ : L2.St}, (∀ i ∈ ws, i ∈ vs) → wipe (wipe σ ws) vs = wipe σ vs := by
    intro ws
    induction ws with
    | nil => intro vs σ _; rfl
    | cons k ws ih =>
      intro vs σ hk
      show wipe ((wipe σ ws).set k none) vs = _
      rw [wipe_set (hk k List.mem_cons_self), ih (fun i hi => hk i (List.mem_cons_of_mem _ hi))]
  intro vs σ
  exact gen fun i hi => hi
def tgtIn (own : List Nat) : M.Tgt → Bool
  | .nm i => own.contains i
  | .tp ts => ts.all fun i => own.contains i
theorem gNames_wipe {own : List Nat} : ∀ {is : List Nat} {vs : List V} {σ : L2.St} {Q : L2.St → Hp → Prop}, (is.all fun i => own.contains i) = true → gNames is vs σ H Q → gNames is vs σ H fun σ' H' => wipe σ' own = wipe σ own ∧ Q σ' H'
  | [], _, _, _, _, ⟨e, q⟩ => ⟨e, rfl, q⟩
  | i :: is, vs, σ, Q, hi, ⟨v, r, e, q⟩ => by
    rw [List.all_cons] at hi
    obtain ⟨h1, h2⟩ := ba hi
    refine ⟨v, r, e, ?_⟩
    have q' := gNames_wipe h2 (show gNames is r (σ.set i (some v)) H Q from q)
    have e2 : wipe (σ.set i (some v)) own = wipe σ own := wipe_set (by simpa using h1)
    rw [e2] at q'
    exact q'
theorem gOf_wipe {own : List Nat} {t : M.Tgt} {v : V} {Q : L2.St → Hp → Prop} (ht : tgtIn own t = true) (q : gOf K t v σ H Q) : gOf K t v σ H fun σ' H' => wipe σ' own = wipe σ own ∧ Q σ' H' := by
  cases t with
  | nm i => exact ⟨wipe_set (by simpa [tgtIn] using ht), q⟩
  | tp ts =>
    obtain ⟨ad, xs, e, s, hl, q⟩ := q
    exact ⟨ad, xs, e, s, hl, gNames_wipe ht q⟩

/-! ### a comprehension -/
def tWith (K : Fr) (w : WE) : TT := liftT K w
theorem lc_ok {k : M.Itk} {wsrc : WA} {wif : WE} {welt : WE} {t : M.Tgt} {own : List Nat} {Q : VK} (ht : tgtIn own t = true)
    (q : lift K (fun σ h Q => wsrc σ h fun ds h1 => M.walk k ds h1 fun xs ok =>
      M.compW xs ok (fun x h2 yes no => match M.setT t x (M.forget σ own) with
        | some σ' => wif σ' h2 fun c h3 => match c with
          | .bl true => welt σ' h3 yes
          | .bl false => no h3
          | _ => False
        | none => False) (fun acc h2 => ∀ r, h2 r = none → Q (.ref r) (M.up h2 r (.lst acc))) h1) σ H Q) :
    tLc (liftI K k wsrc) (gOf K t) (liftT K wif) (lift K welt) own σ H Q := by
  obtain ⟨σa, h, Qa, rs, rh, q, kk⟩ := q
  have hl := line_eq
  refine ⟨σa, h, _, rs, rh, q, fun ds h1 q1 => ⟨_, q1, fun xs ok J H1 cw f1 rh1 wk => ?_⟩⟩
  intro D hD
  obtain ⟨P, p0, pok, hz, step, done⟩ := cw
  have rs1 := rs.kp (f1.kp rh)
  have kp0 : Kp H1 (upd H1 D (.lst [])) := kp_new hD
  have hD1 : h1 D = none := rh1.none hD
  -- the invariant: the new list is hidden
  let W : Nat → Nat → Hp → Prop := fun i m H' => m = xs.length - i ∧ i ≤ xs.length ∧ ∃ h' acc av, RH K H' h' ∧ Frm (upd H1 D (.lst [])) h1 (upd H' D (.lst [])) h' ∧ H' D = some (.lst av) ∧ h' D = none ∧ Reps K H' acc av ∧ P i acc h'
  have kpW : ∀ {H' : Hp} {h' : M.AH} {av : List V}, Frm (upd H1 D (.lst [])) h1 (upd H' D (.lst [])) h' → RH K (upd H1 D (.lst [])) h1 → Kp H1 H' := fun {H' h' av} f r => by
    refine ⟨fun ad vs e => ?_, fun ad ob u e => ?_⟩
    · have ne := ne_of_none e hD
      have := (f.kp r).1 ad vs (by rw [upd_ne ne]; exact e)
      rw [upd_ne ne] at this; exact this
    · have ne := ne_of_none e hD
      have := (f.kp r).2 ad ob u (by rw [upd_ne ne]; exact e)
      rw [upd_ne ne] at this; exact this
  have rh1' : RH K (upd H1 D (.lst [])) h1 := rh_hid rh1 hD
  refine ⟨W, ⟨xs.length, by simp, Nat.zero_le _, h1, [], [], rh1', by rw [upd_upd]; exact .refl, upd_same, hD1, rfl, p0⟩, ?_⟩
  rintro i m H' ⟨rfl, hi, h', acc, av, rh', f', hDv, hDn, ra, p⟩
  obtain ⟨hok, hacc⟩ := pok i acc h' p
  have kp' : Kp H1 H' := kpW (av := av) f' rh1'
  obtain ⟨wg, ws, wy⟩ := wk i H' h' kp' rh' hok
  have frmBack : ∀ {H2 : Hp} {h2 : M.AH}, Frm H' h' H2 h2 → Frm (upd H1 D (.lst [])) h1 (upd H2 D (.lst [])) h2 := fun {H2 h2} f2 ad o e n => by
    obtain ⟨e1, n1⟩ := f' ad o e n
    by_cases z : ad = D
    · subst z
      obtain ⟨_, n2⟩ := f2 ad _ hDv hDn
      rw [upd_same] at e1
      exact ⟨by rw [upd_same]; exact e1, n2⟩
    · rw [upd_ne z] at e1 ⊢
      exact f2 ad o e1 n1
  by_cases hlt : i < xs.length
  · refine .inr ⟨wg hlt, fun H2 => W (i + 1) (xs.length - (i + 1)) H2, fun H2 hw => ⟨_, by omega, hw⟩, fun x H2 y => ?_⟩
    obtain ⟨rx, f2, rh2⟩ := wy x H2 y _ (List.getElem?_eq_getElem hlt)
    have sp := step i _ acc h' (List.getElem?_eq_getElem hlt) p
    dsimp only at sp
    cases e : M.setT t xs[i] (M.forget σa own) with
    | none => rw [e] at sp; exact sp.elim
    | some σb =>
      rw [e] at sp
      have rsw : RS K H2 (wipe σ own) (M.forget σa own) := wipe_rs ((rs1.kp kp').kp (f2.kp rh')) own
      have g := setT_ok (Q := fun σ2 H3 => H3 = H2 ∧ RS K H2 σ2 σb) e rsw rx fun σ' r' => ⟨rfl, r'⟩
      have g2 := gOf_wipe ht g
      have gmono : ∀ {Q1 Q2 : L2.St → Hp → Prop} {τ : L2.St} {v : V}, (∀ s Hh, Q1 s Hh → Q2 s Hh) → gOf K t v τ H2 Q1 → gOf K t v τ H2 Q2 := by
        intro Q1 Q2 τ v imp g
        have gn : ∀ {is : List Nat} {vs : List V} {τ : L2.St}, gNames is vs τ H2 Q1 → gNames is vs τ H2 Q2 := by
          intro is
          induction is with
          | nil => intro vs τ ⟨e, q⟩; exact ⟨e, imp _ _ q⟩
          | cons j js ih => intro vs τ ⟨v, r, e, q⟩; exact ⟨v, r, e, ih q⟩
        cases t with
        | nm j => exact imp _ _ g
        | tp ts => obtain ⟨ad, ys, e1, e2, e3, g⟩ := g; exact ⟨ad, ys, e1, e2, e3, gn g⟩
      refine gmono ?_ g2
      rintro σ2 H3 ⟨wp, rfl, rsb⟩
      refine ⟨wp.trans wipe_wipe, ?_⟩
      refine ⟨σb, h', _, rsb, rh2, sp, fun c h3 q3 => ?_⟩
      have fD : ∀ {H4 : Hp} {h4 : M.AH}, Frm H3 h' H4 h4 → Frm H' h' H4 h4 := fun f4 => f2.trans f4
      cases c with
      | bl b =>
        refine ⟨b, rfl, fun H4 f4 rh4 => ?_⟩
        cases b with
        | true =>
          rw [if_pos rfl]
          refine lift_go (rsb.kp (f4.kp rh2)) rh4 q3 fun d h5 v H5 q5 f5 r5 rh5 _ => ?_
          have ft := (fD f4).trans f5
          obtain ⟨e5, n5⟩ := ft D _ hDv hDn
          have ra5 := ra.kp (ft.kp rh')
          have ln := ra.length
          refine ⟨av, e5, by omega, rfl, by omega, h5, acc ++ [d], av ++ [v], ?_, ?_, upd_same, n5, ?_, q5⟩
          · refine fun ad o ea => (rh5 ad o ea).kp ?_ ?_
            · refine ⟨fun ad vs e => ?_, fun ad ob u e => ?_⟩
              · rw [upd_ne (fun z => by subst z; rw [e5] at e; cases e)]; exact e
              · rw [upd_ne (fun z => by subst z; rw [e5] at e; cases e)]; exact e
            · exact upd_ne (fun z => by subst z; rw [n5] at ea; cases ea)
          · rw [upd_upd]; exact frmBack ft
          · have kp5 : Kp H5 (upd H5 D (.lst (av ++ [v]))) := by
              refine ⟨fun ad vs e => ?_, fun ad ob u e => ?_⟩
              · rw [upd_ne (fun z => by subst z; rw [e5] at e; cases e)]; exact e
              · rw [upd_ne (fun z => by subst z; rw [e5] at e; cases e)]; exact e
            exact (ra5.append (.one r5)).kp kp5
        | false =>
          rw [if_neg Bool.false_ne_true]
          have ft := fD f4
          obtain ⟨e4, n4⟩ := ft D _ hDv hDn
          exact ⟨rfl, by omega, h3, acc, av, rh4, frmBack ft, e4, n4, ra.kp (ft.kp rh'), q3⟩
      | _ => exact q3.elim
  · have e : i = xs.length := by omega
    subst e
    refine .inl ⟨ws (Nat.le_refl _), ?_⟩
    have dn := done acc h' p D hDn
    refine kk _ _ _ _ dn (fun ad o e n => ?_) rfl (fun ad o e => ?_)
    · obtain ⟨e1, n1⟩ := f1 ad o e n
      have ne := ne_of_none e1 hD
      obtain ⟨e2, n2⟩ := f' ad o (by rw [upd_ne ne]; exact e1) n1
      rw [upd_ne ne] at e2
      exact ⟨e2, by rw [up_ne ne]; exact n2⟩
    · by_cases z : ad = D
      · subst z
        rw [up_same] at e
        cases e
        exact ⟨av, hDv, ra⟩
      · rw [up_ne z] at e
        exact rh' ad o e

/-! ### statements -/
structure KontS (K : Fr) (H : Hp) (h : M.AH) (R : M.Ends) (D : L2.Ends) : Prop where
  nx : ∀ σa h' σ H', R.nx σa h' → Frm H h H' h' → RS K H' σ σa → RH K H' h' → D.nx σ H'
  rt : Kont K H h R.rt D.rt
  bk : ∀ σa h' σ H', R.bk σa h' → Frm H h H' h' → RS K H' σ σa → RH K H' h' → D.bk σ H'
  ct : ∀ σa h' σ H', R.ct σa h' → Frm H h H' h' → RS K H' σ σa → RH K H' h' → D.ct σ H'
theorem KontS.go {R : M.Ends} {D : L2.Ends} (k : KontS K H h R D) (f : Frm H h H1 h1) : KontS K H1 h1 R D :=
  ⟨fun σa h' σ H' q f' => k.nx σa h' σ H' q (f.trans f'), k.rt.go f, fun σa h' σ H' q f' => k.bk σa h' σ H' q (f.trans f'), fun σa h' σ H' q f' => k.ct σa h' σ H' q (f.trans f')⟩
abbrev WS := M.Ends → M.St → M.AH → Prop
def liftS (K : Fr) (w : WS) : TS := fun D σ H => ∃ σa h R, RS K H σ σa ∧ RH K H h ∧ w R σa h ∧ KontS K H h R D
theorem _root_.L2.PS.imp {X : L2.Cx} {e : Stmt} {t t' : TS} (a : PS X e t) (i : ∀ D σ H, t' D σ H → t D σ H) : PS X e t' := ⟨fun pins s σ H D I h => a.run pins s σ H D I (i D σ H h)⟩
theorem _root_.L2.PSs.imp {X : L2.Cx} {e : List Stmt} {t t' : TS} (a : PSs X e t) (i : ∀ D σ H, t' D σ H → t D σ H) : PSs X e t' := ⟨fun pins s σ H D I h => a.run pins s σ H D I (i D σ H h)⟩
variable {st : Stmt} {ss : List Stmt} {ws ws2 : WS}
theorem liftS_go {R : M.Ends} {D : L2.Ends} (rs : RS K H σ σa) (rh : RH K H h) (q : ws R σa h) (k : KontS K H h R D) : liftS K ws D σ H := ⟨σa, h, R, rs, rh, q, k⟩
theorem ss_nil : PSs X [] (liftS X.K fun R σ h => R.nx σ h) := pss_nil.imp fun D σ H ⟨σa, h, R, rs, rh, q, k⟩ => k.nx _ _ _ _ q .refl rs rh
theorem ss_cons (h1 : PS X st (liftS X.K ws)) (h2 : PSs X ss (liftS X.K ws2)) : PSs X (st :: ss) (liftS X.K fun R σ h => ws { R with nx := fun σ' h' => ws2 R σ' h' } σ h) := by
  refine (pss_cons h1 h2).imp fun D σ H ⟨σa, h, R, rs, rh, q, k⟩ => ?_
  exact liftS_go rs rh q ⟨fun σb h' σ' H' q' f rs' rh' => liftS_go rs' rh' q' (k.go f), k.rt, k.bk, k.ct⟩
theorem ss_pass : PS X (.Pass pos) (liftS X.K fun R σ h => R.nx σ h) := ps_pass.imp fun D σ H ⟨σa, h, R, rs, rh, q, k⟩ => k.nx _ _ _ _ q .refl rs rh
theorem ss_brk : PS X (.Break pos) (liftS X.K fun R σ h => R.bk σ h) := ps_break.imp fun D σ H ⟨σa, h, R, rs, rh, q, k⟩ => k.bk _ _ _ _ q .refl rs rh
theorem ss_cont : PS X (.Continue pos) (liftS X.K fun R σ h => R.ct σ h) := ps_continue.imp fun D σ H ⟨σa, h, R, rs, rh, q, k⟩ => k.ct _ _ _ _ q .refl rs rh
theorem ss_expr (hs : swapsWith e none pos.line X.env = pure false) (he : PE X e (lift X.K w)) : PS X (.Expr e pos) (liftS X.K fun R σ h => w σ h fun _ h1 => R.nx σ h1) := by
  refine (ps_expr he hs).imp fun D σ H ⟨σa, h, R, rs, rh, q, k⟩ => ?_
  exact lift_go rs rh q fun d h1 v H1 q1 f1 r1 rh1 rs1 => k.nx _ _ _ _ q1 f1 rs1 rh1
theorem ss_ret (he : PE X e (lift X.K w)) : PS X (.Return (some e) pos) (liftS X.K fun R σ h => w σ h R.rt) := by
  refine (ps_ret he).imp fun D σ H ⟨σa, h, R, rs, rh, q, k⟩ => ?_
  exact lift_go rs rh q fun d h1 v H1 q1 f1 r1 rh1 rs1 => k.rt _ _ _ _ q1 f1 r1 rh1
theorem ss_retN : PS X (.Return none pos) (liftS X.K fun R σ h => R.rt .non h) := ps_retN.imp fun D σ H ⟨σa, h, R, rs, rh, q, k⟩ => k.rt _ _ _ _ q .refl rfl rh
theorem ss_ife {ls rs' : List Stmt} (hc : PT X c (liftT X.K wc)) (ha : PSs X ls (liftS X.K ws)) (hb : PSs X rs' (liftS X.K ws2)) : PS X (.If c ls rs' pos) (liftS X.K fun R σ h => wc σ h fun d h1 => match d with
    | .bl b => (match b with
      | true => ws R σ h1
      | false => ws2 R σ h1)
    | _ => False) := by
  refine (ps_if hc ha hb).imp fun D σ H ⟨σa, h, R, rs, rh, q, k⟩ => ?_
  refine ⟨σa, h, _, rs, rh, q, fun d h' q1 => ?_⟩
  cases d with
  | bl b =>
    refine ⟨b, rfl, fun H' f rh' => ?_⟩
    cases b with
    | true => exact liftS_go (rs.kp (f.kp rh)) rh' q1 (k.go f)
    | false => exact liftS_go (rs.kp (f.kp rh)) rh' q1 (k.go f)
  | _ => exact q1.elim
theorem ss_whl (hp : PassesOwn (model X.prog X.w) X.A X.env X.xe) (hc : PT X c (liftT X.K wc)) (hb : PSs X ss (liftS X.K ws)) : PS X (.While c ss [] pos) (liftS X.K fun R σ h => ∃ W : Nat → M.St → M.AH → Prop, (∃ m, W m σ h) ∧ ∀ m σ h, W m σ h → wc σ h fun d h1 => match d with
    | .bl b => (match b with
      | true => ws { nx := fun σ' h' => ∃ m', m' < m ∧ W m' σ' h', ct := fun σ' h' => ∃ m', m' < m ∧ W m' σ' h', bk := R.nx, rt := R.rt } σ h1
      | false => R.nx σ h1)
    | _ => False) := by
  refine (ps_while hp hc hb).imp fun D σ H ⟨σa, h, R, rs, rh, ⟨W, ⟨m, w0⟩, step⟩, k⟩ => ?_
  refine ⟨fun m σ H' => ∃ σa h', RS X.K H' σ σa ∧ RH X.K H' h' ∧ Frm H h H' h' ∧ W m σa h', ⟨m, σa, h, rs, rh, .refl, w0⟩, ?_⟩
  rintro m σ H' ⟨σa, h', rs, rh, f, w⟩
  refine ⟨σa, h', _, rs, rh, step m σa h' w, fun d h1 q1 => ?_⟩
  cases d with
  | bl b =>
    refine ⟨b, rfl, fun H1 f1 rh1 => ?_⟩
    have rs1 := rs.kp (f1.kp rh)
    cases b with
    | true =>
      refine iteT ?_
      refine ⟨fun σ2 H2 => ∃ m', m' < m ∧ ∃ σa h', RS X.K H2 σ2 σa ∧ RH X.K H2 h' ∧ Frm H h H2 h' ∧ W m' σa h', fun σ2 H2 z => z, ?_⟩
      refine liftS_go rs1 rh1 q1 ⟨?_, k.rt.go (f.trans f1), ?_, ?_⟩
      · rintro σb h2 σ2 H2 ⟨m', hm, w'⟩ f2 rs2 rh2
        exact ⟨m', hm, σb, h2, rs2, rh2, (f.trans f1).trans f2, w'⟩
      · intro σb h2 σ2 H2 z f2 rs2 rh2
        exact k.nx _ _ _ _ z ((f.trans f1).trans f2) rs2 rh2
      · rintro σb h2 σ2 H2 ⟨m', hm, w'⟩ f2 rs2 rh2
        exact ⟨m', hm, σb, h2, rs2, rh2, (f.trans f1).trans f2, w'⟩
    | false =>
      refine iteF ?_
      exact k.nx _ _ _ _ q1 (f.trans f1) rs1 rh1
  | _ => exact q1.elim
theorem gOf_mono {t : M.Tgt} {Q1 Q2 : L2.St → Hp → Prop} {τ : L2.St} {v : V} (imp : ∀ s, Q1 s H → Q2 s H) (g : gOf K t v τ H Q1) : gOf K t v τ H Q2 := by
  have gn : ∀ {is : List Nat} {vs : List V} {τ : L2.St}, gNames is vs τ H Q1 → gNames is vs τ H Q2 := by
    intro is
    induction is with
    | nil => intro vs τ ⟨e, q⟩; exact ⟨e, imp _ q⟩
    | cons j js ih => intro vs τ ⟨v, r, e, q⟩; exact ⟨v, r, e, ih q⟩
  cases t with
  | nm j => exact imp _ g
  | tp ts => obtain ⟨ad, ys, e1, e2, e3, g⟩ := g; exact ⟨ad, ys, e1, e2, e3, gn g⟩
theorem ss_for {k : M.Itk} {t : M.Tgt} {wsrc : WA} {iter : Expr} (hp : PassesOwn (model X.prog X.w) X.A X.env X.xe) (hcalm : X.calm = true) (hi : PI X tg iter (liftI X.K k wsrc)) (hg : PG X tg (gOf X.K t)) (hb : PSs X ss (liftS X.K ws)) (hs : ∀ x, foldedSetIterable iter X.env x = pure x) :
    PS X (.For tg iter ss [] pos) (liftS X.K fun R σ h => wsrc σ h fun ds h1 => M.walk k ds h1 fun xs ok =>
      M.loopW xs ok (fun x σ h P => match M.setT t x σ with
        | some σ' => ws { nx := P, ct := P, bk := R.nx, rt := R.rt } σ' h
        | none => False) R.nx σ h1) := by
  refine (ps_for hp hcalm hi hg hb hs).imp fun D σ H ⟨σa, h, R, rs, rh, q, kk⟩ => ?_
  refine ⟨σa, h, _, rs, rh, q, fun ds h1 q1 => ⟨_, q1, fun xs ok J H1 lw f1 rh1 wk => ?_⟩⟩
  obtain ⟨P, p0, pok, step, done⟩ := lw
  let W : Nat → Nat → L2.St → Hp → Prop := fun i m σ2 H' => m = xs.length - i ∧ i ≤ xs.length ∧ ∃ σb h', RS X.K H' σ2 σb ∧ RH X.K H' h' ∧ Frm H1 h1 H' h' ∧ P i σb h'
  refine ⟨W, ⟨xs.length, by simp, Nat.zero_le _, σa, h1, rs.kp (f1.kp rh), rh1, .refl, p0⟩, ?_⟩
  rintro i m σ2 H' ⟨rfl, hi, σb, h', rs2, rh2, f2, p⟩
  have hok := pok i σb h' p
  obtain ⟨wg, wst, wy⟩ := wk i H' h' (f2.kp rh1) rh2 hok
  by_cases hlt : i < xs.length
  · refine .inr ⟨wg hlt, fun σ3 H3 => W (i + 1) (xs.length - (i + 1)) σ3 H3, fun σ3 H3 z => ⟨_, by omega, z⟩, fun x H3 y => ?_⟩
    obtain ⟨rx, f3, rh3⟩ := wy x H3 y _ (List.getElem?_eq_getElem hlt)
    have sp := step i _ σb h' (List.getElem?_eq_getElem hlt) p
    dsimp only at sp
    cases e : M.setT t xs[i] σb with
    | none => rw [e] at sp; exact sp.elim
    | some σc =>
      rw [e] at sp
      have rs3 := rs2.kp (f3.kp rh2)
      refine setT_ok e rs3 rx fun σ4 rs4 => ?_
      have ft := (f1.trans f2).trans f3
      refine liftS_go rs4 rh3 sp ⟨?_, kk.rt.go ft, ?_, ?_⟩
      · intro σd h4 σ5 H5 z f5 rs5 rh5
        exact ⟨rfl, by omega, σd, h4, rs5, rh5, (f2.trans f3).trans f5, z⟩
      · intro σd h4 σ5 H5 z f5 rs5 rh5
        exact kk.nx _ _ _ _ z (ft.trans f5) rs5 rh5
      · intro σd h4 σ5 H5 z f5 rs5 rh5
        exact ⟨rfl, by omega, σd, h4, rs5, rh5, (f2.trans f3).trans f5, z⟩
  · have e : i = xs.length := by omega
    subst e
    exact .inl ⟨wst (Nat.le_refl _), kk.nx _ _ _ _ (done _ _ p) (f1.trans f2) rs2 rh2⟩
theorem ss_asg {t : M.Tgt} (he : PE X e (lift X.K w)) (hg : PG X tg (gOf X.K t)) (hs : swapsWithSole [tg] e pos.line X.env = pure false) (hw : swappedStores [tg] e X.env = pure none) (h1 : (assignEach [tg] X.env).map (·.2) = [assign tg X.env]) :
    PS X (.Assign [tg] e pos) (liftS X.K fun R σ h => w σ h fun d h1 => match M.setT t d σ with | some σ' => R.nx σ' h1 | none => False) := by
  refine (ps_asg he hg hs hw h1).imp fun D σ H ⟨σa, h, R, rs, rh, q, k⟩ => ?_
  refine lift_go rs rh q fun d h1 v H1 q1 f1 r1 rh1 rs1 => ?_
  cases e1 : M.setT t d σa with
  | none => rw [e1] at q1; exact q1.elim
  | some σb =>
    rw [e1] at q1
    exact setT_ok e1 rs1 r1 fun σ' rs' => k.nx _ _ _ _ q1 f1 rs' rh1
theorem ss_six {o i : Expr} {wo wi : WE} {p' : Pos} (hu : X.A.units + 200 < cLine) (he : PE X e (lift X.K w)) (ho : PE X o (lift X.K wo)) (hi : PE X i (lift X.K wi))
    (ha : ∀ v, assign (.Subscript o i p') X.env v = (do
      let ov ← holding [v] (eval o X.env)
      let iv ← holding [v, ov] (eval i X.env)
      standAt p'
      holding [v, ov, iv] (setItem ov iv v)
      release [v, ov, iv] [])) (hs : swapsWithSole [.Subscript o i p'] e pos.line X.env = pure false) (hw : swappedStores [.Subscript o i p'] e X.env = pure none) (h1 : (assignEach [.Subscript o i p'] X.env).map (·.2) = [assign (.Subscript o i p') X.env]) :
    PS X (.Assign [.Subscript o i p'] e pos) (liftS X.K fun R σ h => w σ h fun v h1 => wo σ h1 fun x h2 => wi σ h2 fun y h3 => M.opSet x y v h3 fun h4 => R.nx σ h4) := by
  refine (ps_asg he (pg_sub ho hi (set_all (by omega)) ha) hs hw h1).imp fun D σ H ⟨σa, h, R, rs, rh, q, k⟩ => ?_
  refine lift_go rs rh q fun dv h1 v H1 q1 f1 r1 rh1 rs1 => lift_go rs1 rh1 q1 fun dx h2 x H2 q2 f2 r2 rh2 rs2 => lift_go rs2 rh2 q2 fun dy h3 y H3 q3 f3 r3 rh3 rs3 => ?_
  refine set_ok rh3 (r2.kp (f3.kp rh2)) r3 ((r1.kp (f2.kp rh1)).kp (f3.kp rh2)) q3 fun h4 H4 q4 f4 rh4 => ?_
  exact k.nx _ _ _ _ q4 (((f1.trans f2).trans f3).trans f4) (rs3.kp (f4.kp rh3)) rh4
def iop : M.Bop → Operator := bop
theorem op_iadd : OpR X (inplaceOp .Add) (fun x y H Q => (rI0 fun i j => .int (i + j)) x y H Q ∨ rAddS x y H Q) := iop_add.or iop_add_str
end
end Snd
end
section
/-! Sound7: the IR against the text, and the whole. -/
namespace Snd
open PySem L2 PySem.Spec PyProof.Rows

def visB (sc : Scope) (x : Str) : Bool := match sc.names.lookup x with
  | some .local => true | some .cell => true | some .free => true | _ => false
def locB (s0 : Scope) (x : Str) : Bool := match s0.names.lookup x with
  | some .local => true | some .cell => true | _ => false
def glB (sc : Scope) (x : Str) : Bool := match sc.names.lookup x with
  | some .globalImplicit => true | _ => false
def plainN (x : Str) : Bool := !(x == ("__debug__" : Str)) && !(x == ("__classdict__" : Str))
def opB (o : M.Bop) : Operator → Bool
  | .Add => (match o with | .add => true | _ => false)
  | .Sub => (match o with | .sub => true | _ => false)
  | .Mult => (match o with | .mul => true | _ => false)
  | .Mod => (match o with | .mod => true | _ => false)
  | .FloorDiv => (match o with | .fdiv => true | _ => false)
  | .Pow => (match o with | .pow => true | _ => false)
  | _ => false
theorem opB_eq {o : M.Bop} {p : Operator} (h : opB o p = true) : p = bop o := by cases p <;> cases o <;> first | rfl | cases h
def copB (o : M.Cop) : CmpOp → Bool
  | .Eq => (match o with | .eq => true | _ => false)
  | .NotEq => (match o with | .ne => true | _ => false)
  | .Lt => (match o with | .lt => true | _ => false)
  | .LtE => (match o with | .le => true | _ => false)
  | .Gt => (match o with | .gt => true | _ => false)
  | .GtE => (match o with | .ge => true | _ => false)
  | .In => (match o with | .isin => true | _ => false)
  | .NotIn => (match o with | .notin => true | _ => false)
  | .Is => (match o with | .is_ => true | _ => false)
  | .IsNot => (match o with | .isnt => true | _ => false)
theorem copB_eq {o : M.Cop} {p : CmpOp} (h : copB o p = true) : p = cop o := by cases p <;> cases o <;> first | rfl | cases h
def bltB (bn : List Str) (sc : Scope) (b : M.Blt) (x : Str) : Bool := match bltK b with
  | some bk => decide (x = bk.name) && bn.contains x && glB sc x
  | none => false
def mthB (m : M.Mth) (x : Str) : Bool := match mthT m with
  | some (_, _, nm) => decide (x = nm)
  | none => false
/-- not a call without arguments: super() is one -/
def recvB : Expr → Bool
  | .Call _ [] _ _ => false
  | _ => true
def ownB (N : List Str) : List Nat → Option (List (Str × Nat))
  | [] => some []
  | i :: is => match N[i]?, ownB N is with
    | some x, some r => some ((x, i) :: r)
    | _, _ => none
theorem ownB_map {N : List Str} : ∀ {is : List Nat} {r : List (Str × Nat)}, ownB N is = some r → r.map (·.2) = is
  | [], r, e => by simp only [ownB, Option.some.injEq] at e; subst e; rfl
  | i :: is, r, e => by
    simp only [ownB] at e
    cases e1 : N[i]? <;> cases e2 : ownB N is <;> simp [e1, e2] at e
    subst e
    simp [ownB_map e2]
def nmB (N : List Str) (s0 : Scope) (i : Nat) : Expr → Bool
  | .Name x _ => decide (N[i]? = some x) && locB s0 x
  | _ => false
def nmsB (N : List Str) (s0 : Scope) : List Nat → List Expr → Bool
  | [], [] => true
  | i :: is, e :: es => nmB N s0 i e && nmsB N s0 is es
  | _, _ => false
def tgB (N : List Str) (s0 : Scope) : M.Tgt → Expr → Bool
  | .nm i, e => nmB N s0 i e
  | .tp ts, .Tuple es _ _ => nmsB N s0 ts es
  | _, _ => false
def chrB (s : M.Sx) : Bool := s.all fun c => decide (c < 0x110000)
def smallB (n : Nat) : Bool := decide (n < 20)

/-- the def's names by slot, the built-in names that stand free, the program's defs -/
structure Tb where
  N : List Str
  bn : List Str
  fs : List M.Sx
mutual
def mtE (T : Tb) : Scope → Scope → M.E → Expr → Bool
  | sc, s0, .var i, e => (match e with
    | .Name x _ => decide (T.N[i]? = some x) && visB sc x && plainN x
    | _ => false)
  | sc, s0, .int n, e => (match e with
    | .Constant (.int m) _ _ => decide (m = n)
    | _ => false)
  | sc, s0, .str s, e => (match e with
    | .Constant (.str x) _ _ => decide (x = sV s) && chrB s
    | _ => false)
  | sc, s0, .bl b, e => (match e with
    | .Constant (.bool c) _ _ => b == c
    | _ => false)
  | sc, s0, .non, e => (match e with
    | .Constant .none _ _ => true
    | _ => false)
  | sc, s0, .gint _ _, e => false
  | sc, s0, .gstr _ _, e => false
  | sc, s0, .tup es, e => (match e with
    | .Tuple l _ _ => mtEs T sc s0 es l
    | _ => false)
  | sc, s0, .lst es, e => (match e with
    | .List l _ => mtEs T sc s0 es l
    | _ => false)
  | sc, s0, .dct k es, e => (match e with
    | .Dict [] [] _ => (match k, es with
      | 0, .nil => true
      | _, _ => false)
    | _ => false)
  | sc, s0, .bin o a b, e => (match e with
    | .BinOp l op r _ => opB o op && mtE T sc s0 a l && mtE T sc s0 b r
    | _ => false)
  | sc, s0, .neg a, e => (match e with
    | .UnaryOp .USub x _ => mtE T sc s0 a x
    | _ => false)
  | sc, s0, .cmp o a b, e => (match e with
    | .Compare l [op] [r] _ => copB o op && mtE T sc s0 a l && mtE T sc s0 b r
    | _ => false)
  | sc, s0, .chn o o' a b c, e => (match e with
    | .Compare l [op, op'] [r, r'] _ => copB o op && copB o' op' && mtE T sc s0 a l && mtE T sc s0 b r && mtE T sc s0 c r'
    | _ => false)
  | sc, s0, .bop k es, e => (match e with
    | .BoolOp .And (x :: l) _ => k && mtEs T sc s0 es (x :: l) && testsB (x :: l)
    | .BoolOp .Or (x :: l) _ => !k && mtEs T sc s0 es (x :: l) && testsB (x :: l)
    | _ => false)
  | sc, s0, .not a, e => (match e with
    | .UnaryOp .Not x _ => mtE T sc s0 a x && testB x
    | _ => false)
  | sc, s0, .ite c a b, e => (match e with
    | .IfExp t l r _ => mtE T sc s0 c t && testB t && mtE T sc s0 a l && mtE T sc s0 b r
    | _ => false)
  | sc, s0, .ix a i, e => (match e with
    | .Subscript x j _ => mtE T sc s0 a x && mtE T sc s0 i j
    | _ => false)
  | sc, s0, .sl a lo hi, e => (match e with
    | .Subscript x (.Slice l u none _) _ => mtE T sc s0 a x && mtO T sc s0 lo l && mtO T sc s0 hi u
    | _ => false)
  | sc, s0, .call f es, e => (match e with
    | .Call (.Name x _) l [] _ => decide (x = sV f) && T.fs.contains f && glB sc x && plainN x && mtEs T sc s0 es l
    | _ => false)
  | sc, s0, .blt b es, e => (match e with
    | .Call (.Name x _) (y :: l) [] _ => bltB T.bn sc b x && mtEs T sc s0 es (y :: l)
    | _ => false)
  | sc, s0, .isi a t, e => (match e with
    | .Call (.Name x _) [y, .Name z _] [] _ => decide (x = ("isinstance" : Str)) && T.bn.contains x && glB sc x && decide (z = Str.ofString (tyS t)) && T.bn.contains z && glB sc z && mtE T sc s0 a y
    | _ => false)
  | sc, s0, .mth m o es, e => (match e with
    | .Call (.Attribute x nm apos) l [] pos => mthB m nm && (apos.endLine == pos.line) && recvB x && mtE T sc s0 o x && mtEs T sc s0 es l && smallB l.length
    | _ => false)
  | sc, s0, .lc elt t own k src ifs, e => (match e with
    | .ListComp x [⟨tg, it, cs, a⟩] scope _ => decide (a = 0) && tgtIn own t && tgB T.N scope t tg && mtI T sc s0 k src it && tupK k t && compsB T.N sc scope own &&
        mtEs T (relS scope sc) scope ifs cs && testsB cs && decide (cs.length < 2) && mtE T (relS scope sc) scope elt x
    | _ => false)
def mtEs (T : Tb) : Scope → Scope → M.Es → List Expr → Bool
  | sc, s0, .nil, l => l.isEmpty
  | sc, s0, .cons e es, l => (match l with
    | x :: r => mtE T sc s0 e x && mtEs T sc s0 es r
    | [] => false)
def mtO (T : Tb) : Scope → Scope → M.Es → Option Expr → Bool
  | sc, s0, .nil, o => o.isNone
  | sc, s0, .cons e es, o => (match o with
    | some x => mtE T sc s0 e x && (match es with
      | .nil => true
      | _ => false)
    | none => false)
def mtI (T : Tb) : Scope → Scope → M.Itk → M.Es → Expr → Bool
  | sc, s0, k, .nil, e => false
  | sc, s0, k, .cons a r, e => (match k with
    | .seq => mtE T sc s0 a e && (match r with
      | .nil => true
      | _ => false)
    | .rng => (match e with
      | .Call (.Name x _) (y :: l) [] _ => decide (x = ("range" : Str)) && T.bn.contains x && glB sc x && mtE T sc s0 a y && mtEs T sc s0 r l && decide (l.length < 2)
      | _ => false)
    | .enum => (match e with
      | .Call (.Name x _) [y] [] _ => decide (x = ("enumerate" : Str)) && T.bn.contains x && glB sc x && mtE T sc s0 a y && (match r with
        | .nil => true
        | _ => false)
      | _ => false)
    | _ => false)
def testB : Expr → Bool
  | .IfExp .. => false
  | _ => true
def testsB : List Expr → Bool
  | [] => true
  | e :: es => testB e && testsB es
/-- enumerate and its like give pairs to a pair of names -/
def tupK : M.Itk → M.Tgt → Bool
  | .enum, .tp _ => true
  | .enum, _ => false
  | _, _ => true
def compsB (N : List Str) (sc scope : Scope) (own : List Nat) : Bool := match ownB N own with
  | some r => blkC N sc scope r
  | none => false
end

/-! ### what a matched expression is not -/
def okX : Expr → Bool
  | .Starred .. => false
  | .Slice .. => false
  | .Set .. => false
  | _ => true
theorem ok_mt {T : Tb} {sc s0 : Scope} {ir : M.E} {e : Expr} (h : mtE T sc s0 ir e = true) : okX e = true := by
  cases e <;> first | rfl | (cases ir <;> first | (exact absurd h (by simp [mtE])))
section
variable {e : Expr} {es : List Expr} {env : Env}
theorem ok_star (h : okX e = true) : starEach (e :: es) env = (false, eval e env) :: starEach es env := by cases e <;> first | rfl | cases h
theorem ok_ix (h : okX e = true) : PlainIx e := by intro o i; cases e <;> first | rfl | cases h
theorem ok_behind (h : okX e = true) {op : CmpOp} : behindInMarks op e = false := by cases e <;> first | rfl | cases h
theorem ok_fold (h : okX e = true) {x : Value} : foldedSetIterable e env x = pure x := by cases e <;> first | rfl | cases h
theorem ok_base (h : recvB e = true) {nm : Str} : attributeBase e nm env (eval e env) = eval e env := by
  cases e <;> try rfl
  rename_i f as kw p
  cases as with
  | nil => cases h
  | cons a as => cases f <;> rfl
end
end Snd
end
section
/-! Sound8: what the IR says of a text holds of the model's run of it. -/
namespace Snd
open PySem L2 PySem.Spec PyProof.Rows

/-- the context in which a matched text runs -/
structure XOk (P : M.Prog) (n : Nat) (T : Tb) (sc s0 : Scope) (X : L2.Cx) : Prop where
  eN : X.N = T.N
  nd : X.N.Nodup
  eS : X.env.scope = sc
  st : ∀ x, locB s0 x = true → L2.Loc sc x ∧ (X.fn x = true ∨ sc.names.lookup x = some NameKind.local)
  calm : X.calm = true
  room : Room n X.A
  xe : X.xe = fun _ _ => False
  free : ∀ x ∈ T.bn, X.mg x = none
  fn : ∀ f ∈ T.fs, ∃ fa fdc ps, X.mg (sV f) = some (.ref fa) ∧ PySem.W.keepIn X.K (.ref fa) = true ∧ FnOk X.prog X.w X.K X.mg X.base CX0 n fa fdc ps (spC X.K P n f) ∧ Binds X.K fdc ps []
section
variable {P : M.Prog} {n : Nat} {T : Tb} {sc s0 : Scope} {X : L2.Cx} {xx : M.XP}
theorem XOk.units (ok : XOk P n T sc s0 X) : X.A.units + 200 < cLine := by have := ok.room.un; have : cLine = 9900 := rfl; omega
theorem ba3 {a b c : Bool} (h : (a && b && c) = true) : a = true ∧ b = true ∧ c = true := by
  obtain ⟨h1, h2⟩ := ba h
  obtain ⟨h3, h4⟩ := ba h1
  exact ⟨h3, h4, h2⟩
theorem visB_ok {x : Str} (h : visB sc x = true) : Vis sc x := by
  unfold visB at h
  split at h
  · exact .inl (by assumption)
  · exact .inr (.inl (by assumption))
  · exact .inr (.inr (by assumption))
  · cases h
theorem glB_ok (ok : XOk P n T sc s0 X) {x : Str} (h : glB sc x = true) : Gl X x := by
  unfold glB at h
  split at h
  · show X.env.scope.names.lookup x = _
    rw [ok.eS]; assumption
  · cases h
theorem nm_ok (ok : XOk P n T sc s0 X) {i : Nat} {e : Expr} (h : nmB T.N s0 i e = true) : PG X e (gName i) := by
  cases e <;> try (cases h)
  rename_i x p
  obtain ⟨h1, h2⟩ := ba h
  have e1 : X.N[i]? = some x := by rw [ok.eN]; exact of_decide_eq_true h1
  obtain ⟨l, f⟩ := ok.st x h2
  exact pg_name ok.nd e1 (by rw [ok.eS]; exact l) (by rw [ok.eS]; exact f)
theorem nm_star {i : Nat} {e : Expr} {es : List Expr} {env : Env} (h : nmB T.N s0 i e = true) : assignEach (e :: es) env = (false, assign e env) :: assignEach es env := by
  cases e <;> first | rfl | cases h
theorem nms_ok (ok : XOk P n T sc s0 X) : ∀ {is : List Nat} {es : List Expr}, nmsB T.N s0 is es = true → PGs X es (gNames is) ∧ (assignEach es X.env).length = is.length ∧ (assignEach es X.env).findIdx? (·.1) = none
  | [], [], _ => ⟨pgs_nil, rfl, rfl⟩
  | [], _ :: _, h => by cases h
  | _ :: _, [], h => by cases h
  | i :: is, e :: es, h => by
    obtain ⟨h1, h2⟩ := ba h
    obtain ⟨a, b, c⟩ := nms_ok ok h2
    have q := nm_star (es := es) (env := X.env) h1
    refine ⟨pgs_cons (nm_ok ok h1) a (by rw [q]; rfl), by rw [q]; simp [b], ?_⟩
    rw [q, List.findIdx?_cons]
    simp [c]
theorem tg_ok (ok : XOk P n T sc s0 X) {t : M.Tgt} {e : Expr} (h : tgB T.N s0 t e = true) : PG X e (gOf X.K t) := by
  cases t with
  | nm i => exact nm_ok ok h
  | tp ts =>
    cases e <;> try (cases h)
    obtain ⟨a, b, c⟩ := nms_ok ok h
    exact pg_tup ok.calm a b c
theorem blk_ok (ok : XOk P n T sc s0 X) {scope : Scope} {own : List (Str × Nat)} (hb : BlkOk T.N sc scope own) (s : Shared) (H : Hp) (C : Addr) (cl : List (Str × Addr)) (fp : List Addr) : XOk P n T (relS scope sc) scope (X.blk s H scope (compEnvC scope cl C X.env) fp) := by
  have e : (compEnvC scope cl C X.env).scope = relS scope sc := by rw [← ok.eS]; rfl
  refine ⟨ok.eN, ok.nd, e, fun x hx => ?_, ok.calm, ok.room, rfl, ok.free, ok.fn⟩
  unfold locB at hx
  have key : ∀ k, k ≠ .free → scope.names.lookup x = some k → (relS scope sc).names.lookup x = some k := fun k hk h => lookup_relS_keep hk h
  split at hx
  · rename_i h
    exact ⟨.inl (key _ (by decide) h), .inr (key _ (by decide) h)⟩
  · rename_i h
    refine ⟨.inr (key _ (by decide) h), .inl ?_⟩
    show (scope.names.lookup x == some NameKind.cell) = true
    rw [h]; rfl
  · cases hx
theorem s_bopA {es : List Expr} {e : Expr} {pos : Pos} {wa : WE} {wb : WE} (ha : PE X e (lift X.K wa)) (hb : PE X (.BoolOp .And es pos) (lift X.K wb)) (hne : es ≠ []) :
    PE X (.BoolOp .And (e :: es) pos) (lift X.K fun σ h Q => wa σ h fun d h1 => match d with
    | .bl b => (match b == true with
      | true => wb σ h1 Q
      | false => Q (.bl b) h1)
    | _ => False) := by
  obtain ⟨e2, es2, rfl⟩ : ∃ e2 es2, es = e2 :: es2 := by cases es with
    | nil => exact absurd rfl hne
    | cons a b => exact ⟨a, b, rfl⟩
  refine (pe_and ha hb).imp fun σ H Q ⟨σa, h, Qa, rs, rh, q, k⟩ => ?_
  refine lift_go rs rh q fun d h1 v H1 q1 f1 r1 rh1 rs1 => ?_
  cases d with
  | bl b =>
    cases (show v = _ from r1)
    refine ⟨b, rfl, ?_⟩
    cases b with
    | true => exact lift_go rs1 rh1 q1 fun d h2 v H2 q2 f2 r2 rh2 _ => k _ _ _ _ q2 (f1.trans f2) r2 rh2
    | false => exact (k.go f1).now rh1 q1 rfl
  | _ => exact q1.elim
theorem s_bopO {es : List Expr} {e : Expr} {pos : Pos} {wa : WE} {wb : WE} (ha : PE X e (lift X.K wa)) (hb : PE X (.BoolOp .Or es pos) (lift X.K wb)) (hne : es ≠ []) :
    PE X (.BoolOp .Or (e :: es) pos) (lift X.K fun σ h Q => wa σ h fun d h1 => match d with
    | .bl b => (match b == false with
      | true => wb σ h1 Q
      | false => Q (.bl b) h1)
    | _ => False) := by
  obtain ⟨e2, es2, rfl⟩ : ∃ e2 es2, es = e2 :: es2 := by cases es with
    | nil => exact absurd rfl hne
    | cons a b => exact ⟨a, b, rfl⟩
  refine (pe_or ha hb).imp fun σ H Q ⟨σa, h, Qa, rs, rh, q, k⟩ => ?_
  refine lift_go rs rh q fun d h1 v H1 q1 f1 r1 rh1 rs1 => ?_
  cases d with
  | bl b =>
    cases (show v = _ from r1)
    refine ⟨b, rfl, ?_⟩
    cases b with
    | false => exact lift_go rs1 rh1 q1 fun d h2 v H2 q2 f2 r2 rh2 _ => k _ _ _ _ q2 (f1.trans f2) r2 rh2
    | true => exact (k.go f1).now rh1 q1 rfl
  | _ => exact q1.elim
/-- the last of and, or -/
theorem s_bop1 {o : BoolOp} {k : Bool} {e : Expr} {pos : Pos} {wa : WE} (ha : PE X e (lift X.K wa)) :
    PE X (.BoolOp o [e] pos) (lift X.K fun σ h Q => wa σ h fun d h1 => match d with
    | .bl b => (match b == k with
      | true => Q (.bl k) h1
      | false => Q (.bl b) h1)
    | _ => False) := by
  refine (pe_one ha).imp fun σ H Q ⟨σa, h, Qa, rs, rh, q, kk⟩ => ?_
  refine lift_go rs rh q fun d h1 v H1 q1 f1 r1 rh1 rs1 => ?_
  cases d with
  | bl b =>
    refine (kk.go f1).now rh1 ?_ r1
    cases b <;> cases k <;> exact q1
  | _ => exact q1.elim
theorem w_bopA {es : List Expr} {e : Expr} {pos : Pos} {wa : WE} {wb : WE} (ha : PT X e (liftT X.K wa)) (hb : PW X (.BoolOp .And es pos) (liftT X.K wb)) (hne : es ≠ []) :
    PW X (.BoolOp .And (e :: es) pos) (liftT X.K fun σ h Q => wa σ h fun d h1 => match d with
    | .bl b => (match b == true with
      | true => wb σ h1 Q
      | false => Q (.bl b) h1)
    | _ => False) := by
  obtain ⟨e2, es2, rfl⟩ : ∃ e2 es2, es = e2 :: es2 := by cases es with
    | nil => exact absurd rfl hne
    | cons a b => exact ⟨a, b, rfl⟩
  refine (pw_and ha hb).imp fun σ H Q ⟨σa, h, Qa, rs, rh, q, k⟩ => ?_
  refine ⟨σa, h, _, rs, rh, q, fun d h1 q1 => ?_⟩
  cases d with
  | bl b =>
    refine ⟨b, rfl, fun H1 f1 rh1 => ?_⟩
    cases b with
    | true => exact iteT ⟨σa, h1, _, rs.kp (f1.kp rh), rh1, q1, fun d h2 q2 => let ⟨b, e, kk⟩ := k d h2 q2; ⟨b, e, fun H2 f2 rh2 => kk H2 (f1.trans f2) rh2⟩⟩
    | false =>
      obtain ⟨b, e, kk⟩ := k _ _ q1
      cases e
      exact iteF (kk H1 f1 rh1)
  | _ => exact q1.elim
theorem w_bopO {es : List Expr} {e : Expr} {pos : Pos} {wa : WE} {wb : WE} (ha : PT X e (liftT X.K wa)) (hb : PW X (.BoolOp .Or es pos) (liftT X.K wb)) (hne : es ≠ []) :
    PW X (.BoolOp .Or (e :: es) pos) (liftT X.K fun σ h Q => wa σ h fun d h1 => match d with
    | .bl b => (match b == false with
      | true => wb σ h1 Q
      | false => Q (.bl b) h1)
    | _ => False) := by
  obtain ⟨e2, es2, rfl⟩ : ∃ e2 es2, es = e2 :: es2 := by cases es with
    | nil => exact absurd rfl hne
    | cons a b => exact ⟨a, b, rfl⟩
  refine (pw_or ha hb).imp fun σ H Q ⟨σa, h, Qa, rs, rh, q, k⟩ => ?_
  refine ⟨σa, h, _, rs, rh, q, fun d h1 q1 => ?_⟩
  cases d with
  | bl b =>
    refine ⟨b, rfl, fun H1 f1 rh1 => ?_⟩
    cases b with
    | false => exact iteF ⟨σa, h1, _, rs.kp (f1.kp rh), rh1, q1, fun d h2 q2 => let ⟨b, e, kk⟩ := k d h2 q2; ⟨b, e, fun H2 f2 rh2 => kk H2 (f1.trans f2) rh2⟩⟩
    | true =>
      obtain ⟨b, e, kk⟩ := k _ _ q1
      cases e
      exact iteT (kk H1 f1 rh1)
  | _ => exact q1.elim
theorem w_bop1A {k : Bool} {e : Expr} {pos : Pos} {wa : WE} (ha : PT X e (liftT X.K wa)) :
    PW X (.BoolOp .And [e] pos) (liftT X.K fun σ h Q => wa σ h fun d h1 => match d with
    | .bl b => (match b == k with
      | true => Q (.bl k) h1
      | false => Q (.bl b) h1)
    | _ => False) := by
  refine (pw_and1 ha).imp fun σ H Q ⟨σa, h, Qa, rs, rh, q, kk⟩ => ?_
  refine ⟨σa, h, _, rs, rh, q, fun d h1 q1 => ?_⟩
  cases d with
  | bl b =>
    have q2 : Qa (.bl b) h1 := by cases b <;> cases k <;> exact q1
    exact kk _ _ q2
  | _ => exact q1.elim
theorem w_bop1O {k : Bool} {e : Expr} {pos : Pos} {wa : WE} (ha : PT X e (liftT X.K wa)) :
    PW X (.BoolOp .Or [e] pos) (liftT X.K fun σ h Q => wa σ h fun d h1 => match d with
    | .bl b => (match b == k with
      | true => Q (.bl k) h1
      | false => Q (.bl b) h1)
    | _ => False) := by
  refine (pw_or1 ha).imp fun σ H Q ⟨σa, h, Qa, rs, rh, q, kk⟩ => ?_
  refine ⟨σa, h, _, rs, rh, q, fun d h1 q1 => ?_⟩
  cases d with
  | bl b =>
    have q2 : Qa (.bl b) h1 := by cases b <;> cases k <;> exact q1
    exact kk _ _ q2
  | _ => exact q1.elim
end

/-- the readings of one expression, as a value and as a test -/
structure EOk (X : L2.Cx) (e : Expr) (w : WE) : Prop where
  v : PE X e (lift X.K w)
  t : testB e = true → PT X e (liftT X.K w)
structure BOk (X : L2.Cx) (k : Bool) (es : List Expr) (w : WE) : Prop where
  v : ∀ pos, PE X (.BoolOp (if k then .And else .Or) es pos) (lift X.K w)
  t : testsB es = true → ∀ pos, PW X (.BoolOp (if k then .And else .Or) es pos) (liftT X.K w)
def C (P : M.Prog) (n : Nat) (xx : M.XP) : M.Cx := ⟨M.run P n, xx⟩
section
variable {P : M.Prog} {n : Nat} {T : Tb} {xx : M.XP}
theorem call_any {sc s0 : Scope} {X : L2.Cx} (ok : XOk P n T sc s0 X) {x : Str} {p pos : Pos} {l : List Expr} {f : M.Sx} {w : WA} (hx : x = sV f) (hf : f ∈ T.fs) (hg : glB sc x = true) (hp : plainN x = true)
    (hl : ∀ e es, l = e :: es → starEach (e :: es) X.env = (false, eval e X.env) :: starEach es X.env ∧ (backTo pos (starEach es X.env)).any (·.1) = false) (ha : PA X l (liftA X.K w)) (h0 : l = [] → ∀ σ h Q, w σ h Q → Q [] h) :
    PE X (.Call (.Name x p) l [] pos) (lift X.K fun σ h Q => w σ h fun ds h1 => M.run P n f ds h1 Q xx) := by
  obtain ⟨fa, fdc, ps, h1, h2, h3, h4⟩ := ok.fn f hf
  have hdb : (x == ("__debug__" : Str)) = false := by
    obtain ⟨a, _⟩ := ba hp
    simpa using a
  have hm : X.mg x = some (.ref fa) := by rw [hx]; exact h1
  cases l with
  | nil => exact (s_call0 (xx := xx) h3 ok.room (glB_ok ok hg) hm h2 h4 hdb).imp fun σ H Q ⟨σa, h, Qa, rs, rh, q, k⟩ => ⟨σa, h, Qa, rs, rh, h0 rfl _ _ _ q, k⟩
  | cons e es =>
    obtain ⟨a, b⟩ := hl e es rfl
    exact s_call h3 ok.room (glB_ok ok hg) hm h2 h4 hdb a b ha
theorem ok_any : ∀ {l : List Expr} {pos : Pos} {env : Env}, (∀ e ∈ l, okX e = true) → (backTo pos (starEach l env)).any (·.1) = false
  | [], _, _, _ => rfl
  | e :: l, pos, env, h => by
    rw [ok_star (h e List.mem_cons_self)]
    show (false || (backTo pos (starEach l env)).any (·.1)) = false
    rw [ok_any fun e he => h e (List.mem_cons_of_mem _ he)]
    rfl
theorem oks_mt {sc s0 : Scope} : ∀ {ir : M.Es} {l : List Expr}, mtEs T sc s0 ir l = true → ∀ e ∈ l, okX e = true
  | .nil, [], _ => fun e he => nomatch he
  | .nil, _ :: _, h => by simp [mtEs] at h
  | .cons a r, [], h => by simp [mtEs] at h
  | .cons a r, x :: l, h => by
    simp only [mtEs] at h
    obtain ⟨h1, h2⟩ := ba h
    intro e he
    rcases List.mem_cons.mp he with z | he
    · rw [z]; exact ok_mt h1
    · exact oks_mt h2 e he
theorem nil_mt {sc s0 : Scope} {C : M.Cx} {ir : M.Es} {l : List Expr} (h : mtEs T sc s0 ir l = true) (e : l = []) : ∀ σ hh Q, M.wEs C ir σ hh Q → Q [] hh := by
  subst e
  cases ir with
  | nil => intro σ hh Q q; simpa only [M.wEs] using q
  | cons a r => simp [mtEs] at h
theorem opName {b : M.Blt} {bn : List Str} {sc : Scope} {x : Str} (h : bltB bn sc b x = true) : ∃ bk, bltK b = some bk ∧ x = bk.name ∧ x ∈ bn ∧ glB sc x = true := by
  unfold bltB at h
  cases e : bltK b with
  | none => rw [e] at h; cases h
  | some bk =>
    rw [e] at h
    obtain ⟨h1, h2, h3⟩ := ba3 h
    exact ⟨bk, rfl, of_decide_eq_true h1, by simpa using h2, h3⟩
theorem mthName {m : M.Mth} {x : Str} (h : mthB m x = true) : ∃ T id, mthT m = some (T, id, x) := by
  unfold mthB at h
  cases e : mthT m with
  | none => rw [e] at h; cases h
  | some z =>
    rw [e] at h
    obtain ⟨a, b, c⟩ := z
    have : x = c := of_decide_eq_true h
    subst this
    exact ⟨a, b, rfl⟩
theorem few_ok {l : List Expr} {pos : Pos} {env : Env} (h : ∀ e ∈ l, okX e = true) (hs : smallB l.length = true) :
    ((backTo pos (starEach l env)).all (fun x => !x.1) && (backToKw pos (keywordEach [] env)).all (fun x => x.1.isSome) && decide (l.length + ([] : List Keyword).length + (if ([] : List Keyword).isEmpty then 0 else 1) < 30)) = true := by
  have h1 : (backTo pos (starEach l env)).all (fun x => !x.1) = true := by
    have := ok_any (pos := pos) (env := env) h
    rw [List.all_eq_not_any_not]
    simpa using this
  have h2 : l.length < 20 := of_decide_eq_true hs
  rw [h1]
  have h3 : (backToKw pos (keywordEach [] env)).all (fun x => x.1.isSome) = true := rfl
  rw [h3]
  have h4 : decide (l.length + ([] : List Keyword).length + (if ([] : List Keyword).isEmpty then 0 else 1) < 30) = true := decide_eq_true (by simp; omega)
  rw [h4]
  rfl
end
end Snd
end
section
/-! Sound9: expressions, by recursion on the IR. -/
namespace Snd
open PySem L2 PySem.Spec PyProof.Rows
section
variable {P : M.Prog} {n : Nat} {T : Tb} {xx : M.XP}
theorem EOk.plain {X : L2.Cx} {x : Expr} {w : WE} (h : PE X x (lift X.K w)) (he : ∀ whole, isTrue x X.env whole = (do let v ← whole; standAt x.pos; holding [v] (truthy v))) : EOk X x w := ⟨h, fun _ => pt_plain h he⟩
theorem EOk.eq {X : L2.Cx} {x : Expr} {w w' : WE} (h : EOk X x w) (e : w' = w) : EOk X x w' := by rw [e]; exact h
mutual
theorem sndE : ∀ (ir : M.E) (x : Expr) (X : L2.Cx) (sc s0 : Scope), XOk P n T sc s0 X → mtE T sc s0 ir x = true → EOk X x (M.wE (C P n xx) ir)
  | .var i, x, X, sc, s0, ok, h => by
    cases x <;> try (exfalso; revert h; simp [mtE]; done)
    rename_i y p
    simp only [mtE] at h
    obtain ⟨h1, h2, h3⟩ := ba3 h
    obtain ⟨h4, h5⟩ := ba h3
    refine (EOk.plain (s_var (i := i) (by rw [ok.eN]; exact of_decide_eq_true h1) (by rw [ok.eS]; exact visB_ok h2) (by simpa using h4) (by simpa using h5)) (by intro _; rfl)).eq (by funext σ h Q; simp only [M.wE] <;> rfl)
  | .int k, x, X, sc, s0, ok, h => by
    cases x <;> try (exfalso; revert h; simp [mtE]; done)
    rename_i c j p
    cases c <;> try (exfalso; revert h; simp [mtE]; done)
    simp only [mtE] at h
    have e := of_decide_eq_true h
    subst e
    exact (EOk.plain (s_const (d := .int _) pe_int fun H => rfl) (by intro _; rfl)).eq (by funext σ h Q; simp only [M.wE])
  | .str s, x, X, sc, s0, ok, h => by
    cases x <;> try (exfalso; revert h; simp [mtE]; done)
    rename_i c j p
    cases c <;> try (exfalso; revert h; simp [mtE]; done)
    simp only [mtE] at h
    obtain ⟨h1, h2⟩ := ba h
    have e := of_decide_eq_true h1
    subst e
    have os : sOk s := fun c hc => of_decide_eq_true (List.all_eq_true.mp h2 c hc)
    exact (EOk.plain (s_const (d := .str s) pe_str fun H => ⟨rfl, os⟩) (by intro _; rfl)).eq (by funext σ h Q; simp only [M.wE])
  | .bl b, x, X, sc, s0, ok, h => by
    cases x <;> try (exfalso; revert h; simp [mtE]; done)
    rename_i c j p
    cases c <;> try (exfalso; revert h; simp [mtE]; done)
    simp only [mtE, beq_iff_eq] at h
    subst h
    exact (EOk.plain (s_const (d := .bl _) pe_bl fun H => rfl) (by intro _; rfl)).eq (by funext σ h Q; simp only [M.wE])
  | .non, x, X, sc, s0, ok, h => by
    cases x <;> try (exfalso; revert h; simp [mtE]; done)
    rename_i c j p
    cases c <;> try (exfalso; revert h; simp [mtE]; done)
    exact (EOk.plain (s_const (d := .non) pe_non fun H => rfl) (by intro _; rfl)).eq (by funext σ h Q; simp only [M.wE])
  | .gint _ _, x, X, sc, s0, ok, h => by simp [mtE] at h
  | .gstr _ _, x, X, sc, s0, ok, h => by simp [mtE] at h
  | .tup es, x, X, sc, s0, ok, h => by
    cases x <;> try (exfalso; revert h; simp [mtE]; done)
    simp only [mtE] at h
    exact (EOk.plain (s_tup (sndEs es _ X sc s0 ok h)) (by intro _; rfl)).eq (by funext σ h Q; simp only [M.wE])
  | .lst es, x, X, sc, s0, ok, h => by
    cases x <;> try (exfalso; revert h; simp [mtE]; done)
    simp only [mtE] at h
    exact (EOk.plain (s_lst (sndEs es _ X sc s0 ok h)) (by intro _; rfl)).eq (by funext σ h Q; simp only [M.wE])
  | .dct k es, x, X, sc, s0, ok, h => by
    cases x <;> try (exfalso; revert h; simp [mtE]; done)
    rename_i ks vs p
    cases ks <;> try (exfalso; revert h; simp [mtE]; done)
    cases vs <;> try (exfalso; revert h; simp [mtE]; done)
    cases k <;> try (exfalso; revert h; simp [mtE]; done)
    cases es <;> try (exfalso; revert h; simp [mtE]; done)
    exact (EOk.plain s_dct (by intro _; rfl)).eq (by funext σ h Q; simp only [M.wE])
  | .bin o a b, x, X, sc, s0, ok, h => by
    cases x <;> try (exfalso; revert h; simp [mtE]; done)
    simp only [mtE] at h
    obtain ⟨h1, h2, h3⟩ := ba3 h
    have e := opB_eq h1
    subst e
    exact (EOk.plain (s_bin (sndE a _ X sc s0 ok h2).v (sndE b _ X sc s0 ok h3).v) (by intro _; rfl)).eq (by funext σ h Q; simp only [M.wE])
  | .neg a, x, X, sc, s0, ok, h => by
    cases x <;> try (exfalso; revert h; simp [mtE]; done)
    rename_i op y p
    cases op <;> try (exfalso; revert h; simp [mtE]; done)
    simp only [mtE] at h
    exact (EOk.plain (s_neg (sndE a _ X sc s0 ok h).v) (by intro _; rfl)).eq (by funext σ h Q; simp only [M.wE] <;> rfl)
  | .not a, x, X, sc, s0, ok, h => by
    cases x <;> try (exfalso; revert h; simp [mtE]; done)
    rename_i op y p
    cases op <;> try (exfalso; revert h; simp [mtE]; done)
    simp only [mtE] at h
    obtain ⟨h1, h2⟩ := ba h
    have ih := sndE a _ X sc s0 ok h1
    exact (EOk.mk (s_not ih.v) fun _ => t_not (ih.t h2)).eq (by funext σ h Q; simp only [M.wE] <;> rfl)
  | .cmp o a b, x, X, sc, s0, ok, h => by
    cases x <;> try (exfalso; revert h; simp [mtE]; done)
    rename_i l ops rs p
    cases ops with
    | nil => exact absurd h (by simp [mtE])
    | cons op ops =>
      cases ops with
      | cons _ _ => exact absurd h (by simp [mtE])
      | nil => cases rs with
        | nil => exact absurd h (by simp [mtE])
        | cons r rs => cases rs with
          | cons _ _ => exact absurd h (by simp [mtE])
          | nil =>
            simp only [mtE] at h
            obtain ⟨h1, h2, h3⟩ := ba3 h
            have e := copB_eq h1
            subst e
            have i1 := (sndE a _ X sc s0 ok h2).v
            have i2 := (sndE b _ X sc s0 ok h3).v
            have hb := ok_behind (op := cop o) (ok_mt h3)
            exact (EOk.mk (s_cmp ok.units hb i1 i2) fun _ => t_cmp ok.units hb i1 i2).eq (by funext σ h Q; simp only [M.wE])
  | .chn o o' a b c, x, X, sc, s0, ok, h => by
    cases x <;> try (exfalso; revert h; simp [mtE]; done)
    rename_i l ops rs p
    match ops, rs, h with
    | [op, op'], [r, r'], h =>
      simp only [mtE] at h
      obtain ⟨h, h5⟩ := ba h
      obtain ⟨h, h4⟩ := ba h
      obtain ⟨h1, h2, h3⟩ := ba3 h
      have e := copB_eq h1
      subst e
      have e := copB_eq h2
      subst e
      have i1 := (sndE a _ X sc s0 ok h3).v
      have i2 := (sndE b _ X sc s0 ok h4).v
      have i3 := (sndE c _ X sc s0 ok h5).v
      have hb : lastMarks [cop o, cop o'] [r, r'] = false := ok_behind (op := cop o') (ok_mt h5)
      exact (EOk.mk (s_chn ok.units hb i1 i2 i3) fun _ => t_chn ok.units hb i1 i2 i3).eq (by funext σ h Q; simp only [M.wE] <;> rfl)
    | [], _, h => exact absurd h (by simp [mtE])
    | [_], _, h => exact absurd h (by simp [mtE])
    | _ :: _ :: _ :: _, _, h => exact absurd h (by simp [mtE])
    | [_, _], [], h => exact absurd h (by simp [mtE])
    | [_, _], [_], h => exact absurd h (by simp [mtE])
    | [_, _], _ :: _ :: _ :: _, h => exact absurd h (by simp [mtE])
  | .bop k es, x, X, sc, s0, ok, h => by
    cases x <;> try (exfalso; revert h; simp [mtE]; done)
    rename_i op l p
    cases l with
    | nil => exact absurd h (by cases op <;> simp [mtE])
    | cons y l =>
      cases op with
      | And =>
        simp only [mtE] at h
        obtain ⟨h1, h2, h3⟩ := ba3 h
        subst h1
        have b := sndB true es (y :: l) X sc s0 ok (by simp) h2
        exact (EOk.mk (b.v p) fun _ => (b.t h3 p).pt).eq (by funext σ h Q; simp only [M.wE])
      | Or =>
        simp only [mtE] at h
        obtain ⟨h1, h2, h3⟩ := ba3 h
        cases k with
        | true => cases h1
        | false =>
          have b := sndB false es (y :: l) X sc s0 ok (by simp) h2
          exact (EOk.mk (b.v p) fun _ => (b.t h3 p).pt).eq (by funext σ h Q; simp only [M.wE])
  | .ite c a b, x, X, sc, s0, ok, h => by
    cases x <;> try (exfalso; revert h; simp [mtE]; done)
    simp only [mtE] at h
    obtain ⟨h, h4⟩ := ba h
    obtain ⟨h1, h2, h3⟩ := ba3 h
    exact (EOk.mk (s_ite ((sndE c _ X sc s0 ok h1).t h2) (sndE a _ X sc s0 ok h3).v (sndE b _ X sc s0 ok h4).v) fun z => by cases z).eq (by funext σ h Q; simp only [M.wE] <;> rfl)
  | .ix a i, x, X, sc, s0, ok, h => by
    cases x <;> try (exfalso; revert h; simp [mtE]; done)
    simp only [mtE] at h
    obtain ⟨h1, h2⟩ := ba h
    exact (EOk.plain (s_ix ok.units (ok_ix (ok_mt h2)) (sndE a _ X sc s0 ok h1).v (sndE i _ X sc s0 ok h2).v) (by intro _; rfl)).eq (by funext σ h Q; simp only [M.wE])
  | .sl a lo hi, x, X, sc, s0, ok, h => by
    cases x <;> try (exfalso; revert h; simp [mtE]; done)
    rename_i y s p
    cases s <;> try (exfalso; revert h; simp [mtE]; done)
    rename_i l u st p2
    cases st with
    | some _ => exact absurd h (by simp [mtE])
    | none =>
      simp only [mtE] at h
      obtain ⟨h1, h2, h3⟩ := ba3 h
      exact (EOk.plain (s_sl (sndE a _ X sc s0 ok h1).v (sndO lo _ X sc s0 ok h2) (sndO hi _ X sc s0 ok h3)) (by intro _; rfl)).eq (by funext σ h Q; simp only [M.wE])
  | .call f es, x, X, sc, s0, ok, h => by
    cases x <;> try (exfalso; revert h; simp [mtE]; done)
    rename_i g l kw p
    cases g <;> try (exfalso; revert h; simp [mtE]; done)
    cases kw <;> try (exfalso; revert h; simp [mtE]; done)
    simp only [mtE] at h
    obtain ⟨h, h5⟩ := ba h
    obtain ⟨h, h4⟩ := ba h
    obtain ⟨h1, h2, h3⟩ := ba3 h
    have hl := oks_mt h5
    refine (EOk.plain (call_any (xx := xx) ok (of_decide_eq_true h1) (by simpa using h2) h3 h4 (fun e r q => ?_) (sndEs es _ X sc s0 ok h5) (fun q => nil_mt h5 q)) (by intro _; rfl)).eq (by funext σ h Q; simp only [M.wE] <;> rfl)
    subst q
    exact ⟨ok_star (hl e List.mem_cons_self), ok_any fun z hz => hl z (List.mem_cons_of_mem _ hz)⟩
  | .blt b es, x, X, sc, s0, ok, h => by
    cases x <;> try (exfalso; revert h; simp [mtE]; done)
    rename_i g l kw p
    cases g <;> try (exfalso; revert h; simp [mtE]; done)
    cases l with
    | nil => exact absurd h (by simp [mtE])
    | cons y l =>
      cases kw <;> try (exfalso; revert h; simp [mtE]; done)
      simp only [mtE] at h
      obtain ⟨h1, h2⟩ := ba h
      obtain ⟨bk, e1, e2, e3, e4⟩ := opName h1
      have hl := oks_mt h2
      exact (EOk.plain (s_blt ok.calm e1 e2 (glB_ok ok e4) (ok.free _ e3) (ok_star (hl y List.mem_cons_self)) (ok_any fun z hz => hl z (List.mem_cons_of_mem _ hz)) (sndEs es _ X sc s0 ok h2)) (by intro _; rfl)).eq (by funext σ h Q; simp only [M.wE])
  | .isi a t, x, X, sc, s0, ok, h => by
    cases x <;> try (exfalso; revert h; simp [mtE]; done)
    rename_i g l kw p
    cases g <;> try (exfalso; revert h; simp [mtE]; done)
    rename_i nm np
    match l, kw, h with
    | [y, w], [], h =>
      cases w <;> try (exfalso; revert h; simp [mtE]; done)
      simp only [mtE] at h
      obtain ⟨h, h7⟩ := ba h
      obtain ⟨h, h6⟩ := ba h
      obtain ⟨h, h5⟩ := ba h
      obtain ⟨h, h4⟩ := ba h
      obtain ⟨h1, h2, h3⟩ := ba3 h
      have e := of_decide_eq_true h1
      subst e
      exact (EOk.plain (s_isi (glB_ok ok h3) (ok.free _ (by simpa using h2)) (of_decide_eq_true h4) (glB_ok ok h6) (ok.free _ (by simpa using h5)) (ok_star (ok_mt h7)) (sndE a _ X sc s0 ok h7).v) (by intro _; rfl)).eq (by funext σ h Q; simp only [M.wE] <;> rfl)
    | [], _, h => exact absurd h (by simp [mtE])
    | [_], _, h => exact absurd h (by simp [mtE])
    | _ :: _ :: _ :: _, _, h => exact absurd h (by simp [mtE])
    | [_, w], _ :: _, h => exact absurd h (by cases w <;> simp [mtE])
  | .mth m o es, x, X, sc, s0, ok, h => by
    cases x <;> try (exfalso; revert h; simp [mtE]; done)
    rename_i g l kw p
    cases g <;> try (exfalso; revert h; simp [mtE]; done)
    cases kw <;> try (exfalso; revert h; simp [mtE]; done)
    rename_i y nm apos
    simp only [mtE] at h
    obtain ⟨h, h6⟩ := ba h
    obtain ⟨h, h5⟩ := ba h
    obtain ⟨h, h4⟩ := ba h
    obtain ⟨h1, h2, h3⟩ := ba3 h
    obtain ⟨Ty, id, em⟩ := mthName h1
    have hl := oks_mt h5
    have io := (sndE o _ X sc s0 ok h4).v
    cases l with
    | nil =>
      have key : ∀ σ hh Q, M.wEs (C P n xx) es σ hh Q → Q [] hh := nil_mt h5 rfl
      refine (EOk.plain ((s_mth0 ok.units em rfl (ok_base h3) h2 io).imp fun σ H Q ⟨σa, hh, Qa, rs, rh, q, k⟩ => ⟨σa, hh, Qa, rs, rh, ?_, k⟩) (by intro _; rfl)).eq (w := M.wE (C P n xx) (.mth m o es)) rfl
      cases es with
      | nil => simpa only [M.wE, M.wEs] using q
      | cons _ _ => simp [mtEs] at h5
    | cons e r =>
      refine (EOk.plain (s_mth ok.units em rfl (ok_base h3) (few_ok hl h6) h2 (ok_star (hl e List.mem_cons_self)) (ok_any fun z hz => hl z (List.mem_cons_of_mem _ hz)) io (sndEs es _ X sc s0 ok h5)) (by intro _; rfl)).eq (by funext σ h Q; simp only [M.wE])
  | .lc elt t own k src ifs, x, X, sc, s0, ok, h => by
    cases x <;> try (exfalso; revert h; simp [mtE]; done)
    rename_i y gs scope p
    match gs, h with
    | [⟨tg, it, cs, a⟩], h =>
      simp only [mtE] at h
      obtain ⟨h, h10⟩ := ba h
      obtain ⟨h, h9⟩ := ba h
      obtain ⟨h, h8⟩ := ba h
      obtain ⟨h, h7⟩ := ba h
      obtain ⟨h, h6⟩ := ba h
      obtain ⟨h, h5⟩ := ba h
      obtain ⟨h, h4⟩ := ba h
      obtain ⟨h1, h2, h3⟩ := ba3 h
      have ea := of_decide_eq_true h1
      subst ea
      unfold compsB at h6
      cases eo : ownB T.N own with
      | none => rw [eo] at h6; cases h6
      | some ow =>
        rw [eo] at h6
        have blk := blkOk_by h6
        have em := ownB_map eo
        have iI := sndI k src it tg X sc s0 ok h4 (by
          intro e; subst e
          cases t with
          | nm _ => cases h5
          | tp ts => cases tg <;> first | exact ⟨_, _, _, rfl⟩ | cases h3)
        have gT : ∀ (s : Shared) (H : Hp) (D : Addr) (cl : List (Str × Addr)) (fp : List Addr), PG (X.blk s H scope (compEnvC scope cl D X.env) fp) tg (gOf X.K t) := fun s H D cl fp => tg_ok (blk_ok ok blk s H D cl fp) h3
        have iE : ∀ (s : Shared) (H : Hp) (D : Addr) (cl : List (Str × Addr)) (fp : List Addr), PE (X.blk s H scope (compEnvC scope cl D X.env) fp) y (lift X.K (M.wE (C P n xx) elt)) := fun s H D cl fp => (sndE elt _ _ _ _ (blk_ok ok blk s H D cl fp) h10).v
        have iT : ∀ (s : Shared) (H : Hp) (D : Addr) (cl : List (Str × Addr)) (fp : List Addr), PTs (X.blk s H scope (compEnvC scope cl D X.env) fp) cs (liftT X.K (M.wB (C P n xx) true ifs)) := fun s H D cl fp => by
          have okb := blk_ok ok blk s H D cl fp
          match cs, ifs, h7, h8, h9 with
          | [], .nil, _, _, _ =>
            refine ⟨fun pins s σ H Q I ⟨σa, hh, Qa, rs, rh, q, kk⟩ => pts_nil.run pins s σ H Q I ?_⟩
            simp only [M.wB] at q
            obtain ⟨b, e, kk⟩ := kk _ _ q
            cases e
            exact kk H .refl rh
          | [], .cons _ _, h7, _, _ => simp [mtEs] at h7
          | [c], .nil, h7, _, _ => simp [mtEs] at h7
          | [c], .cons i r, h7, h8, _ =>
            simp only [mtEs] at h7
            obtain ⟨h71, h72⟩ := ba h7
            cases r with
            | cons _ _ => simp [mtEs] at h72
            | nil =>
              have ht := (sndE i c _ _ _ okb h71).t (ba h8).1
              refine pts_one (ht.imp fun σ H Q ⟨σa, hh, Qa, rs, rh, q, kk⟩ => ⟨σa, hh, _, rs, rh, (by simpa only [M.wB] using q), fun d h' q1 => ?_⟩)
              cases d with
              | bl b =>
                have q2 : Qa (.bl b) h' := by cases b <;> exact q1
                exact kk _ _ q2
              | _ => exact q1.elim
          | _ :: _ :: _, _, _, _, h9 =>
            have h9 := of_decide_eq_true h9
            simp only [List.length_cons] at h9
            omega
        have hfold : ∀ z, foldedSetIterable it X.env z = pure z := by
          intro z
          cases k with
          | seq =>
            cases src with
            | nil => simp [mtI] at h4
            | cons a r =>
              simp only [mtI] at h4
              exact ok_fold (ok_mt (ba h4).1)
          | rng | enum =>
            cases src with
            | nil => simp [mtI] at h4
            | cons a r => cases it <;> first | rfl | (simp [mtI] at h4)
          | _ => cases src <;> simp [mtI] at h4
        have key := pe_lc (pos := p) (elt := y) ok.calm ok.nd iI (by rw [ok.eN, ok.eS]; exact blk) gT iT iE hfold
        rw [em] at key
        refine (EOk.plain (key.imp fun σ H Q q => lc_ok h2 q) (by intro _; rfl)).eq (by funext σ h Q; simp only [M.wE] <;> rfl)
    | [], h => exact absurd h (by simp [mtE])
    | _ :: _ :: _, h => exact absurd h (by simp [mtE])
theorem sndEs : ∀ (ir : M.Es) (l : List Expr) (X : L2.Cx) (sc s0 : Scope), XOk P n T sc s0 X → mtEs T sc s0 ir l = true → PA X l (liftA X.K (M.wEs (C P n xx) ir))
  | .nil, l, X, sc, s0, ok, h => by
    cases l with
    | cons _ _ => simp [mtEs] at h
    | nil =>
      have e : M.wEs (C P n xx) .nil = fun _ h Q => Q [] h := by funext σ h Q; simp only [M.wEs]
      rw [e]
      exact s_nil
  | .cons a r, l, X, sc, s0, ok, h => by
    cases l with
    | nil => simp [mtEs] at h
    | cons x l =>
      simp only [mtEs] at h
      obtain ⟨h1, h2⟩ := ba h
      have e : M.wEs (C P n xx) (.cons a r) = fun σ h Q => M.wE (C P n xx) a σ h fun d h1 => M.wEs (C P n xx) r σ h1 fun ds h2 => Q (d :: ds) h2 := by funext σ h Q; simp only [M.wEs]
      rw [e]
      exact s_cons (ok_star (ok_mt h1)) (sndE a _ X sc s0 ok h1).v (sndEs r _ X sc s0 ok h2)
theorem sndB : ∀ (k : Bool) (ir : M.Es) (l : List Expr) (X : L2.Cx) (sc s0 : Scope), XOk P n T sc s0 X → l ≠ [] → mtEs T sc s0 ir l = true → BOk X k l (M.wB (C P n xx) k ir)
  | k, .nil, l, X, sc, s0, ok, hne, h => by
    cases l with
    | cons _ _ => simp [mtEs] at h
    | nil => exact absurd rfl hne
  | k, .cons a r, l, X, sc, s0, ok, hne, h => by
    cases l with
    | nil => simp [mtEs] at h
    | cons x l =>
      simp only [mtEs] at h
      obtain ⟨h1, h2⟩ := ba h
      have ia := sndE a x X sc s0 ok h1
      cases l with
      | nil =>
        cases r with
        | cons _ _ => simp [mtEs] at h2
        | nil =>
          have e : M.wB (C P n xx) k (.cons a .nil) = fun σ h Q => M.wE (C P n xx) a σ h fun d h1 => match d with
            | .bl b => (match b == k with
              | true => Q (.bl k) h1
              | false => Q (.bl b) h1)
            | _ => False := by funext σ h Q; simp only [M.wB] <;> rfl
          rw [e]
          refine ⟨fun pos => ?_, fun ht pos => ?_⟩
          · exact s_bop1 ia.v
          · have ht := (ba ht).1
            cases k with
            | true => exact w_bop1A (ia.t ht)
            | false => exact w_bop1O (ia.t ht)
      | cons x2 l2 =>
        have ib := sndB k r (x2 :: l2) X sc s0 ok (by simp) h2
        have e : M.wB (C P n xx) k (.cons a r) = fun σ h Q => M.wE (C P n xx) a σ h fun d h1 => match d with
          | .bl b => (match b == k with
            | true => M.wB (C P n xx) k r σ h1 Q
            | false => Q (.bl b) h1)
          | _ => False := by funext σ h Q; simp only [M.wB] <;> rfl
        rw [e]
        cases k with
        | true => exact ⟨fun pos => s_bopA ia.v (ib.v pos) (by simp), fun ht pos => w_bopA (ia.t (ba ht).1) (ib.t (ba ht).2 pos) (by simp)⟩
        | false => exact ⟨fun pos => s_bopO ia.v (ib.v pos) (by simp), fun ht pos => w_bopO (ia.t (ba ht).1) (ib.t (ba ht).2 pos) (by simp)⟩
theorem sndO : ∀ (ir : M.Es) (o : Option Expr) (X : L2.Cx) (sc s0 : Scope), XOk P n T sc s0 X → mtO T sc s0 ir o = true → PO X o (liftO X.K (M.wO (C P n xx) ir))
  | .nil, o, X, sc, s0, ok, h => by
    cases o with
    | some _ => simp [mtO] at h
    | none =>
      have e : M.wO (C P n xx) .nil = fun _ h Q => Q none h := by funext σ h Q; simp only [M.wO]
      rw [e]
      exact s_nopart
  | .cons a r, o, X, sc, s0, ok, h => by
    cases o with
    | none => simp [mtO] at h
    | some x =>
      cases r with
      | cons _ _ => simp [mtO] at h
      | nil =>
        simp only [mtO] at h
        have e : M.wO (C P n xx) (.cons a .nil) = fun σ h Q => M.wE (C P n xx) a σ h fun d h1 => match d with | .int n => Q (some n) h1 | _ => False := by funext σ h Q; simp only [M.wO] <;> rfl
        rw [e]
        exact s_part (sndE a _ X sc s0 ok (ba h).1).v
theorem sndI : ∀ (k : M.Itk) (ir : M.Es) (e tg : Expr) (X : L2.Cx) (sc s0 : Scope), XOk P n T sc s0 X → mtI T sc s0 k ir e = true → (k = .enum → ∃ es kk p, tg = .Tuple es kk p) → PI X tg e (liftI X.K k (M.wEs (C P n xx) ir))
  | k, .nil, e, tg, X, sc, s0, ok, h, ht => by simp [mtI] at h
  | k, .cons a r, e, tg, X, sc, s0, ok, h, ht => by
    have w1 : M.wEs (C P n xx) (.cons a .nil) = fun σ h Q => M.wE (C P n xx) a σ h fun d h1 => Q [d] h1 := by funext σ h Q; simp only [M.wEs]
    cases k <;> try (exfalso; revert h; simp [mtI]; done)
    · simp only [mtI] at h
      obtain ⟨h1, h2⟩ := ba h
      cases r with
      | cons _ _ => cases h2
      | nil =>
        rw [w1]
        exact i_seq (sndE a _ X sc s0 ok h1).v
    · cases e <;> try (exfalso; revert h; simp [mtI]; done)
      rename_i g l kw p
      cases g <;> try (exfalso; revert h; simp [mtI]; done)
      cases l with
      | nil => exact absurd h (by simp [mtI])
      | cons y l =>
        cases kw <;> try (exfalso; revert h; simp [mtI]; done)
        simp only [mtI] at h
        obtain ⟨h, h6⟩ := ba h
        obtain ⟨h, h5⟩ := ba h
        obtain ⟨h, h4⟩ := ba h
        obtain ⟨h1, h2, h3⟩ := ba3 h
        have e := of_decide_eq_true h1
        subst e
        have ia := (sndE a _ X sc s0 ok h4).v
        have sy := ok_mt h4
        match l, r, h5, h6 with
        | [], .nil, _, _ =>
          rw [w1]
          exact i_rng1 (glB_ok ok h3) (ok.free _ (by simpa using h2)) (ok_star (es := []) sy) ia
        | [], .cons _ _, h5, _ => simp [mtEs] at h5
        | [z], .nil, h5, _ => simp [mtEs] at h5
        | [z], .cons b r, h5, _ =>
          simp only [mtEs] at h5
          obtain ⟨h51, h52⟩ := ba h5
          cases r with
          | cons _ _ => simp [mtEs] at h52
          | nil =>
            have w2 : M.wEs (C P n xx) (.cons a (.cons b .nil)) = fun σ h Q => M.wE (C P n xx) a σ h fun d h1 => M.wE (C P n xx) b σ h1 fun d2 h2 => Q [d, d2] h2 := by funext σ h Q; simp only [M.wEs]
            rw [w2]
            have sz := ok_mt h51
            exact i_rng2 (glB_ok ok h3) (ok.free _ (by simpa using h2)) (by rw [ok_star sy, ok_star sz]; rfl) (ok_star (es := []) sz) ia (sndE b _ X sc s0 ok h51).v
        | _ :: _ :: _, _, _, h6 =>
          have h6 := of_decide_eq_true h6
          simp only [List.length_cons] at h6
          omega
    · obtain ⟨es, kk, tp, rfl⟩ := ht rfl
      cases e <;> try (exfalso; revert h; simp [mtI]; done)
      rename_i g l kw p
      cases g <;> try (exfalso; revert h; simp [mtI]; done)
      match l, kw, h with
      | [y], [], h =>
        simp only [mtI] at h
        obtain ⟨h, h5⟩ := ba h
        obtain ⟨h, h4⟩ := ba h
        obtain ⟨h1, h2, h3⟩ := ba3 h
        have e := of_decide_eq_true h1
        subst e
        cases r with
        | cons _ _ => cases h5
        | nil =>
          rw [w1]
          exact i_enum (glB_ok ok h3) (ok.free _ (by simpa using h2)) (ok_star (es := []) (ok_mt h4)) (sndE a _ X sc s0 ok h4).v
      | [], _, h => exact absurd h (by simp [mtI])
      | _ :: _ :: _, _, h => exact absurd h (by simp [mtI])
      | [_], _ :: _, h => exact absurd h (by simp [mtI])
end
end
end Snd
end
section
/-! Sound10: statements, defs. -/
namespace Snd
open PySem L2 PySem.Spec PyProof.Rows

def swV (sc : Scope) (t : Str) (p : Pos) (scope : Scope) (vp : Pos) : Bool := (if sc.kind.isAnnotationScope then ScopeKind.function else sc.kind) == .function && sc.names.lookup t == some .local && p.line == vp.line && !(scope.names.any fun (n, k) => n == t && (k == .local || k == .cell))
theorem sw_eq {elt : Expr} {gs : List Comprehension} {scope : Scope} {vp p : Pos} {t : Str} {l : Nat} {env : Env} : swapsWith (.ListComp elt gs scope vp) (some (.Name t p)) l env = pure (swV env.scope t p scope vp) := rfl
theorem sw_sole {elt : Expr} {gs : List Comprehension} {scope : Scope} {vp p : Pos} {t : Str} {l : Nat} {env : Env} : swapsWithSole [.Name t p] (.ListComp elt gs scope vp) l env = pure (swV env.scope t p scope vp) := rfl
def compX : Expr → Bool
  | .ListComp .. => true
  | .SetComp .. => true
  | .DictComp .. => true
  | _ => false
def tupX : Expr → Bool
  | .Tuple .. => true
  | _ => false
theorem sw_plain {e : Expr} (h : compX e = false) {o : Option Expr} {l : Nat} {env : Env} : swapsWith e o l env = pure false := by cases e <;> first | rfl | cases h
/-- a target and a value whose stores are in order -/
def asgB (tg e : Expr) : Bool := match tg with
  | .Name _ _ => true
  | .Tuple .. => !(tupX e) && !(compX e)
  | _ => false
def augB : M.Bop → Bool
  | .add => true
  | .sub => true
  | _ => false
mutual
def mtS (T : Tb) : Scope → M.S → Stmt → Bool
  | sc, .asg t e, s => (match s with
    | .Assign [tg] x _ => tgB T.N sc t tg && mtE T sc sc e x && asgB tg x
    | _ => false)
  | sc, .six o i e, s => (match s with
    | .Assign [.Subscript a j _] x _ => mtE T sc sc o a && mtE T sc sc i j && mtE T sc sc e x
    | _ => false)
  | sc, .aug i o e, s => (match s with
    | .AugAssign (.Name x _) op y _ => nmB T.N sc i (.Name x ⟨0, 0, 0, 0⟩) && opB o op && mtE T sc sc e y && augB o
    | _ => false)
  | sc, .ex e, s => (match s with
    | .Expr x _ => mtE T sc sc e x && !(compX x)
    | _ => false)
  | sc, .ret e, s => (match s with
    | .Return (some x) _ => mtE T sc sc e x
    | _ => false)
  | sc, .retN, s => (match s with
    | .Return none _ => true
    | _ => false)
  | sc, .ife c a b, s => (match s with
    | .If x l r _ => mtE T sc sc c x && testB x && mtSs T sc a l && mtSs T sc b r
    | _ => false)
  | sc, .whl c b, s => (match s with
    | .While x l [] _ => mtE T sc sc c x && testB x && mtSs T sc b l
    | _ => false)
  | sc, .for_ t k src b, s => (match s with
    | .For tg it l [] _ => tgB T.N sc t tg && tupK k t && mtI T sc sc k src it && mtSs T sc b l
    | _ => false)
  | sc, .pass, s => (match s with
    | .Pass _ => true
    | _ => false)
  | sc, .brk, s => (match s with
    | .Break _ => true
    | _ => false)
  | sc, .cont, s => (match s with
    | .Continue _ => true
    | _ => false)
def mtSs (T : Tb) : Scope → M.Ss → List Stmt → Bool
  | sc, .nil, l => l.isEmpty
  | sc, .cons s r, l => (match l with
    | x :: y => mtS T sc s x && mtSs T sc r y
    | [] => false)
end
section
variable {P : M.Prog} {n : Nat} {T : Tb} {xx : M.XP}
theorem fold_mt {sc s0 : Scope} {k : M.Itk} {src : M.Es} {it : Expr} (h4 : mtI T sc s0 k src it = true) {env : Env} : ∀ z, foldedSetIterable it env z = pure z := by
  intro z
  cases k with
  | seq =>
    cases src with
    | nil => simp [mtI] at h4
    | cons a r =>
      simp only [mtI] at h4
      exact ok_fold (ok_mt (ba h4).1)
  | rng | enum =>
    cases src with
    | nil => simp [mtI] at h4
    | cons a r => cases it <;> first | rfl | (simp [mtI] at h4)
  | _ => cases src <;> simp [mtI] at h4
theorem ifs_ok {sc s0 : Scope} {Y : L2.Cx} (okb : XOk P n T sc s0 Y) {cs : List Expr} {ifs : M.Es} (h7 : mtEs T sc s0 ifs cs = true) (h8 : testsB cs = true) (h9 : decide (cs.length < 2) = true) : PTs Y cs (liftT Y.K (M.wB (C P n xx) true ifs)) := by
  match cs, ifs, h7, h8, h9 with
  | [], .nil, _, _, _ =>
    refine ⟨fun pins s σ H Q I ⟨σa, hh, Qa, rs, rh, q, kk⟩ => pts_nil.run pins s σ H Q I ?_⟩
    simp only [M.wB] at q
    obtain ⟨b, e, kk⟩ := kk _ _ q
    cases e
    exact kk H .refl rh
  | [], .cons _ _, h7, _, _ => simp [mtEs] at h7
  | [c], .nil, h7, _, _ => simp [mtEs] at h7
  | [c], .cons i r, h7, h8, _ =>
    simp only [mtEs] at h7
    obtain ⟨h71, h72⟩ := ba h7
    cases r with
    | cons _ _ => simp [mtEs] at h72
    | nil =>
      have ht := (sndE (xx := xx) i c _ _ _ okb h71).t (ba h8).1
      refine pts_one (ht.imp fun σ H Q ⟨σa, hh, Qa, rs, rh, q, kk⟩ => ⟨σa, hh, _, rs, rh, (by simpa only [M.wB] using q), fun d h' q1 => ?_⟩)
      cases d with
      | bl b =>
        have q2 : Qa (.bl b) h' := by cases b <;> exact q1
        exact kk _ _ q2
      | _ => exact q1.elim
  | _ :: _ :: _, _, _, _, h9 =>
    have h9 := of_decide_eq_true h9
    simp only [List.length_cons] at h9
    omega
/-- name = [..], the list laid and stored at once -/
theorem ss_lc {sc : Scope} {X : L2.Cx} (ok : XOk P n T sc sc X) {elt : M.E} {t : M.Tgt} {own : List Nat} {k : M.Itk} {src ifs : M.Es} {y : Expr} {gs : List Comprehension} {scope : Scope} {vp : Pos} {i : Nat} {v : Str} {pv sp : Pos}
    (h : mtE T sc sc (.lc elt t own k src ifs) (.ListComp y gs scope vp) = true) (hn : nmB T.N sc i (.Name v pv) = true) (hs : swV sc v pv scope vp = true) :
    PS X (.Assign [.Name v pv] (.ListComp y gs scope vp) sp) (liftS X.K fun R σ h => M.wE (C P n xx) (.lc elt t own k src ifs) σ h fun d h1 => R.nx (σ.set i (some d)) h1) := by
  match gs, h with
  | [⟨tg, it, cs, a⟩], h =>
    simp only [mtE] at h
    obtain ⟨h, h10⟩ := ba h
    obtain ⟨h, h9⟩ := ba h
    obtain ⟨h, h8⟩ := ba h
    obtain ⟨h, h7⟩ := ba h
    obtain ⟨h, h6⟩ := ba h
    obtain ⟨h, h5⟩ := ba h
    obtain ⟨h, h4⟩ := ba h
    obtain ⟨h1, h2, h3⟩ := ba3 h
    have ea := of_decide_eq_true h1
    subst ea
    unfold compsB at h6
    cases eo : ownB T.N own with
    | none => rw [eo] at h6; cases h6
    | some ow =>
      rw [eo] at h6
      have blk := blkOk_by h6
      have em := ownB_map eo
      have iI := sndI (xx := xx) k src it tg X sc sc ok h4 (by
        intro e; subst e
        cases t with
        | nm _ => cases h5
        | tp ts => cases tg <;> first | exact ⟨_, _, _, rfl⟩ | cases h3)
      have gT : ∀ (s : Shared) (H : Hp) (D : Addr) (cl : List (Str × Addr)) (fp : List Addr), PG (X.blk s H scope (compEnvC scope cl D X.env) fp) tg (gOf X.K t) := fun s H D cl fp => tg_ok (blk_ok ok blk s H D cl fp) h3
      have iE : ∀ (s : Shared) (H : Hp) (D : Addr) (cl : List (Str × Addr)) (fp : List Addr), PE (X.blk s H scope (compEnvC scope cl D X.env) fp) y (lift X.K (M.wE (C P n xx) elt)) := fun s H D cl fp => (sndE elt _ _ _ _ (blk_ok ok blk s H D cl fp) h10).v
      have iT : ∀ (s : Shared) (H : Hp) (D : Addr) (cl : List (Str × Addr)) (fp : List Addr), PTs (X.blk s H scope (compEnvC scope cl D X.env) fp) cs (liftT X.K (M.wB (C P n xx) true ifs)) := fun s H D cl fp => ifs_ok (xx := xx) (blk_ok ok blk s H D cl fp) h7 h8 h9
      have hl : sc.names.lookup v = some .local := by
        unfold swV at hs
        simp only [Bool.and_eq_true, beq_iff_eq] at hs
        exact hs.1.1.2
      obtain ⟨hn1, _⟩ := ba hn
      have key := ps_setLc (i := i) (y := v) (py := pv) (spos := sp) (pos := vp) (elt := y) ok.calm ok.nd (by rw [ok.eN]; exact of_decide_eq_true hn1) (by rw [ok.eS]; exact hl) (by rw [sw_eq, ok.eS, hs]) iI (by rw [ok.eN, ok.eS]; exact blk) gT iT iE (fold_mt h4)
      rw [em] at key
      refine key.imp fun D σ H ⟨σa, h, R, rs, rh, q, k⟩ => ?_
      refine lc_ok h2 (lift_go (w := _) (Qa := fun d h1 => R.nx (σa.set i (some d)) h1) rs rh (by simp only [M.wE] at q; exact q) fun d h1 v H1 q1 f1 r1 rh1 rs1 => ?_)
      exact k.nx _ _ _ _ q1 f1 (rs_set rs1 r1) rh1
  | [], h => exact absurd h (by simp [mtE])
  | _ :: _ :: _, h => exact absurd h (by simp [mtE])
theorem nm_each {e : Expr} {env : Env} {N : List Str} {s0 : Scope} {t : M.Tgt} (h : tgB N s0 t e = true) : (assignEach [e] env).map (·.2) = [assign e env] := by
  cases t with
  | nm i => rw [nm_star (T := ⟨N, [], []⟩) (es := []) (show nmB N s0 i e = true from h)]; rfl
  | tp ts => cases e <;> first | rfl | cases h
theorem ss_aug {X : L2.Cx} {i : Nat} {x : Str} {e : Expr} {w : WE} {o : M.Bop} {p pos : Pos} (hN : X.N.Nodup) (hi : X.N[i]? = some x) (hx : L2.Loc X.env.scope x) (hf : X.fn x = true ∨ X.env.scope.names.lookup x = some .local) (ho : o = .add ∨ o = .sub) (he : PE X e (lift X.K w)) :
    PS X (.AugAssign (.Name x p) (bop o) e pos) (liftS X.K fun R σ h => match σ[i]? with
      | some (some x) => w σ h fun y h1 => M.opAug o x y fun z => R.nx (σ.set i (some z)) h1
      | _ => False) := by
  have fin : ∀ {D : L2.Ends} {σ : L2.St} {H : Hp}, liftS X.K (fun R σ h => match σ[i]? with
      | some (some x) => w σ h fun y h1 => M.opAug o x y fun z => R.nx (σ.set i (some z)) h1
      | _ => False) D σ H → ∃ v, σ[i]? = some (some v) ∧ lift X.K w σ H fun u H1 => (o = .add ∧ ((∃ a b, v = .int a ∧ u = .int b ∧ D.nx (σ.set i (some (.int (a + b)))) H1) ∨ ∃ a b, v = .str a ∧ u = .str b ∧ a.length + b.length ≤ sizeLine ∧ D.nx (σ.set i (some (.str (a ++ b)))) H1)) ∨ (o = .sub ∧ ∃ a b, v = .int a ∧ u = .int b ∧ D.nx (σ.set i (some (.int (a - b)))) H1) := by
    rintro D σ H ⟨σa, h, R, rs, rh, q, k⟩
    cases e1 : σa[i]? with
    | none => rw [e1] at q; exact q.elim
    | some z => cases z with
      | none => rw [e1] at q; exact q.elim
      | some d =>
        rw [e1] at q
        obtain ⟨v, e2, r⟩ := rs.2 i d e1
        refine ⟨v, e2, lift_go rs rh q fun dy h1 u H1 q1 f1 r1 rh1 rs1 => ?_⟩
        have r := r.kp (f1.kp rh)
        have go : ∀ {dz : SD} {z : V}, R.nx (σa.set i (some dz)) h1 → Rep X.K H1 dz z → D.nx (σ.set i (some z)) H1 := fun q rz => k.nx _ _ _ _ q f1 (rs_set rs1 rz) rh1
        cases o <;> try (exact False.elim q1)
        · cases d <;> try (exact False.elim q1)
          · cases dy <;> try (exact False.elim q1)
            cases (show v = _ from r); cases (show u = _ from r1)
            exact .inl ⟨rfl, .inl ⟨_, _, rfl, rfl, go q1 rfl⟩⟩
          · cases dy <;> try (exact False.elim q1)
            cases (show v = _ from r.1); cases (show u = _ from r1.1)
            refine .inl ⟨rfl, .inr ⟨_, _, rfl, rfl, by rw [sV_len, sV_len, line_eq]; exact q1.1, ?_⟩⟩
            rw [sV_app]
            exact go q1.2 ⟨rfl, sOk_app r.2 r1.2⟩
        · cases d <;> try (exact False.elim q1)
          cases dy <;> try (exact False.elim q1)
          cases (show v = _ from r); cases (show u = _ from r1)
          exact .inr ⟨rfl, _, _, rfl, rfl, go q1 rfl⟩
  cases o
  case add =>
    have ip : PIp X .Add (fun x y H Q => (rI0 fun i j => .int (i + j)) x y H Q ∨ rAddS x y H Q) := fun pins s σ H x y v u Q I r1 r2 h => op_iadd pins s σ H x y v u Q I r1 r2 h
    refine (ps_aug hN hi hx he ip hf).imp fun D σ H z => ?_
    obtain ⟨v, e, σa, h, Qa, rs, rh, q, k⟩ := fin z
    refine ⟨v, e, σa, h, Qa, rs, rh, q, fun d h' u H' q' f r rh' => ?_⟩
    rcases k d h' u H' q' f r rh' with ⟨_, ⟨a, b, e1, e2, q⟩ | ⟨a, b, e1, e2, hz, q⟩⟩ | ⟨w, _⟩
    · exact .inl ⟨a, b, e1, e2, q⟩
    · exact .inr ⟨a, b, e1, e2, hz, q⟩
    · cases w
  case sub =>
    refine (ps_aug hN hi hx he ip_sub hf).imp fun D σ H z => ?_
    obtain ⟨v, e, σa, h, Qa, rs, rh, q, k⟩ := fin z
    refine ⟨v, e, σa, h, Qa, rs, rh, q, fun d h' u H' q' f r rh' => ?_⟩
    rcases k d h' u H' q' f r rh' with ⟨w, _⟩ | ⟨_, a, b, e1, e2, q⟩
    · cases w
    · exact ⟨a, b, e1, e2, q⟩
  all_goals (rcases ho with ho | ho <;> cases ho)

theorem six_ok {o i : Expr} {p : Pos} {env : Env} (h : okX i = true) : ∀ v, assign (.Subscript o i p) env v = (do
      let ov ← holding [v] (eval o env)
      let iv ← holding [v, ov] (eval i env)
      standAt p
      holding [v, ov, iv] (setItem ov iv v)
      release [v, ov, iv] []) := by intro v; cases i <;> first | rfl | cases h
theorem never_ok {sc s0 : Scope} {X : L2.Cx} (ok : XOk P n T sc s0 X) : PassesOwn (model X.prog X.w) X.A X.env X.xe := by rw [ok.xe]; exact .never
mutual
theorem sndS : ∀ (ir : M.S) (x : Stmt) (X : L2.Cx) (sc : Scope), XOk P n T sc sc X → mtS T sc ir x = true → PS X x (liftS X.K (M.wS (C P n xx) ir))
  | .asg t e, x, X, sc, ok, h => by
    cases x <;> try (exfalso; revert h; simp [mtS]; done)
    rename_i ts v p
    match ts, h with
    | [tg], h =>
      simp only [mtS] at h
      obtain ⟨h1, h2, h3⟩ := ba3 h
      have w1 : M.wS (C P n xx) (.asg t e) = fun R σ h => M.wE (C P n xx) e σ h fun d h1 => match M.setT t d σ with | some σ' => R.nx σ' h1 | none => False := by funext R σ h; simp only [M.wS] <;> rfl
      rw [w1]
      have ie := (sndE (xx := xx) e v X sc sc ok h2).v
      have it := tg_ok ok h1
      by_cases hc : compX v = true
      · cases tg <;> try (exfalso; revert h3; simp [asgB]; done)
        · rename_i nm np
          cases t with
          | tp _ => cases h1
          | nm i =>
            cases e <;> cases v <;> try (exfalso; revert h2; simp [mtE]; done)
            all_goals try (exfalso; revert hc; simp [compX]; done)
            rename_i elt t own k src ifs y gs scope vp _
            cases hs : swV sc nm np scope vp with
            | true => exact (ss_lc (xx := xx) ok h2 h1 hs).imp fun D σ H z => z
            | false => exact ss_asg ie it (by rw [sw_sole, ok.eS, hs]) rfl (nm_each h1)
        · exfalso
          revert h3
          simp only [asgB, hc]
          simp
      · have hc : compX v = false := by simpa using hc
        refine ss_asg ie it (sw_plain hc) ?_ (nm_each h1)
        cases tg <;> try (exfalso; revert h3; simp [asgB]; done)
        · rfl
        · have ht : tupX v = false := by
            simp only [asgB] at h3
            have := (ba h3).1
            simpa using this
          cases v <;> first | rfl | cases ht
    | [], h => exact absurd h (by simp [mtS])
    | _ :: _ :: _, h => exact absurd h (by simp [mtS])
  | .six o i e, x, X, sc, ok, h => by
    cases x <;> try (exfalso; revert h; simp [mtS]; done)
    rename_i ts v p
    match ts, h with
    | [tg], h =>
      cases tg <;> try (exfalso; revert h; simp [mtS]; done)
      simp only [mtS] at h
      obtain ⟨h1, h2, h3⟩ := ba3 h
      have w1 : M.wS (C P n xx) (.six o i e) = fun R σ h => M.wE (C P n xx) e σ h fun v h1 => M.wE (C P n xx) o σ h1 fun x h2 => M.wE (C P n xx) i σ h2 fun y h3 => M.opSet x y v h3 fun h4 => R.nx σ h4 := by funext R σ h; simp only [M.wS]
      rw [w1]
      refine ss_six ok.units (sndE (xx := xx) e v X sc sc ok h3).v (sndE (xx := xx) o _ X sc sc ok h1).v (sndE (xx := xx) i _ X sc sc ok h2).v (six_ok (ok_mt h2)) ?_ rfl rfl
      cases v <;> rfl
    | [], h => exact absurd h (by simp [mtS])
    | _ :: _ :: _, h => exact absurd h (by simp [mtS])
  | .aug i o e, x, X, sc, ok, h => by
    cases x <;> try (exfalso; revert h; simp [mtS]; done)
    rename_i tg op v p
    cases tg <;> try (exfalso; revert h; simp [mtS]; done)
    simp only [mtS] at h
    obtain ⟨h, h4⟩ := ba h
    obtain ⟨h1, h2, h3⟩ := ba3 h
    obtain ⟨h5, h6⟩ := ba h1
    obtain ⟨l, f⟩ := ok.st _ h6
    have eo := opB_eq h2
    subst eo
    have w1 : M.wS (C P n xx) (.aug i o e) = fun R σ h => match σ[i]? with
      | some (some x) => M.wE (C P n xx) e σ h fun y h1 => M.opAug o x y fun z => R.nx (σ.set i (some z)) h1
      | _ => False := by funext R σ h; simp only [M.wS] <;> rfl
    rw [w1]
    exact ss_aug ok.nd (by rw [ok.eN]; exact of_decide_eq_true h5) (by rw [ok.eS]; exact l) (by rw [ok.eS]; exact f) (by cases o <;> first | exact .inl rfl | exact .inr rfl | cases h4) (sndE (xx := xx) e v X sc sc ok h3).v
  | .ex e, x, X, sc, ok, h => by
    cases x <;> try (exfalso; revert h; simp [mtS]; done)
    simp only [mtS] at h
    obtain ⟨h1, h2⟩ := ba h
    have w1 : M.wS (C P n xx) (.ex e) = fun R σ h => M.wE (C P n xx) e σ h fun _ h1 => R.nx σ h1 := by funext R σ h; simp only [M.wS]
    rw [w1]
    exact ss_expr (sw_plain (by simpa using h2)) (sndE (xx := xx) e _ X sc sc ok h1).v
  | .ret e, x, X, sc, ok, h => by
    cases x <;> try (exfalso; revert h; simp [mtS]; done)
    rename_i v p
    cases v with
    | none => exact absurd h (by simp [mtS])
    | some v =>
      simp only [mtS] at h
      have w1 : M.wS (C P n xx) (.ret e) = fun R σ h => M.wE (C P n xx) e σ h R.rt := by funext R σ h; simp only [M.wS]
      rw [w1]
      exact ss_ret (sndE (xx := xx) e _ X sc sc ok h).v
  | .retN, x, X, sc, ok, h => by
    cases x <;> try (exfalso; revert h; simp [mtS]; done)
    rename_i v p
    cases v with
    | some _ => exact absurd h (by simp [mtS])
    | none =>
      have w1 : M.wS (C P n xx) .retN = fun R σ h => R.rt .non h := by funext R σ h; simp only [M.wS]
      rw [w1]
      exact ss_retN
  | .ife c a b, x, X, sc, ok, h => by
    cases x <;> try (exfalso; revert h; simp [mtS]; done)
    simp only [mtS] at h
    obtain ⟨h, h4⟩ := ba h
    obtain ⟨h1, h2, h3⟩ := ba3 h
    have w1 : M.wS (C P n xx) (.ife c a b) = fun R σ h => M.wE (C P n xx) c σ h fun d h1 => match d with
      | .bl k => (match k with
        | true => M.wSs (C P n xx) a R σ h1
        | false => M.wSs (C P n xx) b R σ h1)
      | _ => False := by funext R σ h; simp only [M.wS, M.wT] <;> rfl
    rw [w1]
    exact ss_ife ((sndE (xx := xx) c _ X sc sc ok h1).t h2) (sndSs a _ X sc ok h3) (sndSs b _ X sc ok h4)
  | .whl c b, x, X, sc, ok, h => by
    cases x <;> try (exfalso; revert h; simp [mtS]; done)
    rename_i v l els p
    cases els with
    | cons _ _ => exact absurd h (by simp [mtS])
    | nil =>
      simp only [mtS] at h
      obtain ⟨h1, h2, h3⟩ := ba3 h
      have w1 : M.wS (C P n xx) (.whl c b) = fun R σ h => ∃ W : Nat → M.St → M.AH → Prop, (∃ m, W m σ h) ∧ ∀ m σ h, W m σ h → M.wE (C P n xx) c σ h fun d h1 => match d with
        | .bl k => (match k with
          | true => M.wSs (C P n xx) b { nx := fun σ' h' => ∃ m', m' < m ∧ W m' σ' h', ct := fun σ' h' => ∃ m', m' < m ∧ W m' σ' h', bk := R.nx, rt := R.rt } σ h1
          | false => R.nx σ h1)
        | _ => False := by funext R σ h; simp only [M.wS, M.wT] <;> rfl
      rw [w1]
      exact ss_whl (never_ok ok) ((sndE (xx := xx) c _ X sc sc ok h1).t h2) (sndSs b _ X sc ok h3)
  | .for_ t k src b, x, X, sc, ok, h => by
    cases x <;> try (exfalso; revert h; simp [mtS]; done)
    rename_i tg it l els p
    cases els with
    | cons _ _ => exact absurd h (by simp [mtS])
    | nil =>
      simp only [mtS] at h
      obtain ⟨h, h4⟩ := ba h
      obtain ⟨h1, h2, h3⟩ := ba3 h
      have w1 : M.wS (C P n xx) (.for_ t k src b) = fun R σ h => M.wEs (C P n xx) src σ h fun ds h1 => M.walk k ds h1 fun xs ok =>
          M.loopW xs ok (fun x σ h P' => match M.setT t x σ with
            | some σ' => M.wSs (C P n xx) b { nx := P', ct := P', bk := R.nx, rt := R.rt } σ' h
            | none => False) R.nx σ h1 := by funext R σ h; simp only [M.wS] <;> rfl
      rw [w1]
      refine ss_for (never_ok ok) ok.calm (sndI (xx := xx) k src it tg X sc sc ok h3 (by
        intro e; subst e
        cases t with
        | nm _ => cases h2
        | tp ts => cases tg <;> first | exact ⟨_, _, _, rfl⟩ | cases h1)) (tg_ok ok h1) (sndSs b _ X sc ok h4) (fold_mt h3)
  | .pass, x, X, sc, ok, h => by
    cases x <;> try (exfalso; revert h; simp [mtS]; done)
    have w1 : M.wS (C P n xx) .pass = fun R σ h => R.nx σ h := by funext R σ h; simp only [M.wS]
    rw [w1]
    exact ss_pass
  | .brk, x, X, sc, ok, h => by
    cases x <;> try (exfalso; revert h; simp [mtS]; done)
    have w1 : M.wS (C P n xx) .brk = fun R σ h => R.bk σ h := by funext R σ h; simp only [M.wS]
    rw [w1]
    exact ss_brk
  | .cont, x, X, sc, ok, h => by
    cases x <;> try (exfalso; revert h; simp [mtS]; done)
    have w1 : M.wS (C P n xx) .cont = fun R σ h => R.ct σ h := by funext R σ h; simp only [M.wS]
    rw [w1]
    exact ss_cont
theorem sndSs : ∀ (ir : M.Ss) (l : List Stmt) (X : L2.Cx) (sc : Scope), XOk P n T sc sc X → mtSs T sc ir l = true → PSs X l (liftS X.K (M.wSs (C P n xx) ir))
  | .nil, l, X, sc, ok, h => by
    cases l with
    | cons _ _ => simp [mtSs] at h
    | nil =>
      have w1 : M.wSs (C P n xx) .nil = fun R σ h => R.nx σ h := by funext R σ h; simp only [M.wSs]
      rw [w1]
      exact ss_nil
  | .cons s r, l, X, sc, ok, h => by
    cases l with
    | nil => simp [mtSs] at h
    | cons x l =>
      simp only [mtSs] at h
      obtain ⟨h1, h2⟩ := ba h
      have w1 : M.wSs (C P n xx) (.cons s r) = fun R σ h => M.wS (C P n xx) s { R with nx := fun σ' h' => M.wSs (C P n xx) r R σ' h' } σ h := by funext R σ h; simp only [M.wSs]
      rw [w1]
      exact ss_cons (sndS s x X sc ok h1) (sndSs r l X sc ok h2)
end

/-! ### defs -/
/-- a def of the program: its name, its names by slot, its row's statement, what it does -/
structure Fn where
  f : M.Sx
  N : List Str
  ps : List Str
  params : Arguments
  body : List Stmt
  scope : Scope
  fd : M.FD
/-- what is looked at of a def's text -/
def FnScopeB (N ps : List Str) (sc : Scope) : Bool := (match sc.kind with | .function => true | _ => false) && !sc.isCoroutine && !sc.isGenerator && decide N.Nodup && decide (N.take ps.length = ps) && (ps.all fun x => match sc.names.lookup x with
  | some .local => true | some .cell => true | _ => false) && sc.names.all fun y => match y.2 with
  | .free => false | _ => true
def Fn.ok (bn : List Str) (fs : List M.Sx) (F : Fn) : Bool := FnScopeB F.N F.ps F.scope && decide (F.fd.ps = F.ps.length) && decide (F.fd.n = F.N.length) && mtSs ⟨F.N, bn, fs⟩ F.scope F.fd.body F.body
theorem fnScope_of {N ps : List Str} {sc : Scope} (h : FnScopeB N ps sc = true) : FnScope N ps sc := by
  unfold FnScopeB at h
  simp only [Bool.and_eq_true, decide_eq_true_eq, List.all_eq_true, Bool.not_eq_true'] at h
  obtain ⟨⟨⟨⟨⟨⟨h1, h2⟩, h3⟩, h4⟩, h5⟩, h6⟩, h7⟩ := h
  refine ⟨?_, h2, h3, h4, h5, fun x hx => ?_, fun y hy e => ?_⟩
  · split at h1 <;> first | assumption | cases h1
  · have := h6 x hx
    split at this
    · exact .inl (by assumption)
    · exact .inr (by assumption)
    · cases this
  · have := h7 y hy
    rw [e] at this
    cases this
end
end Snd
end
section
/-! Sound11: a whole program, and a law's end. -/
namespace Snd
open PySem L2 PySem.Spec PyProof.Rows
def Fn.Bnd (F : Fn) : Prop := ∀ (kV doc pm : Value) (an : Option Addr) (cdv ct : Value) (us : List Value), us.length = F.ps.length → bindArgs (PySem.W.fnOf (sV F.f) (sV F.f) F.params F.body F.scope .none kV doc pm an cdv ct) ⟨us, []⟩ = pure (F.ps.zip us)
def AllP (p : Fn → Prop) : List Fn → Prop
  | [] => True
  | F :: r => p F ∧ AllP p r
theorem AllP.get {p : Fn → Prop} : ∀ {l : List Fn}, AllP p l → ∀ F ∈ l, p F
  | F :: r, ⟨a, b⟩, G, h => by
    rcases List.mem_cons.mp h with e | h
    · rw [e]; exact a
    · exact b.get G h
def tabP (tab : List Fn) : M.Prog := M.pOf (tab.map fun F => (F.f, F.fd))
theorem tabP_of : ∀ {tab : List Fn}, (tab.map (·.f)).Nodup → ∀ F ∈ tab, tabP tab F.f = some F.fd
  | G :: r, nd, F, h => by
    rw [List.map_cons, List.nodup_cons] at nd
    rcases List.mem_cons.mp h with e | h
    · subst e
      simp [tabP, M.pOf, List.find?_cons]
    · have ne : G.f ≠ F.f := fun e => nd.1 (by rw [e]; exact List.mem_map.mpr ⟨F, h, rfl⟩)
      have ih := tabP_of nd.2 F h
      unfold tabP M.pOf at ih ⊢
      rw [List.map_cons, List.find?_cons]
      have : (G.f == F.f) = false := by simpa using ne
      simp only [this]
      exact ih
theorem rs_start {K : Fr} {H : Hp} {ds : List SD} {vs : List V} (r : Reps K H ds vs) (N : List Str) (fd : M.FD) (h1 : fd.n = N.length) (h2 : fd.ps = ds.length) : RS K H (L2.start N vs) (M.start fd ds) := by
  have ln := r.length
  unfold L2.start M.start
  refine ⟨by simp [h1, h2, ln], fun i d e => ?_⟩
  by_cases hi : i < ds.length
  · rw [List.getElem?_append_left (by simpa using hi), List.getElem?_map] at e
    cases q : ds[i]? with
    | none => rw [q] at e; cases e
    | some x =>
      rw [q] at e
      simp only [Option.map_some, Option.some.injEq] at e
      subst e
      obtain ⟨v, e1, e2⟩ := r.get q
      exact ⟨v, by rw [List.getElem?_append_left (by simpa [ln] using hi), List.getElem?_map, e1]; rfl, e2⟩
  · rw [List.getElem?_append_right (by simpa using hi)] at e
    have := List.getElem?_replicate (a := (none : Option SD)) (n := fd.n - fd.ps) (i := i - (ds.map some).length)
    rw [this] at e
    split at e <;> cases e
section
variable {P : Program} {w : World} {K : Fr} {mg : Str → Option Value} {base : Heap}
theorem all_ok {tab : List Fn} {bn : List Str} (hnd : (tab.map (·.f)).Nodup) (hok : AllP (fun F => F.ok bn (tab.map (·.f)) = true) tab) (hB : AllP Fn.Bnd tab)
    (hf : ∀ F ∈ tab, ∃ fa fdc, mg (sV F.f) = some (.ref fa) ∧ FunD K (sV F.f) (sV F.f) F.params F.body F.scope [] [] fa fdc) (hfree : ∀ x ∈ bn, mg x = none) :
    ∀ n, ∀ F ∈ tab, ∀ fa fdc, FunD K (sV F.f) (sV F.f) F.params F.body F.scope [] [] fa fdc → FnOk P w K mg base CX0 n fa fdc F.ps (spC K (tabP tab) n F.f) := by
  intro n
  induction n with
  | zero =>
    intro F hF fa fdc D
    refine ⟨fun vs H Q E h => ?_, fun A outer s H args us vs Q E hr e0 hb r h => ?_⟩
    · obtain ⟨ds, h, Qa, xx, _, _, q, _⟩ := h
      simp only [M.run] at q
    · obtain ⟨ds, h, Qa, xx, _, _, q, _⟩ := h
      simp only [M.run] at q
  | succ n ih =>
    intro F hF fa fdc D
    have hk := hok.get F hF
    have hP := tabP_of hnd F hF
    unfold Fn.ok at hk
    obtain ⟨hk, k4⟩ := ba hk
    obtain ⟨hk, k3⟩ := ba hk
    obtain ⟨k1, k2⟩ := ba hk
    have k2 := of_decide_eq_true k2
    have k3 := of_decide_eq_true k3
    have S := fnScope_of k1
    have runE : ∀ {ds : List SD} {h : M.AH} {Qa : M.VQ} {xx : M.XP}, M.run (tabP tab) (n + 1) F.f ds h Qa xx → ds.length = F.fd.ps ∧ M.wSs (C (tabP tab) n xx) F.fd.body { nx := fun _ h' => Qa .non h', rt := Qa, bk := fun _ _ => False, ct := fun _ _ => False } (M.start F.fd ds) h := by
      intro ds h Qa xx q
      simp only [M.run] at q
      rw [hP] at q
      exact q
    refine D.ok S (fun vs H Q E h => ?_) (fun cdv A outer s H vs Q E hr h => ?_)
    · obtain ⟨ds, h, Qa, xx, r, _, q, _⟩ := h
      rw [r.length, (runE q).1, k2]
    · obtain ⟨ds, h, Qa, xx, r, rh, q, k⟩ := h
      obtain ⟨q1, q2⟩ := runE q
      have ok : XOk (tabP tab) n ⟨F.N, bn, tab.map (·.f)⟩ F.scope F.scope (cxOf CX0 P w K mg base F.N (sV F.f) F.scope fa cdv A outer s H E).nox := by
        refine ⟨rfl, S.nd, rfl, fun x hx => ?_, rfl, hr, rfl, hfree, fun f hf2 => ?_⟩
        · unfold locB at hx
          split at hx
          · exact ⟨.inl (by assumption), .inl rfl⟩
          · exact ⟨.inr (by assumption), .inl rfl⟩
          · cases hx
        · obtain ⟨G, hG, rfl⟩ := List.mem_map.mp hf2
          obtain ⟨ga, gdc, e1, e2⟩ := hf G hG
          exact ⟨ga, gdc, G.ps, e1, e2.kp, ih G hG ga gdc e2, e2.bindsN (hB.get G hG)⟩
      refine ⟨_, (sndSs (xx := xx) F.fd.body F.body _ F.scope ok k4).nox, ?_⟩
      refine ⟨M.start F.fd ds, h, _, rs_start r F.N F.fd k3 q1.symm, rh, q2, ⟨fun σa h' σ H' z f rs' rh' => ?_, k, fun _ _ _ _ z _ _ _ => z.elim, fun _ _ _ _ z _ _ _ => z.elim⟩⟩
      exact k _ _ _ _ z f rfl rh'

/-- what a law is asked, in the IR -/
def LawOk (prog : M.Prog) (n : Nat) (law : M.Sx) : Prop := ∀ ns : List Int, ns.length ≤ 63 → M.run prog n law [.rol (ns.map .int)] (fun _ => none) (fun d _ => d = .bl true) (fun _ _ _ => False)
theorem reps_ints {H : Hp} : ∀ ns : List Int, Reps K H (ns.map .int) (ns.map V.int)
  | [] => rfl
  | n :: ns => ⟨_, _, rfl, rfl, reps_ints ns⟩
theorem law_sp {prog : M.Prog} {n : Nat} {law : M.Sx} (h : LawOk prog n law) (H : Hp) (a : Addr) (ns : List Int) (hl : ns.length ≤ 63) (hO : Only H) (hS : SqL K H a (ns.map V.int)) : spC K prog n law [.ref a] H (fun v _ => v = .bl true) fun _ _ _ => False := by
  refine ⟨[.rol (ns.map .int)], fun _ => none, _, _, Reps.one ⟨a, ns.map V.int, rfl, ?_, reps_ints ns⟩, (fun _ _ e => by cases e), h ns hl, fun d h' v H' q f r rh => ?_⟩
  · rcases hS with (e | ⟨o, e⟩) | e
    · rcases hO a with z | ⟨o, xs, z⟩
      · rw [z] at e; cases e
      · rw [z] at e; cases e
    · exact .inl ⟨o, e⟩
    · exact .inr e
  · subst q
    exact r
end
/-! ### the head's data -/
def Fn.dd (F : Fn) : He.DefD := ⟨(sV F.f, none), sV F.f, sV F.f, F.params, F.body, F.scope, [], []⟩
def headFa (tab : List Fn) (bn : List Str) : List He.Fa := (tab.map fun F => He.Fa.glo (sV F.f)) ++ bn.map fun x => He.Fa.free x
def headFn (tab : List Fn) : List He.DefD := tab.map Fn.dd
theorem fact_mem {fa : List He.Fa} {fn : List He.DefD} {K : Fr} (c : He.SaysD fa fn K) {f : He.Fa} (h : f ∈ fa) : f.ok K = true := by
  obtain ⟨i, hi⟩ := List.getElem?_of_mem h
  exact He.SaysD.fact c i hi
theorem def_mem {fa : List He.Fa} {fn : List He.DefD} {K : Fr} (c : He.SaysD fa fn K) {d : He.DefD} (h : d ∈ fn) : ∃ fd, FunD K d.name d.qual d.params d.body d.scope (d.dvs K) (d.kws K) (He.fAd K d.at_) fd := by
  obtain ⟨i, hi⟩ := List.getElem?_of_mem h
  exact He.SaysD.def_ c i hi
theorem law_facts {P : Program} {w : World} {K : Fr} {h : Heap} {mg : Str → Option Value} {f : Addr} {tab : List Fn} {bn : List Str} {L : Fn} (hL : L ∈ tab) (hps : L.ps = [("script" : Str)]) (X : K.In h) (G : h.Ns mainGlobals mg) (hfa : mg (sV L.f) = some (.ref f)) (c : He.SaysD (headFa tab bn) (headFn tab) K)
    (hnd : (tab.map (·.f)).Nodup) (hok : AllP (fun F => F.ok bn (tab.map (·.f)) = true) tab) (hB : AllP Fn.Bnd tab) (n : Nat) :
    ∃ fd : FuncData, (∀ (s : Shared) (v : Value), BindsTo s fd ⟨[v], []⟩ [(("script" : Str), v)]) ∧ ∀ base : Heap, K.In base → base.Ns mainGlobals mg → FnOk P w K mg base CX0 n f fd [("script" : Str)] (spC K (tabP tab) n L.f) := by
  have hf : ∀ F ∈ tab, ∃ fa fdc, mg (sV F.f) = some (.ref fa) ∧ FunD K (sV F.f) (sV F.f) F.params F.body F.scope [] [] fa fdc := fun F hF => by
    have e1 := He.glo_ok X G (fact_mem c (List.mem_append_left _ (List.mem_map.mpr ⟨F, hF, rfl⟩)))
    obtain ⟨fd, D⟩ := def_mem c (List.mem_map.mpr ⟨F, hF, rfl⟩ : F.dd ∈ headFn tab)
    exact ⟨_, fd, e1, D⟩
  have hfree : ∀ x ∈ bn, mg x = none := fun x hx => He.free_ok X G (fact_mem c (List.mem_append_right _ (List.mem_map.mpr ⟨x, hx, rfl⟩)))
  obtain ⟨fa, fdc, e1, D⟩ := hf L hL
  rw [hfa] at e1
  cases e1
  refine ⟨fdc, fun s v => ?_, fun base _ _ => ?_⟩
  · have b := D.bindsA (hB.get L hL) s [v] (by rw [hps]; rfl)
    rw [hps] at b
    exact b
  · have := all_ok (P := P) (w := w) (base := base) hnd hok hB hf hfree n L hL f fdc D
    rw [hps] at this
    exact this
end Snd
end
section
/-! Lib: heaps kept, calls, small rules for walking the IR. Pure Lean. -/
namespace M
/-- all that stood stands -/
def Ext (h h' : AH) : Prop := ∀ a o, h a = some o → h' a = some o
/-- .. but for p -/
def Ke (p : Nat) (h h' : AH) : Prop := ∀ a o, a ≠ p → h a = some o → h' a = some o
section
variable {h h1 h2 h' : AH} {p q a : Nat} {o : Ob}
theorem up_same : up h a o a = some o := by simp [up]
theorem up_ne {b : Nat} (e : b ≠ a) : up h a o b = h b := by simp [up, e]
theorem up_up {o' : Ob} : up (up h a o) a o' = up h a o' := by
  funext b; simp only [up]; split <;> rfl
theorem Ext.refl : Ext h h := fun _ _ e => e
theorem Ext.trans (x : Ext h h1) (y : Ext h1 h2) : Ext h h2 := fun a o e => y a o (x a o e)
theorem Ext.ke (x : Ext h h1) : Ke p h h1 := fun a o _ e => x a o e
theorem Ext.new (n : h p = none) : Ext h (up h p o) := fun a u e => by
  rw [up_ne (fun z => by subst z; rw [n] at e; cases e)]; exact e
theorem Ke.refl : Ke p h h := fun _ _ _ e => e
theorem Ke.trans (x : Ke p h h1) (y : Ke p h1 h2) : Ke p h h2 := fun a o n e => y a o n (x a o n e)
theorem Ke.put : Ke p h (up h p o) := fun a u n e => by rw [up_ne n]; exact e
/-- changed at p, which h does not know -/
theorem Ext.mut (x : Ext h h1) (n : h p = none) (y : Ke p h1 h2) : Ext h h2 := fun a u e => y a u (fun z => by subst z; rw [n] at e; cases e) (x a u e)
theorem fresh_back (x : Ext h h1) (n : h1 p = none) : h p = none := by
  cases e : h p with
  | none => rfl
  | some o => rw [x p o e] at n; cases n
theorem ne_new (e : h a = some o) (n : h p = none) : a ≠ p := fun z => by subst z; rw [n] at e; cases e
end
/-- behind a def's body -/
def RT (Q : VQ) : Ends := { nx := fun _ h' => Q .non h', rt := Q, bk := fun _ _ => False, ct := fun _ _ => False }
@[simp] theorem RT_nx {Q : VQ} : (RT Q).nx = fun _ h' => Q .non h' := rfl
@[simp] theorem RT_rt {Q : VQ} : (RT Q).rt = Q := rfl
@[simp] theorem RT_bk {Q : VQ} : (RT Q).bk = fun _ _ => False := rfl
@[simp] theorem RT_ct {Q : VQ} : (RT Q).ct = fun _ _ => False := rfl
theorem run_of {P : Prog} {n : Nat} {f : Sx} {fd : FD} {ds : List D} {h : AH} {Q : VQ} {X : XP} (hP : P f = some fd) (hl : ds.length = fd.ps)
    (hb : wSs ⟨run P n, X⟩ fd.body (RT Q) (start fd ds) h) : run P (n + 1) f ds h Q X := by
  unfold run
  simp only [hP]
  exact ⟨hl, hb⟩
/-! ### loops -/
/-- over a range -/
theorem loop_rng {lo hi : Int} {ok : AH → Prop} {body : D → St → AH → (St → AH → Prop) → Prop} {done : St → AH → Prop} {σ : St} {h : AH} (P : Nat → St → AH → Prop) (h0 : P 0 σ h) (hok : ∀ i σ h, P i σ h → ok h)
    (hs : ∀ (i : Nat) σ h, (i : Int) < hi - lo → P i σ h → body (.int (lo + i)) σ h (P (i + 1))) (hd : ∀ σ h, P (hi - lo).toNat σ h → done σ h) : loopW (rangeL lo hi) ok body done σ h := by
  have ln : (rangeL lo hi).length = (hi - lo).toNat := by simp [rangeL]
  refine ⟨P, h0, hok, fun i x σ h e p => ?_, fun σ h p => hd σ h (by rw [ln] at p; exact p)⟩
  have hlt : i < (rangeL lo hi).length := (List.getElem?_eq_some_iff.mp e).1
  rw [ln] at hlt
  simp only [rangeL, List.getElem?_map] at e
  rw [List.getElem?_range hlt] at e
  simp only [Option.map_some, Option.some.injEq] at e
  subst e
  exact hs i σ h (by omega) p
theorem comp_rng {lo hi : Int} {ok : AH → Prop} {body : D → AH → (D → AH → Prop) → (AH → Prop) → Prop} {done : List D → AH → Prop} {h : AH} (P : Nat → List D → AH → Prop) (h0 : P 0 [] h) (hok : ∀ i acc h, P i acc h → ok h ∧ acc.length ≤ i) (hz : (hi - lo).toNat ≤ LINE)
    (hs : ∀ (i : Nat) acc h, (i : Int) < hi - lo → P i acc h → body (.int (lo + i)) h (fun y h' => P (i + 1) (acc ++ [y]) h') (fun h' => P (i + 1) acc h')) (hd : ∀ acc h, P (hi - lo).toNat acc h → done acc h) : compW (rangeL lo hi) ok body done h := by
  have ln : (rangeL lo hi).length = (hi - lo).toNat := by simp [rangeL]
  refine ⟨P, h0, hok, by rw [ln]; exact hz, fun i x acc h e p => ?_, fun acc h p => hd acc h (by rw [ln] at p; exact p)⟩
  have hlt : i < (rangeL lo hi).length := (List.getElem?_eq_some_iff.mp e).1
  rw [ln] at hlt
  simp only [rangeL, List.getElem?_map] at e
  rw [List.getElem?_range hlt] at e
  simp only [Option.map_some, Option.some.injEq] at e
  subst e
  exact hs i acc h (by omega) p
/-- a while by an invariant and a measure -/
theorem whl_of {C : Cx} {c : E} {b : Ss} {R : Ends} {σ : St} {h : AH} (I : St → AH → Prop) (μ : St → AH → Nat) (h0 : I σ h)
    (hs : ∀ σ h, I σ h → wT C c σ h fun k h1 => match k with
      | true => wSs C b { nx := fun σ' h' => I σ' h' ∧ μ σ' h' < μ σ h, ct := fun σ' h' => I σ' h' ∧ μ σ' h' < μ σ h, bk := R.nx, rt := R.rt } σ h1
      | false => R.nx σ h1) (mono : ∀ (σ : St) (h : AH) (Q Q' : Bool → AH → Prop), (∀ b h1, Q b h1 → Q' b h1) → wT C c σ h Q → wT C c σ h Q')
    (bmono : ∀ (σ : St) (h : AH) (N N' : St → AH → Prop), (∀ s h, N s h → N' s h) → wSs C b { nx := N, ct := N, bk := R.nx, rt := R.rt } σ h → wSs C b { nx := N', ct := N', bk := R.nx, rt := R.rt } σ h) : wS C (.whl c b) R σ h := by
  simp only [wS]
  refine ⟨fun m σ h => m = μ σ h ∧ I σ h, ⟨_, rfl, h0⟩, ?_⟩
  rintro m σ h ⟨rfl, i⟩
  refine mono σ h _ _ (fun k h1 q => ?_) (hs σ h i)
  cases k with
  | true => exact bmono σ h1 _ _ (fun s h' ⟨a, b⟩ => ⟨_, b, rfl, a⟩) q
  | false => exact q

/-! ### one step at a time -/
section
variable {C : Cx} {σ : St} {h h1 : AH} {Q : VQ} {R : Ends}
@[simp] theorem wE_var {i : Nat} : wE C (.var i) σ h Q = match σ[i]? with
    | some (some d) => Q d h
    | _ => False := by simp only [wE] <;> rfl
@[simp] theorem wE_int {n : Int} : wE C (.int n) σ h Q = Q (.int n) h := by simp only [wE]
@[simp] theorem wE_str {s : Sx} : wE C (.str s) σ h Q = Q (.str s) h := by simp only [wE]
@[simp] theorem wE_bl {s : Bool} : wE C (.bl s) σ h Q = Q (.bl s) h := by simp only [wE]
@[simp] theorem wE_non : wE C .non σ h Q = Q .non h := by simp only [wE]
@[simp] theorem wE_tup {es : Es} : wE C (.tup es) σ h Q = wEs C es σ h fun ds h1 => ds.length ≤ LINE ∧ Q (.tup ds) h1 := by simp only [wE]
@[simp] theorem wE_lst {es : Es} : wE C (.lst es) σ h Q = wEs C es σ h fun ds h1 => ds.length ≤ LINE ∧ ∀ r, h1 r = none → Q (.ref r) (up h1 r (.lst ds)) := by simp only [wE]
@[simp] theorem wE_dct {k : Nat} : wE C (.dct k .nil) σ h Q = ∀ r, h r = none → Q (.ref r) (up h r (.dct k [])) := by simp only [wE]
@[simp] theorem wE_bin {o : Bop} {a b : E} : wE C (.bin o a b) σ h Q = wE C a σ h fun x h1 => wE C b σ h1 fun y h2 => opBin o x y h2 Q := by simp only [wE]
@[simp] theorem wE_neg {a : E} : wE C (.neg a) σ h Q = wE C a σ h fun x h1 => match x with
    | .int i => Q (.int (-i)) h1
    | _ => False := by simp only [wE] <;> rfl
@[simp] theorem wE_cmp {o : Cop} {a b : E} : wE C (.cmp o a b) σ h Q = wE C a σ h fun x h1 => wE C b σ h1 fun y h2 => opCmp o x y h2 fun c => Q (.bl c) h2 := by simp only [wE]
@[simp] theorem wE_chn {o o' : Cop} {a b c : E} : wE C (.chn o o' a b c) σ h Q = wE C a σ h fun x h1 => wE C b σ h1 fun y h2 => opCmp o x y h2 fun k => match k with
    | true => wE C c σ h2 fun z h3 => opCmp o' y z h3 fun k' => Q (.bl k') h3
    | false => Q (.bl false) h2 := by simp only [wE] <;> rfl
@[simp] theorem wE_bop {k : Bool} {es : Es} : wE C (.bop k es) σ h Q = wB C k es σ h Q := by simp only [wE]
@[simp] theorem wE_not {a : E} : wE C (.not a) σ h Q = wE C a σ h fun x h1 => match x with
    | .bl b => Q (.bl (!b)) h1
    | _ => False := by simp only [wE] <;> rfl
@[simp] theorem wE_ite {c a b : E} : wE C (.ite c a b) σ h Q = wE C c σ h fun x h1 => match x with
    | .bl true => wE C a σ h1 Q
    | .bl false => wE C b σ h1 Q
    | _ => False := by simp only [wE] <;> rfl
@[simp] theorem wE_ix {a i : E} : wE C (.ix a i) σ h Q = wE C a σ h fun x h1 => wE C i σ h1 fun y h2 => opIx x y h2 Q := by simp only [wE]
@[simp] theorem wE_sl {a : E} {lo hi : Es} : wE C (.sl a lo hi) σ h Q = wE C a σ h fun x h1 => wO C lo σ h1 fun l h2 => wO C hi σ h2 fun u h3 => opSl x l u h3 Q := by simp only [wE]
@[simp] theorem wE_call {f : Sx} {es : Es} : wE C (.call f es) σ h Q = wEs C es σ h fun ds h1 => C.call f ds h1 Q C.ex := by simp only [wE]
@[simp] theorem wE_blt {b : Blt} {es : Es} : wE C (.blt b es) σ h Q = wEs C es σ h fun ds h1 => opBlt b ds h1 Q := by simp only [wE]
@[simp] theorem wE_isi {a : E} {t : Ty} : wE C (.isi a t) σ h Q = wE C a σ h fun x h1 => match opIsi x t with
    | some b => Q (.bl b) h1
    | none => False := by simp only [wE] <;> rfl
@[simp] theorem wE_mth {m : Mth} {o : E} {es : Es} : wE C (.mth m o es) σ h Q = wE C o σ h fun x h1 => recvOk m x h1 ∧ wEs C es σ h1 fun ds h2 => opMth m x ds h2 Q := by simp only [wE]
@[simp] theorem wE_lc {elt : E} {t : Tgt} {own : List Nat} {k : Itk} {src ifs : Es} : wE C (.lc elt t own k src ifs) σ h Q = wEs C src σ h fun ds h1 => walk k ds h1 fun xs ok =>
      compW xs ok (fun x h2 yes no => match setT t x (forget σ own) with
        | some σ' => wB C true ifs σ' h2 fun c h3 => match c with
          | .bl true => wE C elt σ' h3 yes
          | .bl false => no h3
          | _ => False
        | none => False) (fun acc h2 => ∀ r, h2 r = none → Q (.ref r) (up h2 r (.lst acc))) h1 := by simp only [wE] <;> rfl
@[simp] theorem wEs_nil {Q : List D → AH → Prop} : wEs C .nil σ h Q = Q [] h := by simp only [wEs]
@[simp] theorem wEs_cons {e : E} {es : Es} {Q : List D → AH → Prop} : wEs C (.cons e es) σ h Q = wE C e σ h fun d h1 => wEs C es σ h1 fun ds h2 => Q (d :: ds) h2 := by simp only [wEs]
@[simp] theorem wB_nil {k : Bool} : wB C k .nil σ h Q = Q (.bl k) h := by simp only [wB]
@[simp] theorem wB_and {e : E} {es : Es} : wB C true (.cons e es) σ h Q = wE C e σ h fun d h1 => match d with
    | .bl true => wB C true es σ h1 Q
    | .bl false => Q (.bl false) h1
    | _ => False := by
  simp only [wB]
  congr
  funext d h1
  cases d with
  | bl b => cases b <;> rfl
  | _ => rfl
@[simp] theorem wB_or {e : E} {es : Es} : wB C false (.cons e es) σ h Q = wE C e σ h fun d h1 => match d with
    | .bl false => wB C false es σ h1 Q
    | .bl true => Q (.bl true) h1
    | _ => False := by
  simp only [wB]
  congr
  funext d h1
  cases d with
  | bl b => cases b <;> rfl
  | _ => rfl
@[simp] theorem wO_nil {Q : Option Int → AH → Prop} : wO C .nil σ h Q = Q none h := by simp only [wO]
@[simp] theorem wO_cons {e : E} {Q : Option Int → AH → Prop} : wO C (.cons e .nil) σ h Q = wE C e σ h fun d h1 => match d with
    | .int n => Q (some n) h1
    | _ => False := by simp only [wO] <;> rfl
@[simp] theorem wT_eq {e : E} {Q : Bool → AH → Prop} : wT C e σ h Q = wE C e σ h fun d h1 => match d with
    | .bl b => Q b h1
    | _ => False := rfl
@[simp] theorem wS_asg {t : Tgt} {e : E} : wS C (.asg t e) R σ h = wE C e σ h fun d h1 => match setT t d σ with
    | some σ' => R.nx σ' h1
    | none => False := by simp only [wS] <;> rfl
@[simp] theorem wS_six {o i e : E} : wS C (.six o i e) R σ h = wE C e σ h fun v h1 => wE C o σ h1 fun x h2 => wE C i σ h2 fun y h3 => opSet x y v h3 fun h4 => R.nx σ h4 := by simp only [wS]
@[simp] theorem wS_aug {i : Nat} {o : Bop} {e : E} : wS C (.aug i o e) R σ h = match σ[i]? with
    | some (some x) => wE C e σ h fun y h1 => opAug o x y fun z => R.nx (σ.set i (some z)) h1
    | _ => False := by simp only [wS] <;> rfl
@[simp] theorem wS_ex {e : E} : wS C (.ex e) R σ h = wE C e σ h fun _ h1 => R.nx σ h1 := by simp only [wS]
@[simp] theorem wS_ret {e : E} : wS C (.ret e) R σ h = wE C e σ h R.rt := by simp only [wS]
@[simp] theorem wS_retN : wS C .retN R σ h = R.rt .non h := by simp only [wS]
@[simp] theorem wS_ife {c : E} {a b : Ss} : wS C (.ife c a b) R σ h = wE C c σ h fun d h1 => match d with
    | .bl true => wSs C a R σ h1
    | .bl false => wSs C b R σ h1
    | _ => False := by
  simp only [wS, wT]
  congr
  funext d h1
  cases d with
  | bl b => cases b <;> rfl
  | _ => rfl
@[simp] theorem wS_for {t : Tgt} {k : Itk} {src : Es} {b : Ss} : wS C (.for_ t k src b) R σ h = wEs C src σ h fun ds h1 => walk k ds h1 fun xs ok =>
      loopW xs ok (fun x σ h P => match setT t x σ with
        | some σ' => wSs C b { nx := P, ct := P, bk := R.nx, rt := R.rt } σ' h
        | none => False) R.nx σ h1 := by simp only [wS] <;> rfl
@[simp] theorem wS_pass : wS C .pass R σ h = R.nx σ h := by simp only [wS]
@[simp] theorem wS_brk : wS C .brk R σ h = R.bk σ h := by simp only [wS]
@[simp] theorem wS_cont : wS C .cont R σ h = R.ct σ h := by simp only [wS]
@[simp] theorem wSs_nil : wSs C .nil R σ h = R.nx σ h := by simp only [wSs]
@[simp] theorem wSs_cons {s : S} {ss : Ss} : wSs C (.cons s ss) R σ h = wS C s { R with nx := fun σ' h' => wSs C ss R σ' h' } σ h := by simp only [wSs]
@[simp] theorem setT_nm {i : Nat} {d : D} : setT (.nm i) d σ = some (σ.set i (some d)) := rfl
@[simp] theorem setT_tp {ts : List Nat} {ds : List D} : setT (.tp ts) (.tup ds) σ = setT.setTs ts ds σ := rfl
@[simp] theorem setTs_nil : setT.setTs [] [] σ = some σ := rfl
@[simp] theorem setTs_cons {i : Nat} {is : List Nat} {d : D} {ds : List D} : setT.setTs (i :: is) (d :: ds) σ = setT.setTs is ds (σ.set i (some d)) := rfl
@[simp] theorem forget_nil : forget σ [] = σ := rfl
@[simp] theorem forget_cons {v : Nat} {vs : List Nat} : forget σ (v :: vs) = (forget σ vs).set v none := rfl
end
section
variable {h : AH} {Q : VQ} {q : Bool → Prop} {a b : Int} {s t : Sx} {xs ys : List D} {x y d : D} {p r : Nat}
@[simp] theorem bin_add : opBin .add x y h Q = opAdd x y h Q := rfl
@[simp] theorem bin_mul : opBin .mul x y h Q = opMul x y h Q := rfl
@[simp] theorem bin_sub : opBin .sub (.int a) (.int b) h Q = Q (.int (a - b)) h := rfl
@[simp] theorem bin_mod : opBin .mod (.int a) (.int b) h Q = (0 < b ∧ Q (.int (a % b)) h) := rfl
@[simp] theorem bin_fdiv : opBin .fdiv (.int a) (.int b) h Q = (divOk b ∧ Q (.int (a / b)) h) := rfl
@[simp] theorem bin_pow : opBin .pow (.int a) (.int b) h Q = (powOk a b ∧ Q (.int (a ^ b.toNat)) h) := rfl
@[simp] theorem add_int : opAdd (.int a) (.int b) h Q = Q (.int (a + b)) h := rfl
@[simp] theorem add_str : opAdd (.str s) (.str t) h Q = (s.length + t.length ≤ LINE ∧ Q (.str (s ++ t)) h) := rfl
@[simp] theorem add_tup : opAdd (.tup xs) (.tup ys) h Q = (xs ≠ [] ∧ xs.length + ys.length ≤ LINE ∧ Q (.tup (xs ++ ys)) h) := rfl
@[simp] theorem add_ref : opAdd (.ref p) (.ref r) h Q = ∃ xs ys, h p = some (.lst xs) ∧ h r = some (.lst ys) ∧ xs.length + ys.length ≤ LINE ∧ ∀ r, h r = none → Q (.ref r) (up h r (.lst (xs ++ ys))) := rfl
@[simp] theorem mul_int : opMul (.int a) (.int b) h Q = (mulOk a b ∧ Q (.int (a * b)) h) := rfl
@[simp] theorem cmp_eq : opCmp .eq x y h q = eqOk x y h q := rfl
@[simp] theorem cmp_ne : opCmp .ne x y h q = eqOk x y h fun c => q (!c) := rfl
@[simp] theorem cmp_lt : opCmp .lt (.int a) (.int b) h q = q (decide (a < b)) := rfl
@[simp] theorem cmp_ltS : opCmp .lt (.str s) (.str t) h q = q (decide (s < t)) := rfl
@[simp] theorem cmp_le : opCmp .le (.int a) (.int b) h q = q (decide (a ≤ b)) := rfl
@[simp] theorem cmp_gt : opCmp .gt (.int a) (.int b) h q = q (decide (b < a)) := rfl
@[simp] theorem cmp_ge : opCmp .ge (.int a) (.int b) h q = q (decide (b ≤ a)) := rfl
@[simp] theorem cmp_in : opCmp .isin x y h q = memOk x y h q := rfl
@[simp] theorem cmp_nin : opCmp .notin x y h q = memOk x y h fun c => q (!c) := rfl
@[simp] theorem cmp_is : opCmp .is_ x .non h q = q (decide (x = .non)) := rfl
@[simp] theorem cmp_isnt : opCmp .isnt x .non h q = q (!decide (x = .non)) := rfl
@[simp] theorem eq_int : eqOk (.int a) (.int b) h q = q (decide (a = b)) := by simp [eqOk, pureD, plain]
@[simp] theorem eq_str : eqOk (.str s) (.str t) h q = q (decide (s = t)) := by simp [eqOk, pureD, plain]
@[simp] theorem eq_bl {a b : Bool} : eqOk (.bl a) (.bl b) h q = q (decide (a = b)) := rfl
@[simp] theorem eq_tup : eqOk (.tup xs) (.tup ys) h q = (pureDs xs = true ∧ pureDs ys = true ∧ (plain 190 (.tup xs) = true ∨ plain 190 (.tup ys) = true) ∧ q (decide (xs = ys))) := by simp [eqOk, pureD]
@[simp] theorem eq_ref : eqOk (.ref p) (.ref r) h q = ∃ xs ys, h p = some (.lst xs) ∧ h r = some (.lst ys) ∧ pureDs xs = true ∧ pureDs ys = true ∧ (plains 190 xs = true ∨ plains 190 ys = true) ∧ q (decide (xs = ys)) := rfl
@[simp] theorem ix_tup {i : Int} : opIx (.tup xs) (.int i) h Q = match atI xs i with
    | some d => Q d h
    | none => False := rfl
@[simp] theorem ix_rol {i : Int} : opIx (.rol xs) (.int i) h Q = match atI xs i with
    | some d => Q d h
    | none => False := rfl
@[simp] theorem ix_str {i : Int} : opIx (.str s) (.int i) h Q = (s.length ≤ LINE ∧ match atI s i with
    | some c => Q (.str [c]) h
    | none => False) := rfl
theorem ix_lst {i : Int} (e : h p = some (.lst xs)) : opIx (.ref p) (.int i) h Q = match atI xs i with
    | some d => Q d h
    | none => False := by simp only [opIx, e] <;> rfl
theorem ix_dct {k : Nat} {kvs : List (D × D)} (e : h p = some (.dct k kvs)) : opIx (.ref p) y h Q = (keyOk k y = true ∧ match kvGet kvs y with
    | some d => Q d h
    | none => False) := by simp only [opIx, e] <;> rfl
@[simp] theorem sl_rol {lo hi : Option Int} : opSl (.rol xs) lo hi h Q = ∀ r, h r = none → Q (.ref r) (up h r (.lst (cut xs lo hi))) := rfl
@[simp] theorem sl_str {lo hi : Option Int} : opSl (.str s) lo hi h Q = (s.length ≤ LINE ∧ Q (.str (cut s lo hi)) h) := rfl
theorem sl_lst {lo hi : Option Int} (e : h p = some (.lst xs)) : opSl (.ref p) lo hi h Q = ∀ r, h r = none → Q (.ref r) (up h r (.lst (cut xs lo hi))) := by simp only [opSl, e]
@[simp] theorem arg1_eq {f : D → Prop} : arg1 [d] f = f d := rfl
@[simp] theorem arg2_eq {f : D → D → Prop} : arg2 [x, y] f = f x y := rfl
@[simp] theorem anInt_eq {f : Int → Prop} : anInt (.int a) f = f a := rfl
@[simp] theorem aSome_eq {α : Type} {z : α} {f : α → Prop} : aSome (some z) f = f z := rfl
theorem aLst_eq {f : Nat → List D → Prop} (e : h p = some (.lst xs)) : aLst (.ref p) h f = f p xs := by simp only [aLst, e]
theorem aDct_eq {k : Nat} {kvs : List (D × D)} {f : Nat → Nat → List (D × D) → Prop} (e : h p = some (.dct k kvs)) : aDct (.ref p) h f = f p k kvs := by simp only [aDct, e]
@[simp] theorem len_str {f : Nat → Prop} : lenOk (.str s) h f = (s.length ≤ LINE ∧ f s.length) := rfl
@[simp] theorem len_tup {f : Nat → Prop} : lenOk (.tup xs) h f = f xs.length := rfl
@[simp] theorem len_rol {f : Nat → Prop} : lenOk (.rol xs) h f = f xs.length := rfl
theorem len_lst {f : Nat → Prop} (e : h p = some (.lst xs)) : lenOk (.ref p) h f = f xs.length := by simp only [lenOk, seqOf, e, aSome]
@[simp] theorem toInt_int {f : Int → Prop} : toInt (.int a) f = f a := rfl
@[simp] theorem toInt_bl {b : Bool} {f : Int → Prop} : toInt (.bl b) f = f (if b then 1 else 0) := rfl
@[simp] theorem blt_len {ds : List D} : opBlt .len ds h Q = arg1 ds fun d => lenOk d h fun n => Q (.int n) h := rfl
@[simp] theorem blt_min2 {ds : List D} : opBlt .min2 ds h Q = arg2 ds fun x y => anInt x fun a => anInt y fun b => Q (.int (if b < a then b else a)) h := rfl
@[simp] theorem blt_max2 {ds : List D} : opBlt .max2 ds h Q = arg2 ds fun x y => anInt x fun a => anInt y fun b => Q (.int (if b > a then b else a)) h := rfl
@[simp] theorem blt_int1 {ds : List D} : opBlt .int1 ds h Q = arg1 ds fun d => toInt d fun i => Q (.int i) h := rfl
@[simp] theorem blt_sum {ds : List D} : opBlt .sum ds h Q = arg1 ds fun d => aLst d h fun _ xs => aSome (intsOf xs) fun ns => Q (.int ns.sum) h := rfl
@[simp] theorem blt_all {ds : List D} : opBlt .all ds h Q = arg1 ds fun d => aLst d h fun _ xs => aSome (bls xs) fun bs => Q (.bl (bs.all id)) h := rfl
@[simp] theorem blt_any {ds : List D} : opBlt .any ds h Q = arg1 ds fun d => aLst d h fun _ xs => aSome (bls xs) fun bs => Q (.bl (bs.any id)) h := rfl
@[simp] theorem blt_list {ds : List D} : opBlt .list ds h Q = arg1 ds fun d => aSome (seqOf d h) fun xs => ∀ r, h r = none → Q (.ref r) (up h r (.lst xs)) := rfl
@[simp] theorem blt_tuple {ds : List D} : opBlt .tuple ds h Q = arg1 ds fun d => aSome (seqOf d h) fun xs => Q (.tup xs) h := rfl
@[simp] theorem seq_tup : seqOf (.tup xs) h = some xs := rfl
@[simp] theorem seq_rol : seqOf (.rol xs) h = some xs := rfl
theorem seq_lst (e : h p = some (.lst xs)) : seqOf (.ref p) h = some xs := by simp only [seqOf, e]
@[simp] theorem recv_lst {m : Mth} {ds : List D} : opMth .append x ds h Q = arg1 ds fun d => aLst x h fun p xs => xs.length < LINE ∧ Q .non (up h p (.lst (xs ++ [d]))) := rfl
@[simp] theorem mth_pop : opMth .pop x [] h Q = aLst x h fun p xs => aSome xs[xs.length - 1]? fun y => Q y (up h p (.lst xs.dropLast)) := by simp [opMth]
@[simp] theorem mth_popAt : opMth .popAt x [.int 0] h Q = aLst x h fun p xs => aSome xs[0]? fun y => Q y (up h p (.lst xs.tail)) := by simp [opMth, arg1]
@[simp] theorem mth_append : opMth .append x [d] h Q = aLst x h fun p xs => xs.length < LINE ∧ Q .non (up h p (.lst (xs ++ [d]))) := rfl
@[simp] theorem mth_extend : opMth .extend x [d] h Q = aLst x h fun p xs => aLst d h fun q ys => xs.length + ys.length ≤ LINE ∧ Q .non (up h p (.lst (xs ++ ys))) := rfl
@[simp] theorem mth_reverse : opMth .reverse x [] h Q = aLst x h fun p xs => Q .non (up h p (.lst xs.reverse)) := by simp [opMth]
@[simp] theorem mth_get1 : opMth .get1 x [y] h Q = aDct x h fun p kd kvs => keyOk kd y = true ∧ Q ((kvGet kvs y).getD .non) h := rfl
@[simp] theorem mth_get2 : opMth .get2 x [y, d] h Q = aDct x h fun p kd kvs => keyOk kd y = true ∧ Q ((kvGet kvs y).getD d) h := rfl
theorem recv_ok {m : Mth} (hm : m ≠ .get1) (hm2 : m ≠ .get2) (e : h p = some (.lst xs)) : recvOk m (.ref p) h := by
  cases m <;> first | exact absurd rfl hm | exact absurd rfl hm2 | (simp only [recvOk, aLst, e])
theorem recv_dct {m : Mth} {k : Nat} {kvs : List (D × D)} (hm : m = .get1 ∨ m = .get2) (e : h p = some (.dct k kvs)) : recvOk m (.ref p) h := by
  rcases hm with rfl | rfl <;> simp only [recvOk, aDct, e]
theorem set_lst {i : Int} {q : AH → Prop} (e : h p = some (.lst xs)) : opSet (.ref p) (.int i) d h q = ((0 ≤ i ∧ i < xs.length) ∧ q (up h p (.lst (xs.set i.toNat d)))) := by simp only [opSet, e, anInt]
theorem set_dct {k : Nat} {kvs : List (D × D)} {q : AH → Prop} (e : h p = some (.dct k kvs)) : opSet (.ref p) y d h q = (keyOk k y = true ∧ kvs.length < LINE ∧ q (up h p (.dct k (kvPut kvs y d)))) := by simp only [opSet, e]
@[simp] theorem walk_tup {q : List D → (AH → Prop) → Prop} : walk .seq [.tup xs] h q = q xs fun _ => True := rfl
@[simp] theorem walk_rol {q : List D → (AH → Prop) → Prop} : walk .seq [.rol xs] h q = q xs fun _ => True := rfl
@[simp] theorem walk_str {q : List D → (AH → Prop) → Prop} : walk .seq [.str s] h q = q (s.map fun c => .str [c]) fun _ => True := rfl
theorem walk_lst {q : List D → (AH → Prop) → Prop} (e : h p = some (.lst xs)) : walk .seq [.ref p] h q = q xs fun h' => h' p = some (.lst xs) := by simp only [walk, e]
@[simp] theorem walk_rng {q : List D → (AH → Prop) → Prop} : walk .rng [.int a] h q = (-(2 ^ 62) ≤ a ∧ a < 2 ^ 62 ∧ q (rangeL 0 a) fun _ => True) := rfl
@[simp] theorem walk_rng2 {q : List D → (AH → Prop) → Prop} : walk .rng [.int a, .int b] h q = ((-(2 ^ 62) ≤ a ∧ a < 2 ^ 62 ∧ -(2 ^ 62) ≤ b ∧ b < 2 ^ 62) ∧ q (rangeL a b) fun _ => True) := rfl
theorem walk_enum {q : List D → (AH → Prop) → Prop} (e : h p = some (.lst xs)) : walk .enum [.ref p] h q = q (enumL 0 xs) fun h' => h' p = some (.lst xs) := by simp only [walk, e]
@[simp] theorem isi_int {t : Ty} : opIsi (.int a) t = match t with | .int => some true | _ => some false := by cases t <;> rfl
@[simp] theorem isi_bl {b : Bool} {t : Ty} : opIsi (.bl b) t = match t with | .int => some true | .bool => some true | _ => some false := by cases t <;> rfl
@[simp] theorem isi_tup {t : Ty} : opIsi (.tup xs) t = match t with | .tuple => some true | _ => some false := by cases t <;> rfl
@[simp] theorem isi_str {t : Ty} : opIsi (.str s) t = match t with | .str => some true | _ => some false := by cases t <;> rfl
@[simp] theorem aug_int : opAug .add (.int a) (.int b) (fun d => Q d h) = Q (.int (a + b)) h := rfl
@[simp] theorem aug_intP {q : D → Prop} : opAug .add (.int a) (.int b) q = q (.int (a + b)) := rfl
@[simp] theorem aug_subP {q : D → Prop} : opAug .sub (.int a) (.int b) q = q (.int (a - b)) := rfl
@[simp] theorem aug_strP {q : D → Prop} : opAug .add (.str s) (.str t) q = (s.length + t.length ≤ LINE ∧ q (.str (s ++ t))) := rfl
end
/-! ### dicts, pairs of places and items, plain data -/
theorem Ke.mut {p q : Nat} {h h1 h2 : AH} (x : Ke p h h1) (n : h q = none) (y : Ke q h1 h2) : Ke p h h2 := fun a u e z => y a u (fun w => by subst w; rw [n] at z; cases z) (x a u e z)
theorem Ke.new {p q : Nat} {h h1 : AH} {o : Ob} (x : Ke p h h1) (n : h1 q = none) : Ke p h (up h1 q o) := x.trans (Ext.new n).ke
theorem kvGet_nil {k : D} : kvGet [] k = none := rfl
theorem kvGet_cons {k k' v : D} {kvs : List (D × D)} : kvGet ((k, v) :: kvs) k' = if k = k' then some v else kvGet kvs k' := by
  unfold kvGet
  by_cases e : k = k' <;> simp [e]
theorem kvGet_put {k v k' : D} : ∀ {kvs : List (D × D)}, kvGet (kvPut kvs k v) k' = if k = k' then some v else kvGet kvs k'
  | [] => by
    unfold kvPut
    simp [kvGet_cons, kvGet_nil]
  | (a, w) :: r => by
    have ih := kvGet_put (k := k) (v := v) (k' := k') (kvs := r)
    unfold kvPut at ih ⊢
    by_cases e : a = k
    · subst e
      simp only [List.any_cons, decide_true, Bool.true_or, if_true, List.map_cons, kvGet_cons]
      by_cases e2 : a = k'
      · simp [e2]
      · simp only [if_neg e2]
        by_cases e3 : (r.any fun kv => decide (kv.1 = a)) = true
        · rw [if_pos e3] at ih
          rw [ih, if_neg e2]
        · have : r.map (fun kv => if kv.1 = a then (kv.1, v) else kv) = r := by
            conv => rhs; rw [← List.map_id r]
            refine List.map_congr_left fun kv hkv => ?_
            rw [if_neg (fun z => e3 (List.any_eq_true.mpr ⟨kv, hkv, decide_eq_true z⟩))]
            rfl
          rw [this]
    · simp only [List.any_cons, decide_eq_false e, Bool.false_or]
      by_cases e3 : (r.any fun kv => decide (kv.1 = k)) = true
      · rw [if_pos e3] at ih
        simp only [e3, if_true, List.map_cons, if_neg e, kvGet_cons]
        by_cases e2 : a = k'
        · simp only [if_pos e2]
          rw [if_neg (fun z => e (e2.trans z.symm))]
        · simp only [if_neg e2]; exact ih
      · rw [if_neg e3] at ih
        rw [if_neg e3, List.cons_append, kvGet_cons, kvGet_cons]
        by_cases e2 : a = k'
        · rw [if_pos e2, if_pos e2, if_neg (fun z => e (e2.trans z.symm))]
        · rw [if_neg e2, if_neg e2]; exact ih
theorem kvPut_len {k v : D} {kvs : List (D × D)} : (kvPut kvs k v).length ≤ kvs.length + 1 := by
  unfold kvPut
  split <;> simp
theorem enumL_at {xs : List D} : ∀ {n i : Nat} {x : D}, (enumL n xs)[i]? = some x → ∃ y, xs[i]? = some y ∧ x = .tup [.int ((n + i : Nat) : Int), y] := by
  induction xs with
  | nil => intro n i x e; simp [enumL] at e
  | cons a r ih =>
    intro n i x e
    cases i with
    | zero => simp [enumL] at e; exact ⟨a, rfl, by simp [e]⟩
    | succ i =>
      simp only [enumL, List.getElem?_cons_succ] at e ⊢
      obtain ⟨y, e1, e2⟩ := ih e
      exact ⟨y, e1, by rw [e2]; congr 3; omega⟩
theorem enumL_len {xs : List D} : ∀ {n : Nat}, (enumL n xs).length = xs.length := by
  induction xs with
  | nil => intro n; rfl
  | cons a r ih => intro n; simp only [enumL, List.length_cons, ih]
theorem map_at {α : Type} {f : α → D} {xs : List α} {i : Nat} {x : D} (e : (xs.map f)[i]? = some x) : ∃ y, xs[i]? = some y ∧ x = f y := by
  rw [List.getElem?_map] at e
  cases e2 : xs[i]? with
  | none => rw [e2] at e; cases e
  | some z => rw [e2] at e; exact ⟨z, rfl, (Option.some.inj e).symm⟩
theorem eq_pure {a b : D} {h : AH} {Q : Bool → Prop} (pa : pureD a = true) (pb : pureD b = true) (l : plain 190 a = true ∨ plain 190 b = true) (k : Q (decide (a = b))) : eqOk a b h Q := by
  cases a with
  | bl _ => simp [pureD] at pa
  | ref _ => simp [pureD] at pa
  | rol _ => simp [pureD] at pa
  | _ => exact ⟨pa, pb, l, k⟩
theorem cut_none {α : Type} {xs : List α} {v : Int} (h : 0 ≤ v) : cut xs none (some v) = xs.take v.toNat := by
  have : ¬ v < 0 := by omega
  simp [cut, clip, this]
theorem letters_at {i : Int} (h0 : 0 ≤ i) (h1 : i < 26) : atI [97, 98, 99, 100, 101, 102, 103, 104, 105, 106, 107, 108, 109, 110, 111, 112, 113, 114, 115, 116, 117, 118, 119, 120, 121, 122] i = some (97 + i.toNat) := by
  have key : ∀ n : Fin 26, atI [97, 98, 99, 100, 101, 102, 103, 104, 105, 106, 107, 108, 109, 110, 111, 112, 113, 114, 115, 116, 117, 118, 119, 120, 121, 122] ((n.val : Nat) : Int) = some (97 + n.val) := by decide
  have := key ⟨i.toNat, by omega⟩
  simp only at this
  rw [show ((i.toNat : Nat) : Int) = i by omega] at this
  exact this
theorem RT_mk {Q : VQ} : ({ nx := fun _ h' => Q .non h', rt := Q, bk := fun _ _ => False, ct := fun _ _ => False } : Ends) = RT Q := rfl
theorem nodup_inj {α : Type} {xs : List α} (nd : xs.Nodup) {i j : Nat} {x : α} (a : xs[i]? = some x) (b : xs[j]? = some x) : i = j := by
  obtain ⟨l1, e1⟩ := List.getElem?_eq_some_iff.mp a
  obtain ⟨l2, e2⟩ := List.getElem?_eq_some_iff.mp b
  have key := List.pairwise_iff_getElem.mp nd
  rcases Nat.lt_trichotomy i j with h | h | h
  · exact absurd (e1.trans e2.symm) (key i j l1 l2 h)
  · exact h
  · exact absurd (e2.trans e1.symm) (key j i l2 l1 h)
end M
end
section
/-! The IR of the defs of a linked text: printed by gen.py. -/
namespace K47
open M
abbrev s__law_copy : Sx := [95, 108, 97, 119, 95, 99, 111, 112, 121]
abbrev s__law_deck : Sx := [95, 108, 97, 119, 95, 100, 101, 99, 107]
abbrev s__law_kind : Sx := [95, 108, 97, 119, 95, 107, 105, 110, 100]
abbrev s__law_next : Sx := [95, 108, 97, 119, 95, 110, 101, 120, 116]
abbrev s__law_right : Sx := [95, 108, 97, 119, 95, 114, 105, 103, 104, 116]
abbrev s__law_thing : Sx := [95, 108, 97, 119, 95, 116, 104, 105, 110, 103]
abbrev s_a : Sx := [97]
abbrev s_copied : Sx := [99, 111, 112, 105, 101, 100]
abbrev s_copy : Sx := [99, 111, 112, 121]
abbrev s_l : Sx := [108]
abbrev s_law : Sx := [108, 97, 119]
abbrev s_lr : Sx := [108, 114]
abbrev s_name : Sx := [110, 97, 109, 101]
abbrev s_nlrpao : Sx := [110, 108, 114, 112, 97, 111]
abbrev s_o : Sx := [111]
abbrev s_one : Sx := [111, 110, 101]
abbrev s_p : Sx := [112]
abbrev s_r : Sx := [114]
abbrev s_rule : Sx := [114, 117, 108, 101]
abbrev s_sum : Sx := [115, 117, 109]
abbrev s_times : Sx := [116, 105, 109, 101, 115]
abbrev s_x : Sx := [120]
def b4_copy : Ss := .cons (.ret (.var 2)) .nil
def b3_copy : Ss := .cons (.asg (.nm 2) (.tup (.cons (.str s_r) (.cons (.var 2) .nil)))) .nil
def b2_copy : Ss := .cons (.for_ (.nm 3) .rng (.cons (.var 1) .nil) b3_copy) b4_copy
def b1_copy : Ss := .cons (.asg (.nm 2) (.tup (.cons (.str s_l) (.cons (.var 2) .nil)))) .nil
def b0_copy : Ss := .cons (.ife (.cmp .lt (.var 1) (.bin .sub (.var 0) (.int 1))) b1_copy .nil) b2_copy
def fd_copy : FD := ⟨3, 4, b0_copy⟩  -- 0:number 1:place 2:thing 3:turn
def b4_copied : Ss := .cons (.ret (.tup (.cons (.var 2) (.cons (.var 1) .nil)))) .nil
def b3_copied : Ss := .cons (.asg (.nm 1) (.ix (.var 1) (.int 1))) .nil
def b2_copied : Ss := .cons (.ife (.cmp .lt (.var 2) (.bin .sub (.var 0) (.int 1))) b3_copied .nil) b4_copied
def b1_copied : Ss := .cons (.asg (.nm 1) (.ix (.var 1) (.int 1))) (.cons (.aug 2 .add (.int 1)) .nil)
def b0_copied : Ss := .cons (.asg (.nm 2) (.int 0)) (.cons (.whl (.bop true (.cons (.cmp .lt (.var 2) (.bin .sub (.var 0) (.int 1))) (.cons (.cmp .eq (.ix (.var 1) (.int 0)) (.str s_r)) .nil))) b1_copied) b2_copied)
def fd_copied : FD := ⟨2, 3, b0_copied⟩  -- 0:number 1:thing 2:place
def b2_times : Ss := .cons (.ret (.tup (.cons (.str s_sum) (.cons (.var 1) (.cons (.call s_times (.cons (.bin .sub (.var 0) (.int 1)) (.cons (.var 1) .nil))) .nil))))) .nil
def b1_times : Ss := .cons (.ret (.var 1)) .nil
def b0_times : Ss := .cons (.ife (.cmp .eq (.var 0) (.int 1)) b1_times .nil) b2_times
def fd_times : FD := ⟨2, 2, b0_times⟩  -- 0:number 1:kind
def b10_law_deck : Ss := .cons (.ret (.var 1)) .nil
def b9_law_deck : Ss := .cons (.asg (.nm 4) (.bin .mod (.bin .add (.bin .add (.bin .mul (.var 3) (.int 48271)) (.bin .mul (.int 7919) (.var 2))) (.int 13)) (.int 2147483629))) (.cons (.asg (.nm 4) (.bin .mod (.bin .add (.bin .mul (.var 4) (.bin .add (.bin .fdiv (.var 4) (.int 5)) (.var 2))) (.bin .mul (.int 16807) (.var 2))) (.int 2147483587))) (.cons (.ex (.mth .append (.var 1) (.cons (.bin .mod (.bin .add (.bin .mul (.var 4) (.int 69621)) (.bin .fdiv (.var 4) (.int 127))) (.int 2147483647)) .nil))) .nil))
def b8_law_deck : Ss := .cons (.asg (.nm 3) (.bin .mod (.ix (.var 0) (.bin .mod (.var 2) (.blt .min2 (.cons (.int 63) (.cons (.blt .len (.cons (.var 0) .nil)) .nil))))) (.int 2147483629))) .nil
def b7_law_deck : Ss := .cons (.asg (.nm 3) (.bin .mul (.int 3) (.var 2))) (.cons (.ife (.cmp .gt (.blt .len (.cons (.var 0) .nil)) (.int 0)) b8_law_deck .nil) b9_law_deck)
def b6_law_deck : Ss := .cons (.for_ (.nm 2) .rng (.cons (.int 150) .nil) b7_law_deck) b10_law_deck
def b5_law_deck : Ss := .cons (.ret (.sl (.var 1) .nil (.cons (.int 150) .nil))) .nil
def b4_law_deck : Ss := .cons (.ex (.mth .append (.var 1) (.cons (.bin .mod (.var 4) (.int 2147483647)) .nil))) (.cons (.asg (.nm 4) (.bin .fdiv (.var 4) (.int 2147483647))) .nil)
def b3_law_deck : Ss := .cons (.ife (.bop false (.cons (.cmp .eq (.var 2) (.int 0)) (.cons (.cmp .gt (.var 4) (.int 0)) .nil))) b4_law_deck .nil) .nil
def b2_law_deck : Ss := .cons (.asg (.nm 4) (.bin .mod (.var 3) (.bin .pow (.int 2147483647) (.int 60)))) (.cons (.for_ (.nm 2) .rng (.cons (.int 60) .nil) b3_law_deck) .nil)
def b1_law_deck : Ss := .cons (.for_ (.nm 3) .seq (.cons (.sl (.var 0) (.cons (.int 1) .nil) (.cons (.int 63) .nil)) .nil) b2_law_deck) b5_law_deck
def b0_law_deck : Ss := .cons (.asg (.nm 1) (.lst .nil)) (.cons (.ife (.bop true (.cons (.cmp .gt (.blt .len (.cons (.var 0) .nil)) (.int 1)) (.cons (.cmp .eq (.bin .mod (.ix (.var 0) (.int 0)) (.int 2)) (.int 1)) .nil))) b1_law_deck .nil) b6_law_deck)
def fd_law_deck : FD := ⟨1, 5, b0_law_deck⟩  -- 0:script 1:deck 2:k 3:cell 4:number
def b2_law_next : Ss := .cons (.ret (.bin .mod (.mth .popAt (.var 0) (.cons (.int 0) .nil)) (.var 1))) .nil
def b1_law_next : Ss := .cons (.ret (.int 0)) .nil
def b0_law_next : Ss := .cons (.ife (.cmp .eq (.blt .len (.cons (.var 0) .nil)) (.int 0)) b1_law_next .nil) b2_law_next
def fd_law_next : FD := ⟨2, 2, b0_law_next⟩  -- 0:deck 1:many
def b9_law_thing : Ss := .cons (.ret (.ix (.var 2) (.neg (.int 1)))) .nil
def b8_law_thing : Ss := .cons (.ex (.mth .append (.var 2) (.cons (.tup (.cons (.var 4) (.cons (.mth .pop (.var 2) .nil) .nil))) .nil))) .nil
def b7_law_thing : Ss := .cons (.ife (.cmp .ne (.var 4) (.str s_p)) b8_law_thing .nil) .nil
def b6_law_thing : Ss := .cons (.asg (.nm 5) (.mth .pop (.var 2) .nil)) (.cons (.ex (.mth .append (.var 2) (.cons (.tup (.cons (.str s_p) (.cons (.mth .pop (.var 2) .nil) (.cons (.var 5) .nil)))) .nil))) .nil)
def b5_law_thing : Ss := .cons (.ife (.bop true (.cons (.cmp .eq (.var 4) (.str s_p)) (.cons (.cmp .gt (.blt .len (.cons (.var 2) .nil)) (.int 1)) .nil))) b6_law_thing b7_law_thing) .nil
def b4_law_thing : Ss := .cons (.ex (.mth .append (.var 2) (.cons (.tup .nil) .nil))) .nil
def b3_law_thing : Ss := .cons (.ife (.cmp .eq (.var 4) (.str s_o)) b4_law_thing b5_law_thing) .nil
def b2_law_thing : Ss := .cons (.ex (.mth .append (.var 2) (.cons (.tup (.cons (.str s_a) (.cons (.call s__law_next (.cons (.var 0) (.cons (.bin .add (.bin .pow (.int 10) (.int 9)) (.int 1)) .nil))) .nil))) .nil))) .nil
def b1_law_thing : Ss := .cons (.asg (.nm 4) (.ix (.var 1) (.call s__law_next (.cons (.var 0) (.cons (.blt .len (.cons (.var 1) .nil)) .nil))))) (.cons (.ife (.cmp .eq (.var 4) (.str s_a)) b2_law_thing b3_law_thing) .nil)
def b0_law_thing : Ss := .cons (.asg (.nm 2) (.lst (.cons (.tup .nil) .nil))) (.cons (.for_ (.nm 3) .rng (.cons (.call s__law_next (.cons (.var 0) (.cons (.int 41) .nil))) .nil) b1_law_thing) b9_law_thing)
def fd_law_thing : FD := ⟨2, 6, b0_law_thing⟩  -- 0:deck 1:forms 2:stack 3:k 4:form 5:other
def b6_law_copy : Ss := .cons (.ret (.var 2)) .nil
def b5_law_copy : Ss := .cons (.asg (.nm 2) (.tup (.cons (.str s_r) (.cons (.var 2) .nil)))) .nil
def b4_law_copy : Ss := .cons (.asg (.nm 2) (.tup (.cons (.str s_l) (.cons (.var 2) .nil)))) (.cons (.for_ (.nm 3) .rng (.cons (.var 1) .nil) b5_law_copy) b6_law_copy)
def b3_law_copy : Ss := .cons (.ret (.var 2)) .nil
def b2_law_copy : Ss := .cons (.asg (.nm 2) (.tup (.cons (.str s_r) (.cons (.var 2) .nil)))) .nil
def b1_law_copy : Ss := .cons (.for_ (.nm 3) .rng (.cons (.var 1) .nil) b2_law_copy) b3_law_copy
def b0_law_copy : Ss := .cons (.ife (.cmp .eq (.var 1) (.bin .sub (.var 0) (.int 1))) b1_law_copy .nil) b4_law_copy
def fd_law_copy : FD := ⟨3, 4, b0_law_copy⟩  -- 0:number 1:place 2:thing 3:turn
def b4_law_right : Ss := .cons (.ret (.bop true (.cons (.isi (.ix (.var 4) (.int 0)) .int) (.cons (.not (.isi (.ix (.var 4) (.int 0)) .bool)) (.cons (.cmp .eq (.ix (.var 4) (.int 0)) (.var 1)) .nil))))) .nil
def b3_law_right : Ss := .cons (.ret (.bl false)) .nil
def b2_law_right : Ss := .cons (.asg (.nm 4) (.call s_copied (.cons (.var 0) (.cons (.var 3) .nil)))) (.cons (.ife (.bop false (.cons (.not (.isi (.var 4) .tuple)) (.cons (.cmp .ne (.blt .len (.cons (.var 4) .nil)) (.int 2)) (.cons (.cmp .ne (.ix (.var 4) (.int 1)) (.var 2)) (.cons (.cmp .ne (.var 3) (.call s__law_copy (.cons (.var 0) (.cons (.var 1) (.cons (.var 2) .nil))))) .nil))))) b3_law_right .nil) b4_law_right)
def b1_law_right : Ss := .cons (.ret (.bl false)) .nil
def b0_law_right : Ss := .cons (.asg (.nm 3) (.call s_copy (.cons (.var 0) (.cons (.var 1) (.cons (.var 2) .nil))))) (.cons (.ife (.cmp .ne (.var 3) (.call s__law_copy (.cons (.var 0) (.cons (.var 1) (.cons (.var 2) .nil))))) b1_law_right .nil) b2_law_right)
def fd_law_right : FD := ⟨3, 5, b0_law_right⟩  -- 0:number 1:place 2:thing 3:found 4:told
def b2_law_kind : Ss := .cons (.ret (.tup (.cons (.str s_sum) (.cons (.var 1) (.cons (.call s__law_kind (.cons (.bin .sub (.var 0) (.int 1)) (.cons (.var 1) .nil))) .nil))))) .nil
def b1_law_kind : Ss := .cons (.ret (.var 1)) .nil
def b0_law_kind : Ss := .cons (.ife (.cmp .eq (.var 0) (.int 1)) b1_law_kind .nil) b2_law_kind
def fd_law_kind : FD := ⟨2, 2, b0_law_kind⟩  -- 0:number 1:kind
def b5_law : Ss := .cons (.asg (.nm 8) (.ix (.lst (.cons (.tup (.cons (.str s_one) .nil)) (.cons (.tup (.cons (.str s_sum) (.cons (.tup (.cons (.str s_name) .nil)) (.cons (.tup (.cons (.str s_one) .nil)) .nil)))) (.cons (.tup (.cons (.str s_rule) (.cons (.str s_x) .nil))) .nil)))) (.call s__law_next (.cons (.var 1) (.cons (.int 3) .nil))))) (.cons (.ret (.bop true (.cons (.cmp .eq (.call s_times (.cons (.var 2) (.cons (.var 8) .nil))) (.call s__law_kind (.cons (.var 2) (.cons (.var 8) .nil)))) (.cons (.cmp .eq (.call s_times (.cons (.int 1) (.cons (.var 8) .nil))) (.var 8)) .nil)))) .nil)
def b4_law : Ss := .cons (.ret (.bl false)) .nil
def b3_law : Ss := .cons (.asg (.nm 7) (.bop true (.cons (.cmp .eq (.ix (.var 4) (.int 0)) (.ix (.var 4) (.int 1))) (.cons (.cmp .eq (.ix (.var 5) (.int 0)) (.ix (.var 5) (.int 1))) .nil)))) (.cons (.ife (.cmp .ne (.cmp .eq (.call s_copy (.cons (.var 2) (.cons (.ix (.var 5) (.int 0)) (.cons (.ix (.var 4) (.int 0)) .nil)))) (.call s_copy (.cons (.var 2) (.cons (.ix (.var 5) (.int 1)) (.cons (.ix (.var 4) (.int 1)) .nil))))) (.var 7)) b4_law .nil) b5_law)
def b2_law : Ss := .cons (.ret (.bl false)) .nil
def b1_law : Ss := .cons (.ife (.bop false (.cons (.not (.call s__law_right (.cons (.var 2) (.cons (.ix (.var 5) (.var 6)) (.cons (.ix (.var 4) (.var 6)) .nil))))) (.cons (.not (.call s__law_right (.cons (.var 2) (.cons (.ix (.var 5) (.bin .sub (.int 1) (.var 6))) (.cons (.ix (.var 4) (.var 6)) .nil))))) .nil))) b2_law .nil) .nil
def b0_law : Ss := .cons (.asg (.nm 1) (.call s__law_deck (.cons (.var 0) .nil))) (.cons (.asg (.nm 2) (.bin .add (.int 2) (.call s__law_next (.cons (.var 1) (.cons (.int 3) .nil))))) (.cons (.asg (.nm 3) (.ix (.lst (.cons (.str s_nlrpao) (.cons (.str s_lr) .nil))) (.call s__law_next (.cons (.var 1) (.cons (.int 2) .nil))))) (.cons (.asg (.nm 4) (.lst (.cons (.call s__law_thing (.cons (.var 1) (.cons (.var 3) .nil))) (.cons (.call s__law_thing (.cons (.var 1) (.cons (.str s_nlrpao) .nil))) .nil)))) (.cons (.asg (.nm 5) (.lst (.cons (.call s__law_next (.cons (.var 1) (.cons (.var 2) .nil))) (.cons (.call s__law_next (.cons (.var 1) (.cons (.var 2) .nil))) .nil)))) (.cons (.for_ (.nm 6) .rng (.cons (.int 2) .nil) b1_law) b3_law)))))
def fd_law : FD := ⟨1, 9, b0_law⟩  -- 0:script 1:deck 2:number 3:forms 4:things 5:places 6:k 7:same 8:kind
def prog : List (Sx × FD) := [(s_copy, fd_copy), (s_copied, fd_copied), (s_times, fd_times), (s__law_deck, fd_law_deck), (s__law_next, fd_law_next), (s__law_thing, fd_law_thing), (s__law_copy, fd_law_copy), (s__law_right, fd_law_right), (s__law_kind, fd_law_kind), (s_law, fd_law)]
end K47
end
section
namespace K47
open M
abbrev P := pOf prog
/-- a deck: a list of whole numbers -/
def IsDeck (p : Nat) (h : AH) : Prop := ∃ ns : List Int, h p = some (.lst (ns.map .int))
theorem IsDeck.ext {p : Nat} {h h' : AH} (d : IsDeck p h) (e : Ext h h') : IsDeck p h' := let ⟨ns, q⟩ := d; ⟨ns, e _ _ q⟩
theorem next_ok {n p : Nat} {many : Int} {h : AH} {Q : VQ} {X : XP} (hd : IsDeck p h) (hm : 0 < many)
    (k : ∀ v h', 0 ≤ v → v < many → IsDeck p h' → Ke p h h' → Q (.int v) h') : run P (n + 1) s__law_next [.ref p, .int many] h Q X := by
  obtain ⟨ns, hp⟩ := hd
  refine run_of (fd := fd_law_next) rfl rfl ?_
  simp [fd_law_next, start, b0_law_next, b1_law_next, b2_law_next, len_lst hp]
  by_cases e : ns = []
  · simp only [e, decide_true]
    exact k 0 h (by omega) hm ⟨ns, hp⟩ .refl
  · simp only [e, decide_false]
    obtain ⟨a, r, rfl⟩ : ∃ a r, ns = a :: r := by cases ns with
      | nil => exact absurd rfl e
      | cons a r => exact ⟨a, r, rfl⟩
    refine ⟨recv_ok (by simp) (by simp) hp, ?_⟩
    rw [aLst_eq hp]
    simp
    exact ⟨hm, k _ _ (Int.emod_nonneg _ (by omega)) (Int.emod_lt_of_pos _ hm) ⟨r, up_same⟩ .put⟩
theorem atI_map {ns : List Int} {i : Int} (h0 : 0 ≤ i) (h1 : i < ns.length) : ∃ v, atI (ns.map D.int) i = some (.int v) := by
  refine ⟨ns[i.toNat]'(by omega), ?_⟩
  unfold atI
  rw [if_pos h0, List.getElem?_map, List.getElem?_eq_getElem (by omega)]
  rfl
theorem cut_map {ns : List Int} {lo hi : Option Int} : cut (ns.map D.int) lo hi = (cut ns lo hi).map .int := by
  simp [cut, List.map_take, List.map_drop]
/-- the deck's loops: names, the list so far -/
def DkInv (h : AH) (sc : List Int) (p i : Nat) : St → AH → Prop := fun σ h' => ∃ (ds : List Int) (a b c : Option D), σ = [some (.rol (sc.map .int)), some (.ref p), a, b, c] ∧ h' p = some (.lst (ds.map D.int)) ∧ Ext h h' ∧ ds.length ≤ i
def DkIn (h : AH) (sc : List Int) (p r i : Nat) (cell : Int) (j : Nat) : St → AH → Prop := fun σ h' => ∃ (m : Int) (ds : List Int) (a : Option D), σ = [some (.rol (sc.map .int)), some (.ref p), a, some (.int cell), some (.int m)] ∧ h' p = some (.lst (ds.map D.int)) ∧ Ext h h' ∧ ds.length ≤ 60 * i + j ∧ h' r = some (.lst ((cut sc (some 1) (some 63)).map .int))
theorem app_ok {h0 h : AH} {p : Nat} {ds : List Int} {v : Int} (hp : h p = some (.lst (ds.map D.int))) (hn : h0 p = none) (ex : Ext h0 h) : (up h p (.lst (ds.map D.int ++ [.int v]))) p = some (.lst ((ds ++ [v]).map D.int)) ∧ Ext h0 (up h p (.lst (ds.map D.int ++ [.int v]))) := by
  refine ⟨by rw [up_same]; simp, ?_⟩
  exact ex.mut hn .put
theorem deck_ok {n : Nat} {ns : List Int} {h : AH} {Q : VQ} {X : XP} (k : ∀ p h', h p = none → Ext h h' → IsDeck p h' → Q (.ref p) h') : run P (n + 1) s__law_deck [.rol (ns.map .int)] h Q X := by
  refine run_of (fd := fd_law_deck) rfl rfl ?_
  simp [fd_law_deck, start, b0_law_deck]
  intro p hp
  have tail : ∀ h1 (R : Ends), R.rt = Q → Ext h h1 → IsDeck p h1 → ∀ a b c, h1 p = some (.lst []) → wSs ⟨run P n, X⟩ b6_law_deck R [some (.rol (ns.map .int)), some (.ref p), a, b, c] h1 := by
    intro h1 R hR ex hd a b c h0
    simp [b6_law_deck]
    refine loop_rng (fun i => DkInv h ns p i) ⟨[], a, b, c, rfl, h0, ex, Nat.le_refl _⟩ (fun _ _ _ _ => trivial) ?_ ?_
    · rintro i σ h' hi ⟨ds, a, b, c, rfl, hp', ex', hz⟩
      have cont : ∀ (cell : Int) (B : St → AH → Prop), 0 ≤ cell → cell < 2147483629 * 2 → wSs ⟨run P n, X⟩ b9_law_deck { nx := DkInv h ns p (i + 1), ct := DkInv h ns p (i + 1), bk := B, rt := R.rt } [some (.rol (ns.map .int)), some (.ref p), some (.int i), some (.int cell), c] h' := by
        intro cell B c0 c1
        simp [b9_law_deck]
        refine ⟨.inr (by omega), .inl (by omega), ?_⟩
        have m0 := Int.emod_nonneg (cell * 48271 + 7919 * ↑i + 13) (show (2147483629 : Int) ≠ 0 by decide)
        have m1 := Int.emod_lt_of_pos (cell * 48271 + 7919 * ↑i + 13) (show (0 : Int) < 2147483629 by decide)
        generalize (cell * 48271 + 7919 * ↑i + 13) % 2147483629 = m at m0 m1 ⊢
        refine ⟨by unfold divOk; omega, .inl (by omega), .inl (by omega), recv_ok (by simp) (by simp) hp', ?_⟩
        generalize (m * (m / 5 + ↑i) + 16807 * ↑i) % 2147483587 = m2
        refine ⟨.inr (by omega), by unfold divOk; omega, ?_⟩
        rw [aLst_eq hp']
        refine ⟨by simp [LINE]; omega, _, _, _, _, rfl, (app_ok hp' hp ex').1, (app_ok hp' hp ex').2, by simp; omega⟩
      simp [b7_law_deck, b8_law_deck]
      refine ⟨.inr (by omega), ?_⟩
      by_cases hn : ns = []
      · subst hn
        exact cont _ _ (by omega) (by omega)
      · have hpos : 0 < ns.length := List.length_pos_iff.mpr hn
        rw [decide_eq_true hpos]
        dsimp only
        have hm : 0 < (if (ns.length : Int) < 63 then (ns.length : Int) else 63) := by split <;> omega
        have hm2 : (if (ns.length : Int) < 63 then (ns.length : Int) else 63) ≤ ns.length := by split <;> omega
        refine ⟨hm, ?_⟩
        obtain ⟨v, hv⟩ := atI_map (ns := ns) (i := (i : Int) % if (ns.length : Int) < 63 then (ns.length : Int) else 63) (Int.emod_nonneg _ (by omega)) (Int.lt_of_lt_of_le (Int.emod_lt_of_pos _ hm) hm2)
        rw [hv]
        simp
        have m0 := Int.emod_nonneg v (show (2147483629 : Int) ≠ 0 by decide)
        have m1 := Int.emod_lt_of_pos v (show (0 : Int) < 2147483629 by decide)
        exact cont _ _ (by omega) (by omega)
    · rintro σ h' ⟨ds, a, b, c, rfl, hp', ex', hz⟩
      simp [b10_law_deck, hR]
      exact k p h' hp ex' ⟨ds, hp'⟩
  have odd : ∀ h1, Ext h h1 → h1 p = some (.lst []) → wSs ⟨run P n, X⟩ b1_law_deck { nx := fun σ' h' => wSs ⟨run P n, X⟩ b6_law_deck (RT Q) σ' h', rt := Q, bk := fun _ _ => False, ct := fun _ _ => False } [some (.rol (ns.map .int)), some (.ref p), none, none, none] h1 := by
    intro h1 ex h0
    simp [b1_law_deck]
    intro r hr
    have pr : p ≠ r := ne_new h0 hr
    rw [walk_lst up_same, cut_map]
    refine ⟨fun i σ h' => DkInv h ns p (60 * i) σ h' ∧ h' r = some (.lst ((cut ns (some 1) (some 63)).map .int)), ⟨⟨[], none, none, none, rfl, by rw [up_ne pr]; exact h0, ex.trans (Ext.new hr), Nat.le_refl _⟩, up_same⟩, fun i σ h' z => z.2, ?_, ?_⟩
    · rintro i x σ h' hx ⟨⟨ds, a, b, c, rfl, hp', ex', hz⟩, hr'⟩
      obtain ⟨cell, rfl⟩ : ∃ cell, x = .int cell := by
        rw [List.getElem?_map] at hx
        cases e : (cut ns (some 1) (some 63))[i]? with
        | none => rw [e] at hx; cases hx
        | some z => rw [e] at hx; exact ⟨z, (Option.some.inj hx).symm⟩
      have hi : i < 63 := by
        have := (List.getElem?_eq_some_iff.mp hx).1
        simp [cut, clip] at this
        omega
      simp [b2_law_deck]
      refine ⟨by unfold powOk; decide, ?_⟩
      refine loop_rng (fun j => DkIn h ns p r i cell j) ⟨_, ds, a, rfl, hp', ex', hz, hr'⟩ (fun _ _ _ _ => trivial) ?_ ?_
      · rintro j σ h2 hj ⟨m, ds, a, rfl, hp2, ex2, hz2, hr2⟩
        have done : ∀ B, wSs ⟨run P n, X⟩ b4_law_deck { nx := DkIn h ns p r i cell (j + 1), ct := DkIn h ns p r i cell (j + 1), rt := Q, bk := B } [some (.rol (ns.map .int)), some (.ref p), some (.int j), some (.int cell), some (.int m)] h2 := by
          intro B
          simp [b4_law_deck]
          refine ⟨recv_ok (by simp) (by simp) hp2, ?_⟩
          rw [aLst_eq hp2]
          refine ⟨by simp [LINE]; omega, by unfold divOk; omega, _, _, _, rfl, (app_ok hp2 hp ex2).1, (app_ok hp2 hp ex2).2, by simp; omega, ?_⟩
          rw [up_ne pr.symm]
          exact hr2
        have skip : DkIn h ns p r i cell (j + 1) [some (.rol (ns.map .int)), some (.ref p), some (.int j), some (.int cell), some (.int m)] h2 := ⟨m, ds, _, rfl, hp2, ex2, by omega, hr2⟩
        simp [b3_law_deck]
        by_cases e1 : j = 0
        · rw [decide_eq_true e1]
          exact done _
        · rw [decide_eq_false e1]
          by_cases e2 : 0 < m
          · rw [decide_eq_true e2]
            exact done _
          · rw [decide_eq_false e2]
            exact skip
      · rintro σ h2 ⟨m, ds, a, rfl, hp2, ex2, hz2, hr2⟩
        refine ⟨⟨ds, a, _, _, rfl, hp2, ex2, ?_⟩, hr2⟩
        simp at hz2
        omega
    · rintro σ h' ⟨⟨ds, a, b, c, rfl, hp', ex', hz⟩, hr'⟩
      simp [b5_law_deck]
      rw [sl_lst hp']
      intro q hq
      rw [cut_map]
      exact k q _ (fresh_back ex' hq) (ex'.trans (Ext.new hq)) ⟨_, up_same⟩
  have ex1 : Ext h (up h p (.lst [])) := Ext.new hp
  by_cases e1 : 1 < (ns.length : Int)
  · rw [decide_eq_true e1]
    dsimp only
    obtain ⟨v, hv⟩ := atI_map (ns := ns) (i := 0) (by omega) (by omega)
    rw [hv]
    simp
    by_cases e2 : v % 2 = 1
    · rw [decide_eq_true e2]
      exact odd _ ex1 up_same
    · rw [decide_eq_false e2]
      exact tail _ _ rfl ex1 ⟨[], up_same⟩ _ _ _ up_same
  · rw [decide_eq_false e1]
    exact tail _ _ rfl ex1 ⟨[], up_same⟩ _ _ _ up_same
theorem IsDeck.put {p r : Nat} {o : Ob} {h : AH} (d : IsDeck p h) (n : h r = none) : IsDeck p (up h r o) := d.ext (Ext.new n)
theorem IsDeck.ne {p r : Nat} {h : AH} (d : IsDeck p h) (n : h r = none) : r ≠ p := fun z => by
  subst z
  obtain ⟨ns, e⟩ := d
  rw [n] at e; cases e
theorem IsDeck.up {p r : Nat} {o : Ob} {h : AH} (d : IsDeck p h) (n : p ≠ r) : IsDeck p (up h r o) := by
  obtain ⟨ns, e⟩ := d
  exact ⟨ns, by rw [up_ne n]; exact e⟩
/-- plain, from m on -/
def Pl (m : Nat) (d : D) : Prop := pureD d = true ∧ ∀ k, m ≤ k → plain k d = true
theorem Pl.mono {m m' : Nat} {d : D} (p : Pl m d) (h : m ≤ m') : Pl m' d := ⟨p.1, fun k hk => p.2 k (by omega)⟩
theorem Pl.nil : Pl 1 (.tup []) := ⟨by simp [pureD, pureDs], fun k hk => by obtain ⟨k, rfl⟩ : ∃ j, k = j + 1 := ⟨k - 1, by omega⟩; simp [plain, plains]⟩
theorem Pl.one {s : Sx} {i : Int} : Pl 1 (.tup [.str s, .int i]) := ⟨by simp [pureD, pureDs], fun k hk => by obtain ⟨k, rfl⟩ : ∃ j, k = j + 1 := ⟨k - 1, by omega⟩; simp [plain, plains]⟩
theorem Pl.two {s : Sx} {m : Nat} {d : D} (p : Pl m d) : Pl (m + 1) (.tup [.str s, d]) := ⟨by simp [pureD, pureDs, p.1], fun k hk => by obtain ⟨k, rfl⟩ : ∃ j, k = j + 1 := ⟨k - 1, by omega⟩; simp [plain, plains, p.2 k (by omega)]⟩
theorem Pl.three {s : Sx} {m : Nat} {d e : D} (p : Pl m d) (q : Pl m e) : Pl (m + 1) (.tup [.str s, d, e]) := ⟨by simp [pureD, pureDs, p.1, q.1], fun k hk => by obtain ⟨k, rfl⟩ : ∃ j, k = j + 1 := ⟨k - 1, by omega⟩; simp [plain, plains, p.2 k (by omega), q.2 k (by omega)]⟩
theorem Pl.eq {m m' : Nat} {a b : D} {h : AH} {Q : Bool → Prop} (p : Pl m a) (q : Pl m' b) (hm : m ≤ 190) (k : Q (decide (a = b))) : eqOk a b h Q := eq_pure p.1 q.1 (.inl (p.2 _ hm)) k
/-! ### copies -/
def rK : Nat → D → D
  | 0, d => d
  | n + 1, d => .tup [.str s_r, rK n d]
theorem rK_pl {m : Nat} {d : D} (p : Pl m d) : ∀ n, Pl (m + n) (rK n d)
  | 0 => p
  | n + 1 => by
    have := (rK_pl p n).two (s := s_r)
    exact this
def cpD (n p : Nat) (d : D) : D := rK p (if p + 1 < n then .tup [.str s_l, d] else d)
theorem cpD_pl {m n p : Nat} {d : D} (q : Pl m d) : Pl (m + 1 + p) (cpD n p d) := by
  unfold cpD
  refine rK_pl ?_ p
  split
  · exact q.two
  · exact q.mono (by omega)
theorem rK_inj : ∀ {n : Nat} {a b : D}, rK n a = rK n b → a = b
  | 0, _, _, e => e
  | n + 1, a, b, e => by
    simp only [rK] at e
    injection e with e
    injection e with _ e
    injection e with e _
    exact rK_inj e
theorem cp_lt {n p q : Nat} {a b : D} (h : p < q) (hq : q < n) : cpD n p a ≠ cpD n q b := by
  intro e
  unfold cpD at e
  rw [if_pos (by omega)] at e
  obtain ⟨k, rfl⟩ : ∃ k, q = p + (k + 1) := ⟨q - p - 1, by omega⟩
  have key : ∀ (i j : Nat) (x : D), rK (i + j) x = rK i (rK j x) := by
    intro i
    induction i with
    | zero => intro j x; rw [Nat.zero_add]; rfl
    | succ i ih => intro j x; rw [show i + 1 + j = (i + j) + 1 by omega]; simp only [rK, ih]
  rw [key] at e
  have := rK_inj e
  simp only [rK] at this
  injection this with this
  injection this with this _
  injection this with this
  exact absurd this (by decide)
theorem cp_inj {n p q : Nat} {a b : D} (hp : p < n) (hq : q < n) (e : cpD n p a = cpD n q b) : a = b ∧ p = q := by
  rcases Nat.lt_trichotomy p q with h | h | h
  · exact absurd e (cp_lt h hq)
  · subst h
    refine ⟨?_, rfl⟩
    have := rK_inj e
    split at this
    · injection this with this
      injection this with _ this
      injection this with this _
    · exact this
  · exact absurd e.symm (cp_lt h hp)
def CpInv (n p : Int) (d : D) (h : AH) (i : Nat) : St → AH → Prop := fun σ h' => h' = h ∧ ∃ x, σ = [some (.int n), some (.int p), some (rK i d), x]
theorem rloop {C : Cx} {z : Int} {p : Nat} {d : D} {h : AH} {R : Ends} (hp : p ≤ 10) (k : ∀ x, R.nx [some (.int z), some (.int p), some (rK p d), x] h) :
    wS C (.for_ (.nm 3) .rng (.cons (.var 1) .nil) b3_copy) R [some (.int z), some (.int p), some d, none] h := by
  simp
  refine ⟨by omega, loop_rng (fun i => CpInv z p d h i) ⟨rfl, none, rfl⟩ (fun _ _ _ _ => trivial) ?_ ?_⟩
  · rintro i σ h' hi ⟨rfl, x, rfl⟩
    simp [b3_copy]
    exact ⟨by simp [LINE], rfl, _, rfl⟩
  · rintro σ h' ⟨rfl, x, rfl⟩
    simp
    exact k _
theorem cp_yes {n p : Nat} {d : D} (h : p + 1 < n) : cpD n p d = rK p (.tup [.str s_l, d]) := by unfold cpD; rw [if_pos h]
theorem cp_no {n p : Nat} {d : D} (h : ¬ p + 1 < n) : cpD n p d = rK p d := by unfold cpD; rw [if_neg h]
theorem copy_ok {m p n : Nat} {d : D} {h : AH} {Q : VQ} {X : XP} (hp : p ≤ 10) (k : Q (cpD n p d) h) : run P (m + 1) s_copy [.int n, .int p, d] h Q X := by
  refine run_of (fd := fd_copy) rfl rfl ?_
  simp only [fd_copy, start, b0_copy, wSs_cons, wS_ife]
  simp
  by_cases e : (p : Int) < n - 1
  · rw [decide_eq_true e]
    rw [cp_yes (by omega)] at k
    simp only [b1_copy, b2_copy, wSs_cons]
    simp
    refine ⟨by simp [LINE], ?_⟩
    have := rloop (C := ⟨run P m, X⟩) (z := n) (p := p) (d := .tup [.str s_l, d]) (h := h) (R := { RT Q with nx := fun σ' h' => wSs ⟨run P m, X⟩ b4_copy (RT Q) σ' h' }) hp (fun x => by simp [b4_copy]; exact k)
    simp at this
    exact this
  · rw [decide_eq_false e]
    rw [cp_no (by omega)] at k
    simp only [b2_copy, wSs_cons]
    exact rloop hp (fun x => by simp [b4_copy]; exact k)
theorem lcopy_ok {m p n : Nat} {d : D} {h : AH} {Q : VQ} {X : XP} (hp : p ≤ 10) (hn : p < n) (k : Q (cpD n p d) h) : run P (m + 1) s__law_copy [.int n, .int p, d] h Q X := by
  refine run_of (fd := fd_law_copy) rfl rfl ?_
  simp only [fd_law_copy, start, b0_law_copy, wSs_cons, wS_ife]
  simp
  by_cases e : (p : Int) = n - 1
  · rw [decide_eq_true e]
    rw [cp_no (by omega)] at k
    simp only [b1_law_copy, wSs_cons]
    exact rloop hp (fun x => by simp [b3_law_copy]; exact k)
  · rw [decide_eq_false e]
    rw [cp_yes (by omega)] at k
    simp only [b4_law_copy, wSs_cons]
    simp
    refine ⟨by simp [LINE], ?_⟩
    have := rloop (C := ⟨run P m, X⟩) (z := n) (p := p) (d := .tup [.str s_l, d]) (h := h) (R := { RT Q with nx := fun σ' h' => wSs ⟨run P m, X⟩ b6_law_copy (RT Q) σ' h' }) hp (fun x => by simp [b6_law_copy]; exact k)
    simp at this
    exact this
/-- place from the far end -/
def CdW (n p : Nat) (d : D) (h : AH) (m : Nat) : St → AH → Prop := fun σ h' => h' = h ∧ m ≤ p ∧ σ = [some (.int n), some (cpD (n - (p - m)) m d), some (.int ((p - m : Nat) : Int))]
theorem copied_ok {l p n : Nat} {d : D} {h : AH} {Q : VQ} {X : XP} (hn : p < n) (k : Q (.tup [.int p, d]) h) : run P (l + 1) s_copied [.int n, cpD n p d] h Q X := by
  refine run_of (fd := fd_copied) rfl rfl ?_
  simp only [fd_copied, start, b0_copied, wSs_cons, wS_asg]
  simp
  simp only [wS]
  refine ⟨CdW n p d h, ⟨p, rfl, Nat.le_refl _, by simp⟩, ?_⟩
  rintro m σ h' ⟨rfl, hm, rfl⟩
  simp
  have tail : m = 0 → wSs ⟨run P l, X⟩ b2_copied (RT Q) [some (.int n), some (cpD (n - (p - m)) m d), some (.int ((p - m : Nat) : Int))] h' := by
    rintro rfl
    simp [b2_copied]
    by_cases e : (p : Int) < n - 1
    · rw [decide_eq_true e]
      rw [cp_yes (by omega)]
      simp [b3_copied, b4_copied, rK]
      have e1 : atI [D.str s_l, d] 1 = some d := rfl
      rw [e1]
      exact ⟨by simp [LINE], k⟩
    · rw [decide_eq_false e]
      rw [cp_no (by omega)]
      simp [b4_copied, rK]
      exact ⟨by simp [LINE], k⟩
  by_cases e : ((p - m : Nat) : Int) < n - 1
  · rw [decide_eq_true e]
    dsimp only
    cases m with
    | zero =>
      rw [cp_yes (by omega)]
      have e1 : atI [D.str s_l, d] 0 = some (.str s_l) := rfl
      simp [rK, e1]
      have := tail rfl
      rw [cp_yes (by omega)] at this
      simpa [rK] using this
    | succ m =>
      have ec : cpD (n - (p - (m + 1))) (m + 1) d = .tup [.str s_r, cpD (n - (p - m)) m d] := by
        unfold cpD
        have : (m + 1 + 1 < n - (p - (m + 1))) = (m + 1 < n - (p - m)) := by simp; omega
        simp only [this, rK]
      have e1 : ∀ x, atI [D.str s_r, x] 0 = some (.str s_r) := fun x => rfl
      have e2 : ∀ x, atI [D.str s_r, x] 1 = some x := fun x => rfl
      rw [ec]
      simp [e1, b1_copied, e2]
      exact ⟨m, by omega, rfl, by omega, by simp; omega⟩
  · rw [decide_eq_false e]
    exact tail (by omega)
theorem right_ok {m p n k : Nat} {d : D} {h : AH} {Q : VQ} {X : XP} (hp : p ≤ 10) (hn : p < n) (pd : Pl m d) (hm : m ≤ 170) (kk : Q (.bl true) h) : run P (k + 2) s__law_right [.int n, .int p, d] h Q X := by
  refine run_of (fd := fd_law_right) rfl rfl ?_
  simp [fd_law_right, start, b0_law_right, b1_law_right, b2_law_right, b3_law_right, b4_law_right]
  have pc := cpD_pl (n := n) (p := p) pd
  refine copy_ok hp (lcopy_ok hp hn (pc.eq pc (by omega) ?_))
  simp
  refine copied_ok hn ?_
  have e1 : atI [D.int p, d] 1 = some d := rfl
  have e0 : atI [D.int p, d] 0 = some (.int p) := rfl
  simp [e1, e0]
  refine pd.eq pd (by omega) ?_
  simp
  refine lcopy_ok hp hn (pc.eq pc (by omega) ?_)
  simp
  exact kk
/-! ### things -/
def AllPl (m : Nat) (xs : List D) : Prop := ∀ x, x ∈ xs → Pl m x
def TgInv (h : AH) (p q i : Nat) (f : Sx) : St → AH → Prop := fun σ h' => ∃ (xs : List D) (x y z : Option D), σ = [some (.ref p), some (.str f), some (.ref q), x, y, z] ∧ h' q = some (.lst xs) ∧ xs ≠ [] ∧ xs.length ≤ i + 1 ∧ AllPl (i + 1) xs ∧ IsDeck p h' ∧ Ke p h h'
theorem atI_strS {ns : Sx} {i : Int} (h0 : 0 ≤ i) (h1 : i < ns.length) : ∃ v, atI ns i = some v := by
  refine ⟨ns[i.toNat]'(by omega), ?_⟩
  unfold atI
  rw [if_pos h0, List.getElem?_eq_getElem (by omega)]
theorem last_of {α : Type} {xs : List α} (h : xs ≠ []) : ∃ ys y, xs = ys ++ [y] := ⟨xs.dropLast, xs.getLast h, (List.dropLast_concat_getLast h).symm⟩
theorem next_ok' {n p : Nat} {many : Int} {h : AH} {Q : VQ} {X : XP} (hd : IsDeck p h) (hm : 0 < many)
    (k : ∀ v h', 0 ≤ v → v < many → IsDeck p h' → Ke p h h' → Q (.int v) h') : run P (n + 1) s__law_next [.ref p, .int many] h Q X := next_ok hd hm k
theorem thing_ok {n p : Nat} {f : Sx} {h : AH} {Q : VQ} {X : XP} (hd : IsDeck p h) (hf : 0 < f.length) (hf2 : f.length ≤ 6)
    (k : ∀ v h', Pl 42 v → IsDeck p h' → Ke p h h' → Q v h') : run P (n + 2) s__law_thing [.ref p, .str f] h Q X := by
  refine run_of (fd := fd_law_thing) rfl rfl ?_
  simp [fd_law_thing, start, b0_law_thing]
  refine ⟨by simp [LINE], fun q hq => ?_⟩
  have qp : q ≠ p := hd.ne hq
  refine next_ok (hd.put hq) (by omega) fun many h1 m0 m1 hd1 k1 => ?_
  simp
  refine ⟨by omega, by omega, loop_rng (fun i => TgInv h p q i f) ⟨[.tup []], none, none, none, rfl, k1 _ _ qp up_same, by simp, by simp, ?_, hd1, (Ext.new hq).ke.trans k1⟩ (fun _ _ _ _ => trivial) ?_ ?_⟩
  · intro x hx
    simp at hx
    subst hx
    exact Pl.nil
  · rintro i σ h' hi ⟨xs, x, y, z, rfl, hq', xn, xl, ap, hd', kk⟩
    simp [b1_law_thing]
    refine ⟨by unfold LINE; omega, next_ok hd' (by omega) fun j h2 j0 j1 hd2 k2 => ?_⟩
    simp
    obtain ⟨c, hc⟩ := atI_strS (ns := f) j0 j1
    rw [hc]
    refine ⟨by unfold LINE; omega, ?_⟩
    have hq2 := k2 _ _ qp hq'
    have kk2 := kk.trans k2
    have push : ∀ (d : D) (ys : List D) (h3 : AH) (z : Option D), Pl (i + 2) d → AllPl (i + 1) ys → ys.length ≤ i + 1 → IsDeck p h3 → Ke p h h3 → TgInv h p q (i + 1) f [some (.ref p), some (.str f), some (.ref q), some (.int i), some (.str [c]), z] (up h3 q (.lst (ys ++ [d]))) := by
      intro d ys h3 z pd py ly d3 k3
      refine ⟨_, _, _, _, rfl, up_same, by simp, by simp; omega, ?_, d3.up qp.symm, k3.mut hq Ke.put⟩
      intro x hx
      rcases List.mem_append.mp hx with hx | hx
      · exact (py x hx).mono (by omega)
      · simp at hx; subst hx; exact pd
    have stay : TgInv h p q (i + 1) f [some (.ref p), some (.str f), some (.ref q), some (.int i), some (.str [c]), z] h2 := ⟨xs, _, _, _, rfl, hq2, xn, by omega, fun x hx => (ap x hx).mono (by omega), hd2, kk2⟩
    dsimp only
    have rq : ∀ m, m ≠ .get1 → m ≠ .get2 → recvOk m (.ref q) h2 := fun m a b => recv_ok a b hq2
    have sz : ∀ ys : List D, ys.length ≤ i + 1 → ys.length < LINE := fun ys h => by unfold LINE; omega
    by_cases ea : c = 97
    · rw [decide_eq_true ea]
      simp [b2_law_thing]
      refine ⟨rq _ (by simp) (by simp), by unfold powOk; decide, next_ok hd2 (by decide) fun a h3 a0 a1 hd3 k3 => ?_⟩
      rw [aLst_eq (k3 _ _ qp hq2)]
      exact ⟨by simp [LINE], sz _ xl, push _ _ _ _ (Pl.one.mono (by omega)) ap xl hd3 (kk2.trans k3)⟩
    rw [decide_eq_false ea]
    simp [b3_law_thing]
    by_cases eo : c = 111
    · rw [decide_eq_true eo]
      simp [b4_law_thing]
      rw [aLst_eq hq2]
      exact ⟨rq _ (by simp) (by simp), sz _ xl, push _ _ _ _ (Pl.nil.mono (by omega)) ap xl hd2 kk2⟩
    rw [decide_eq_false eo]
    simp [b5_law_thing]
    obtain ⟨ys, y0, rfl⟩ := last_of xn
    have ly : ys.length ≤ i := by simp at xl; exact xl
    have ay : AllPl (i + 1) ys := fun x hx => ap x (by simp [hx])
    have last : ∀ {zs : List D} {y : D}, (zs ++ [y])[(zs ++ [y]).length - 1]? = some y := by
      intro zs y
      simp
    have dl : ∀ {zs : List D} {y : D}, (zs ++ [y]).dropLast = zs := by
      intro zs y
      simp
    have one : ∀ z, ¬ c = 112 → wSs ⟨run P (n + 1), X⟩ b8_law_thing { nx := TgInv h p q (i + 1) f, rt := Q, bk := fun σ' h' => wSs ⟨run P (n + 1), X⟩ b9_law_thing (RT Q) σ' h', ct := TgInv h p q (i + 1) f } [some (.ref p), some (.str f), some (.ref q), some (.int i), some (.str [c]), z] h2 := by
      intro z _
      simp only [b8_law_thing, wSs_cons, wS_ex, wE_mth, wE_var, wEs_cons, wE_tup, wEs_nil, mth_pop, mth_append]
      simp only [List.getElem?_cons_succ, List.getElem?_cons_zero]
      rw [aLst_eq hq2, last, dl]
      refine ⟨rq _ (by simp) (by simp), rq _ (by simp) (by simp), ?_⟩
      simp only [aSome_eq]
      rw [aLst_eq up_same, up_up]
      exact ⟨by simp [LINE], sz _ (by omega), push _ _ _ _ ((ap y0 (by simp)).two) ay (by omega) hd2 kk2⟩
    have two : 1 < (ys ++ [y0]).length → wSs ⟨run P (n + 1), X⟩ b6_law_thing { nx := TgInv h p q (i + 1) f, rt := Q, bk := fun σ' h' => wSs ⟨run P (n + 1), X⟩ b9_law_thing (RT Q) σ' h', ct := TgInv h p q (i + 1) f } [some (.ref p), some (.str f), some (.ref q), some (.int i), some (.str [c]), z] h2 := by
      intro l2
      have yn : ys ≠ [] := fun e => by subst e; simp at l2
      obtain ⟨zs, y1, rfl⟩ := last_of yn
      simp only [b6_law_thing, wSs_cons, wS_ex, wS_asg, wE_mth, wE_var, wEs_cons, wE_tup, wEs_nil, mth_pop, mth_append, wE_str]
      simp only [List.getElem?_cons_succ, List.getElem?_cons_zero]
      rw [aLst_eq hq2, last, dl]
      refine ⟨rq _ (by simp) (by simp), ?_⟩
      simp only [aSome_eq, setT_nm, List.set_cons_succ, List.set_cons_zero, List.getElem?_cons_succ, List.getElem?_cons_zero]
      rw [aLst_eq up_same, last, dl, up_up]
      refine ⟨recv_ok (by simp) (by simp) up_same, recv_ok (by simp) (by simp) up_same, ?_⟩
      simp only [aSome_eq]
      rw [aLst_eq up_same, up_up]
      exact ⟨by simp [LINE], sz _ (by simp at ly; omega), push _ _ _ _ ((ay y1 (by simp)).three (ap y0 (by simp))) (fun x hx => ay x (by simp [hx])) (by simp at ly; omega) hd2 kk2⟩
    have rest : wSs ⟨run P (n + 1), X⟩ b7_law_thing { nx := TgInv h p q (i + 1) f, rt := Q, bk := fun σ' h' => wSs ⟨run P (n + 1), X⟩ b9_law_thing (RT Q) σ' h', ct := TgInv h p q (i + 1) f } [some (.ref p), some (.str f), some (.ref q), some (.int i), some (.str [c]), z] h2 := by
      simp only [b7_law_thing, wSs_cons, wS_ife, wE_cmp, wE_var, wE_str, List.getElem?_cons_succ, List.getElem?_cons_zero, cmp_ne, eq_str]
      by_cases ep : c = 112
      · subst ep
        simpa using stay
      · have : decide ([c] = s_p) = false := by simp [s_p, ep]
        rw [this]
        exact one z ep
    by_cases ep : c = 112
    · rw [decide_eq_true ep]
      dsimp only
      rw [len_lst hq2]
      by_cases l2 : 1 < (((ys ++ [y0]).length : Nat) : Int)
      · rw [decide_eq_true l2]
        exact two (by omega)
      · rw [decide_eq_false l2]
        exact rest
    · rw [decide_eq_false ep]
      exact rest
  · rintro σ h' ⟨xs, x, y, z, rfl, hq', xn, xl, ap, hd', kk⟩
    obtain ⟨ys, y0, rfl⟩ := last_of xn
    simp [b9_law_thing]
    rw [ix_lst hq']
    have e : atI (ys ++ [y0]) (-1) = some y0 := by
      unfold atI
      rw [if_neg (by omega), if_pos (by simp; omega)]
      rw [show (-1 + ((ys ++ [y0]).length : Int)).toNat = ys.length by simp; omega]
      simp
    rw [e]
    exact k _ _ ((ap y0 (by simp)).mono (by omega)) hd' kk
def tm (d : D) : Nat → D
  | 0 => d
  | n + 1 => .tup [.str s_sum, d, tm d n]
theorem times_ok {d : D} : ∀ {n m : Nat} {h : AH} {Q : VQ} {X : XP}, Q (tm d m) h → run P (n + 1 + m) s_times [.int (m + 1), d] h Q X := by
  intro n m
  induction m with
  | zero =>
    intro h Q X k
    refine run_of (fd := fd_times) rfl rfl ?_
    simp [fd_times, start, b0_times, b1_times]
    exact k
  | succ m ih =>
    intro h Q X k
    refine run_of (fd := fd_times) rfl rfl ?_
    simp [fd_times, start, b0_times, b1_times, b2_times]
    have e : ¬ ((m : Int) + 1 + 1 = 1) := by omega
    rw [decide_eq_false e]
    dsimp only
    exact ih ⟨by simp [LINE], k⟩
theorem ltimes_ok {d : D} : ∀ {n m : Nat} {h : AH} {Q : VQ} {X : XP}, Q (tm d m) h → run P (n + 1 + m) s__law_kind [.int (m + 1), d] h Q X := by
  intro n m
  induction m with
  | zero =>
    intro h Q X k
    refine run_of (fd := fd_law_kind) rfl rfl ?_
    simp [fd_law_kind, start, b0_law_kind, b1_law_kind]
    exact k
  | succ m ih =>
    intro h Q X k
    refine run_of (fd := fd_law_kind) rfl rfl ?_
    simp [fd_law_kind, start, b0_law_kind, b1_law_kind, b2_law_kind]
    have e : ¬ ((m : Int) + 1 + 1 = 1) := by omega
    rw [decide_eq_false e]
    dsimp only
    exact ih ⟨by simp [LINE], k⟩
theorem tm_pl {d : D} {m : Nat} (p : Pl m d) : ∀ i, Pl (m + i) (tm d i)
  | 0 => p
  | i + 1 => (p.mono (by omega : m ≤ m + i)).three (tm_pl p i)
def LwInv (ns : List Int) (p N : Nat) (f : Sx) (t0 t1 : D) (q0 q1 a b : Nat) : St → AH → Prop := fun σ h => ∃ x y z : Option D, σ = [some (.rol (ns.map .int)), some (.ref p), some (.int N), some (.str f), some (.ref a), some (.ref b), x, y, z] ∧ h a = some (.lst [t0, t1]) ∧ h b = some (.lst [.int q0, .int q1]) ∧ IsDeck p h
theorem law_okN : ∀ ns : List Int, ns.length ≤ 63 → run P 60 s_law [.rol (ns.map .int)] (fun _ => none) (fun d _ => d = .bl true) (fun _ _ _ => False) := by
  intro ns _
  refine run_of (fd := fd_law) rfl rfl ?_
  simp [fd_law, start, b0_law]
  refine deck_ok fun p h1 _ _ hd => ?_
  refine next_ok hd (by omega) fun nn h2 c0 c1 hd kk => ?_
  simp
  refine ⟨by simp [LINE], fun r hr => ?_⟩
  refine next_ok (hd.put hr) (by omega) fun w h3 w0 w1 hd3 k3 => ?_
  rw [ix_lst (k3 _ _ (hd.ne hr) up_same)]
  obtain ⟨f, ef, lf, lf2⟩ : ∃ f : Sx, atI [D.str s_nlrpao, D.str s_lr] w = some (.str f) ∧ 0 < f.length ∧ f.length ≤ 6 := by
    have : w = 0 ∨ w = 1 := by omega
    rcases this with rfl | rfl
    · exact ⟨_, rfl, by decide, by decide⟩
    · exact ⟨_, rfl, by decide, by decide⟩
  rw [ef]
  refine thing_ok hd3 lf lf2 fun t0 h4 p0 hd4 k4 => ?_
  refine thing_ok hd4 (by decide) (by decide) fun t1 h5 p1 hd5 k5 => ?_
  refine ⟨by simp [LINE], fun a ha => ?_⟩
  refine next_ok (hd5.put ha) (by omega) fun q0 h6 b0 b1 hd6 k6 => ?_
  refine next_ok hd6 (by omega) fun q1 h7 b2 b3 hd7 k7 => ?_
  refine ⟨by simp [LINE], fun b hb => ?_⟩
  have ap := hd5.ne ha
  have ta := Ext.new hb (o := .lst [.int q0, .int q1]) _ _ (k7 _ _ ap (k6 _ _ ap up_same))
  have tb := up_same (h := h7) (a := b) (o := .lst [.int q0, .int q1])
  have hd8 := hd7.put hb (o := .lst [.int q0, .int q1])
  generalize up h7 b (.lst [.int q0, .int q1]) = h8 at ta tb hd8 ⊢
  obtain ⟨N, hN, N2⟩ : ∃ N : Nat, 2 + nn = (N : Int) ∧ N ≤ 4 ∧ 2 ≤ N := ⟨(2 + nn).toNat, by omega, by omega, by omega⟩
  obtain ⟨q0, rfl⟩ : ∃ k : Nat, q0 = (k : Int) := ⟨q0.toNat, by omega⟩
  obtain ⟨q1, rfl⟩ : ∃ k : Nat, q1 = (k : Int) := ⟨q1.toNat, by omega⟩
  rw [hN] at b1 b3 ⊢
  have z0 : ∀ x y : D, atI [x, y] 0 = some x := fun _ _ => rfl
  have z1 : ∀ x y : D, atI [x, y] 1 = some y := fun _ _ => rfl
  refine loop_rng (fun _ => LwInv ns p N f t0 t1 q0 q1 a b) ⟨none, none, none, rfl, ta, tb, hd8⟩ (fun _ _ _ _ => trivial) ?_ ?_
  · rintro i σ h hi ⟨x, y, z, rfl, ta, tb, hd⟩
    simp [b1_law, b2_law]
    rw [ix_lst tb]
    have hi : i = 0 ∨ i = 1 := by omega
    rcases hi with rfl | rfl
    · simp [z0, z1]
      rw [ix_lst ta]
      simp [z0, z1]
      refine right_ok (by omega) (by omega) p0 (by omega) ?_
      simp
      rw [ix_lst tb]
      simp [z0, z1]
      rw [ix_lst ta]
      simp [z0, z1]
      refine right_ok (by omega) (by omega) p0 (by omega) ?_
      simp
      exact ⟨_, _, _, rfl, ta, tb, hd⟩
    · simp [z0, z1]
      rw [ix_lst ta]
      simp [z0, z1]
      refine right_ok (by omega) (by omega) p1 (by omega) ?_
      simp
      rw [ix_lst tb]
      simp [z0, z1]
      rw [ix_lst ta]
      simp [z0, z1]
      refine right_ok (by omega) (by omega) p1 (by omega) ?_
      simp
      exact ⟨_, _, _, rfl, ta, tb, hd⟩
  · rintro σ h ⟨x, y, z, rfl, ta, tb, hd⟩
    have fin : ∀ c, wSs ⟨run P 59, fun _ _ _ => False⟩ b5_law (RT fun d _ => d = .bl true) [some (.rol (ns.map .int)), some (.ref p), some (.int N), some (.str f), some (.ref a), some (.ref b), x, c, z] h := by
      intro c
      simp [b5_law]
      refine ⟨by simp [LINE], by simp [LINE], by simp [LINE], by simp [LINE], fun r hr => ?_⟩
      refine next_ok (hd.put hr) (by omega) fun w h9 w0 w1 hd9 k9 => ?_
      rw [ix_lst (k9 _ _ (hd.ne hr) up_same)]
      obtain ⟨kd, ek, pk⟩ : ∃ kd, atI [D.tup [D.str s_one], D.tup [D.str s_sum, D.tup [D.str s_name], D.tup [D.str s_one]], D.tup [D.str s_rule, D.str s_x]] w = some kd ∧ Pl 2 kd := by
        have : w = 0 ∨ w = 1 ∨ w = 2 := by omega
        have lv : ∀ k, 2 ≤ k → ∃ j, k = j + 2 := fun k h => ⟨k - 2, by omega⟩
        rcases this with rfl | rfl | rfl
        all_goals exact ⟨_, rfl, by simp [pureD, pureDs], fun k hk => by obtain ⟨k, rfl⟩ := lv k hk; simp [plain, plains]⟩
      rw [ek]
      have T : ∀ (Q : VQ) (h : AH) (m : Nat), m ≤ 3 → Q (tm kd m) h → run P 59 s_times [.int (m + 1), kd] h Q (fun _ _ _ => False) := fun Q h m hm k => by
        rw [show 59 = (58 - m) + 1 + m by omega]
        exact times_ok k
      have U : ∀ (Q : VQ) (h : AH) (m : Nat), m ≤ 3 → Q (tm kd m) h → run P 59 s__law_kind [.int (m + 1), kd] h Q (fun _ _ _ => False) := fun Q h m hm k => by
        rw [show 59 = (58 - m) + 1 + m by omega]
        exact ltimes_ok k
      have eN : (N : Int) = ((N - 1 : Nat) : Int) + 1 := by omega
      dsimp only
      rw [eN]
      refine T _ _ _ (by omega) (U _ _ _ (by omega) ((tm_pl pk _).eq (tm_pl pk _) (by omega) ?_))
      simp
      refine T _ _ 0 (by omega) (pk.eq pk (by omega) ?_)
      simp [tm]
    have leaf : ∀ (K : AH → Bool → Prop), K h (decide (t0 = t1 ∧ q0 = q1)) → opIx (.ref b) (.int 0) h (fun d h1 => opIx (.ref a) (.int 0) h1 fun d_1 h1 => run P 59 s_copy [.int N, d, d_1] h1 (fun x_1 h1 => opIx (.ref b) (.int 1) h1 fun d h1 => opIx (.ref a) (.int 1) h1 fun d_2 h1 => run P 59 s_copy [.int N, d, d_2] h1 (fun y h2 => eqOk x_1 y h2 (K h2)) fun _ _ _ => False) fun _ _ _ => False) := by
      intro K kk
      rw [ix_lst tb, z0]
      dsimp only
      rw [ix_lst ta, z0]
      refine copy_ok (by omega) ?_
      rw [ix_lst tb, z1]
      dsimp only
      rw [ix_lst ta, z1]
      refine copy_ok (by omega) ((cpD_pl p0).eq (cpD_pl p1) (by omega) ?_)
      have : decide (cpD N q0 t0 = cpD N q1 t1) = decide (t0 = t1 ∧ q0 = q1) := by
        by_cases e : t0 = t1 ∧ q0 = q1
        · rw [decide_eq_true e, decide_eq_true (by rw [e.1, e.2])]
        · rw [decide_eq_false e, decide_eq_false fun z => e (cp_inj (by omega) (by omega) z)]
      rw [this]
      exact kk
    simp [b3_law]
    rw [ix_lst ta, z0]
    dsimp only
    rw [ix_lst ta, z1]
    refine p0.eq p1 (by omega) ?_
    by_cases e1 : t0 = t1
    · rw [decide_eq_true e1]
      dsimp only
      rw [ix_lst tb, z0]
      dsimp only
      rw [ix_lst tb, z1]
      simp
      by_cases e2 : q0 = q1
      · rw [decide_eq_true (show (q0 : Int) = q1 by omega)]
        refine leaf _ ?_
        rw [decide_eq_true ⟨e1, e2⟩]
        exact fin _
      · rw [decide_eq_false (show ¬ (q0 : Int) = q1 by omega)]
        refine leaf _ ?_
        rw [decide_eq_false fun z => e2 z.2]
        exact fin _
    · rw [decide_eq_false e1]
      refine leaf _ ?_
      rw [decide_eq_false fun z => e1 z.1]
      exact fin _
end K47
end
section
namespace K47
open PySem L2 Snd
def top (i : Nat) : Stmt := PySem.Challenge.pw_pairwright_k47_copies.main.body.getD i (.Pass ⟨0, 0, 0, 0⟩)
def bn : List Str := [("bool" : Str), ("int" : Str), ("isinstance" : Str), ("len" : Str), ("min" : Str), ("range" : Str), ("tuple" : Str)]
def F_copy : Fn := ⟨s_copy, [("number" : Str), ("place" : Str), ("thing" : Str), ("turn" : Str)], [("number" : Str), ("place" : Str), ("thing" : Str)], defArgs (top 1), defBody (top 1), defScope (top 1), fd_copy⟩
def F_copied : Fn := ⟨s_copied, [("number" : Str), ("thing" : Str), ("place" : Str)], [("number" : Str), ("thing" : Str)], defArgs (top 2), defBody (top 2), defScope (top 2), fd_copied⟩
def F_times : Fn := ⟨s_times, [("number" : Str), ("kind" : Str)], [("number" : Str), ("kind" : Str)], defArgs (top 4), defBody (top 4), defScope (top 4), fd_times⟩
def F_law_deck : Fn := ⟨s__law_deck, [("script" : Str), ("deck" : Str), ("k" : Str), ("cell" : Str), ("number" : Str)], [("script" : Str)], defArgs (top 6), defBody (top 6), defScope (top 6), fd_law_deck⟩
def F_law_next : Fn := ⟨s__law_next, [("deck" : Str), ("many" : Str)], [("deck" : Str), ("many" : Str)], defArgs (top 7), defBody (top 7), defScope (top 7), fd_law_next⟩
def F_law_thing : Fn := ⟨s__law_thing, [("deck" : Str), ("forms" : Str), ("stack" : Str), ("k" : Str), ("form" : Str), ("other" : Str)], [("deck" : Str), ("forms" : Str)], defArgs (top 8), defBody (top 8), defScope (top 8), fd_law_thing⟩
def F_law_copy : Fn := ⟨s__law_copy, [("number" : Str), ("place" : Str), ("thing" : Str), ("turn" : Str)], [("number" : Str), ("place" : Str), ("thing" : Str)], defArgs (top 9), defBody (top 9), defScope (top 9), fd_law_copy⟩
def F_law_right : Fn := ⟨s__law_right, [("number" : Str), ("place" : Str), ("thing" : Str), ("found" : Str), ("told" : Str)], [("number" : Str), ("place" : Str), ("thing" : Str)], defArgs (top 10), defBody (top 10), defScope (top 10), fd_law_right⟩
def F_law_kind : Fn := ⟨s__law_kind, [("number" : Str), ("kind" : Str)], [("number" : Str), ("kind" : Str)], defArgs (top 11), defBody (top 11), defScope (top 11), fd_law_kind⟩
def F_law : Fn := ⟨s_law, [("script" : Str), ("deck" : Str), ("number" : Str), ("forms" : Str), ("things" : Str), ("places" : Str), ("k" : Str), ("same" : Str), ("kind" : Str)], [("script" : Str)], defArgs (top 12), defBody (top 12), defScope (top 12), fd_law⟩
def tab : List Fn := [F_copy, F_copied, F_times, F_law_deck, F_law_next, F_law_thing, F_law_copy, F_law_right, F_law_kind, F_law]
def fs : List M.Sx := [s_copy, s_copied, s_times, s__law_deck, s__law_next, s__law_thing, s__law_copy, s__law_right, s__law_kind, s_law]
theorem tab_fs : tab.map (·.f) = fs := rfl
theorem tab_nd : (tab.map (·.f)).Nodup := by rw [tab_fs]; decide +kernel
theorem ok_copy : F_copy.ok bn fs = true := by decide +kernel
theorem ok_copied : F_copied.ok bn fs = true := by decide +kernel
theorem ok_times : F_times.ok bn fs = true := by decide +kernel
theorem ok_law_deck : F_law_deck.ok bn fs = true := by decide +kernel
theorem ok_law_next : F_law_next.ok bn fs = true := by decide +kernel
theorem ok_law_thing : F_law_thing.ok bn fs = true := by decide +kernel
theorem ok_law_copy : F_law_copy.ok bn fs = true := by decide +kernel
theorem ok_law_right : F_law_right.ok bn fs = true := by decide +kernel
theorem ok_law_kind : F_law_kind.ok bn fs = true := by decide +kernel
theorem ok_law : F_law.ok bn fs = true := by decide +kernel
theorem tab_ok : AllP (fun F => F.ok bn (tab.map (·.f)) = true) tab := by rw [tab_fs]; exact ⟨ok_copy, ok_copied, ok_times, ok_law_deck, ok_law_next, ok_law_thing, ok_law_copy, ok_law_right, ok_law_kind, ok_law, trivial⟩
theorem bd_copy : F_copy.Bnd := fun _ _ _ _ _ _ us hl => match us, hl with | [_, _, _], _ => rfl
theorem bd_copied : F_copied.Bnd := fun _ _ _ _ _ _ us hl => match us, hl with | [_, _], _ => rfl
theorem bd_times : F_times.Bnd := fun _ _ _ _ _ _ us hl => match us, hl with | [_, _], _ => rfl
theorem bd_law_deck : F_law_deck.Bnd := fun _ _ _ _ _ _ us hl => match us, hl with | [_], _ => rfl
theorem bd_law_next : F_law_next.Bnd := fun _ _ _ _ _ _ us hl => match us, hl with | [_, _], _ => rfl
theorem bd_law_thing : F_law_thing.Bnd := fun _ _ _ _ _ _ us hl => match us, hl with | [_, _], _ => rfl
theorem bd_law_copy : F_law_copy.Bnd := fun _ _ _ _ _ _ us hl => match us, hl with | [_, _, _], _ => rfl
theorem bd_law_right : F_law_right.Bnd := fun _ _ _ _ _ _ us hl => match us, hl with | [_, _, _], _ => rfl
theorem bd_law_kind : F_law_kind.Bnd := fun _ _ _ _ _ _ us hl => match us, hl with | [_, _], _ => rfl
theorem bd_law : F_law.Bnd := fun _ _ _ _ _ _ us hl => match us, hl with | [_], _ => rfl
theorem tab_bd : AllP Fn.Bnd tab := ⟨bd_copy, bd_copied, bd_times, bd_law_deck, bd_law_next, bd_law_thing, bd_law_copy, bd_law_right, bd_law_kind, bd_law, trivial⟩
theorem tab_P : tabP tab = M.pOf prog := rfl
abbrev R : PySem.W.OpenRow := PySem.W.OpenLaw.row PySem.Challenge.rw_pairwright_k47_copies
abbrev hfa : List He.Fa := headFa tab bn
abbrev hfn : List He.DefD := headFn tab
abbrev hk : PySem.W.Hook := He.hookD 4 hfa hfn
def ob (s : PySem.W.SharedT) : He.AlD := He.obsDG 4 hfa hfn (HandSHeadRun.getT s)
theorem ob_eq (s : PySem.W.SharedT) : ob s = hk.obs s.abs := He.obsDG_eq (HandSHeadRun.getT_eq s)
def loose : List Str := [("copy" : Str), ("copied" : Str), ("times" : Str), ("_law_deck" : Str), ("_law_next" : Str), ("_law_thing" : Str), ("_law_copy" : Str), ("_law_right" : Str), ("_law_kind" : Str)]
def lawAt : Nat := 12
end K47
end
section
namespace K47
theorem law_okF : Snd.LawOk (M.pOf prog) 60 s_law := fun ns hl => law_okN ns hl
end K47
end
section
open PySem PySem.W PySem.Calls PyProof.Rows
namespace K47
open PySem PySem.Spec PyProof.Rows L2 Snd
theorem run (w : World) : HandSHeadRun.RunEq R (PySem.W.view R.prog [lawAt]) hk ob 4000 loose w := by
  intro os
  kernel_rfl
end K47
set_option maxRecDepth 100000 in
set_option maxHeartbeats 0 in
theorem PySem.Challenge.cw_pairwright_k47_copies_holds : PySem.Challenge.rw_pairwright_k47_copies.Holds := by
  w_on; o_law
  refine HandSHeadRun.head_any (r := OpenLaw.row PySem.Challenge.rw_pairwright_k47_copies) (q := view (OpenLaw.row PySem.Challenge.rw_pairwright_k47_copies).prog [K47.lawAt]) (H := K47.hk) (ob := K47.ob) (M := 4000) (loose := K47.loose) (d := HandSHeadRun.topDef (OpenLaw.row PySem.Challenge.rw_pairwright_k47_copies).prog K47.lawAt) (kwd := []) K47.ob_eq
    (by kernel_rfl) (fun s => by kernel_rfl) K47.run (by kernel_rfl) (by kernel_rfl) (by kernel_rfl) (by rfl) (by first | assumption | decide +kernel) (by decide +kernel) ⟨rfl, rfl, rfl, rfl, rfl, by decide +kernel⟩ ?hw ?hc
  case hw => w_witness2
  case hc =>
    refine L2.walk_ofE (l := PySem.Challenge.rw_pairwright_k47_copies) (n := 63) (k := 60) (x := "script") (CX := L2.CX0) rfl (by decide) (by kernel_rfl) ⟨rfl, by decide, by decide⟩ ?F (fun _ _ _ _ z => z)
    intro w mg fa h Y G hmg0
    obtain ⟨K, KX, c⟩ := Y
    have hmg : mg (Snd.sV K47.F_law.f) = some (.ref fa) := by
      have e : (HandSHeadRun.topDef (OpenLaw.row PySem.Challenge.rw_pairwright_k47_copies).prog K47.lawAt).name = Snd.sV K47.F_law.f := by kernel_rfl
      rw [← e]
      exact hmg0
    obtain ⟨fd, hb, hF⟩ := Snd.law_facts (P := (PySem.Challenge.rw_pairwright_k47_copies).prog) (w := w) (L := K47.F_law) (by unfold K47.tab; simp) rfl KX G hmg c K47.tab_nd K47.tab_ok K47.tab_bd 60
    refine ⟨K, fd, _, KX, hb, fun H a ns hl hO hS => Snd.law_sp K47.law_okF H a ns hl hO hS, ?_⟩
    rw [← K47.tab_P] at *
    exact hF
end
