import PyProof.Rows.All
import PySem.Str
import PySem.Syntax
import Wide.All
import OpenK.AllK
import Wide.FinOn
import HandS.ForMost
import HandS.Exc
import HandS.ExcOwn
import HandS.ExcCtx
import HandS.HotCalls
import HandS.Flow
import HandS.Conv
import HandS.TupAny
import HandS.IsInst
import HandS.Walk
import HandS.Wide
import HandS.WideBits
import HandS.Small
import HandS.ExcIs
import HandS.ExcInit
import HandS.FStr
import HandS.ClsMeth
import KE.KExcSuper
import KE.GoesEnum
import KE.GoesMore
import HandS.SortInts
import HandS.TupSets
import KE.KSortTupAny
import KE.KExcIs
import HandS.ExcField
import HandS.HeadHook2
import HandS.HeadEnd
import HandS.Defaults
import HandS.Ends
import HandS.Codes
import KE.KStateDown
import HandS.Head0
import HandS.Head1
import HandS.Head2
import HandS.HeadHook1
import Lean
import PySem.Challenge.RW_tillsorder_k02_least_of_a_list
set_option linter.all false
namespace PI
open PySem (Str)

/-- values: trees; a list that nobody changes; a list of the store by its number -/
inductive D where
  | non | bl (b : Bool) | int (i : Int) | str (s : Str) | tup (l : List D) | fls (l : List D) | ref (k : Nat)
  deriving Inhabited
abbrev Fs := List (Str × D)
/-- what stands in the store: a list -/
inductive Ob where
  | lst (l : List D)
abbrev S := List Ob
/-- a name's slot: nothing, a value, a caught exception -/
inductive Sl where
  | no | val (d : D) | exn (c : Str) (fs : Fs)
abbrev Env := List Sl

inductive Op where | add | sub | mul | fdiv | mod | pow
inductive Co where | eq | ne | lt | le | gt | ge | is | isnot | inn | notin
inductive Cst where | non | bl (b : Bool) | int (i : Int) | str (s : Str)
inductive Ty where | int | bool | str | tup | lst
/-- targets -/
inductive Tg where | name (i : Nat) | tup (l : List Nat)

mutual
inductive Ex where
  | var (i : Nat) | cst (c : Cst) | glb (x : Str)
  | bin (op : Op) (a b : Ex) | neg (a : Ex)
  | cmp (op : Co) (a b : Ex) | chain (o1 o2 : Co) (a b c : Ex)
  | not (a : Ex) | and (a b : Ex) | or (a b : Ex) | ite (c : Te) (a b : Ex)
  | call (f : Str) (as : List Ar)
  | isi (a : Ex) (t : Ty) | exIs (i : Nat) (c : Str) | exVE (i : Nat) | exFld (i : Nat) (f : Str)
  | sub (a i : Ex) | slice (a : Ex) (lo hi : Option Ex)
  | tup (as : List Ex) | new (q : Sq) | tupOf (q : Sq) | listOf (q : Sq)
  | len (a : Ex) | lenQ (q : Sq) | sum (q : Sq) | minQ (q : Sq) | maxQ (q : Sq) | max2 (a b : Ex) | min2 (a b : Ex) | int1 (a : Ex) | abs (a : Ex)
  | append (o a : Ex) | pop (o : Ex) | popAt (o a : Ex) | extend (o : Ex) (q : Sq) | isTL (a : Ex)
/-- an argument: a name's slot as it is, or an expression -/
inductive Ar where
  | nm (i : Nat) | ex (e : Ex)
inductive Te where
  | not (t : Te) | and (a b : Te) | or (a b : Te) | ex (e : Ex)
/-- a list or tuple whose identity is of no matter -/
inductive Sq where
  | of (e : Ex) | lst (as : List Ex) | comp (e : Ex) (own : List Nat) (tg : Tg) (it : It) (cond : Option Te)
  | comp2 (e : Ex) (own own1 : List Nat) (tg : Tg) (it : It) (cond : Option Te) (tg1 : Tg) (it1 : It) (cond1 : Option Te)
  | cat (a b : Sq) | sorted (q : Sq) | cut (q : Sq) (lo hi : Option Ex)
/-- what a for walks -/
inductive It where
  | of (e : Ex) | seq (q : Sq) | rng1 (a : Ex) | rng2 (a b : Ex) | enum (q : Sq)
end

mutual
inductive St where
  | asg (t : Tg) (e : Ex) | setIx (o i e : Ex) | aug (i : Nat) (op : Op) (e : Ex)
  | expr (e : Ex) | ret (e : Ex) | retN
  | cond (t : Te) (a b : List St) | for (tg : Tg) (it : It) (body : List St) | while (t : Te) (body : List St)
  | brk | cont | pass | raise (c : Str) (as : List Ex)
  | try (body : List St) (c : Str) (i : Nat) (suite : List St)
end

/-! ### operations on values -/
def line : Nat := 16777216
def MulOk (a b : Int) : Prop := a.natAbs < 2 ^ 64 ∨ b.natAbs < 2 ^ 64
def DivOk (b : Int) : Prop := 0 < b ∧ b.natAbs < 2 ^ 4000
def PowOk (a b : Int) : Prop := (0 ≤ b ∧ b ≤ 1000 ∧ a.natAbs < 2 ^ 256)

mutual
/-- Python's == of two values without lists -/
def eqD : D → D → Bool
  | .non, .non => true
  | .bl a, .bl b => a == b
  | .bl a, .int j => (if a then 1 else 0) == j
  | .int i, .bl b => i == (if b then 1 else 0)
  | .int i, .int j => i == j
  | .str x, .str y => x == y
  | .tup xs, .tup ys => eqDs xs ys
  | _, _ => false
def eqDs : List D → List D → Bool
  | [], [] => true
  | x :: xs, y :: ys => eqD x y && eqDs xs ys
  | _, _ => false
end
mutual
/-- no list within, at most n deep -/
def flatN : Nat → D → Bool
  | _, .ref _ => false
  | _, .fls _ => false
  | _, .str x => x.cps.all (· < 0x110000)
  | 0, .tup _ => false
  | n + 1, .tup l => flatNs n l
  | _, _ => true
def flatNs : Nat → List D → Bool
  | _, [] => true
  | n, d :: r => flatN n d && flatNs n r
end
def atom : D → Bool
  | .tup _ => false | .ref _ => false | .fls _ => false | _ => true

/-- the place that an index of any sign means -/
def ixN (n : Nat) (i : Int) : Option Nat := if 0 ≤ i then (if i < n then some i.toNat else none) else if -(n : Int) ≤ i then some (i + n).toNat else none
def sIx (n d : Nat) : Option Int → Nat
  | none => d
  | some v => if v < 0 then (v + (n : Int)).toNat else min v.toNat n
def cutL {α : Type} (xs : List α) (lo hi : Option Int) : List α := (xs.drop (sIx xs.length 0 lo)).take (sIx xs.length xs.length hi - sIx xs.length 0 lo)

abbrev K1 := D → S → Prop
abbrev KX := Str → Fs → S → Prop

/-- the items of a list in the store -/
def lstAt (s : S) (k : Nat) : Option (List D) := match s[k]? with
  | some (.lst l) => some l
  | _ => none

/-- ints, all of them -/
def intsD : List D → Option (List Int)
  | [] => some []
  | .int i :: r => (intsD r).map (i :: ·)
  | _ :: _ => none
/-- tuples of ints, all of them -/
def tupsD : List D → Option (List (List Int))
  | [] => some []
  | .tup ds :: r => (intsD ds).bind fun ns => (tupsD r).map (ns :: ·)
  | _ :: _ => none
/-- the order of tuples of ints -/
def lexI : List Int → List Int → Bool
  | [], [] => false
  | [], _ :: _ => true
  | _ :: _, [] => false
  | x :: xs, y :: ys => if x = y then lexI xs ys else decide (x < y)
/-- an int that an exception's text may show -/
def ShowOk (i : Int) : Prop := i.natAbs.log2 < 1920 ∧ (Str.length (toString i : String)) ≤ 1000

def addD (x y : D) (s : S) (Q : K1) : Prop := match x, y with
  | .int a, .int b => Q (.int (a + b)) s
  | .str a, .str b => a.length + b.length ≤ line ∧ Q (.str (a ++ b)) s
  | .tup a, .tup b => a.length + b.length ≤ line ∧ Q (.tup (a ++ b)) s
  | .ref i, .ref j => match lstAt s i, lstAt s j with
    | some a, some b => a.length + b.length ≤ line ∧ Q (.ref s.length) (s ++ [.lst (a ++ b)])
    | _, _ => False
  | _, _ => False
/-- an operation on two ints, under a condition -/
def intD (c : Int → Int → Prop) (f : Int → Int → Int) (x y : D) (s : S) (Q : K1) : Prop := match x, y with
  | .int a, .int b => c a b ∧ Q (.int (f a b)) s
  | _, _ => False
def binD (op : Op) : D → D → S → K1 → Prop := match op with
  | .add => addD
  | .sub => intD (fun _ _ => True) fun a b => a - b
  | .mul => intD MulOk fun a b => a * b
  | .fdiv => intD (fun _ b => DivOk b) fun a b => a / b
  | .mod => intD (fun _ b => 0 < b) fun a b => a % b
  | .pow => intD PowOk fun a b => a ^ b.toNat

def augD (op : Op) (a b : Int) : Option Int := match op with
  | .add => some (a + b)
  | .sub => some (a - b)
  | _ => none

def eqqD (x y : D) (s : S) (Q : K1) : Prop := match x, y with
  | .int a, .int b => Q (.bl (decide (a = b))) s
  | .str a, .str b => Q (.bl (decide (a = b))) s
  | x, y => flatN 60 x = true ∧ flatN 60 y = true ∧ Q (.bl (eqD x y)) s
def neqD (x y : D) (s : S) (Q : K1) : Prop := match x, y with
  | .int a, .int b => Q (.bl (!decide (a = b))) s
  | .str a, .str b => Q (.bl (!decide (a = b))) s
  | x, y => flatN 60 x = true ∧ flatN 60 y = true ∧ Q (.bl (!eqD x y)) s
/-- a comparison of two ints -/
def ordD (p : Int → Int → Bool) (x y : D) (s : S) (Q : K1) : Prop := match x, y with
  | .int a, .int b => Q (.bl (p a b)) s
  | _, _ => False
/-- < of ints, of texts, of tuples of ints -/
def ltD (x y : D) (s : S) (Q : K1) : Prop := match x, y with
  | .int a, .int b => Q (.bl (decide (a < b))) s
  | .str a, .str b => Q (.bl (decide (a.cps.toList < b.cps.toList))) s
  | .tup a, .tup b => match intsD a, intsD b with
    | some ns, some ms => Q (.bl (lexI ns ms)) s
    | _, _ => False
  | _, _ => False
def gtD (x y : D) (s : S) (Q : K1) : Prop := match x, y with
  | .int a, .int b => Q (.bl (decide (b < a))) s
  | .str a, .str b => Q (.bl (decide (b.cps.toList < a.cps.toList))) s
  | _, _ => False
/-- in, not in: of a list whose items hold no list; of a sign and a text -/
def inD (neg : Bool) (x y : D) (s : S) (Q : K1) : Prop := match y with
  | .ref k => match lstAt s k with
    | some l => flatN 60 x = true ∧ flatNs 59 l = true ∧ Q (.bl (if neg then !l.any (fun z => eqD z x) else l.any fun z => eqD z x)) s
    | none => False
  | .fls l => flatN 60 x = true ∧ flatNs 59 l = true ∧ Q (.bl (if neg then !l.any (fun z => eqD z x) else l.any fun z => eqD z x)) s
  | .tup l => flatN 60 x = true ∧ flatNs 59 l = true ∧ Q (.bl (if neg then !l.any (fun z => eqD z x) else l.any fun z => eqD z x)) s
  | .str z => match x with
    | .str a => match a.cps.toList with
      | [c] => Q (.bl (if neg then !decide (c ∈ z.cps.toList) else decide (c ∈ z.cps.toList))) s
      | _ => False
    | _ => False
  | _ => False
def isNon : D → Bool
  | .non => true
  | _ => false
/-- is None, is not None -/
def isD (neg : Bool) (x y : D) (s : S) (Q : K1) : Prop := match y with
  | .non => Q (.bl (if neg then !isNon x else isNon x)) s
  | _ => False
def cmpD (op : Co) : D → D → S → K1 → Prop := match op with
  | .eq => eqqD
  | .ne => neqD
  | .lt => ltD
  | .le => ordD fun a b => decide (a ≤ b)
  | .gt => gtD
  | .ge => ordD fun a b => decide (b ≤ a)
  | .is => isD false
  | .isnot => isD true
  | .inn => inD false
  | .notin => inD true

def truD (d : D) (s : S) : Option Bool := match d with
  | .non => some false
  | .bl b => some b
  | .int i => some (decide (i ≠ 0))
  | .str x => if x.length ≤ line then some (decide (x.length ≠ 0)) else none
  | .tup l => some (!l.isEmpty)
  | .fls l => some (!l.isEmpty)
  | .ref k => (lstAt s k).map fun l => !l.isEmpty

def isT (d : D) (s : S) (t : Ty) : Option Bool := match d with
  | .non => some false
  | .bl _ => some (match t with | .int => true | .bool => true | _ => false)
  | .int _ => some (match t with | .int => true | _ => false)
  | .str _ => some (match t with | .str => true | _ => false)
  | .tup _ => some (match t with | .tup => true | _ => false)
  | .fls _ => some (match t with | .lst => true | _ => false)
  | .ref k => (lstAt s k).map fun _ => match t with | .lst => true | _ => false

def cstD : Cst → D
  | .non => .non | .bl b => .bl b | .int i => .int i | .str s => .str s
/-- the items of a list or tuple -/
def itemsD (d : D) (s : S) : Option (List D) := match d with
  | .tup l => some l
  | .fls l => some l
  | .ref k => lstAt s k
  | _ => none
def subD (x i : D) (s : S) (Q : K1) : Prop := match i with
  | .int i => match itemsD x s with
    | some l => (match (ixN l.length i).bind fun j => l[j]? with
      | some d => Q d s
      | none => False)
    | none => False
  | _ => False
def lenD (x : D) (s : S) : Option Nat := match x with
  | .str z => if z.length ≤ line then some z.length else none
  | x => (itemsD x s).map List.length
def insI (x : Int) : List Int → List Int
  | [] => [x]
  | y :: r => if x ≤ y then x :: y :: r else y :: insI x r
def sortI : List Int → List Int
  | [] => []
  | x :: r => insI x (sortI r)
def minL : Int → List Int → Int
  | m, [] => m
  | m, x :: r => minL (if x < m then x else m) r
def maxL : Int → List Int → Int
  | m, [] => m
  | m, x :: r => maxL (if m < x then x else m) r
def asgT (t : Tg) (d : D) (ρ : Env) : Option Env := match t with
  | .name i => some (ρ.set i (.val d))
  | .tup is => match d with
    | .tup ds => if ds.length = is.length then some ((is.zip ds).foldl (fun ρ p => ρ.set p.1 (.val p.2)) ρ) else none
    | _ => none
def Tg.one : Tg → Bool
  | .name _ => true
  | _ => false
def rangeD (lo : Int) (n : Nat) : List D := (List.range n).map fun i : Nat => D.int (lo + (i : Int))
def enumD (l : List D) : List D := l.zipIdx.map fun p => .tup [.int (p.2 : Nat), p.1]
/-- the slots of a comprehension's own names, and of caught exceptions, are forgotten within it -/
def wipe (ρ : Env) (own : List Nat) : Env := (own.foldl (fun ρ i => ρ.set i .no) ρ).map fun s => match s with
  | .exn _ _ => .no
  | s => s

/-! ### loops -/
/-- what is walked or read: a tuple; a list that nobody changes; a new list; the list at k, which must stand as it stood -/
inductive Src where | tp (l : List D) | fl (l : List D) | ls (l : List D) | at (k : Nat) (l : List D)
def Src.items : Src → List D
  | .tp l => l
  | .fl l => l
  | .ls l => l
  | .at _ l => l
def Src.ok : Src → S → Prop
  | .at k l, s => lstAt s k = some l
  | _, _ => True
def Src.isList : Src → Bool
  | .tp _ => false
  | _ => true
def Src.notFl : Src → Bool
  | .fl _ => false
  | _ => true
/-- a list or a tuple -/
def srcD (d : D) (s : S) : Option Src := match d with
  | .tup l => some (.tp l)
  | .fls l => some (.fl l)
  | .ref k => (lstAt s k).map fun l => .at k l
  | _ => none
def forW (chk : S → Prop) (turn : D → Env → S → (Env → S → Prop) → Prop) (fin : Env → S → Prop) : List D → Env → S → Prop
  | [], ρ, s => chk s ∧ fin ρ s
  | d :: r, ρ, s => chk s ∧ turn d ρ s (forW chk turn fin r)
/-- a comprehension of two clauses: what is gathered goes through -/
def compA (chk : S → Prop) (turn : D → List D → S → (List D → S → Prop) → Prop) (fin : List D → S → Prop) : List D → List D → S → Prop
  | [], acc, s => chk s ∧ fin acc s
  | d :: r, acc, s => chk s ∧ turn d acc s (compA chk turn fin r)
def compW (chk : S → Prop) (turn : D → S → (Option D → S → Prop) → Prop) (fin : List D → S → Prop) : List D → List D → S → Prop
  | [], acc, s => chk s ∧ fin acc s
  | d :: r, acc, s => chk s ∧ turn d s fun o s' => compW chk turn fin r (acc ++ o.toList) s'

/-! ### what a piece of text does -/
structure Fn where
  ps : List Str
  ns : Nat
  body : List St
def Fn.np (f : Fn) : Nat := f.ps.length
inductive Exc where
  | plain | fld (f : Str)
structure Prog where
  fn : Str → Option Fn
  cst : Str → Option Cst
  exc : Str → Option Exc
  /-- exception class below exception class -/
  below : Str → Str → Option Bool
structure Cx where
  P : Prog
  call : Bool → Str → List Sl → S → K1 → KX → Prop
  /-- an exception is being handled -/
  hot : Bool
structure Pst where
  nx : Env → S → Prop
  rt : D → S → Prop
  bk : Env → S → Prop
  ct : Env → S → Prop
  ex : Str → Fs → Env → S → Prop

def strD (x : Str) : List D := x.cps.toList.map fun c => .str ⟨#[c]⟩
/-- what a for gets from a value, and its items -/
def walkD (d : D) (s : S) : Option (Src × List D) := match d with
  | .str x => if x.length ≤ line then some (.ls [], strD x) else none
  | d => (srcD d s).map fun r => (r, r.items)
def It.cool : It → Bool
  | .rng1 _ => true
  | _ => false

mutual
def wpE (C : Cx) : Ex → Env → S → K1 → KX → Prop
  | .var i, ρ, s, Q, _ => (match ρ[i]? with
    | some (.val d) => Q d s
    | _ => False)
  | .cst c, _, s, Q, _ => Q (cstD c) s
  | .glb x, _, s, Q, _ => (match C.P.cst x with
    | some c => Q (cstD c) s
    | none => False)
  | .bin op a b, ρ, s, Q, E => wpE C a ρ s (fun x s1 => wpE C b ρ s1 (fun y s2 => binD op x y s2 Q) E) E
  | .neg a, ρ, s, Q, E => wpE C a ρ s (fun x s1 => match x with
    | .int i => Q (.int (-i)) s1
    | _ => False) E
  | .cmp op a b, ρ, s, Q, E => wpE C a ρ s (fun x s1 => wpE C b ρ s1 (fun y s2 => cmpD op x y s2 Q) E) E
  | .chain o1 o2 a b c, ρ, s, Q, E => wpE C a ρ s (fun x s1 => wpE C b ρ s1 (fun y s2 => cmpD o1 x y s2 (fun z s3 => match z with
    | .bl true => wpE C c ρ s3 (fun w s4 => cmpD o2 y w s4 Q) E
    | .bl false => Q (.bl false) s3
    | _ => False)) E) E
  | .not a, ρ, s, Q, E => wpE C a ρ s (fun x s1 => match truD x s1 with
    | some b => Q (.bl (!b)) s1
    | none => False) E
  | .and a b, ρ, s, Q, E => wpE C a ρ s (fun x s1 => match truD x s1 with
    | some true => wpE C b ρ s1 Q E
    | some false => Q x s1
    | none => False) E
  | .or a b, ρ, s, Q, E => wpE C a ρ s (fun x s1 => match truD x s1 with
    | some true => Q x s1
    | some false => wpE C b ρ s1 Q E
    | none => False) E
  | .ite c a b, ρ, s, Q, E => wpT C c ρ s (fun t s1 => if t = true then wpE C a ρ s1 Q E else wpE C b ρ s1 Q E) E
  | .call f as, ρ, s, Q, E => (C.P.fn f).isSome = true ∧ wpA C as ρ s (fun ds s1 => C.call C.hot f ds s1 Q E) E
  | .isi a t, ρ, s, Q, E => wpE C a ρ s (fun x s1 => match isT x s1 t with
    | some b => Q (.bl b) s1
    | none => False) E
  | .exIs i c, ρ, s, Q, _ => (match ρ[i]? with
    | some (.exn d _) => (match C.P.below d c with
      | some b => Q (.bl b) s
      | none => False)
    | _ => False)
  | .exVE i, ρ, s, Q, _ => (match ρ[i]? with
    | some (.exn d _) => (match C.P.exc d with
      | some _ => Q (.bl true) s
      | none => False)
    | _ => False)
  | .exFld i f, ρ, s, Q, _ => (match ρ[i]? with
    | some (.exn c fs) => (match C.P.exc c, fs.lookup f with
      | some (.fld g), some x => g = f ∧ Q x s
      | _, _ => False)
    | _ => False)
  | .sub a i, ρ, s, Q, E => wpE C a ρ s (fun x s1 => wpE C i ρ s1 (fun y s2 => subD x y s2 Q) E) E
  | .slice a lo hi, ρ, s, Q, E => wpE C a ρ s (fun x s1 => wpO C lo ρ s1 (fun l s2 => wpO C hi ρ s2 (fun h s3 => match x with
    | .tup xs => Q (.tup (cutL xs l h)) s3
    | .fls xs => Q (.ref s3.length) (s3 ++ [.lst (cutL xs l h)])
    | .ref k => (match lstAt s3 k with
      | some xs => Q (.ref s3.length) (s3 ++ [.lst (cutL xs l h)])
      | none => False)
    | _ => False) E) E) E
  | .tup as, ρ, s, Q, E => wpL C as ρ s (fun ds s1 => ds.length ≤ line ∧ Q (.tup ds) s1) E
  | .new q, ρ, s, Q, E => wpQ C q ρ s (fun r s1 => match r with
    | .ls l => Q (.ref s1.length) (s1 ++ [.lst l])
    | _ => False) E
  | .tupOf q, ρ, s, Q, E => wpQ C q ρ s (fun r s1 => Q (.tup r.items) s1) E
  | .listOf q, ρ, s, Q, E => wpQ C q ρ s (fun r s1 => Q (.ref s1.length) (s1 ++ [.lst r.items])) E
  | .len a, ρ, s, Q, E => wpE C a ρ s (fun x s1 => match lenD x s1 with
    | some n => Q (.int n) s1
    | none => False) E
  | .lenQ q, ρ, s, Q, E => wpQ C q ρ s (fun r s1 => Q (.int r.items.length) s1) E
  | .sum q, ρ, s, Q, E => C.hot = false ∧ wpQ C q ρ s (fun r s1 => match intsD r.items with
    | some ns => Q (.int ns.sum) s1
    | none => False) E
  | .minQ q, ρ, s, Q, E => C.hot = false ∧ wpQ C q ρ s (fun r s1 => match intsD r.items with
    | some (n :: ns) => r.isList = true ∧ Q (.int (minL n ns)) s1
    | _ => False) E
  | .maxQ q, ρ, s, Q, E => C.hot = false ∧ wpQ C q ρ s (fun r s1 => match intsD r.items with
    | some (n :: ns) => r.isList = true ∧ Q (.int (maxL n ns)) s1
    | _ => False) E
  | .max2 a b, ρ, s, Q, E => C.hot = false ∧ wpE C a ρ s (fun x s1 => wpE C b ρ s1 (fun y s2 => match x, y with
    | .int i, .int j => Q (.int (if j > i then j else i)) s2
    | _, _ => False) E) E
  | .min2 a b, ρ, s, Q, E => C.hot = false ∧ wpE C a ρ s (fun x s1 => wpE C b ρ s1 (fun y s2 => match x, y with
    | .int i, .int j => Q (.int (if j < i then j else i)) s2
    | _, _ => False) E) E
  | .int1 a, ρ, s, Q, E => wpE C a ρ s (fun x s1 => match x with
    | .int i => Q (.int i) s1
    | .bl b => Q (.int (if b then 1 else 0)) s1
    | _ => False) E
  | .abs a, ρ, s, Q, E => wpE C a ρ s (fun x s1 => match x with
    | .int i => Q (.int (if i < 0 then -i else i)) s1
    | _ => False) E
  | .append o a, ρ, s, Q, E => wpE C o ρ s (fun x s1 => match x with
    | .ref k => (match lstAt s1 k with
      | some _ => wpE C a ρ s1 (fun y s2 => match lstAt s2 k with
        | some l => l.length < line ∧ Q .non (s2.set k (.lst (l ++ [y])))
        | none => False) E
      | none => False)
    | _ => False) E
  | .pop o, ρ, s, Q, E => wpE C o ρ s (fun x s1 => match x with
    | .ref k => (match lstAt s1 k with
      | some l => (match l[l.length - 1]? with
        | some y => Q y (s1.set k (.lst l.dropLast))
        | none => False)
      | none => False)
    | _ => False) E
  | .popAt o a, ρ, s, Q, E => wpE C o ρ s (fun x s1 => match x with
    | .ref k => (match lstAt s1 k with
      | some _ => wpE C a ρ s1 (fun y s2 => match y with
        | .int i => (-(2 ^ 63) ≤ i ∧ i < 2 ^ 63) ∧ (match lstAt s2 k with
          | some l => (match ixN l.length i with
            | some j => (match l[j]? with
              | some z => Q z (s2.set k (.lst (l.eraseIdx j)))
              | none => False)
            | none => False)
          | none => False)
        | _ => False) E
      | none => False)
    | _ => False) E
  | .extend o q, ρ, s, Q, E => wpE C o ρ s (fun x s1 => match x with
    | .ref k => (match lstAt s1 k with
      | some _ => wpQ C q ρ s1 (fun r s2 => match r, lstAt s2 k with
        | .tp zs, some l => l.length + zs.length ≤ line ∧ Q .non (s2.set k (.lst (l ++ zs)))
        | _, _ => False) E
      | none => False)
    | _ => False) E
  | .isTL a, ρ, s, Q, E => wpE C a ρ s (fun x s1 => match isT x s1 .tup, isT x s1 .lst with
    | some b, some c => Q (.bl (b || c)) s1
    | _, _ => False) E
def wpL (C : Cx) : List Ex → Env → S → (List D → S → Prop) → KX → Prop
  | [], _, s, Q, _ => Q [] s
  | e :: r, ρ, s, Q, E => wpE C e ρ s (fun d s1 => wpL C r ρ s1 (fun ds s2 => Q (d :: ds) s2) E) E
/-- a call's arguments: a caught exception may be handed on by its name -/
def wpA (C : Cx) : List Ar → Env → S → (List Sl → S → Prop) → KX → Prop
  | [], _, s, Q, _ => Q [] s
  | e :: r, ρ, s, Q, E => wpX C e ρ s (fun d s1 => wpA C r ρ s1 (fun ds s2 => Q (d :: ds) s2) E) E
def wpX (C : Cx) : Ar → Env → S → (Sl → S → Prop) → KX → Prop
  | .nm i, ρ, s, Q, _ => (match ρ[i]? with
    | some (.val d) => Q (.val d) s
    | some (.exn c fs) => C.hot = true ∧ Q (.exn c fs) s
    | _ => False)
  | .ex e, ρ, s, Q, E => wpE C e ρ s (fun d s1 => Q (.val d) s1) E
def wpO (C : Cx) : Option Ex → Env → S → (Option Int → S → Prop) → KX → Prop
  | none, _, s, Q, _ => Q none s
  | some e, ρ, s, Q, E => wpE C e ρ s (fun d s1 => match d with
    | .int i => Q (some i) s1
    | _ => False) E
def wpT (C : Cx) : Te → Env → S → (Bool → S → Prop) → KX → Prop
  | .not t, ρ, s, Q, E => wpT C t ρ s (fun b s1 => Q (!b) s1) E
  | .and a b, ρ, s, Q, E => wpT C a ρ s (fun x s1 => if x = true then wpT C b ρ s1 Q E else Q false s1) E
  | .or a b, ρ, s, Q, E => wpT C a ρ s (fun x s1 => if x = true then Q true s1 else wpT C b ρ s1 Q E) E
  | .ex e, ρ, s, Q, E => wpE C e ρ s (fun x s1 => match truD x s1 with
    | some b => Q b s1
    | none => False) E
def wpC (C : Cx) : Option Te → Env → S → (Bool → S → Prop) → KX → Prop
  | none, _, s, Q, _ => Q true s
  | some t, ρ, s, Q, E => wpT C t ρ s Q E
def wpQ (C : Cx) : Sq → Env → S → (Src → S → Prop) → KX → Prop
  | .of e, ρ, s, Q, E => wpE C e ρ s (fun x s1 => match srcD x s1 with
    | some r => Q r s1
    | none => False) E
  | .lst as, ρ, s, Q, E => wpL C as ρ s (fun ds s1 => ds.length ≤ line ∧ Q (.ls ds) s1) E
  | .comp e own tg it cond, ρ, s, Q, E => (C.hot = true → it.cool = true ∧ tg.one = true) ∧ wpI C it ρ s (fun src items s1 => items.length ≤ line ∧
      compW src.ok (fun d s2 nx => match asgT tg d (wipe ρ own) with
        | some ρ1 => wpC C cond ρ1 s2 (fun b s3 => if b = true then wpE C e ρ1 s3 (fun y s4 => nx (some y) s4) (fun _ _ _ => False) else nx none s3) fun _ _ _ => False
        | none => False) (fun l s2 => Q (.ls l) s2) items [] s1) E
  | .comp2 e own own1 tg it cond tg1 it1 cond1, ρ, s, Q, E => (C.hot = false ∧ it1.cool = true) ∧ wpI C it ρ s (fun src items s1 =>
      compA src.ok (fun d acc s2 nx => match asgT tg d (wipe ρ own) with
        | some ρ1 => wpC C cond ρ1 s2 (fun b s3 => if b = true then wpI C it1 ρ1 s3 (fun src1 items1 s4 =>
            compA src1.ok (fun d1 acc1 s5 nx1 => match asgT tg1 d1 (wipe ρ1 own1) with
              | some ρ2 => wpC C cond1 ρ2 s5 (fun b1 s6 => if b1 = true then wpE C e ρ2 s6 (fun y s7 => acc1.length < line ∧ nx1 (acc1 ++ [y]) s7) (fun _ _ _ => False) else nx1 acc1 s6) fun _ _ _ => False
              | none => False) nx items1 acc s4) (fun _ _ _ => False) else nx acc s3) fun _ _ _ => False
        | none => False) (fun l s2 => Q (.ls l) s2) items [] s1) E
  | .cat a b, ρ, s, Q, E => wpQ C a ρ s (fun x s1 => wpQ C b ρ s1 (fun y s2 => x.notFl = true ∧ y.notFl = true ∧ x.isList = true ∧ y.isList = true ∧ x.ok s2 ∧ x.items.length + y.items.length ≤ line ∧ Q (.ls (x.items ++ y.items)) s2) E) E
  | .sorted q, ρ, s, Q, E => wpQ C q ρ s (fun r s1 => match tupsD r.items with
    | some nss => (∀ ns ∈ nss, ns ≠ []) ∧ ∀ mss : List (List Int), mss.Perm nss → mss.Pairwise (fun a b => lexI b a = false) → Q (.ls (mss.map fun ns => .tup (ns.map .int))) s1
    | none => (match intsD r.items with
      | some ns => r.isList = true ∧ ns.length < 64 ∧ Q (.ls ((sortI ns).map .int)) s1
      | none => False)) E
  | .cut q lo hi, ρ, s, Q, E => wpQ C q ρ s (fun r s1 => wpO C lo ρ s1 (fun l s2 => wpO C hi ρ s2 (fun h s3 => r.ok s3 ∧ Q (match r with
    | .tp xs => .tp (cutL xs l h)
    | r => .ls (cutL r.items l h)) s3) E) E) E
def wpI (C : Cx) : It → Env → S → (Src → List D → S → Prop) → KX → Prop
  | .of e, ρ, s, Q, E => wpE C e ρ s (fun x s1 => match walkD x s1 with
    | some r => Q r.1 r.2 s1
    | none => False) E
  | .seq q, ρ, s, Q, E => wpQ C q ρ s (fun r s1 => Q r r.items s1) E
  | .rng1 a, ρ, s, Q, E => wpE C a ρ s (fun x s1 => match x with
    | .int n => n < 2 ^ 62 ∧ -(2 ^ 62) ≤ n ∧ Q (.ls []) (rangeD 0 n.toNat) s1
    | _ => False) E
  | .rng2 a b, ρ, s, Q, E => wpE C a ρ s (fun x s1 => wpE C b ρ s1 (fun y s2 => match x, y with
    | .int i, .int j => (-(2 ^ 62) ≤ i ∧ i < 2 ^ 62 ∧ -(2 ^ 62) ≤ j ∧ j < 2 ^ 62) ∧ Q (.ls []) (rangeD i (j - i).toNat) s2
    | _, _ => False) E) E
  | .enum q, ρ, s, Q, E => wpQ C q ρ s (fun r s1 => Q r (enumD r.items) s1) E
end

mutual
def wpS (C : Cx) : St → Env → S → Pst → Prop
  | .asg t e, ρ, s, D => (C.hot = true → t.one = true) ∧ wpE C e ρ s (fun d s1 => match asgT t d ρ with
    | some ρ1 => D.nx ρ1 s1
    | none => False) fun c fs s1 => D.ex c fs ρ s1
  | .setIx o i e, ρ, s, D => wpE C e ρ s (fun d s1 => wpE C o ρ s1 (fun x s2 => wpE C i ρ s2 (fun y s3 => match x, y with
    | .ref k, .int j => (match lstAt s3 k with
      | some l => (match ixN l.length j with
        | some n => D.nx ρ (s3.set k (.lst (l.set n d)))
        | none => False)
      | none => False)
    | _, _ => False) fun c fs s1 => D.ex c fs ρ s1) fun c fs s1 => D.ex c fs ρ s1) fun c fs s1 => D.ex c fs ρ s1
  | .aug i op e, ρ, s, D => (match ρ[i]? with
    | some (.val (.int a)) => wpE C e ρ s (fun y s1 => match y with
      | .int b => (match augD op a b with
        | some c => D.nx (ρ.set i (.val (.int c))) s1
        | none => False)
      | _ => False) fun c fs s1 => D.ex c fs ρ s1
    | _ => False)
  | .expr e, ρ, s, D => wpE C e ρ s (fun _ s1 => D.nx ρ s1) fun c fs s1 => D.ex c fs ρ s1
  | .ret e, ρ, s, D => wpE C e ρ s D.rt fun c fs s1 => D.ex c fs ρ s1
  | .retN, _, s, D => D.rt .non s
  | .cond t a b, ρ, s, D => wpT C t ρ s (fun c s1 => if c = true then wpB C a ρ s1 D else wpB C b ρ s1 D) fun c fs s1 => D.ex c fs ρ s1
  | .for tg it body, ρ, s, D => (C.hot = true → it.cool = true ∧ tg.one = true) ∧ wpI C it ρ s (fun src items s1 =>
      forW src.ok (fun d ρ1 s2 nx => match asgT tg d ρ1 with
        | some ρ2 => wpB C body ρ2 s2 { D with nx := nx, ct := nx, bk := D.nx }
        | none => False) D.nx items ρ s1) fun c fs s1 => D.ex c fs ρ s1
  | .while t body, ρ, s, D => ∃ W : Nat → Env → S → Prop, (∃ m, W m ρ s) ∧ ∀ m ρ1 s1, W m ρ1 s1 →
      ρ1.length = ρ.length ∧ wpT C t ρ1 s1 (fun c s2 => if c = true then wpB C body ρ1 s2 { D with nx := fun ρ2 s3 => ∃ m', m' < m ∧ W m' ρ2 s3, ct := fun ρ2 s3 => ∃ m', m' < m ∧ W m' ρ2 s3, bk := D.nx } else D.nx ρ1 s2) fun c fs s2 => D.ex c fs ρ1 s2
  | .brk, ρ, s, D => D.bk ρ s
  | .cont, ρ, s, D => D.ct ρ s
  | .pass, ρ, s, D => D.nx ρ s
  | .raise c as, ρ, s, D => C.hot = false ∧ (match C.P.exc c, as with
    | some .plain, [] => D.ex c [] ρ s
    | some (.fld f), [e] => wpE C e ρ s (fun x s1 => match x with
      | .int i => ShowOk i ∧ D.ex c [(f, .int i)] ρ s1
      | _ => False) fun c fs s1 => D.ex c fs ρ s1
    | _, _ => False)
  | .try body c i suite, ρ, s, D => C.hot = false ∧ (C.P.exc c).isSome = true ∧ wpB C body ρ s { D with ex := fun d fs ρ1 s1 => match C.P.below d c with
    | some true => wpB { C with hot := true } suite (ρ1.set i (.exn d fs)) s1
        { nx := fun ρ2 => D.nx (wipe ρ2 [i]), rt := D.rt, bk := fun ρ2 => D.bk (wipe ρ2 [i]), ct := fun ρ2 => D.ct (wipe ρ2 [i]), ex := fun _ _ _ _ => False }
    | some false => D.ex d fs ρ1 s1
    | none => False }
def wpB (C : Cx) : List St → Env → S → Pst → Prop
  | [], ρ, s, D => D.nx ρ s
  | t :: r, ρ, s, D => wpS C t ρ s { D with nx := fun ρ1 s1 => wpB C r ρ1 s1 D }
end

/-- a call, n calls deep at most -/
def wpCall (P : Prog) : Nat → Bool → Str → List Sl → S → K1 → KX → Prop
  | 0, _, _, _, _, _, _ => False
  | n + 1, h, f, as, s, Q, E => match P.fn f with
    | some fn => as.length = fn.np ∧ wpB ⟨P, wpCall P n, h⟩ fn.body (as ++ List.replicate (fn.ns - fn.np) .no) s
        { nx := fun _ s1 => Q .non s1, rt := Q, bk := fun _ _ => False, ct := fun _ _ => False, ex := fun c fs _ s1 => E c fs s1 }
    | none => False
end PI

set_option linter.all false
namespace PI
open PySem (Str)

theorem ite_mono {c : Bool} {A A' B B' : Prop} (h1 : A → A') (h2 : B → B') (h : if c = true then A else B) : if c = true then A' else B' := by
  cases c
  · exact h2 h
  · exact h1 h
theorem binD_mono {op x y s} {Q Q' : K1} (hQ : ∀ d s, Q d s → Q' d s) (h : binD op x y s Q) : binD op x y s Q' := by
  cases op <;> simp only [binD] at * <;> first
    | (unfold addD at *; split at h <;> first | exact hQ _ _ h | exact ⟨h.1, hQ _ _ h.2⟩ | exact h.elim | (split at h <;> first | exact ⟨h.1, hQ _ _ h.2⟩ | exact h.elim))
    | (unfold intD at *; split at h <;> first | exact ⟨h.1, hQ _ _ h.2⟩ | exact h.elim)
theorem cmpD_mono {op x y s} {Q Q' : K1} (hQ : ∀ d s, Q d s → Q' d s) (h : cmpD op x y s Q) : cmpD op x y s Q' := by
  cases op <;> simp only [cmpD] at * <;> first
    | exact h.elim
    | (unfold eqqD at *; split at h <;> first | exact hQ _ _ h | exact ⟨h.1, h.2.1, hQ _ _ h.2.2⟩)
    | (unfold neqD at *; split at h <;> first | exact hQ _ _ h | exact ⟨h.1, h.2.1, hQ _ _ h.2.2⟩)
    | (unfold ltD at *; split at h <;> first | exact hQ _ _ h | exact h.elim | (split at h <;> first | exact hQ _ _ h | exact h.elim))
    | (unfold gtD at *; split at h <;> first | exact hQ _ _ h | exact h.elim)
    | (unfold inD at *; split at h <;> first | exact ⟨h.1, h.2.1, hQ _ _ h.2.2⟩ | exact h.elim | (split at h <;> first | exact ⟨h.1, h.2.1, hQ _ _ h.2.2⟩ | exact h.elim | (split at h <;> first | exact hQ _ _ h | exact h.elim)))
    | (unfold ordD at *; split at h <;> first | exact hQ _ _ h | exact h.elim)
    | (unfold isD at *; split at h <;> first | exact hQ _ _ h | exact h.elim)
theorem subD_mono {x i s} {Q Q' : K1} (hQ : ∀ d s, Q d s → Q' d s) (h : subD x i s Q) : subD x i s Q' := by
  unfold subD at *
  split at h
  · split at h
    · split at h
      · exact hQ _ _ h
      · exact h.elim
    · exact h.elim
  · exact h.elim
theorem forW_mono {chk : S → Prop} {turn turn' : D → Env → S → (Env → S → Prop) → Prop} {fin fin' : Env → S → Prop}
    (ht : ∀ d ρ s (n n' : Env → S → Prop), (∀ ρ s, n ρ s → n' ρ s) → turn d ρ s n → turn' d ρ s n') (hf : ∀ ρ s, fin ρ s → fin' ρ s) :
    ∀ (l : List D) (ρ : Env) (s : S), forW chk turn fin l ρ s → forW chk turn' fin' l ρ s
  | [], _, _, h => ⟨h.1, hf _ _ h.2⟩
  | _ :: r, _, _, h => ⟨h.1, ht _ _ _ _ _ (fun ρ s => forW_mono ht hf r ρ s) h.2⟩
theorem compA_mono {chk : S → Prop} {turn turn' : D → List D → S → (List D → S → Prop) → Prop} {fin fin' : List D → S → Prop}
    (ht : ∀ d a s (n n' : List D → S → Prop), (∀ o s, n o s → n' o s) → turn d a s n → turn' d a s n') (hf : ∀ l s, fin l s → fin' l s) :
    ∀ (l acc : List D) (s : S), compA chk turn fin l acc s → compA chk turn' fin' l acc s
  | [], _, _, h => ⟨h.1, hf _ _ h.2⟩
  | _ :: r, _, _, h => ⟨h.1, ht _ _ _ _ _ (fun a s => compA_mono ht hf r a s) h.2⟩
theorem compW_mono {chk : S → Prop} {turn turn' : D → S → (Option D → S → Prop) → Prop} {fin fin' : List D → S → Prop}
    (ht : ∀ d s (n n' : Option D → S → Prop), (∀ o s, n o s → n' o s) → turn d s n → turn' d s n') (hf : ∀ l s, fin l s → fin' l s) :
    ∀ (l acc : List D) (s : S), compW chk turn fin l acc s → compW chk turn' fin' l acc s
  | [], _, _, h => ⟨h.1, hf _ _ h.2⟩
  | _ :: r, _, _, h => ⟨h.1, ht _ _ _ _ (fun o s => compW_mono ht hf r _ s) h.2⟩

structure Mono (C : Cx) : Prop where
  call : ∀ h f as s (Q Q' : K1) (E E' : KX), (∀ d s, Q d s → Q' d s) → (∀ c fs s, E c fs s → E' c fs s) → C.call h f as s Q E → C.call h f as s Q' E'

mutual
theorem wpE_mono {C : Cx} (M : Mono C) : ∀ (e : Ex) {ρ s} {Q Q' : K1} {E E' : KX}, (∀ d s, Q d s → Q' d s) → (∀ c fs s, E c fs s → E' c fs s) → wpE C e ρ s Q E → wpE C e ρ s Q' E'
  | .var i, ρ, s, Q, Q', E, E', hQ, hE, h => by
    simp only [wpE] at *
    split at h
    · exact hQ _ _ h
    · exact h
  | .cst c, _, _, _, _, _, _, hQ, hE, h => hQ _ _ h
  | .glb x, ρ, s, Q, Q', E, E', hQ, hE, h => by
    simp only [wpE] at *
    split at h
    · exact hQ _ _ h
    · exact h
  | .bin op a b, _, _, _, _, _, _, hQ, hE, h => wpE_mono M a (fun _ _ h => wpE_mono M b (fun _ _ h => binD_mono hQ h) hE h) hE h
  | .neg a, _, _, _, _, _, _, hQ, hE, h => wpE_mono M a (fun _ _ h => by split at h <;> first | exact hQ _ _ h | exact h) hE h
  | .cmp op a b, _, _, _, _, _, _, hQ, hE, h => wpE_mono M a (fun _ _ h => wpE_mono M b (fun _ _ h => cmpD_mono hQ h) hE h) hE h
  | .chain o1 o2 a b c, _, _, _, _, _, _, hQ, hE, h => wpE_mono M a (fun _ _ h => wpE_mono M b (fun _ _ h => cmpD_mono (fun _ _ h => by
      split at h
      · exact wpE_mono M c (fun _ _ h => cmpD_mono hQ h) hE h
      · exact hQ _ _ h
      · exact h) h) hE h) hE h
  | .not a, _, _, _, _, _, _, hQ, hE, h => wpE_mono M a (fun _ _ h => by split at h <;> first | exact hQ _ _ h | exact h) hE h
  | .and a b, _, _, _, _, _, _, hQ, hE, h => wpE_mono M a (fun _ _ h => by
      split at h
      · exact wpE_mono M b hQ hE h
      · exact hQ _ _ h
      · exact h) hE h
  | .or a b, _, _, _, _, _, _, hQ, hE, h => wpE_mono M a (fun _ _ h => by
      split at h
      · exact hQ _ _ h
      · exact wpE_mono M b hQ hE h
      · exact h) hE h
  | .ite c a b, _, _, _, _, _, _, hQ, hE, h => wpT_mono M c (fun _ _ h => ite_mono (wpE_mono M a hQ hE) (wpE_mono M b hQ hE) h) hE h
  | .call f as, _, _, _, _, _, _, hQ, hE, h => ⟨h.1, wpA_mono M as (fun _ _ h => M.call _ _ _ _ _ _ _ _ hQ hE h) hE h.2⟩
  | .isi a t, _, _, _, _, _, _, hQ, hE, h => wpE_mono M a (fun _ _ h => by split at h <;> first | exact hQ _ _ h | exact h) hE h
  | .exIs i c, ρ, s, Q, Q', E, E', hQ, hE, h => by
    simp only [wpE] at *
    split at h
    · split at h
      · exact hQ _ _ h
      · exact h
    · exact h
  | .exVE i, ρ, s, Q, Q', E, E', hQ, hE, h => by
    simp only [wpE] at *
    split at h
    · split at h
      · exact hQ _ _ h
      · exact h
    · exact h
  | .exFld i f, ρ, s, Q, Q', E, E', hQ, hE, h => by
    simp only [wpE] at *
    split at h
    · split at h
      · exact ⟨h.1, hQ _ _ h.2⟩
      · exact h
    · exact h
  | .sub a i, _, _, _, _, _, _, hQ, hE, h => wpE_mono M a (fun _ _ h => wpE_mono M i (fun _ _ h => subD_mono hQ h) hE h) hE h
  | .slice a lo hi, _, _, _, _, _, _, hQ, hE, h => wpE_mono M a (fun _ _ h => wpO_mono M lo (fun _ _ h => wpO_mono M hi (fun _ _ h => by
      split at h
      · exact hQ _ _ h
      · exact hQ _ _ h
      · split at h
        · exact hQ _ _ h
        · exact h
      · exact h) hE h) hE h) hE h
  | .tup as, _, _, _, _, _, _, hQ, hE, h => wpL_mono M as (fun _ _ h => ⟨h.1, hQ _ _ h.2⟩) hE h
  | .new q, _, _, _, _, _, _, hQ, hE, h => wpQ_mono M q (fun _ _ h => by split at h <;> first | exact hQ _ _ h | exact h) hE h
  | .tupOf q, _, _, _, _, _, _, hQ, hE, h => wpQ_mono M q (fun _ _ h => hQ _ _ h) hE h
  | .listOf q, _, _, _, _, _, _, hQ, hE, h => wpQ_mono M q (fun _ _ h => hQ _ _ h) hE h
  | .len a, _, _, _, _, _, _, hQ, hE, h => wpE_mono M a (fun _ _ h => by split at h <;> first | exact hQ _ _ h | exact h) hE h
  | .lenQ q, _, _, _, _, _, _, hQ, hE, h => wpQ_mono M q (fun _ _ h => hQ _ _ h) hE h
  | .sum q, _, _, _, _, _, _, hQ, hE, h => ⟨h.1, wpQ_mono M q (fun _ _ h => by split at h <;> first | exact hQ _ _ h | exact h) hE h.2⟩
  | .minQ q, _, _, _, _, _, _, hQ, hE, h => ⟨h.1, wpQ_mono M q (fun _ _ h => by split at h <;> first | exact ⟨h.1, hQ _ _ h.2⟩ | exact h) hE h.2⟩
  | .maxQ q, _, _, _, _, _, _, hQ, hE, h => ⟨h.1, wpQ_mono M q (fun _ _ h => by split at h <;> first | exact ⟨h.1, hQ _ _ h.2⟩ | exact h) hE h.2⟩
  | .max2 a b, _, _, _, _, _, _, hQ, hE, h => ⟨h.1, wpE_mono M a (fun _ _ h => wpE_mono M b (fun _ _ h => by split at h <;> first | exact hQ _ _ h | exact h) hE h) hE h.2⟩
  | .min2 a b, _, _, _, _, _, _, hQ, hE, h => ⟨h.1, wpE_mono M a (fun _ _ h => wpE_mono M b (fun _ _ h => by split at h <;> first | exact hQ _ _ h | exact h) hE h) hE h.2⟩
  | .int1 a, _, _, _, _, _, _, hQ, hE, h => wpE_mono M a (fun _ _ h => by split at h <;> first | exact hQ _ _ h | exact h) hE h
  | .abs a, _, _, _, _, _, _, hQ, hE, h => wpE_mono M a (fun _ _ h => by split at h <;> first | exact hQ _ _ h | exact h) hE h
  | .append o a, _, _, _, _, _, _, hQ, hE, h => wpE_mono M o (fun _ _ h => by
      split at h
      · split at h
        · exact wpE_mono M a (fun _ _ h => by
            split at h
            · exact ⟨h.1, hQ _ _ h.2⟩
            · exact h) hE h
        · exact h
      · exact h) hE h
  | .pop o, _, _, _, _, _, _, hQ, hE, h => wpE_mono M o (fun _ _ h => by
      split at h
      · split at h
        · split at h
          · exact hQ _ _ h
          · exact h
        · exact h
      · exact h) hE h
  | .popAt o a, _, _, _, _, _, _, hQ, hE, h => wpE_mono M o (fun _ _ h => by
      split at h
      · split at h
        · exact wpE_mono M a (fun _ _ h => by
            split at h
            · refine ⟨h.1, ?_⟩
              have h := h.2
              split at h
              · split at h
                · split at h
                  · exact hQ _ _ h
                  · exact h
                · exact h
              · exact h
            · exact h) hE h
        · exact h
      · exact h) hE h
  | .extend o q, _, _, _, _, _, _, hQ, hE, h => wpE_mono M o (fun _ _ h => by
      split at h
      · split at h
        · exact wpQ_mono M q (fun _ _ h => by
            split at h
            · exact ⟨h.1, hQ _ _ h.2⟩
            · exact h) hE h
        · exact h
      · exact h) hE h
  | .isTL a, _, _, _, _, _, _, hQ, hE, h => wpE_mono M a (fun _ _ h => by split at h <;> first | exact hQ _ _ h | exact h) hE h
theorem wpL_mono {C : Cx} (M : Mono C) : ∀ (l : List Ex) {ρ s} {Q Q' : List D → S → Prop} {E E' : KX}, (∀ d s, Q d s → Q' d s) → (∀ c fs s, E c fs s → E' c fs s) → wpL C l ρ s Q E → wpL C l ρ s Q' E'
  | [], _, _, _, _, _, _, hQ, hE, h => hQ _ _ h
  | e :: r, _, _, _, _, _, _, hQ, hE, h => wpE_mono M e (fun _ _ h => wpL_mono M r (fun _ _ h => hQ _ _ h) hE h) hE h
theorem wpA_mono {C : Cx} (M : Mono C) : ∀ (l : List Ar) {ρ s} {Q Q' : List Sl → S → Prop} {E E' : KX}, (∀ d s, Q d s → Q' d s) → (∀ c fs s, E c fs s → E' c fs s) → wpA C l ρ s Q E → wpA C l ρ s Q' E'
  | [], _, _, _, _, _, _, hQ, hE, h => hQ _ _ h
  | e :: r, _, _, _, _, _, _, hQ, hE, h => wpX_mono M e (fun _ _ h => wpA_mono M r (fun _ _ h => hQ _ _ h) hE h) hE h
theorem wpX_mono {C : Cx} (M : Mono C) : ∀ (a : Ar) {ρ s} {Q Q' : Sl → S → Prop} {E E' : KX}, (∀ d s, Q d s → Q' d s) → (∀ c fs s, E c fs s → E' c fs s) → wpX C a ρ s Q E → wpX C a ρ s Q' E'
  | .nm i, ρ, s, Q, Q', E, E', hQ, hE, h => by
    simp only [wpX] at *
    split at h
    · exact hQ _ _ h
    · exact ⟨h.1, hQ _ _ h.2⟩
    · exact h
  | .ex e, _, _, _, _, _, _, hQ, hE, h => wpE_mono M e (fun _ _ h => hQ _ _ h) hE h
theorem wpO_mono {C : Cx} (M : Mono C) : ∀ (o : Option Ex) {ρ s} {Q Q' : Option Int → S → Prop} {E E' : KX}, (∀ d s, Q d s → Q' d s) → (∀ c fs s, E c fs s → E' c fs s) → wpO C o ρ s Q E → wpO C o ρ s Q' E'
  | none, _, _, _, _, _, _, hQ, hE, h => hQ _ _ h
  | some e, _, _, _, _, _, _, hQ, hE, h => wpE_mono M e (fun _ _ h => by split at h <;> first | exact hQ _ _ h | exact h) hE h
theorem wpT_mono {C : Cx} (M : Mono C) : ∀ (t : Te) {ρ s} {Q Q' : Bool → S → Prop} {E E' : KX}, (∀ d s, Q d s → Q' d s) → (∀ c fs s, E c fs s → E' c fs s) → wpT C t ρ s Q E → wpT C t ρ s Q' E'
  | .not t, _, _, _, _, _, _, hQ, hE, h => wpT_mono M t (fun _ _ h => hQ _ _ h) hE h
  | .and a b, _, _, _, _, _, _, hQ, hE, h => wpT_mono M a (fun _ _ h => ite_mono (wpT_mono M b hQ hE) (hQ _ _) h) hE h
  | .or a b, _, _, _, _, _, _, hQ, hE, h => wpT_mono M a (fun _ _ h => ite_mono (hQ _ _) (wpT_mono M b hQ hE) h) hE h
  | .ex e, _, _, _, _, _, _, hQ, hE, h => wpE_mono M e (fun _ _ h => by split at h <;> first | exact hQ _ _ h | exact h) hE h
theorem wpC_mono {C : Cx} (M : Mono C) : ∀ (t : Option Te) {ρ s} {Q Q' : Bool → S → Prop} {E E' : KX}, (∀ d s, Q d s → Q' d s) → (∀ c fs s, E c fs s → E' c fs s) → wpC C t ρ s Q E → wpC C t ρ s Q' E'
  | none, _, _, _, _, _, _, hQ, hE, h => hQ _ _ h
  | some t, _, _, _, _, _, _, hQ, hE, h => wpT_mono M t hQ hE h
theorem wpQ_mono {C : Cx} (M : Mono C) : ∀ (q : Sq) {ρ s} {Q Q' : Src → S → Prop} {E E' : KX}, (∀ d s, Q d s → Q' d s) → (∀ c fs s, E c fs s → E' c fs s) → wpQ C q ρ s Q E → wpQ C q ρ s Q' E'
  | .of e, _, _, _, _, _, _, hQ, hE, h => wpE_mono M e (fun _ _ h => by split at h <;> first | exact hQ _ _ h | exact h) hE h
  | .lst as, _, _, _, _, _, _, hQ, hE, h => wpL_mono M as (fun _ _ h => ⟨h.1, hQ _ _ h.2⟩) hE h
  | .comp e own tg it cond, _, _, _, _, _, _, hQ, hE, h => ⟨h.1, wpI_mono M it (fun _ _ _ h => ⟨h.1, compW_mono (fun d s n n' hn h => by
      split at h
      · exact wpC_mono M cond (fun _ _ h => ite_mono (wpE_mono M e (fun _ _ h => hn _ _ h) (fun _ _ _ h => h)) (hn _ _) h) (fun _ _ _ h => h) h
      · exact h) (fun _ _ h => hQ _ _ h) _ _ _ h.2⟩) hE h.2⟩
  | .comp2 e own own1 tg it cond tg1 it1 cond1, _, _, _, _, _, _, hQ, hE, h => ⟨h.1, wpI_mono M it (fun _ _ _ h => compA_mono (fun d a s n n' hn h => by
      split at h
      · exact wpC_mono M cond (fun _ _ h => ite_mono (wpI_mono M it1 (fun _ _ _ h => compA_mono (fun d1 a1 s1 m m' hm h => by
          split at h
          · exact wpC_mono M cond1 (fun _ _ h => ite_mono (wpE_mono M e (fun _ _ h => ⟨h.1, hm _ _ h.2⟩) (fun _ _ _ h => h)) (hm _ _) h) (fun _ _ _ h => h) h
          · exact h) hn _ _ _ h) (fun _ _ _ h => h)) (hn _ _) h) (fun _ _ _ h => h) h
      · exact h) (fun _ _ h => hQ _ _ h) _ _ _ h) hE h.2⟩
  | .cat a b, _, _, _, _, _, _, hQ, hE, h => wpQ_mono M a (fun _ _ h => wpQ_mono M b (fun _ _ h => ⟨h.1, h.2.1, h.2.2.1, h.2.2.2.1, h.2.2.2.2.1, h.2.2.2.2.2.1, hQ _ _ h.2.2.2.2.2.2⟩) hE h) hE h
  | .sorted q, _, _, _, _, _, _, hQ, hE, h => wpQ_mono M q (fun _ _ h => by
      split at h
      · exact ⟨h.1, fun mss hp hs => hQ _ _ (h.2 mss hp hs)⟩
      · split at h
        · exact ⟨h.1, h.2.1, hQ _ _ h.2.2⟩
        · exact h) hE h
  | .cut q lo hi, _, _, _, _, _, _, hQ, hE, h => wpQ_mono M q (fun _ _ h => wpO_mono M lo (fun _ _ h => wpO_mono M hi (fun _ _ h => ⟨h.1, hQ _ _ h.2⟩) hE h) hE h) hE h
theorem wpI_mono {C : Cx} (M : Mono C) : ∀ (i : It) {ρ s} {Q Q' : Src → List D → S → Prop} {E E' : KX}, (∀ r d s, Q r d s → Q' r d s) → (∀ c fs s, E c fs s → E' c fs s) → wpI C i ρ s Q E → wpI C i ρ s Q' E'
  | .of e, _, _, _, _, _, _, hQ, hE, h => wpE_mono M e (fun _ _ h => by split at h <;> first | exact hQ _ _ _ h | exact h) hE h
  | .seq q, _, _, _, _, _, _, hQ, hE, h => wpQ_mono M q (fun _ _ h => hQ _ _ _ h) hE h
  | .rng1 a, _, _, _, _, _, _, hQ, hE, h => wpE_mono M a (fun _ _ h => by
      split at h
      · exact ⟨h.1, h.2.1, hQ _ _ _ h.2.2⟩
      · exact h) hE h
  | .rng2 a b, _, _, _, _, _, _, hQ, hE, h => wpE_mono M a (fun _ _ h => wpE_mono M b (fun _ _ h => by
      split at h
      · exact ⟨h.1, hQ _ _ _ h.2⟩
      · exact h) hE h) hE h
  | .enum q, _, _, _, _, _, _, hQ, hE, h => wpQ_mono M q (fun _ _ h => hQ _ _ _ h) hE h
end

/-- one end is weaker than the other -/
structure Pst.Le (D D' : Pst) : Prop where
  nx : ∀ ρ s, D.nx ρ s → D'.nx ρ s
  rt : ∀ d s, D.rt d s → D'.rt d s
  bk : ∀ ρ s, D.bk ρ s → D'.bk ρ s
  ct : ∀ ρ s, D.ct ρ s → D'.ct ρ s
  ex : ∀ c fs ρ s, D.ex c fs ρ s → D'.ex c fs ρ s

section
variable (cl : Bool → Str → List Sl → S → K1 → KX → Prop) (P : Prog)
variable (M : ∀ h, Mono ⟨P, cl, h⟩)
include M
mutual
theorem wpS_mono : ∀ (t : St) {h : Bool} {ρ s} {D D' : Pst}, D.Le D' → wpS ⟨P, cl, h⟩ t ρ s D → wpS ⟨P, cl, h⟩ t ρ s D'
  | .asg t e, _, _, _, _, _, hD, h => ⟨h.1, wpE_mono (M _) e (fun _ _ h => by
      split at h
      · exact hD.nx _ _ h
      · exact h) (fun _ _ _ h => hD.ex _ _ _ _ h) h.2⟩
  | .setIx o i e, _, _, _, _, _, hD, h => wpE_mono (M _) e (fun _ _ h => wpE_mono (M _) o (fun _ _ h => wpE_mono (M _) i (fun _ _ h => by
      split at h
      · split at h
        · split at h
          · exact hD.nx _ _ h
          · exact h
        · exact h
      · exact h) (fun _ _ _ h => hD.ex _ _ _ _ h) h) (fun _ _ _ h => hD.ex _ _ _ _ h) h) (fun _ _ _ h => hD.ex _ _ _ _ h) h
  | .aug i op e, _, _, _, _, _, hD, h => by
    simp only [wpS] at h ⊢
    split at h
    · exact wpE_mono (M _) e (fun _ _ h => by
        split at h
        · split at h
          · exact hD.nx _ _ h
          · exact h
        · exact h) (fun _ _ _ h => hD.ex _ _ _ _ h) h
    · exact h
  | .expr e, _, _, _, _, _, hD, h => wpE_mono (M _) e (fun _ _ h => hD.nx _ _ h) (fun _ _ _ h => hD.ex _ _ _ _ h) h
  | .ret e, _, _, _, _, _, hD, h => wpE_mono (M _) e (fun _ _ h => hD.rt _ _ h) (fun _ _ _ h => hD.ex _ _ _ _ h) h
  | .retN, _, _, _, _, _, hD, h => hD.rt _ _ h
  | .cond t a b, _, _, _, _, _, hD, h => wpT_mono (M _) t (fun _ _ h => ite_mono (wpB_mono a hD) (wpB_mono b hD) h) (fun _ _ _ h => hD.ex _ _ _ _ h) h
  | .for tg it body, _, _, _, _, _, hD, h => ⟨h.1, wpI_mono (M _) it (fun _ _ _ h => forW_mono (fun d ρ s n n' hn h => by
      split at h
      · refine wpB_mono body ?_ h
        exact ⟨hn, hD.rt, hD.nx, hn, hD.ex⟩
      · exact h) hD.nx _ _ _ h) (fun _ _ _ h => hD.ex _ _ _ _ h) h.2⟩
  | .while t body, _, _, _, _, _, hD, h => by
    obtain ⟨W, h0, h⟩ := h
    exact ⟨W, h0, fun m ρ1 s1 w => ⟨(h m ρ1 s1 w).1, wpT_mono (M _) t (fun _ _ h => ite_mono (fun h => by refine wpB_mono body ?_ h; exact ⟨fun _ _ h => h, hD.rt, hD.nx, fun _ _ h => h, hD.ex⟩) (hD.nx _ _) h) (fun _ _ _ h => hD.ex _ _ _ _ h) (h m ρ1 s1 w).2⟩⟩
  | .brk, _, _, _, _, _, hD, h => hD.bk _ _ h
  | .cont, _, _, _, _, _, hD, h => hD.ct _ _ h
  | .pass, _, _, _, _, _, hD, h => hD.nx _ _ h
  | .raise c as, _, _, _, _, _, hD, h => ⟨h.1, by
      have h2 := h.2
      split at h2
      · exact hD.ex _ _ _ _ h2
      · exact wpE_mono (M _) _ (fun _ _ h => by
          split at h
          · exact ⟨h.1, hD.ex _ _ _ _ h.2⟩
          · exact h) (fun _ _ _ h => hD.ex _ _ _ _ h) h2
      · exact h2⟩
  | .try body c i suite, _, _, _, _, _, hD, h => ⟨h.1, h.2.1, by
      refine wpB_mono body ?_ h.2.2
      refine ⟨hD.nx, hD.rt, hD.bk, hD.ct, fun d fs ρ1 s1 h => ?_⟩
      dsimp only at h ⊢
      split at h
      · refine wpB_mono suite ?_ h
        exact ⟨fun _ _ h => hD.nx _ _ h, hD.rt, fun _ _ h => hD.bk _ _ h, fun _ _ h => hD.ct _ _ h, fun _ _ _ _ h => h⟩
      · exact hD.ex _ _ _ _ h
      · exact h⟩
theorem wpB_mono : ∀ (l : List St) {h : Bool} {ρ s} {D D' : Pst}, D.Le D' → wpB ⟨P, cl, h⟩ l ρ s D → wpB ⟨P, cl, h⟩ l ρ s D'
  | [], _, _, _, _, _, hD, h => hD.nx _ _ h
  | t :: r, _, _, _, _, _, hD, h => by
    unfold wpB at h ⊢
    refine wpS_mono t ?_ h
    exact ⟨fun _ _ h => wpB_mono r hD h, hD.rt, hD.bk, hD.ct, hD.ex⟩
end
end

theorem wpCall_mono (P : Prog) : ∀ (n : Nat) (h : Bool) f as s (Q Q' : K1) (E E' : KX), (∀ d s, Q d s → Q' d s) → (∀ c fs s, E c fs s → E' c fs s) → wpCall P n h f as s Q E → wpCall P n h f as s Q' E'
  | 0, _, _, _, _, _, _, _, _, _, _, h => h
  | n + 1, hh, f, as, s, Q, Q', E, E', hQ, hE, h => by
    unfold wpCall at h ⊢
    cases e : P.fn f with
    | none => rw [e] at h; exact h
    | some fn =>
      rw [e] at h
      refine ⟨h.1, ?_⟩
      refine wpB_mono (wpCall P n) P (fun h => ⟨fun hh f as s Q Q' E E' hQ hE x => wpCall_mono P n hh f as s Q Q' E E' hQ hE x⟩) _ ?_ h.2
      exact ⟨fun _ _ h => hQ _ _ h, hQ, fun _ _ h => h, fun _ _ h => h, fun _ _ _ _ h => hE _ _ _ h⟩
theorem mono_call (P : Prog) (n : Nat) (h : Bool) : Mono ⟨P, wpCall P n, h⟩ := ⟨fun hh f as s Q Q' E E' hQ hE x => wpCall_mono P n hh f as s Q Q' E E' hQ hE x⟩
end PI

set_option linter.all false
namespace PTr
open PySem

/-- the place of a name of the def among the names N -/
def slot (N : List Str) (sc : Scope) (x : Str) : Option Nat :=
  match sc.names.lookup x with
  | some .local => N.findIdx? (· == x)
  | some .cell => N.findIdx? (· == x)
  | some .free => N.findIdx? (· == x)
  | _ => none
/-- .. as a target -/
def slotT (N : List Str) (sc : Scope) (x : Str) : Option Nat :=
  match sc.names.lookup x with
  | some .local => N.findIdx? (· == x)
  | some .cell => N.findIdx? (· == x)
  | _ => none
def glob (sc : Scope) (x : Str) : Bool := match sc.names.lookup x with
  | some .globalImplicit => true
  | _ => false
def opOf : Operator → Option PI.Op
  | .Add => some .add | .Sub => some .sub | .Mult => some .mul | .FloorDiv => some .fdiv | .Mod => some .mod | .Pow => some .pow
  | _ => none
def coOf : CmpOp → Option PI.Co
  | .Eq => some .eq | .NotEq => some .ne | .Lt => some .lt | .LtE => some .le | .Gt => some .gt | .GtE => some .ge | .Is => some .is | .IsNot => some .isnot | .In => some .inn | .NotIn => some .notin
def cstOf : Const → Option PI.Cst
  | .none => some .non | .bool b => some (.bl b) | .int i => some (.int i) | .str s => some (.str s)
  | _ => none
def isDisp : Expr → Bool
  | .List _ _ => true
  | .ListComp _ _ _ _ => true
  | _ => false
/-- the scope in which a comprehension's block runs -/
def relS (scope sc : Scope) : Scope :=
  { scope with names := scope.names.map fun (n, k) => if (k == .free && sc.kind == .function && sc.names.lookup n == some .cell) then (n, .cell) else (n, k) }
def okScope (sc : Scope) : Bool := sc.names.all fun y => y.1 != ("__debug__" : Str) && y.1 != ("__classdict__" : Str) && y.1 != ("__name__" : Str)
/-- a comprehension's names, as the layer wants them -/
def blkC (N : List Str) (sc scope : Scope) (own : List (Str × Nat)) : Bool :=
  (match scope.kind with | .function => true | _ => false) && (scope.names.all fun y => decide (scope.names.lookup y.1 = some y.2)) && (own.all fun p => decide (N[p.2]? = some p.1)) &&
    (scope.names.all fun y => match y.2 with
      | .free => (match sc.names.lookup y.1 with | some .cell => true | some .free => true | _ => false)
      | .local => decide (y.1 ∈ own.map (·.1)) || decide (y.1 ∉ N)
      | .cell => decide (y.1 ∈ own.map (·.1)) || decide (y.1 ∉ N)
      | _ => true)
def tgNames : Expr → List Str
  | .Name x _ => [x]
  | .Tuple es _ _ => es.filterMap fun (e : Expr) => match e with
    | .Name x _ => some x
    | _ => none
  | _ => []
def nmOf (N : List Str) (sc : Scope) : Expr → Option Nat
  | .Name x _ => slotT N sc x
  | _ => none
def tgIn (t : PI.Tg) (own : List Nat) : Bool := match t with
  | .name i => own.contains i
  | .tup l => l.all own.contains
def tgSl : PI.Tg → List Nat
  | .name i => [i]
  | .tup l => l
def trTg (N : List Str) (sc : Scope) : Expr → Option PI.Tg
  | .Name x _ => (slotT N sc x).map .name
  | .Tuple es _ _ => (es.mapM (nmOf N sc)).map .tup
  | _ => none
def foldB (f : PI.Ex → PI.Ex → PI.Ex) : List PI.Ex → Option PI.Ex
  | [] => none
  | [x] => some x
  | x :: r => (foldB f r).map (f x)
def foldT (f : PI.Te → PI.Te → PI.Te) : List PI.Te → Option PI.Te
  | [] => none
  | [x] => some x
  | x :: r => (foldT f r).map (f x)

def bLen : Str := "len"
def bTuple : Str := "tuple"
def bList : Str := "list"
def bSum : Str := "sum"
def bMin : Str := "min"
def bMax : Str := "max"
def bAbs : Str := "abs"
def bInt : Str := "int"
def bSorted : Str := "sorted"
def bIsi : Str := "isinstance"
def bRange : Str := "range"
def bEnum : Str := "enumerate"
def bBool : Str := "bool"
def bStr : Str := "str"
def bVE : Str := "ValueError"
def bltns : List Str := [bLen, bTuple, bList, bSum, bMin, bMax, bAbs, bInt, bSorted, bIsi, bRange, bEnum, bBool, bStr, bVE]
def tyOf (x : Str) : Option PI.Ty :=
  if x = bInt then some .int else if x = bBool then some .bool else if x = bStr then some .str else if x = bTuple then some .tup else if x = bList then some .lst else none

section
variable (N : List Str)
mutual
def trE : Nat → Scope → Expr → Option PI.Ex
  | 0, _, _ => none
  | n + 1, sc, .Name x _ => (match slot N sc x with
    | some i => some (.var i)
    | none => if glob sc x && !bltns.contains x then some (.glb x) else none)
  | n + 1, sc, .Constant c _ _ => (cstOf c).map .cst
  | n + 1, sc, .BinOp a op b pos => if isDisp a || isDisp b then (trQ n sc (.BinOp a op b pos)).map .new else do
      let o ← opOf op
      let x ← trE n sc a
      let y ← trE n sc b
      pure (.bin o x y)
  | n + 1, sc, .UnaryOp .USub a _ => (trE n sc a).map .neg
  | n + 1, sc, .UnaryOp .Not a _ => (trE n sc a).map .not
  | n + 1, sc, .BoolOp .And vs _ => (trEs n sc vs).bind (foldB .and)
  | n + 1, sc, .BoolOp .Or vs _ => (trEs n sc vs).bind (foldB .or)
  | n + 1, sc, .Compare a [op] [b] _ => do
      let o ← coOf op
      let x ← trE n sc a
      let y ← trE n sc b
      pure (.cmp o x y)
  | n + 1, sc, .Compare a [op, op'] [b, c] _ => do
      let o ← coOf op
      let o' ← coOf op'
      let x ← trE n sc a
      let y ← trE n sc b
      let z ← trE n sc c
      pure (.chain o o' x y z)
  | n + 1, sc, .IfExp t a b _ => do
      let c ← trT n sc t
      let x ← trE n sc a
      let y ← trE n sc b
      pure (.ite c x y)
  | n + 1, sc, .Call (.Name f _) [] [] _ => if glob sc f && !bltns.contains f then some (.call f []) else none
  | n + 1, sc, .Call (.Name f _) (a :: as) [] _ =>
      if glob sc f = false then none
      else if bltns.contains f then trB n sc f (a :: as)
      else (trArs n sc (a :: as)).map (.call f)
  | n + 1, sc, .Call (.Attribute (.Name x p) m ap) [] [] cp => if m = ("pop" : Str) && ap.endLine == cp.line then (trE n sc (.Name x p)).map .pop else none
  | n + 1, sc, .Call (.Attribute (.Name x p) m ap) [a] [] cp => if m = ("append" : Str) && ap.endLine == cp.line then do
      let o ← trE n sc (.Name x p)
      let y ← trE n sc a
      pure (.append o y)
    else if m = ("pop" : Str) && ap.endLine == cp.line then do
      let o ← trE n sc (.Name x p)
      let y ← trE n sc a
      pure (.popAt o y)
    else if m = ("extend" : Str) && ap.endLine == cp.line then do
      let o ← trE n sc (.Name x p)
      let y ← trQ n sc a
      pure (.extend o y)
    else none
  | n + 1, sc, .Attribute (.Name x _) f _ => (slot N sc x).map fun i => .exFld i f
  | n + 1, sc, .Subscript a (.Slice lo hi none _) _ => do
      let x ← trE n sc a
      let l ← trO n sc lo
      let h ← trO n sc hi
      pure (.slice x l h)
  | n + 1, sc, .Subscript a (.Slice _ _ (some _) _) _ => none
  | n + 1, sc, .Subscript a i _ => do
      let x ← trE n sc a
      let y ← trE n sc i
      pure (.sub x y)
  | n + 1, sc, .Tuple es _ _ => (trEs n sc es).map .tup
  | n + 1, sc, .List es _ => (trEs n sc es).map fun l => .new (.lst l)
  | n + 1, sc, .ListComp e gs scope pos => (trQ n sc (.ListComp e gs scope pos)).map .new
  | n + 1, _, _ => none
/-- a call of a built-in -/
def trB : Nat → Scope → Str → List Expr → Option PI.Ex
  | 0, _, _, _ => none
  | n + 1, sc, f, [a] =>
      if f = bLen then (if isDisp a then (trQ n sc a).map .lenQ else (trE n sc a).map .len)
      else if f = bTuple then (trQ n sc a).map .tupOf
      else if f = bList then (trQ n sc a).map .listOf
      else if f = bInt then (trE n sc a).map .int1
      else if f = bAbs then (trE n sc a).map .abs
      else if f = bSum then (trQ n sc a).map .sum
      else if f = bMin then (trQ n sc a).map .minQ
      else if f = bMax then (trQ n sc a).map .maxQ
      else if f = bSorted then (trQ n sc a).map fun q => .new (.sorted q)
      else none
  | n + 1, sc, f, [a, b] =>
      if f = bIsi then (match b with
        | .Name c _ => if glob sc c = false then none else (match tyOf c with
          | some t => (trE n sc a).map fun x => .isi x t
          | none => (match a with
            | .Name x _ => if c = bVE then (slot N sc x).map .exVE else if bltns.contains c then none else (slot N sc x).map fun i => .exIs i c
            | _ => none))
        | .Tuple [.Name c _, .Name d _] _ _ => if glob sc c && glob sc d && c == bTuple && d == bList then (trE n sc a).map .isTL else none
        | _ => none)
      else if f = bMax then do
        let x ← trE n sc a
        let y ← trE n sc b
        pure (.max2 x y)
      else if f = bMin then do
        let x ← trE n sc a
        let y ← trE n sc b
        pure (.min2 x y)
      else none
  | n + 1, _, _, _ => none
def trEs : Nat → Scope → List Expr → Option (List PI.Ex)
  | 0, _, _ => none
  | n + 1, _, [] => some []
  | n + 1, sc, .Starred _ _ :: _ => none
  | n + 1, sc, e :: r => do
      let x ← trE n sc e
      let y ← trEs n sc r
      pure (x :: y)
def trArs : Nat → Scope → List Expr → Option (List PI.Ar)
  | 0, _, _ => none
  | n + 1, _, [] => some []
  | n + 1, sc, .Starred _ _ :: _ => none
  | n + 1, sc, .Name x p :: r => do
      let y ← trArs n sc r
      match slot N sc x with
      | some i => pure (.nm i :: y)
      | none => (trE n sc (.Name x p)).map fun z => .ex z :: y
  | n + 1, sc, e :: r => do
      let x ← trE n sc e
      let y ← trArs n sc r
      pure (.ex x :: y)
def trO : Nat → Scope → Option Expr → Option (Option PI.Ex)
  | 0, _, _ => none
  | n + 1, _, none => some none
  | n + 1, sc, some e => (trE n sc e).map some
def trT : Nat → Scope → Expr → Option PI.Te
  | 0, _, _ => none
  | n + 1, sc, .UnaryOp .Not a _ => (trT n sc a).map .not
  | n + 1, sc, .BoolOp .And vs _ => (trTs n sc vs).bind (foldT .and)
  | n + 1, sc, .BoolOp .Or vs _ => (trTs n sc vs).bind (foldT .or)
  | n + 1, sc, .IfExp _ _ _ _ => none
  | n + 1, sc, .Compare a [op] [b] _ => do
      let o ← coOf op
      let x ← trE n sc a
      let y ← trE n sc b
      pure (.ex (.cmp o x y))
  | n + 1, sc, .Compare a [op, op'] [b, c] _ => do
      let o ← coOf op
      let o' ← coOf op'
      let x ← trE n sc a
      let y ← trE n sc b
      let z ← trE n sc c
      pure (.ex (.chain o o' x y z))
  | n + 1, sc, .Compare _ _ _ _ => none
  | n + 1, sc, e => (trE n sc e).map .ex
def trTs : Nat → Scope → List Expr → Option (List PI.Te)
  | 0, _, _ => none
  | n + 1, _, [] => some []
  | n + 1, sc, e :: r => do
      let x ← trT n sc e
      let y ← trTs n sc r
      pure (x :: y)
def trQ : Nat → Scope → Expr → Option PI.Sq
  | 0, _, _ => none
  | n + 1, sc, .List es _ => (trEs n sc es).map .lst
  | n + 1, sc, .ListComp e [⟨tg, iter, ifs, z⟩] scope _ => if z ≠ 0 then none else do
      let ow := tgNames tg
      let own ← ow.mapM fun x => (N.findIdx? (· == x)).map fun i => (x, i)
      if !(blkC N sc scope own && okScope scope) then none else
      let t ← trTg N scope tg
      if tgIn t (own.map (·.2)) = false then none else
      let it ← trI n sc (!t.one) iter
      let c ← trIfs n (relS scope sc) ifs
      let x ← trE n (relS scope sc) e
      pure (.comp x (own.map (·.2)) t it c)
  | n + 1, sc, .ListComp e [⟨tg, iter, ifs, z⟩, ⟨tg1, iter1, ifs1, z1⟩] scope _ => if z ≠ 0 then none else if z1 ≠ 0 then none else do
      let ow := tgNames tg ++ tgNames tg1
      let own ← ow.mapM fun x => (N.findIdx? (· == x)).map fun i => (x, i)
      if !(blkC N sc scope own && okScope scope) then none else
      let t ← trTg N scope tg
      let t1 ← trTg N scope tg1
      if (tgIn t (own.map (·.2)) && tgIn t1 (own.map (·.2))) = false then none else
      let it ← trI n sc (!t.one) iter
      let c ← trIfs n (relS scope sc) ifs
      let it1 ← trI n (relS scope sc) (!t1.one) iter1
      let c1 ← trIfs n (relS scope sc) ifs1
      let x ← trE n (relS scope sc) e
      pure (.comp2 x (own.map (·.2)) (tgSl t1) t it c t1 it1 c1)
  | n + 1, _, .ListComp _ _ _ _ => none
  | n + 1, sc, .BinOp a .Add b _ => if isDisp a || isDisp b then do
      let x ← trQ n sc a
      let y ← trQ n sc b
      pure (.cat x y) else none
  | n + 1, sc, .Subscript a (.Slice lo hi none _) _ => do
      let x ← trQ n sc a
      let l ← trO n sc lo
      let h ← trO n sc hi
      pure (.cut x l h)
  | n + 1, sc, .Call (.Name f p) [a] [] pos => if glob sc f && f == bSorted then (trQ n sc a).map .sorted else (trE n sc (.Call (.Name f p) [a] [] pos)).map .of
  | n + 1, sc, e => (trE n sc e).map .of
def trIfs : Nat → Scope → List Expr → Option (Option PI.Te)
  | 0, _, _ => none
  | n + 1, _, [] => some none
  | n + 1, sc, [c] => (trT n sc c).map some
  | n + 1, _, _ => none
def trI : Nat → Scope → Bool → Expr → Option PI.It
  | 0, _, _, _ => none
  | n + 1, sc, tt, .Call (.Name f p) [a] [] pos =>
      if glob sc f && f == bRange then (trE n sc a).map .rng1
      else if glob sc f && f == bEnum then (if tt then (trQ n sc a).map .enum else none)
      else if glob sc f && f == bSorted then (trQ n sc (.Call (.Name f p) [a] [] pos)).map .seq
      else (trE n sc (.Call (.Name f p) [a] [] pos)).map .of
  | n + 1, sc, tt, .Call (.Name f p) [a, b] [] pos =>
      if glob sc f && f == bRange then do
        let x ← trE n sc a
        let y ← trE n sc b
        pure (.rng2 x y)
      else (trE n sc (.Call (.Name f p) [a, b] [] pos)).map .of
  | n + 1, sc, tt, .List es p => (trQ n sc (.List es p)).map .seq
  | n + 1, sc, tt, .ListComp e gs scope p => (trQ n sc (.ListComp e gs scope p)).map .seq
  | n + 1, sc, tt, .BinOp a op b p => if isDisp a || isDisp b then (trQ n sc (.BinOp a op b p)).map .seq else (trE n sc (.BinOp a op b p)).map .of
  | n + 1, sc, tt, .Subscript a (.Slice lo hi none q) p => (trQ n sc (.Subscript a (.Slice lo hi none q) p)).map .seq
  | n + 1, sc, tt, e => (trE n sc e).map .of
end

def isTup : Expr → Bool
  | .Tuple _ _ _ => true
  | _ => false
def isCallE : Expr → Bool
  | .Call _ _ _ _ => true
  | _ => false
mutual
def trS : Nat → Scope → Stmt → Option PI.St
  | 0, _, _ => none
  | n + 1, sc, .Assign [.Name x p] e _ => do
      let t ← trTg N sc (.Name x p)
      let v ← trE N n sc e
      pure (.asg t v)
  | n + 1, sc, .Assign [.Tuple es k p] e _ => if isTup e then none else do
      let t ← trTg N sc (.Tuple es k p)
      let v ← trE N n sc e
      pure (.asg t v)
  | n + 1, sc, .Assign [.Subscript o (.Slice _ _ _ _) _] e _ => none
  | n + 1, sc, .Assign [.Subscript o i _] e _ => do
      let v ← trE N n sc e
      let x ← trE N n sc o
      let y ← trE N n sc i
      pure (.setIx x y v)
  | n + 1, sc, .AugAssign (.Name x _) op e _ => do
      let i ← slotT N sc x
      let o ← (match op with
        | .Add => some PI.Op.add
        | .Sub => some PI.Op.sub
        | _ => none)
      let v ← trE N n sc e
      pure (.aug i o v)
  | n + 1, sc, .Expr e _ => if isCallE e then (trE N n sc e).map .expr else none
  | n + 1, sc, .Return (some e) _ => (trE N n sc e).map .ret
  | n + 1, sc, .Return none _ => some .retN
  | n + 1, sc, .If t a b _ => do
      let c ← trT N n sc t
      let x ← trSs n sc a
      let y ← trSs n sc b
      pure (.cond c x y)
  | n + 1, sc, .For tg it body [] _ => do
      let t ← trTg N sc tg
      let i ← trI N n sc (!t.one) it
      let b ← trSs n sc body
      pure (.for t i b)
  | n + 1, sc, .While t body [] _ => do
      let c ← trT N n sc t
      let b ← trSs n sc body
      pure (.while c b)
  | n + 1, sc, .Break _ => some .brk
  | n + 1, sc, .Continue _ => some .cont
  | n + 1, sc, .Pass _ => some .pass
  | n + 1, sc, .Raise (some (.Call (.Name c _) as [] _)) none _ => if glob sc c && !bltns.contains c then (trEs N n sc as).map (.raise c) else none
  | n + 1, sc, .Try body [.ExceptHandler (some (.Name c _)) (some x) suite _] [] [] _ => if glob sc c && !bltns.contains c && decide (sc.names.lookup x = some .local) then do
      let b ← trSs n sc body
      let i ← slotT N sc x
      let s ← (match suite with
        | [] => none
        | l => trSs n sc l)
      pure (.try b c i s) else none
  | n + 1, _, _ => none
def trSs : Nat → Scope → List Stmt → Option (List PI.St)
  | 0, _, _ => none
  | n + 1, _, [] => some []
  | n + 1, sc, t :: r => do
      let x ← trS n sc t
      let y ← trSs n sc r
      pure (x :: y)
end
end
end PTr

set_option Elab.async false
set_option linter.all false
set_option maxRecDepth 100000
set_option maxHeartbeats 4000000
namespace PSd
open PySem PySem.Spec PyProof.Rows L2
abbrev St := L2.St

/-! ### values, stores, slots against the heap -/
/-- a list that nobody writes: known to the object, or one of the module's -/
def SqF (K : PySem.W.Frag) (H : Hp) (a : Addr) (xs : List V) : Prop :=
  (∃ o, H a = some (.frz o (.lst xs))) ∨ ∃ (o : Obj) (its : Array Value) (n : Nat), K.lookup a = some o ∧ o.cls = .type "list" ∧ o.dict = none ∧ o.data = .seq its n ∧ its.size ≤ sizeLine ∧ Vals xs its.toList
theorem SqF.sq {K : PySem.W.Frag} {H : Hp} {a : Addr} {xs : List V} (h : SqF K H a xs) : SqL K H a xs := by
  rcases h with h | h
  · exact .inl (.inr h)
  · exact .inr h

section
variable (K : PySem.W.Frag) (H : Hp) (ι : List Addr)
mutual
def RD : PI.D → V → Prop
  | .non, v => v = .non
  | .bl b, v => v = .bl b
  | .int i, v => v = .int i
  | .str s, v => v = .str s
  | .tup ds, v => ∃ a vs, v = .ref a ∧ SqT K H a vs ∧ RDs ds vs
  | .fls ds, v => ∃ a vs, v = .ref a ∧ SqF K H a vs ∧ RDs ds vs
  | .ref k, v => ∃ a, v = .ref a ∧ ι[k]? = some a
def RDs : List PI.D → List V → Prop
  | [], vs => vs = []
  | d :: r, vs => ∃ v t, vs = v :: t ∧ RD d v ∧ RDs r t
end
/-- the store -/
structure RS (s : PI.S) : Prop where
  len : ι.length = s.length
  nd : ι.Nodup
  ob : ∀ (k : Nat) (a : Addr) (l : List PI.D), ι[k]? = some a → s[k]? = some (PI.Ob.lst l) → ∃ vs, H a = some (HO.lst vs) ∧ RDs K H ι l vs
end
/-- what stands at the store's addresses are lists -/
def Lo (H : Hp) (ι : List Addr) : Prop := ∀ a ∈ ι, ∃ vs, H a = some (HO.lst vs)
theorem RS.lo {K : PySem.W.Frag} {H : Hp} {ι : List Addr} {s : PI.S} (r : RS K H ι s) : Lo H ι := fun a ha => by
  obtain ⟨k, hk, e⟩ := List.mem_iff_getElem.mp ha
  have hs : k < s.length := by rw [← r.len]; exact hk
  have e1 : ι[k]? = some a := by rw [List.getElem?_eq_getElem hk, e]
  cases q : s[k] with
  | lst l =>
    obtain ⟨vs, h, _⟩ := r.ob k a l e1 (by rw [List.getElem?_eq_getElem hs, q])
    exact ⟨vs, h⟩
/-- from one moment to a later one -/
structure Step (ι : List Addr) (H : Hp) (ι' : List Addr) (H' : Hp) : Prop where
  pre : ∃ t, ι' = ι ++ t
  new : ∀ a ∈ ι', a ∉ ι → H a = none
  keep : ∀ a o, H a = some o → a ∉ ι → H' a = some o
theorem Step.refl (ι : List Addr) (H : Hp) : Step ι H ι H := ⟨⟨[], by simp⟩, fun _ h n => absurd h n, fun _ _ h _ => h⟩
theorem Step.sub {ι ι' : List Addr} {H H' : Hp} (s : Step ι H ι' H') {a : Addr} (h : a ∈ ι) : a ∈ ι' := by
  obtain ⟨t, e⟩ := s.pre
  rw [e]; exact List.mem_append_left _ h
theorem Step.stays {ι ι' : List Addr} {H H' : Hp} (s : Step ι H ι' H') {a : Addr} {o : HO} (h : H a = some o) (n : a ∉ ι) : a ∉ ι' := fun z => by
  have := s.new a z n
  rw [h] at this; cases this
theorem Step.trans {ι ι1 ι2 : List Addr} {H H1 H2 : Hp} (a : Step ι H ι1 H1) (b : Step ι1 H1 ι2 H2) : Step ι H ι2 H2 where
  pre := by
    obtain ⟨t, e⟩ := a.pre
    obtain ⟨u, e2⟩ := b.pre
    exact ⟨t ++ u, by rw [e2, e, List.append_assoc]⟩
  new := fun x hx hn => by
    by_cases h1 : x ∈ ι1
    · exact a.new x h1 hn
    · have h2 := b.new x hx h1
      cases q : H x with
      | none => rfl
      | some o =>
        have := a.keep x o q hn
        rw [h2] at this; cases this
  keep := fun x o h n => b.keep x o (a.keep x o h n) (a.stays h n)
theorem Step.at {ι ι' : List Addr} {H H' : Hp} (s : Step ι H ι' H') {k : Nat} {a : Addr} (h : ι[k]? = some a) : ι'[k]? = some a := by
  obtain ⟨t, e⟩ := s.pre
  rw [e, List.getElem?_append_left (List.getElem?_eq_some_iff.mp h).1]; exact h
section
variable {K : PySem.W.Frag} {H H' : Hp} {ι ι' : List Addr}
theorem Step.sqt (s : Step ι H ι' H') (lo : Lo H ι) {a : Addr} {vs : List V} (h : SqT K H a vs) : SqT K H' a vs := by
  rcases h with (h | ⟨o, h⟩) | h
  · exact .inl (.inl (s.keep a _ h fun z => by obtain ⟨_, e⟩ := lo a z; rw [h] at e; cases e))
  · exact .inl (.inr ⟨o, s.keep a _ h fun z => by obtain ⟨_, e⟩ := lo a z; rw [h] at e; cases e⟩)
  · exact .inr h
theorem Step.sqf (s : Step ι H ι' H') (lo : Lo H ι) {a : Addr} {vs : List V} (h : SqF K H a vs) : SqF K H' a vs := by
  rcases h with ⟨o, h⟩ | h
  · exact .inl ⟨o, s.keep a _ h fun z => by obtain ⟨_, e⟩ := lo a z; rw [h] at e; cases e⟩
  · exact .inr h
mutual
theorem RD.step (s : Step ι H ι' H') (lo : Lo H ι) : ∀ (d : PI.D) {v : V}, RD K H ι d v → RD K H' ι' d v
  | .non, _, h => h
  | .bl _, _, h => h
  | .int _, _, h => h
  | .str _, _, h => h
  | .tup ds, _, h => by
    obtain ⟨a, vs, e, h1, h2⟩ := h
    exact ⟨a, vs, e, s.sqt lo h1, RDs.step s lo ds h2⟩
  | .fls ds, _, h => by
    obtain ⟨a, vs, e, h1, h2⟩ := h
    exact ⟨a, vs, e, s.sqf lo h1, RDs.step s lo ds h2⟩
  | .ref k, _, h => by
    obtain ⟨a, e, h1⟩ := h
    exact ⟨a, e, s.at h1⟩
theorem RDs.step (s : Step ι H ι' H') (lo : Lo H ι) : ∀ (ds : List PI.D) {vs : List V}, RDs K H ι ds vs → RDs K H' ι' ds vs
  | [], _, h => h
  | d :: r, _, h => by
    obtain ⟨v, t, e, h1, h2⟩ := h
    exact ⟨v, t, e, RD.step s lo d h1, RDs.step s lo r h2⟩
end
theorem RDs.length : ∀ {ds : List PI.D} {vs : List V}, RDs K H ι ds vs → ds.length = vs.length
  | [], _, h => by obtain rfl := h; rfl
  | _ :: r, _, h => by
    obtain ⟨v, t, rfl, _, h2⟩ := h
    simp [RDs.length h2]
theorem RDs.get : ∀ {ds : List PI.D} {vs : List V} {i : Nat} {d : PI.D}, RDs K H ι ds vs → ds[i]? = some d → ∃ v, vs[i]? = some v ∧ RD K H ι d v
  | [], _, _, _, _, h => by simp at h
  | _ :: _, _, 0, _, h, e => by
    obtain ⟨v, t, rfl, h1, _⟩ := h
    simp at e; subst e
    exact ⟨v, by simp, h1⟩
  | _ :: _, _, i + 1, _, h, e => by
    obtain ⟨v, t, rfl, _, h2⟩ := h
    obtain ⟨w, e1, e2⟩ := RDs.get (i := i) h2 (by simpa using e)
    exact ⟨w, by simpa using e1, e2⟩
theorem RDs.getV : ∀ {ds : List PI.D} {vs : List V} {i : Nat} {v : V}, RDs K H ι ds vs → vs[i]? = some v → ∃ d, ds[i]? = some d ∧ RD K H ι d v
  | [], _, _, _, h, e => by obtain rfl := h; simp at e
  | _ :: _, _, 0, _, h, e => by
    obtain ⟨v, t, rfl, h1, _⟩ := h
    simp at e; subst e
    exact ⟨_, by simp, h1⟩
  | _ :: _, _, i + 1, _, h, e => by
    obtain ⟨v, t, rfl, _, h2⟩ := h
    obtain ⟨w, e1, e2⟩ := RDs.getV (i := i) h2 (by simpa using e)
    exact ⟨w, by simpa using e1, e2⟩
theorem RDs.app : ∀ {ds es : List PI.D} {vs ws : List V}, RDs K H ι ds vs → RDs K H ι es ws → RDs K H ι (ds ++ es) (vs ++ ws)
  | [], _, _, _, h, g => by obtain rfl := h; exact g
  | _ :: r, _, _, _, h, g => by
    obtain ⟨v, t, rfl, h1, h2⟩ := h
    exact ⟨v, t ++ _, rfl, h1, RDs.app h2 g⟩
theorem RDs.one {d : PI.D} {v : V} (h : RD K H ι d v) : RDs K H ι [d] [v] := ⟨v, [], rfl, h, rfl⟩
theorem RDs.take : ∀ (n : Nat) {ds : List PI.D} {vs : List V}, RDs K H ι ds vs → RDs K H ι (ds.take n) (vs.take n)
  | 0, _, _, _ => by simp only [List.take_zero]; rfl
  | n + 1, [], _, h => by obtain rfl := h; simp only [List.take_nil]; rfl
  | n + 1, _ :: _, _, h => by
    obtain ⟨v, t, rfl, h1, h2⟩ := h
    exact ⟨v, _, rfl, h1, RDs.take n h2⟩
theorem RDs.drop : ∀ (n : Nat) {ds : List PI.D} {vs : List V}, RDs K H ι ds vs → RDs K H ι (ds.drop n) (vs.drop n)
  | 0, _, _, h => h
  | n + 1, [], _, h => by obtain rfl := h; simp only [List.drop_nil]; rfl
  | n + 1, _ :: _, _, h => by
    obtain ⟨v, t, rfl, h1, h2⟩ := h
    exact RDs.drop n h2
theorem RDs.cut {ds : List PI.D} {vs : List V} (h : RDs K H ι ds vs) (lo hi : Option Int) : RDs K H ι (PI.cutL ds lo hi) (cutV vs lo hi) := by
  have e : ∀ n d o, PI.sIx n d o = HT.sIx n d o := fun n d o => by cases o <;> rfl
  unfold PI.cutL cutV
  simp only [h.length, e]
  exact RDs.take _ (RDs.drop _ h)
theorem RDs.set : ∀ {ds : List PI.D} {vs : List V} (i : Nat) {d : PI.D} {v : V}, RDs K H ι ds vs → RD K H ι d v → RDs K H ι (ds.set i d) (vs.set i v)
  | [], _, _, _, _, h, _ => by obtain rfl := h; simp only [List.set_nil]; rfl
  | _ :: _, _, 0, _, _, h, g => by
    obtain ⟨v, t, rfl, h1, h2⟩ := h
    exact ⟨_, _, rfl, g, h2⟩
  | _ :: _, _, i + 1, _, _, h, g => by
    obtain ⟨v, t, rfl, h1, h2⟩ := h
    exact ⟨_, _, rfl, h1, RDs.set i h2 g⟩
theorem RDs.ints : ∀ {ds : List PI.D} {vs : List V} {ns : List Int}, RDs K H ι ds vs → PI.intsD ds = some ns → vs = ns.map V.int
  | [], _, _, h, e => by obtain rfl := h; cases e; rfl
  | .int i :: r, _, ns, h, e => by
    obtain ⟨v, t, rfl, h1, h2⟩ := h
    obtain rfl : v = .int i := h1
    unfold PI.intsD at e
    cases q : PI.intsD r with
    | none => rw [q] at e; cases e
    | some ms =>
      rw [q] at e
      obtain rfl : i :: ms = ns := Option.some.inj e
      rw [RDs.ints h2 q]; rfl
  | .non :: _, _, _, _, e => by cases e
  | .bl _ :: _, _, _, _, e => by cases e
  | .str _ :: _, _, _, _, e => by cases e
  | .tup _ :: _, _, _, _, e => by cases e
  | .fls _ :: _, _, _, _, e => by cases e
  | .ref _ :: _, _, _, _, e => by cases e
theorem RDs.ofInts : ∀ (ns : List Int), RDs K H ι (ns.map PI.D.int) (ns.map V.int)
  | [] => rfl
  | n :: r => ⟨_, _, rfl, rfl, RDs.ofInts r⟩
/-- a new object that is not of the store -/
theorem Step.temp {p : Addr} {o : HO} (h : H p = none) : Step ι H ι (upd H p o) :=
  ⟨⟨[], by simp⟩, fun _ h n => absurd h n, fun a u e _ => by rw [upd_ne (ne_of_none e h)]; exact e⟩
theorem RS.step {s : PI.S} (r : RS K H ι s) (st : Step ι H ι H') (k : ∀ a ∈ ι, ∀ vs, H a = some (.lst vs) → H' a = some (.lst vs)) : RS K H' ι s :=
  ⟨r.len, r.nd, fun i a l e q => by
    obtain ⟨vs, h1, h2⟩ := r.ob i a l e q
    exact ⟨vs, k a (List.mem_of_getElem? e) vs h1, RDs.step st r.lo l h2⟩⟩
theorem RS.temp {s : PI.S} {p : Addr} {o : HO} (r : RS K H ι s) (h : H p = none) : RS K (upd H p o) ι s :=
  r.step (Step.temp h) fun a _ vs e => by rw [upd_ne (ne_of_none e h)]; exact e
theorem not_mem_of_none {p : Addr} (lo : Lo H ι) (h : H p = none) : p ∉ ι := fun z => by
  obtain ⟨_, e⟩ := lo p z
  rw [h] at e; cases e
/-- a new list of the store -/
theorem Step.alloc {p : Addr} {o : HO} (h : H p = none) : Step ι H (ι ++ [p]) (upd H p o) :=
  ⟨⟨[p], rfl⟩, fun a ha n => by
    rcases List.mem_append.mp ha with z | z
    · exact absurd z n
    · obtain rfl : a = p := by simpa using z
      exact h, fun a u e _ => by rw [upd_ne (ne_of_none e h)]; exact e⟩
theorem RS.alloc {s : PI.S} {p : Addr} {l : List PI.D} {vs : List V} (r : RS K H ι s) (h : H p = none) (q : RDs K H ι l vs) : RS K (upd H p (.lst vs)) (ι ++ [p]) (s ++ [.lst l]) := by
  have st : Step ι H (ι ++ [p]) (upd H p (.lst vs)) := Step.alloc h
  have np := not_mem_of_none r.lo h
  refine ⟨by simp [r.len], List.nodup_append.mpr ⟨r.nd, by simp, fun a ha b hb e => ?_⟩, fun i a m e1 e2 => ?_⟩
  · obtain rfl : b = p := by simpa using hb
    exact np (e ▸ ha)
  · by_cases hi : i < ι.length
    · rw [List.getElem?_append_left hi] at e1
      rw [List.getElem?_append_left (by rw [← r.len]; exact hi)] at e2
      obtain ⟨ws, h1, h2⟩ := r.ob i a m e1 e2
      exact ⟨ws, by rw [upd_ne (ne_of_none h1 h)]; exact h1, RDs.step st r.lo m h2⟩
    · have hi' : i = ι.length := by
        have := (List.getElem?_eq_some_iff.mp e1).1
        simp at this; omega
      subst hi'
      rw [List.getElem?_append_right (Nat.le_refl _)] at e1
      rw [List.getElem?_append_right (by rw [r.len]; exact Nat.le_refl _)] at e2
      simp [r.len] at e1 e2
      subst e1 e2
      exact ⟨vs, upd_same, RDs.step st r.lo l q⟩
theorem RD.newRef {s : PI.S} {p : Addr} (r : RS K H ι s) {H2 : Hp} : RD K H2 (ι ++ [p]) (.ref s.length) (.ref p) :=
  ⟨p, rfl, by rw [← r.len, List.getElem?_append_right (Nat.le_refl _)]; simp⟩
/-- the k-th list is written -/
theorem Step.write {k : Nat} {a : Addr} {vs : List V} (h : ι[k]? = some a) : Step ι H ι (upd H a (.lst vs)) :=
  ⟨⟨[], by simp⟩, fun _ h n => absurd h n, fun b u e n => by
    have hb : b ≠ a := fun z => by
      rw [z] at n
      exact n (List.mem_of_getElem? h)
    rw [upd_ne hb]; exact e⟩
theorem RS.write {s : PI.S} {k : Nat} {a : Addr} {l : List PI.D} {vs : List V} (r : RS K H ι s) (h : ι[k]? = some a) (q : RDs K H ι l vs) : RS K (upd H a (.lst vs)) ι (s.set k (.lst l)) := by
  have st : Step ι H ι (upd H a (.lst vs)) := Step.write h
  refine ⟨by simp [r.len], r.nd, fun i b m e1 e2 => ?_⟩
  by_cases hi : i = k
  · subst hi
    rw [h] at e1; cases e1
    have hk : i < s.length := by rw [← r.len]; exact (List.getElem?_eq_some_iff.mp h).1
    rw [List.getElem?_set_self hk] at e2
    cases e2
    exact ⟨vs, upd_same, RDs.step st r.lo l q⟩
  · rw [List.getElem?_set_ne (Ne.symm hi)] at e2
    obtain ⟨ws, h1, h2⟩ := r.ob i b m e1 e2
    have hb : b ≠ a := fun z => by
      rw [z] at e1
      obtain ⟨h1, q1⟩ := List.getElem?_eq_some_iff.mp e1
      obtain ⟨h2, q2⟩ := List.getElem?_eq_some_iff.mp h
      exact hi ((List.getElem_inj r.nd).mp (q1.trans q2.symm))
    exact ⟨ws, by rw [upd_ne hb]; exact h1, RDs.step st r.lo m h2⟩
theorem RS.at {s : PI.S} {k : Nat} {l : List PI.D} (r : RS K H ι s) (h : PI.lstAt s k = some l) : ∃ a vs, ι[k]? = some a ∧ H a = some (.lst vs) ∧ RDs K H ι l vs := by
  unfold PI.lstAt at h
  cases q : s[k]? with
  | none => rw [q] at h; cases h
  | some o =>
    cases o with
    | lst m =>
      rw [q] at h
      obtain rfl : m = l := Option.some.inj h
      have hk : k < ι.length := by rw [r.len]; exact (List.getElem?_eq_some_iff.mp q).1
      obtain ⟨vs, h1, h2⟩ := r.ob k ι[k] m (List.getElem?_eq_getElem hk) q
      exact ⟨ι[k], vs, List.getElem?_eq_getElem hk, h1, h2⟩
end
end PSd

set_option Elab.async false
set_option linter.all false
set_option maxRecDepth 100000
set_option maxHeartbeats 4000000
namespace PSd
open PySem PySem.Spec PyProof.Rows L2

/-! ### caught exceptions, slots -/
section
variable (K : PySem.W.Frag) (mg : Str → Option Value) (H : Hp) (ι : List Addr)
def XF (fs : PI.Fs) (d : Option Addr) : Prop := match d with
  | none => fs = []
  | some dd => fs ≠ [] ∧ ∃ ws, H dd = some (.xd ws) ∧ ∀ f x, fs.lookup f = some x → ∃ v, ws.lookup f = some v ∧ RD K H ι x v
def XR (c : Str) (fs : PI.Fs) (cls : Value) (d : Option Addr) : Prop := ∃ C, mg c = some (.ref C) ∧ cls = .ref C ∧ XF K H ι fs d
/-- how the code stands: nothing is handled; p is handled; a comprehension's block then -/
inductive Md where | cold | hot (p : Addr × Obj)
def RSlot (md : Md) : PI.Sl → Option (Option V) → Prop
  | .no, _ => True
  | .val d, o => ∃ v, o = some (some v) ∧ RD K H ι d v
  | .exn c fs, o => ∃ p C d, md = .hot p ∧ o = some (some (.ref p.1)) ∧ mg c = some (.ref C) ∧ L2N.Zn (.ref C) d p.2 ∧ XF K H ι fs d
structure REnv (md : Md) (ρ : PI.Env) (σ : St) : Prop where
  len : ρ.length = σ.length
  at_ : ∀ (i : Nat) sl, ρ[i]? = some sl → RSlot K mg H ι md sl σ[i]?
end
section
variable {K : PySem.W.Frag} {mg : Str → Option Value} {H H' : Hp} {ι ι' : List Addr} {md : Md}
theorem XF.step (st : Step ι H ι' H') (lo : Lo H ι) {fs : PI.Fs} {d : Option Addr} (h : XF K H ι fs d) : XF K H' ι' fs d := by
  cases d with
  | none => exact h
  | some dd =>
    obtain ⟨h0, ws, h1, h2⟩ := h
    refine ⟨h0, ws, st.keep dd _ h1 (fun z => by obtain ⟨_, e⟩ := lo dd z; rw [h1] at e; cases e), fun f x e => ?_⟩
    obtain ⟨v, e1, e2⟩ := h2 f x e
    exact ⟨v, e1, RD.step st lo x e2⟩
theorem RSlot.step (st : Step ι H ι' H') (lo : Lo H ι) : ∀ {sl : PI.Sl} {o : Option (Option V)}, RSlot K mg H ι md sl o → RSlot K mg H' ι' md sl o
  | .no, _, h => h
  | .val d, _, h => by
    obtain ⟨v, e, h⟩ := h
    exact ⟨v, e, RD.step st lo d h⟩
  | .exn c fs, _, h => by
    obtain ⟨p, C, d, h1, h2, h3, h4, h5⟩ := h
    exact ⟨p, C, d, h1, h2, h3, h4, h5.step st lo⟩
theorem REnv.step {ρ : PI.Env} {σ : St} (r : REnv K mg H ι md ρ σ) (st : Step ι H ι' H') (lo : Lo H ι) : REnv K mg H' ι' md ρ σ :=
  ⟨r.len, fun i sl e => (r.at_ i sl e).step st lo⟩
theorem REnv.set {ρ : PI.Env} {σ : St} (r : REnv K mg H ι md ρ σ) (i : Nat) {d : PI.D} {v : V} (h : RD K H ι d v) : REnv K mg H ι md (ρ.set i (.val d)) (σ.set i (some v)) := by
  refine ⟨by simp [r.len], fun j sl e => ?_⟩
  by_cases hj : j = i
  · subst hj
    have hl : j < ρ.length := by
      have := (List.getElem?_eq_some_iff.mp e).1
      simpa using this
    rw [List.getElem?_set_self hl] at e
    cases e
    exact ⟨v, by rw [List.getElem?_set_self (by rw [← r.len]; exact hl)], h⟩
  · rw [List.getElem?_set_ne (Ne.symm hj)] at e ⊢
    exact r.at_ j sl e
theorem REnv.unset {ρ : PI.Env} {σ : St} (r : REnv K mg H ι md ρ σ) (i : Nat) (o : Option V) : REnv K mg H ι md (ρ.set i .no) (σ.set i o) := by
  refine ⟨by simp [r.len], fun j sl e => ?_⟩
  by_cases hj : j = i
  · subst hj
    have hl : j < ρ.length := by
      have := (List.getElem?_eq_some_iff.mp e).1
      simpa using this
    rw [List.getElem?_set_self hl] at e
    cases e
    trivial
  · rw [List.getElem?_set_ne (Ne.symm hj)] at e ⊢
    exact r.at_ j sl e

/-! ### a wp over the heap -/
variable {β γ : Type}
def okG (K : PySem.W.Frag) (R : Hp → List Addr → Hp → β → γ → Prop) (Q : γ → Hp → Prop) (ι : List Addr) (H : Hp) : β → PI.S → Prop := fun b s' =>
  ∀ g H' ι', Step ι H ι' H' → RS K H' ι' s' → R H ι' H' b g → Q g H'
def exW (K : PySem.W.Frag) (mg : Str → Option Value) (W : WX) (σ : St) (ι : List Addr) (H : Hp) : PI.KX := fun c fs s' =>
  ∀ cv dd H' ι', Step ι H ι' H' → RS K H' ι' s' → XR K mg H' ι' c fs cv dd → W cv dd σ H'
abbrev RV (K : PySem.W.Frag) : Hp → List Addr → Hp → PI.D → V → Prop := fun _ ι H d v => RD K H ι d v
abbrev RVs (K : PySem.W.Frag) : Hp → List Addr → Hp → List PI.D → List V → Prop := fun _ ι H d v => RDs K H ι d v
abbrev RB : Hp → List Addr → Hp → Bool → Bool → Prop := fun _ _ _ b c => c = b
abbrev RO : Hp → List Addr → Hp → Option Int → Option Int → Prop := fun _ _ _ b c => c = b
/-- a sequence: a tuple, a list -/
def RQ (K : PySem.W.Frag) : Hp → List Addr → Hp → PI.Src → V → Prop := fun H0 ι H r v => match r with
  | .tp l => ∃ a vs, v = .ref a ∧ SqT K H a vs ∧ RDs K H ι l vs
  | .fl l => ∃ a vs, v = .ref a ∧ SqF K H a vs ∧ RDs K H ι l vs
  | .ls l => ∃ a vs, v = .ref a ∧ (H a = some (.lst vs) ∧ a ∉ ι ∧ H0 a = none) ∧ RDs K H ι l vs
  | .at k l => ∃ a vs, v = .ref a ∧ ι[k]? = some a ∧ H a = some (.lst vs) ∧ RDs K H ι l vs
/-- the reading of a piece of text whose wp is w -/
def Lf (K : PySem.W.Frag) (mg : Str → Option Value) (W : WX) (md : Md) (R : Hp → List Addr → Hp → β → γ → Prop) (w : PI.Env → PI.S → (β → PI.S → Prop) → PI.KX → Prop) : St → Hp → (γ → Hp → Prop) → Prop :=
  fun σ H Q => ∃ ρ s ι, REnv K mg H ι md ρ σ ∧ RS K H ι s ∧ w ρ s (okG K R Q ι H) (exW K mg W σ ι H)
def MonoW (w : PI.Env → PI.S → (β → PI.S → Prop) → PI.KX → Prop) : Prop :=
  ∀ ρ s (Q Q' : β → PI.S → Prop) (E E' : PI.KX), (∀ b s, Q b s → Q' b s) → (∀ c fs s, E c fs s → E' c fs s) → w ρ s Q E → w ρ s Q' E'
theorem Lf.of {W : WX} {R : Hp → List Addr → Hp → β → γ → Prop} {w : PI.Env → PI.S → (β → PI.S → Prop) → PI.KX → Prop} (mo : MonoW w) {ι0 : List Addr} {H0 : Hp} {ρ : PI.Env} {s : PI.S} {σ : St} {Ψ : β → PI.S → Prop} {Qg : γ → Hp → Prop}
    (re : REnv K mg H ι md ρ σ) (rs : RS K H ι s) (st0 : Step ι0 H0 ι H) (h : w ρ s Ψ (exW K mg W σ ι0 H0))
    (k : ∀ b s1 g H1 ι1, Step ι H ι1 H1 → RS K H1 ι1 s1 → R H ι1 H1 b g → REnv K mg H1 ι1 md ρ σ → Ψ b s1 → Qg g H1) : Lf K mg W md R w σ H Qg :=
  ⟨ρ, s, ι, re, rs, mo _ _ _ _ _ _ (fun b s1 hb g H1 ι1 st r rg => k b s1 g H1 ι1 st r rg (re.step st rs.lo) hb)
    (fun c fs s1 hx cv dd H1 ι1 st r x => hx cv dd H1 ι1 (st0.trans st) r x) h⟩
end

/-! ### operations by values -/
section
variable {X : Cx}
/-- the reading of a two-place operation whose wp is b -/
def rD (K : PySem.W.Frag) (b : PI.D → PI.D → PI.S → PI.K1 → Prop) : R2 := fun x y H Q => ∃ s ι dx dy, RS K H ι s ∧ RD K H ι dx x ∧ RD K H ι dy y ∧ b dx dy s (okG K (RV K) Q ι H)
def rD1 {α : Type} (K : PySem.W.Frag) (b : PI.D → PI.S → (α → PI.S → Prop) → Prop) (R : Hp → List Addr → Hp → α → V → Prop) : V → Hp → VK → Prop := fun x H Q => ∃ s ι dx, RS K H ι s ∧ RD K H ι dx x ∧ b dx s (okG K R Q ι H)
theorem okG.here {K : PySem.W.Frag} {β γ : Type} {R : Hp → List Addr → Hp → β → γ → Prop} {Q : γ → Hp → Prop} {ι : List Addr} {H : Hp} {b : β} {s : PI.S} {g : γ} (h : okG K R Q ι H b s) (r : RS K H ι s) (q : R H ι H b g) : Q g H := h g H ι (Step.refl ι H) r q

theorem opA_add : OpR X (binaryOp .Add) (rD X.K PI.addD) := by
  intro pins s σ H x y v u Q I rx ry ⟨t, ι, dx, dy, rs, hx, hy, h⟩
  unfold PI.addD at h
  split at h
  · obtain rfl := (hx : x = V.int _)
    obtain rfl := (hy : y = V.int _)
    exact op_add pins s σ H _ _ v u Q I rx ry ⟨_, _, rfl, rfl, h.here rs rfl⟩
  · obtain rfl := (hx : x = V.str _)
    obtain rfl := (hy : y = V.str _)
    exact op_add_str pins s σ H _ _ v u Q I rx ry ⟨_, _, rfl, rfl, h.1, h.2.here rs rfl⟩
  · obtain ⟨p, xs, rfl, tx, qx⟩ := hx
    obtain ⟨p', ys, rfl, ty, qy⟩ := hy
    have l1 := qx.length
    have l2 := qy.length
    refine op_catA pins s σ H _ _ v u Q I rx ry ⟨p, p', xs, ys, rfl, rfl, tx, ty, by rw [← l1, ← l2]; exact h.1, fun e => ?_, fun _ e => ?_, fun _ _ q hq => ?_⟩
    · refine h.2.here rs ⟨p', ys, rfl, ty, ?_⟩
      have := qx.app qy
      rw [e] at this; exact this
    · refine h.2.here rs ⟨p, xs, rfl, tx, ?_⟩
      have := qx.app qy
      rw [e, List.append_nil] at this; exact this
    · have st : Step ι H ι (upd H q (.tup (xs ++ ys))) := Step.temp hq
      exact h.2 _ _ ι st (rs.temp hq) ⟨q, xs ++ ys, rfl, SqT.of upd_same, RDs.step st rs.lo _ (qx.app qy)⟩
  · split at h
    · rename_i i j l1 l2 e1 e2
      obtain ⟨p, rfl, hp⟩ := hx
      obtain ⟨p', rfl, hp'⟩ := hy
      obtain ⟨q, xs, f1, f2, f3⟩ := rs.at e1
      obtain ⟨q', ys, g1, g2, g3⟩ := rs.at e2
      rw [hp] at f1; cases f1
      rw [hp'] at g1; cases g1
      refine op_cat pins s σ H _ _ v u Q I rx ry ⟨p, p', xs, ys, rfl, rfl, f2, g2, by rw [← f3.length, ← g3.length]; exact h.1, fun r hr => ?_⟩
      exact h.2 _ _ _ (Step.alloc hr) (rs.alloc hr (f3.app g3)) (RD.newRef rs)
    · exact h.elim
  · exact h.elim
theorem opA_int {f : Value → Value → Sem Value} {c c' : Int → Int → Prop} {g : Int → Int → Int} (h0 : OpR X f (rI c' fun i j => .int (g i j))) (hc : ∀ i j, c i j → c' i j) : OpR X f (rD X.K (PI.intD c g)) := by
  intro pins s σ H x y v u Q I rx ry ⟨t, ι, dx, dy, rs, hx, hy, h⟩
  unfold PI.intD at h
  split at h
  · obtain rfl := (hx : x = V.int _)
    obtain rfl := (hy : y = V.int _)
    exact h0 pins s σ H _ _ v u Q I rx ry ⟨_, _, rfl, rfl, hc _ _ h.1, h.2.here rs rfl⟩
  · exact h.elim
theorem op_pow8 : OpR X (binaryOp .Pow) (rI PI.PowOk fun i j => .int (i ^ j.toNat)) := opI fun i j _ _ _ _ _ hc q => by
  refine PyProof.Rows.pow_int hc.1 ?_ q
  have h := PyProof.Rows.intBits_le (a := i) (k := 256) hc.2.2
  obtain ⟨h1, h2, _⟩ := hc
  have e : ((Builtin.Int.intBits i : Nat) : Int) * j ≤ 256 * 1000 := Int.mul_le_mul (by omega) h2 h1 (by decide)
  exact Int.le_trans e (by decide)
theorem op_sub0 : OpR X (binaryOp .Sub) (rI (fun _ _ => True) fun i j => .int (i - j)) := fun pins s σ H x y v u Q I rx ry ⟨i, j, e1, e2, _, q⟩ => op_sub pins s σ H x y v u Q I rx ry ⟨i, j, e1, e2, q⟩
theorem opA : ∀ (op : Operator) (o : PI.Op), PTr.opOf op = some o → OpR X (binaryOp op) (rD X.K (PI.binD o)) := by
  intro op o e
  cases op <;> simp only [PTr.opOf, Option.some.injEq, reduceCtorEq] at e <;> subst e
  · exact opA_add
  · exact opA_int op_sub0 fun _ _ h => h
  · refine opA_int op_mul fun i j h => ?_
    unfold PI.MulOk at h
    unfold CMul
    omega
  · exact opA_int (c' := fun i j => 0 < j) op_mod fun _ _ h => h
  · exact opA_int op_pow8 fun _ _ h => h
  · exact opA_int op_fdivW fun i j h => wide_div h.1 h.2 (by decide) (by decide)
end
end PSd

set_option Elab.async false
set_option linter.all false
set_option maxRecDepth 100000
set_option maxHeartbeats 4000000
namespace PSd
open PySem PySem.Spec PyProof.Rows L2

/-! ### == by data -/
mutual
def toP : PI.D → PyData
  | .non => .none
  | .bl b => .bool b
  | .int i => .int i
  | .str x => .str x
  | .tup l => .tuple (toPs l)
  | .fls l => .list (toPs l)
  | .ref _ => .none
def toPs : List PI.D → List PyData
  | [] => []
  | d :: r => toP d :: toPs r
end
mutual
theorem toP_lay : ∀ (n : Nat) (d : PI.D), PI.flatN n d = true → (toP d).canLay0 = true ∧ (toP d).depth ≤ n
  | _, .non, _ => ⟨rfl, Nat.zero_le _⟩
  | _, .bl _, _ => ⟨rfl, Nat.zero_le _⟩
  | _, .int _, _ => ⟨rfl, Nat.zero_le _⟩
  | _, .str x, h => ⟨h, Nat.zero_le _⟩
  | 0, .tup _, h => by simp [PI.flatN] at h
  | n + 1, .tup l, h => by
    have q := toPs_lay n l h
    exact ⟨q.1, Nat.succ_le_succ q.2⟩
  | _, .fls _, h => by simp [PI.flatN] at h
  | _, .ref _, h => by simp [PI.flatN] at h
theorem toPs_lay : ∀ (n : Nat) (l : List PI.D), PI.flatNs n l = true → PyData.canLayAll0 (toPs l) = true ∧ PyData.depthAll (toPs l) ≤ n
  | _, [], _ => ⟨rfl, Nat.zero_le _⟩
  | n, d :: r, h => by
    unfold PI.flatNs at h
    rw [Bool.and_eq_true] at h
    have a := toP_lay n d h.1
    have b := toPs_lay n r h.2
    refine ⟨?_, Nat.max_le.mpr ⟨a.2, b.2⟩⟩
    show ((toP d).canLay0 && PyData.canLayAll0 (toPs r)) = true
    rw [a.1, b.1]; rfl
end
theorem toP_shaped {d : PI.D} (h : PI.flatN 60 d = true) : SeqAt.shaped (toP d) = true := by
  have q := toP_lay 60 d h
  unfold SeqAt.shaped
  rw [q.1, Bool.true_and, decide_eq_true_eq]
  omega
mutual
theorem toP_eqv : ∀ (n m : Nat) (d e : PI.D), PI.flatN n d = true → PI.flatN m e = true → PyData.eqv (toP d) (toP e) = PI.eqD d e
  | n, m, .non, e, h, g => by cases e <;> first | rfl | simp [PI.flatN] at g
  | n, m, .bl b, e, h, g => by cases e <;> first | rfl | simp [PI.flatN] at g
  | n, m, .int i, e, h, g => by cases e <;> first | rfl | simp [PI.flatN] at g
  | n, m, .str x, e, h, g => by cases e <;> first | rfl | (simp [PI.flatN] at g; done)
  | 0, m, .tup _, e, h, g => by simp [PI.flatN] at h
  | n + 1, m, .tup l, e, h, g => by
    cases e with
    | tup k =>
      cases m with
      | zero => simp [PI.flatN] at g
      | succ m => exact toPs_eqv n m l k h g
    | fls _ => simp [PI.flatN] at g
    | ref _ => simp [PI.flatN] at g
    | _ => rfl
  | n, m, .fls _, e, h, g => by simp [PI.flatN] at h
  | n, m, .ref _, e, h, g => by simp [PI.flatN] at h
theorem toPs_eqv : ∀ (n m : Nat) (l k : List PI.D), PI.flatNs n l = true → PI.flatNs m k = true → PyData.eqvAll (toPs l) (toPs k) = PI.eqDs l k
  | n, m, [], [], _, _ => rfl
  | n, m, [], _ :: _, _, _ => rfl
  | n, m, _ :: _, [], _, _ => rfl
  | n, m, d :: r, e :: t, h, g => by
    unfold PI.flatNs at h g
    rw [Bool.and_eq_true] at h g
    show (PyData.eqv (toP d) (toP e) && PyData.eqvAll (toPs r) (toPs t)) = (PI.eqD d e && PI.eqDs r t)
    rw [toP_eqv n m d e h.1 g.1, toPs_eqv n m r t h.2 g.2]
end
section
variable {K : PySem.W.Frag} {H : Hp} {ι : List Addr}
mutual
theorem dp_of : ∀ (n : Nat) (d : PI.D) {v : V}, PI.flatN n d = true → RD K H ι d v → Dp K H v (toP d)
  | _, .non, _, _, h => by obtain rfl := h; exact .non
  | _, .bl _, _, _, h => by obtain rfl := h; exact .bl _
  | _, .int _, _, _, h => by obtain rfl := h; exact .int _
  | _, .str _, _, _, h => by obtain rfl := h; exact .str _
  | 0, .tup _, _, h, _ => by simp [PI.flatN] at h
  | n + 1, .tup l, _, h, g => by
    obtain ⟨a, vs, rfl, t, q⟩ := g
    exact .tup t (dps_of n l h q)
  | _, .fls _, _, h, _ => by simp [PI.flatN] at h
  | _, .ref _, _, h, _ => by simp [PI.flatN] at h
theorem dps_of : ∀ (n : Nat) (l : List PI.D) {vs : List V}, PI.flatNs n l = true → RDs K H ι l vs → DpAll K H vs (toPs l)
  | _, [], _, _, g => by obtain rfl := g; exact .nil
  | n, d :: r, _, h, g => by
    obtain ⟨v, t, rfl, g1, g2⟩ := g
    unfold PI.flatNs at h
    rw [Bool.and_eq_true] at h
    exact .cons (dp_of n d h.1 g1) (dps_of n r h.2 g2)
end
end

section
variable {X : Cx}
theorem cmA_eq (hu : X.A.units + 64 < cLine) : OpR X (compareOp .Eq) (rD X.K PI.eqqD) := by
  intro pins s σ H x y v u Q I rx ry ⟨t, ι, dx, dy, rs, hx, hy, h⟩
  unfold PI.eqqD at h
  split at h
  · obtain rfl := (hx : x = V.int _)
    obtain rfl := (hy : y = V.int _)
    exact op_eq pins s σ H _ _ v u Q I rx ry ⟨rfl, by rw [dec_int, Bool.beq_eq_decide_eq]; exact h.here rs rfl⟩
  · obtain rfl := (hx : x = V.str _)
    obtain rfl := (hy : y = V.str _)
    exact op_eq pins s σ H _ _ v u Q I rx ry ⟨rfl, by rw [dec_str, Bool.beq_eq_decide_eq]; exact h.here rs rfl⟩
  · refine op_eqD hu pins s σ H _ _ v u Q I rx ry ⟨_, _, dp_of 60 _ h.1 hx, dp_of 60 _ h.2.1 hy, toP_shaped h.1, toP_shaped h.2.1, ?_⟩
    rw [toP_eqv 60 60 _ _ h.1 h.2.1]
    exact h.2.2.here rs rfl
theorem cmA_ne (hu : X.A.units + 64 < cLine) : OpR X (compareOp .NotEq) (rD X.K PI.neqD) := by
  intro pins s σ H x y v u Q I rx ry ⟨t, ι, dx, dy, rs, hx, hy, h⟩
  unfold PI.neqD at h
  split at h
  · obtain rfl := (hx : x = V.int _)
    obtain rfl := (hy : y = V.int _)
    exact op_ne pins s σ H _ _ v u Q I rx ry ⟨rfl, by rw [dec_int, Bool.beq_eq_decide_eq]; exact h.here rs rfl⟩
  · obtain rfl := (hx : x = V.str _)
    obtain rfl := (hy : y = V.str _)
    exact op_ne pins s σ H _ _ v u Q I rx ry ⟨rfl, by rw [dec_str, Bool.beq_eq_decide_eq]; exact h.here rs rfl⟩
  · refine op_neD hu pins s σ H _ _ v u Q I rx ry ⟨_, _, dp_of 60 _ h.1 hx, dp_of 60 _ h.2.1 hy, toP_shaped h.1, toP_shaped h.2.1, ?_⟩
    rw [toP_eqv 60 60 _ _ h.1 h.2.1]
    exact h.2.2.here rs rfl
theorem cmA_ord {f : Value → Value → Sem Value} {p : Int → Int → Bool} (h0 : OpR X f (rI0 fun i j => .bl (p i j))) : OpR X f (rD X.K (PI.ordD p)) := by
  intro pins s σ H x y v u Q I rx ry ⟨t, ι, dx, dy, rs, hx, hy, h⟩
  unfold PI.ordD at h
  split at h
  · obtain rfl := (hx : x = V.int _)
    obtain rfl := (hy : y = V.int _)
    exact h0 pins s σ H _ _ v u Q I rx ry ⟨_, _, rfl, rfl, h.here rs rfl⟩
  · exact h.elim
theorem lexI_eq : ∀ a b : List Int, PI.lexI a b = HT.lexLt a b
  | [], [] => rfl
  | [], _ :: _ => rfl
  | _ :: _, [] => rfl
  | x :: xs, y :: ys => by
    show (if x = y then PI.lexI xs ys else decide (x < y)) = if x = y then HT.lexLt xs ys else decide (x < y)
    rw [lexI_eq xs ys]
theorem cmA_lt (hu : X.A.units + 64 < cLine) : OpR X (compareOp .Lt) (rD X.K PI.ltD) := by
  intro pins s σ H x y v u Q I rx ry ⟨t, ι, dx, dy, rs, hx, hy, h⟩
  unfold PI.ltD at h
  split at h
  · obtain rfl := (hx : x = V.int _)
    obtain rfl := (hy : y = V.int _)
    exact op_lt pins s σ H _ _ v u Q I rx ry ⟨_, _, rfl, rfl, h.here rs rfl⟩
  · obtain rfl := (hx : x = V.str _)
    obtain rfl := (hy : y = V.str _)
    exact op_lt_str pins s σ H _ _ v u Q I rx ry ⟨_, _, rfl, rfl, h.here rs rfl⟩
  · split at h
    · rename_i ns ms e1 e2
      obtain ⟨p, xs, rfl, tx, qx⟩ := hx
      obtain ⟨p', ys, rfl, ty, qy⟩ := hy
      have f1 := qx.ints e1
      have f2 := qy.ints e2
      subst f1 f2
      exact op_ltT (by omega) pins s σ H _ _ v u Q I rx ry ⟨p, p', ns, ms, rfl, rfl, tx, ty, by rw [← lexI_eq]; exact h.here rs rfl⟩
    · exact h.elim
  · exact h.elim
theorem cmA_gt : OpR X (compareOp .Gt) (rD X.K PI.gtD) := by
  intro pins s σ H x y v u Q I rx ry ⟨t, ι, dx, dy, rs, hx, hy, h⟩
  unfold PI.gtD at h
  split at h
  · obtain rfl := (hx : x = V.int _)
    obtain rfl := (hy : y = V.int _)
    exact op_gt pins s σ H _ _ v u Q I rx ry ⟨_, _, rfl, rfl, h.here rs rfl⟩
  · obtain rfl := (hx : x = V.str _)
    obtain rfl := (hy : y = V.str _)
    exact op_gt_str pins s σ H _ _ v u Q I rx ry ⟨_, _, rfl, rfl, h.here rs rfl⟩
  · exact h.elim
theorem any_eqv : ∀ (n m : Nat) (l : List PI.D) (x : PI.D), PI.flatNs n l = true → PI.flatN m x = true → ((toPs l).any fun z => PyData.eqv z (toP x)) = l.any fun z => PI.eqD z x
  | _, _, [], _, _, _ => rfl
  | n, m, d :: r, x, h, g => by
    unfold PI.flatNs at h
    rw [Bool.and_eq_true] at h
    show (PyData.eqv (toP d) (toP x) || (toPs r).any fun z => PyData.eqv z (toP x)) = (PI.eqD d x || r.any fun z => PI.eqD z x)
    rw [toP_eqv n m d x h.1 g, any_eqv n m r x h.2 g]
theorem room_in {d : PyData} {ds : List PyData} {A : Around} (hu : A.units + 65 < cLine) (h : d.depth ≤ 60) : A.units + 1 + min (PyData.depthAll ds) d.depth < cLine := by omega
theorem in_cases {neg : Bool} {dx dy : PI.D} {t : PI.S} {Q : VK} {H : Hp} {ι : List Addr} {x y : V} (rs : RS X.K H ι t) (hx : RD X.K H ι dx x) (hy : RD X.K H ι dy y) (h : PI.inD neg dx dy t (okG X.K (RV X.K) Q ι H)) :
    (∃ d ds, Dp X.K H x d ∧ (Dp X.K H y (.list ds) ∨ Dp X.K H y (.tuple ds)) ∧ d.canLay0 = true ∧ d.depth ≤ 60 ∧ PyData.canLayAll0 ds = true ∧ Q (.bl (if neg then !ds.any (fun z => PyData.eqv z d) else ds.any fun z => PyData.eqv z d)) H) ∨
    ∃ (c : Nat) (z : Str), x = .str ⟨#[c]⟩ ∧ y = .str z ∧ Q (.bl (if neg then !decide (c ∈ z.cps.toList) else decide (c ∈ z.cps.toList))) H := by
  unfold PI.inD at h
  split at h
  · split at h
    · rename_i l hl
      obtain ⟨h1, h2, h3⟩ := h
      obtain ⟨a, rfl, hk⟩ := hy
      obtain ⟨a', vs, e1, e2, q⟩ := rs.at hl
      rw [hk] at e1; cases e1
      obtain ⟨w1, w2⟩ := toP_lay 60 _ h1
      refine .inl ⟨_, _, dp_of 60 _ h1 hx, .inl (.lst (SqL.of e2) (dps_of 59 _ h2 q)), w1, w2, (toPs_lay 59 _ h2).1, ?_⟩
      rw [any_eqv 59 60 _ _ h2 h1]
      exact h3.here rs rfl
    · exact h.elim
  · obtain ⟨h1, h2, h3⟩ := h
    obtain ⟨a, vs, rfl, e2, q⟩ := hy
    obtain ⟨w1, w2⟩ := toP_lay 60 _ h1
    refine .inl ⟨_, _, dp_of 60 _ h1 hx, .inl (.lst e2.sq (dps_of 59 _ h2 q)), w1, w2, (toPs_lay 59 _ h2).1, ?_⟩
    rw [any_eqv 59 60 _ _ h2 h1]
    exact h3.here rs rfl
  · obtain ⟨h1, h2, h3⟩ := h
    obtain ⟨a, vs, rfl, e2, q⟩ := hy
    obtain ⟨w1, w2⟩ := toP_lay 60 _ h1
    refine .inl ⟨_, _, dp_of 60 _ h1 hx, .inr (.tup e2 (dps_of 59 _ h2 q)), w1, w2, (toPs_lay 59 _ h2).1, ?_⟩
    rw [any_eqv 59 60 _ _ h2 h1]
    exact h3.here rs rfl
  · split at h
    · split at h
      · rename_i a _ c hc
        obtain rfl := (hx : x = V.str _)
        obtain rfl := (hy : y = V.str _)
        refine .inr ⟨c, _, ?_, rfl, h.here rs rfl⟩
        obtain ⟨⟨l⟩⟩ := a
        have : l = [c] := hc
        subst this
        rfl
      · exact h.elim
    · exact h.elim
  · exact h.elim
theorem cmA_in (hu : X.A.units + 65 < cLine) : OpR X (compareOp .In) (rD X.K (PI.inD false)) := by
  intro pins s σ H x y v u Q I rx ry ⟨t, ι, dx, dy, rs, hx, hy, h⟩
  rcases in_cases rs hx hy h with ⟨d, ds, h1, h2, h3, h4, h5, q⟩ | ⟨c, z, rfl, rfl, q⟩
  · obtain ⟨as, r1⟩ := Dp.reads I d x v h1 rx
    rcases h2 with h2 | h2
    · obtain ⟨bs, r2⟩ := Dp.reads I (.list ds) y u h2 ry
      exact SeqAt.in_list_reads r2 r1 h5 h3 (room_in hu h4) ⟨.bl _, H, I, rfl, q⟩
    · obtain ⟨bs, r2⟩ := Dp.reads I (.tuple ds) y u h2 ry
      exact SeqAt.in_tuple_reads r2 r1 h5 h3 (room_in hu h4) ⟨.bl _, H, I, rfl, q⟩
  · exact op_in_sign pins s σ H _ _ v u Q I rx ry ⟨c, z, rfl, rfl, q⟩
theorem cmA_notin (hu : X.A.units + 65 < cLine) : OpR X (compareOp .NotIn) (rD X.K (PI.inD true)) := by
  intro pins s σ H x y v u Q I rx ry ⟨t, ι, dx, dy, rs, hx, hy, h⟩
  rcases in_cases rs hx hy h with ⟨d, ds, h1, h2, h3, h4, h5, q⟩ | ⟨c, z, rfl, rfl, q⟩
  · obtain ⟨as, r1⟩ := Dp.reads I d x v h1 rx
    rcases h2 with h2 | h2
    · obtain ⟨bs, r2⟩ := Dp.reads I (.list ds) y u h2 ry
      exact SeqAt.notIn_list_reads r2 r1 h5 h3 (room_in hu h4) ⟨.bl _, H, I, rfl, q⟩
    · obtain ⟨bs, r2⟩ := Dp.reads I (.tuple ds) y u h2 ry
      exact SeqAt.notIn_tuple_reads r2 r1 h5 h3 (room_in hu h4) ⟨.bl _, H, I, rfl, q⟩
  · exact op_notIn_sign pins s σ H _ _ v u Q I rx ry ⟨c, z, rfl, rfl, q⟩
theorem isNon_rel {K : PySem.W.Frag} {H : Hp} {ι : List Addr} {d : PI.D} {v : V} (h : RD K H ι d v) : decide (v = V.non) = PI.isNon d := by
  cases d with
  | non => obtain rfl := h; rfl
  | bl _ => obtain rfl := h; rfl
  | int _ => obtain rfl := h; rfl
  | str _ => obtain rfl := h; rfl
  | tup _ => obtain ⟨_, _, rfl, _⟩ := h; rfl
  | fls _ => obtain ⟨_, _, rfl, _⟩ := h; rfl
  | ref _ => obtain ⟨_, rfl, _⟩ := h; rfl
theorem cmA_is : OpR X (compareOp .Is) (rD X.K (PI.isD false)) := by
  intro pins s σ H x y v u Q I rx ry ⟨t, ι, dx, dy, rs, hx, hy, h⟩
  unfold PI.isD at h
  split at h
  · obtain rfl := (hy : y = V.non)
    exact op_isN pins s σ H _ _ v u Q I rx ry ⟨rfl, by rw [isNon_rel hx]; exact h.here rs rfl⟩
  · exact h.elim
theorem cmA_isnot : OpR X (compareOp .IsNot) (rD X.K (PI.isD true)) := by
  intro pins s σ H x y v u Q I rx ry ⟨t, ι, dx, dy, rs, hx, hy, h⟩
  unfold PI.isD at h
  split at h
  · obtain rfl := (hy : y = V.non)
    exact op_notN pins s σ H _ _ v u Q I rx ry ⟨rfl, by rw [isNon_rel hx]; exact h.here rs rfl⟩
  · exact h.elim
theorem cmA (hu : X.A.units + 65 < cLine) : ∀ (op : CmpOp) (o : PI.Co), PTr.coOf op = some o → OpR X (compareOp op) (rD X.K (PI.cmpD o)) := by
  intro op o e
  cases op <;> simp only [PTr.coOf, Option.some.injEq, reduceCtorEq] at e <;> subst e
  · exact cmA_eq (by omega)
  · exact cmA_ne (by omega)
  · exact cmA_lt (by omega)
  · exact cmA_ord op_le
  · exact cmA_gt
  · exact cmA_ord op_ge
  · exact cmA_is
  · exact cmA_isnot
  · exact cmA_in hu
  · exact cmA_notin hu
theorem cmp_bl {o : PI.Co} {x y : PI.D} {s : PI.S} {Q : PI.K1} (h : PI.cmpD o x y s Q) : PI.cmpD o x y s fun d s' => (∃ b, d = .bl b) ∧ Q d s' := by
  cases o <;> simp only [PI.cmpD] at * <;> first
    | exact h.elim
    | (unfold PI.eqqD at *; split at h <;> first | exact ⟨⟨_, rfl⟩, h⟩ | exact ⟨h.1, h.2.1, ⟨_, rfl⟩, h.2.2⟩)
    | (unfold PI.neqD at *; split at h <;> first | exact ⟨⟨_, rfl⟩, h⟩ | exact ⟨h.1, h.2.1, ⟨_, rfl⟩, h.2.2⟩)
    | (unfold PI.ltD at *; split at h <;> first | exact ⟨⟨_, rfl⟩, h⟩ | exact h.elim | (split at h <;> first | exact ⟨⟨_, rfl⟩, h⟩ | exact h.elim))
    | (unfold PI.gtD at *; split at h <;> first | exact ⟨⟨_, rfl⟩, h⟩ | exact h.elim)
    | (unfold PI.inD at *; split at h <;> first | exact ⟨h.1, h.2.1, ⟨_, rfl⟩, h.2.2⟩ | exact h.elim | (split at h <;> first | exact ⟨h.1, h.2.1, ⟨_, rfl⟩, h.2.2⟩ | exact h.elim | (split at h <;> first | exact ⟨⟨_, rfl⟩, h⟩ | exact h.elim)))
    | (unfold PI.ordD at *; split at h <;> first | exact ⟨⟨_, rfl⟩, h⟩ | exact h.elim)
    | (unfold PI.isD at *; split at h <;> first | exact ⟨⟨_, rfl⟩, h⟩ | exact h.elim)

/-! ### truth, types, items, lengths -/
variable {K : PySem.W.Frag} {H : Hp} {ι : List Addr} {s : PI.S}
theorem isEmpty_rel {l : List PI.D} {vs : List V} (h : RDs K H ι l vs) : l.isEmpty = vs.isEmpty := by
  cases l with
  | nil => obtain rfl := h; rfl
  | cons _ _ => obtain ⟨_, _, rfl, _⟩ := h; rfl
theorem line_eq : PI.line = sizeLine := by unfold PI.line; rw [sizeLine_eq]
theorem truA {d : PI.D} {v : V} {b : Bool} (r : RS K H ι s) (h : RD K H ι d v) (e : PI.truD d s = some b) : TruV K v H b := by
  cases d with
  | non => obtain rfl := h; cases e; rfl
  | bl _ => obtain rfl := h; cases e; rfl
  | int i =>
    obtain rfl := h; cases e
    show decide (i ≠ 0) = (i != 0)
    by_cases z : i = 0
    · subst z; rfl
    · rw [decide_eq_true z]
      exact (bne_iff_ne.mpr z).symm
  | str x =>
    obtain rfl := h
    unfold PI.truD at e
    simp only at e
    split at e
    · rename_i hx
      cases e
      refine ⟨by rw [← line_eq]; exact hx, ?_⟩
      by_cases z : x.length = 0
      · rw [z]; rfl
      · rw [decide_eq_true (by simpa using z)]
        exact (bne_iff_ne.mpr (by omega)).symm
    · cases e
  | tup l =>
    obtain ⟨a, vs, rfl, t, q⟩ := h
    cases e
    exact .inr (.inl ⟨vs, t, by rw [isEmpty_rel q]⟩)
  | fls l =>
    obtain ⟨a, vs, rfl, t, q⟩ := h
    cases e
    exact .inl ⟨vs, t.sq, by rw [isEmpty_rel q]⟩
  | ref k =>
    obtain ⟨a, rfl, hk⟩ := h
    unfold PI.truD at e
    simp only at e
    cases q : PI.lstAt s k with
    | none => rw [q] at e; cases e
    | some l =>
      rw [q] at e; cases e
      obtain ⟨a', vs, h1, h2, h3⟩ := r.at q
      rw [hk] at h1; cases h1
      exact .inl ⟨vs, SqL.of h2, by show (!l.isEmpty) = _; rw [isEmpty_rel h3]⟩
theorem srcA {d : PI.D} {v : V} {c : PI.Src} (r : RS K H ι s) (h : RD K H ι d v) (e : PI.srcD d s = some c) (H0 : Hp) : RQ K H0 ι H c v := by
  cases d with
  | tup l => cases e; exact h
  | fls l =>
    cases e
    exact h
  | ref k =>
    obtain ⟨a, rfl, hk⟩ := h
    unfold PI.srcD at e
    simp only at e
    cases q : PI.lstAt s k with
    | none => rw [q] at e; cases e
    | some l =>
      rw [q] at e; cases e
      obtain ⟨a', vs, h1, h2, h3⟩ := r.at q
      rw [hk] at h1; cases h1
      exact ⟨a, vs, rfl, hk, h2, h3⟩
  | non => cases e
  | bl _ => cases e
  | int _ => cases e
  | str _ => cases e
/-- a sequence is a list or a tuple that may be read -/
theorem RQ.seq {H0 : Hp} {c : PI.Src} {v : V} (h : RQ K H0 ι H c v) : ∃ a vs, v = .ref a ∧ (SqL K H a vs ∨ SqT K H a vs) ∧ RDs K H ι c.items vs ∧ (c.isList = true → SqL K H a vs) ∧ (c.isList = false → SqT K H a vs) := by
  cases c with
  | tp l =>
    obtain ⟨a, vs, e, t, q⟩ := h
    exact ⟨a, vs, e, .inr t, q, nofun, fun _ => t⟩
  | fl l =>
    obtain ⟨a, vs, e, t, q⟩ := h
    exact ⟨a, vs, e, .inl t.sq, q, fun _ => t.sq, nofun⟩
  | ls l =>
    obtain ⟨a, vs, e, t, q⟩ := h
    exact ⟨a, vs, e, .inl (SqL.of t.1), q, fun _ => SqL.of t.1, nofun⟩
  | «at» k l =>
    obtain ⟨a, vs, e, t, z, q⟩ := h
    exact ⟨a, vs, e, .inl (SqL.of z), q, fun _ => SqL.of z, nofun⟩
/-- .. later, if its list stands as it stood -/
theorem RQ.step {H0 H' : Hp} {ι' : List Addr} {s' : PI.S} {c : PI.Src} {v : V} (h : RQ K H0 ι H c v) (st : Step ι H ι' H') (lo : Lo H ι) (r : RS K H' ι' s') (ok : c.ok s') : RQ K H0 ι' H' c v := by
  cases c with
  | tp l =>
    obtain ⟨a, vs, e, t, q⟩ := h
    exact ⟨a, vs, e, st.sqt lo t, RDs.step st lo _ q⟩
  | fl l =>
    obtain ⟨a, vs, e, t, q⟩ := h
    exact ⟨a, vs, e, st.sqf lo t, RDs.step st lo _ q⟩
  | ls l =>
    obtain ⟨a, vs, e, ⟨t, n, z⟩, q⟩ := h
    exact ⟨a, vs, e, ⟨st.keep a _ t n, st.stays t n, z⟩, RDs.step st lo _ q⟩
  | «at» k l =>
    obtain ⟨a, vs, e, t, z, q⟩ := h
    obtain ⟨a', ws, h1, h2, h3⟩ := r.at (show PI.lstAt s' k = some l from ok)
    rw [st.at t] at h1
    cases h1
    exact ⟨a, ws, e, st.at t, h2, h3⟩
theorem itemsA {d : PI.D} {v : V} {l : List PI.D} (r : RS K H ι s) (h : RD K H ι d v) (e : PI.itemsD d s = some l) : ∃ a vs, v = .ref a ∧ (SqL K H a vs ∨ SqT K H a vs) ∧ RDs K H ι l vs := by
  have q : ∃ c, PI.srcD d s = some c ∧ c.items = l := by
    cases d with
    | tup l => cases e; exact ⟨_, rfl, rfl⟩
    | fls l => cases e; exact ⟨_, rfl, rfl⟩
    | ref k =>
      unfold PI.itemsD at e
      simp only at e
      exact ⟨.at k l, by unfold PI.srcD; simp only; rw [e]; rfl, rfl⟩
    | non => cases e
    | bl _ => cases e
    | int _ => cases e
    | str _ => cases e
  obtain ⟨c, h1, rfl⟩ := q
  obtain ⟨a, vs, e1, e2, e3, _⟩ := (srcA r h h1 H).seq
  exact ⟨a, vs, e1, e2, e3⟩
theorem ixN_eq (n : Nat) (i : Int) : PI.ixN n i = L2.ixN n i := rfl
theorem subA : IxR X (rD X.K PI.subD) := by
  intro value slice pins st σ H x y v u Q I rx ry ⟨t, ι, dx, dy, rs, hx, hy, h⟩ hs
  unfold PI.subD at h
  split at h
  · obtain rfl := (hy : y = V.int _)
    split at h
    · rename_i l hl
      obtain ⟨a, vs, rfl, hsq, q⟩ := itemsA rs hx hl
      split at h
      · rename_i d hd
        rw [Option.bind_eq_some_iff] at hd
        obtain ⟨j, e1, e2⟩ := hd
        obtain ⟨w, w1, w2⟩ := q.get e2
        have at1 : ∀ i, PI.ixN l.length i = some j → atI vs i = some w := fun i z => by
          unfold atI
          rw [← ixN_eq, ← q.length, z]
          exact w1
        rcases hsq with z | z
        · exact ix_list value slice pins st σ H _ _ v u Q I rx ry ⟨a, vs, _, w, rfl, rfl, z, at1 _ e1, h.here rs w2⟩ hs
        · exact ix_tup value slice pins st σ H _ _ v u Q I rx ry ⟨a, vs, _, w, rfl, rfl, z, at1 _ e1, h.here rs w2⟩ hs
      · exact h.elim
    · exact h.elim
  · exact h.elim
theorem lenA {d : PI.D} {v : V} {n : Nat} (r : RS K H ι s) (h : RD K H ι d v) (e : PI.lenD d s = some n) : LenV K v H n := by
  have go : ∀ {l}, PI.itemsD d s = some l → l.length = n → LenV K v H n := fun {l} h1 h2 => by
    obtain ⟨a, vs, rfl, g, q⟩ := itemsA r h h1
    have := q.length
    rcases g with z | z
    · exact .inl ⟨vs, z, by omega⟩
    · exact .inr ⟨vs, z, by omega⟩
  cases d with
  | str x =>
    obtain rfl := h
    unfold PI.lenD at e
    simp only at e
    split at e
    · rename_i hx
      cases e
      exact ⟨by rw [← line_eq]; exact hx, rfl⟩
    · cases e
  | tup l => cases e; exact go rfl rfl
  | fls l => cases e; exact go rfl rfl
  | ref k =>
    unfold PI.lenD at e
    simp only at e
    cases q : PI.itemsD (.ref k) s with
    | none => rw [q] at e; cases e
    | some l => rw [q] at e; cases e; exact go q rfl
  | non => cases e
  | bl _ => cases e
  | int _ => cases e
def tyN : PI.Ty → String
  | .int => "int" | .bool => "bool" | .str => "str" | .tup => "tuple" | .lst => "list"
def kindN : PI.D → String
  | .non => "NoneType" | .bl _ => "bool" | .int _ => "int" | .str _ => "str" | .tup _ => "tuple" | .fls _ => "list" | .ref _ => "list"
theorem tyxA {d : PI.D} {v : V} {t : PI.Ty} {b : Bool} (r : RS K H ι s) (h : RD K H ι d v) (e : PI.isT d s t = some b) : TyX K H v (.type (kindN d)) ∧ kitB (kindN d) (tyN t) = some b := by
  cases d with
  | non => obtain rfl := h; exact ⟨.base .non, by cases t <;> cases e <;> (dsimp only [kindN, tyN]; decide +kernel)⟩
  | bl x => obtain rfl := h; exact ⟨.base (.bl x), by cases t <;> cases e <;> (dsimp only [kindN, tyN]; decide +kernel)⟩
  | int x => obtain rfl := h; exact ⟨.base (.int x), by cases t <;> cases e <;> (dsimp only [kindN, tyN]; decide +kernel)⟩
  | str x => obtain rfl := h; exact ⟨.base (.str x), by cases t <;> cases e <;> (dsimp only [kindN, tyN]; decide +kernel)⟩
  | tup l =>
    obtain ⟨a, vs, rfl, q, _⟩ := h
    refine ⟨?_, by cases t <;> cases e <;> (dsimp only [kindN, tyN]; decide +kernel)⟩
    rcases q with (q | ⟨o, q⟩) | ⟨o, its, n, q, c, _⟩
    · exact .base (.tup q)
    · exact .fTuple q
    · exact .kTuple q c
  | fls l =>
    obtain ⟨a, vs, rfl, q, _⟩ := h
    refine ⟨?_, by cases t <;> cases e <;> (dsimp only [kindN, tyN]; decide +kernel)⟩
    rcases q with ⟨o, q⟩ | ⟨o, its, n, q, c, _⟩
    · exact .base (.frz q)
    · exact .kList q c
  | ref k =>
    obtain ⟨a, rfl, hk⟩ := h
    unfold PI.isT at e
    simp only at e
    cases q : PI.lstAt s k with
    | none => rw [q] at e; cases e
    | some l =>
      rw [q] at e
      obtain ⟨a', vs, h1, h2, h3⟩ := r.at q
      rw [hk] at h1; cases h1
      exact ⟨.base (.lst h2), by cases t <;> cases e <;> (dsimp only [kindN, tyN]; decide +kernel)⟩
end
end PSd

set_option Elab.async false
set_option linter.all false
set_option maxRecDepth 100000
set_option maxHeartbeats 4000000
namespace PSd
open PySem PySem.Spec PyProof.Rows L2
theorem mapS {α β : Type} {f : α → β} {o : Option α} {b : β} (h : o.map f = some b) : ∃ a, o = some a ∧ f a = b := by
  cases o with
  | none => exact nomatch h
  | some a => exact ⟨a, rfl, Option.some.inj h⟩
theorem ifN {c : Prop} [Decidable c] {α : Type} {x : Option α} {b : α} (h : (if c then x else none) = some b) : c ∧ x = some b := by
  by_cases hc : c
  · rw [if_pos hc] at h; exact ⟨hc, h⟩
  · rw [if_neg hc] at h; exact nomatch h

/-! ### an own exception whose __init__ says super().__init__(f'..'), then self.f = y -/
open PI (ShowOk)
/-- the parts of the f-string, and a bound of its length -/
def partsN (y : Str) : List Expr → Option Nat
  | [] => some 0
  | .Constant (.str m) _ _ :: r => (partsN y r).map fun n => n + m.length
  | .FormattedValue (.Name z _) c none _ :: r => if z = y ∧ c = -1 then (partsN y r).map fun n => n + 1000 else none
  | _ => none
section
variable {X : Cx} {y : Str} {k : Nat} {i : Int}
theorem len_append (a b : Str) : (a ++ b).length = a.length + b.length := by
  show (a.cps ++ b.cps).size = _
  rw [Array.size_append]; rfl
theorem parts_go (hv : ∀ p, PE X (.Name y p) (tVar k)) : ∀ (es : List Expr) (n : Nat), partsN y es = some n → ∃ ts, PJ X es ts ∧
    ∀ (acc : Str) (σ : St) (H : Hp) (Q : Str → Hp → Prop), acc.length + n ≤ sizeLine → σ[k]? = some (some (.int i)) → ShowOk i → (∀ out, Q out H) → tJs ts acc σ H Q
  | [], n, h => ⟨[], .nil, fun acc σ H Q _ _ _ q => q acc⟩
  | e :: r, n, h => by
    unfold partsN at h
    split at h
    · cases ‹_ :: _ = []›
    · rename_i m j p r' he
      cases he
      obtain ⟨n', hn, rfl⟩ := mapS h
      obtain ⟨ts, h1, h2⟩ := parts_go hv r n' hn
      refine ⟨_, .cons pe_str h1, fun acc σ H Q hl hs ho q => ?_⟩
      have hl' : (acc ++ m).length + n' ≤ sizeLine := by rw [len_append]; omega
      exact ⟨m, rfl, by omega, h2 _ σ H Q hl' hs ho q⟩
    · rename_i z p c p' r' he
      cases he
      obtain ⟨⟨hz, hc⟩, h3⟩ := ifN h
      obtain ⟨n', hn, rfl⟩ := mapS h3
      rw [hz, hc]
      obtain ⟨ts, h1, h2⟩ := parts_go hv r n' hn
      refine ⟨_, .cons (pe_fmt (hv _)) h1, fun acc σ H Q hl hs ho q => ?_⟩
      refine ⟨_, hs, .inr ⟨i, rfl, ho.1, _, rfl, ?_, h2 _ σ H Q ?_ hs ho q⟩⟩
      · rw [len_append]; have := ho.2; omega
      · rw [len_append]; have := ho.2; omega
    · exact nomatch h
end
/-- what the module's written part says of the class at C, its __init__ at fI -/
structure SupC (P : Program) (K : PySem.W.Frag) (C fI : Addr) (f y : Str) (params : Arguments) (body : List Stmt) (scope : Scope) (fd : FuncData) : Prop where
  ox : OexC K C
  ini : PySem.W.findIn K (.ref C) "__init__" = some (some (.ref fI))
  ity : PySem.W.typeIn K (.ref fI) = some (.type "function")
  sup : PySem.W.ks_superIn K C C "__init__" = some (some (.builtin "ValueError.__init__"))
  isV : PySem.W.subIn K (.ref C) (.type "ValueError") = some true
  slf : PySem.W.mroIn K C (.ref C) = some true
  opq : PySem.W.nsIn K PySem.cStatics "thirdparty.any" = some none
  nof : PySem.W.findIn K (.ref C) f = some none
  fre : PySem.W.nsIn K mainGlobals "super" = some none
  top : (P.main.scope.names.lookup ("super" : Str)).isSome = false
  lk : ∃ (qual : Str) (kV doc pm ct oc : Value) (an od : Option Addr) (osl : Array (Option Value)) (cda cc : Addr) (ccl cl : Value) (cdd cld : Option Addr) (ccs csl : Array (Option Value)) (vs : Array Value) (file : Str) (tf : Tok),
    fd = PySem.W.ksFn "__init__" qual params body scope .none kV doc pm an (.ref cda) ct cc ∧ K.lookup fI = some ⟨oc, od, .func fd, osl⟩ ∧ PySem.W.codeIn K (.ref cda) qual = true ∧
    K.lookup cda = some ⟨ccl, cdd, .fields vs, ccs⟩ ∧ vs[2]? = some (.str file tf) ∧ ((P.main.file : Str) == file) = true ∧ K.lookup cc = some ⟨cl, cld, .cell (some (.ref C)), csl⟩
/-- the text of such an __init__ -/
structure SupT (f y : Str) (params : Arguments) (body : List Stmt) (scope : Scope) : Prop where
  txt : ∃ p0 p1 p2 p3 p4 p5 p6 p7 p8 p9 v1 v2 rest n, body = [.Expr (.Call (.Attribute (.Call (.Name "super" p0) [] [] p1) "__init__" p2) [.JoinedStr (v1 :: v2 :: rest) p5] [] p3) p4, .Assign [.Attribute (.Name "self" p6) f p7] (.Name y p8) p9] ∧
    partsN y (v1 :: v2 :: rest) = some n ∧ n ≤ 100000 ∧ ∀ env, ∃ pl, eval (.Call (.Attribute (.Call (.Name "super" p0) [] [] p1) "__init__" p2) [.JoinedStr (v1 :: v2 :: rest) p5] [] p3) env = (do
      let ov ← attributeBase (.Call (.Name "super" p0) [] [] p1) "__init__" env (eval (.Call (.Name "super" p0) [] [] p1) env)
      standAt p2.atName
      let (f, first) ← holding [ov] (getMethod ov "__init__" pl)
      callWith p3 f first (backTo p3 (starEach [.JoinedStr (v1 :: v2 :: rest) p5] env)) [])
  arg : ∃ ar, (params.posonlyargs ++ params.args).head? = some ar ∧ ar.arg = "self"
  bnd : ∀ (qual : Str) (kV doc pm ct cdv : Value) (an : Option Addr) (cc : Addr) (a b : Value), bindArgs (PySem.W.ksFn "__init__" qual params body scope .none kV doc pm an cdv ct cc) ⟨[a, b], []⟩ = pure [(("self" : Str), a), (y, b)]
  kind : scope.kind = .function
  co : scope.isCoroutine = false
  gen : scope.isGenerator = false
  nocell : ∀ x ∈ scope.names, x.2 ≠ .cell
  loS : scope.names.lookup ("self" : Str) = some .local
  loY : scope.names.lookup y = some .local
  suG : scope.names.lookup ("super" : Str) = some .globalImplicit
  clF : scope.names.lookup ("__class__" : Str) = some .free
  onF : ∀ q ∈ scope.names, q.2 = .free → q.1 = "__class__"
  ne : y ≠ "self"
  dbg : (y == ("__debug__" : Str)) = false ∧ (y == ("__classdict__" : Str)) = false
def cxX (CX : CXT) (P : Program) (w : World) (K : PySem.W.Frag) (mg : Str → Option Value) (base : Heap) (N : List Str) (env : Env) (A : Around) (outer : List Env) (s : Shared) (H : Hp) (E : XK) : Cx where
  prog := P
  w := w
  K := K
  mg := mg
  base := base
  A := A.deeper env
  N := N
  s_0 := s
  H_0 := H
  env := env
  outer := outer
  stack := env :: outer
  ex := []
  fn := fun _ => false
  calm := true
  pn := []
  xe := fun e s' => wpAny (model P w) (A.deeper env) (leaving env e) (fun _ s'' => CX outer H s E e s'') (fun e' s'' => CX outer H s E e' s'') s'
def spX (K : PySem.W.Frag) (C : Addr) (f : Str) : Sp := fun vs H Q E => ∃ (a : Addr) (i : Int), vs = [.ref a, .int i] ∧ H a = some (exo a C none) ∧ ShowOk i ∧
  ∀ dx, H dx = none → dx ≠ a → Q .non (upd (upd H dx (exd dx [(f, .int i)])) a (exo a C (some dx)))
section
variable {CX : CXT} {P : Program} {w : World} {K : PySem.W.Frag} {mg : Str → Option Value} {base : Heap} {C fI : Addr} {f y : Str} {params : Arguments} {body : List Stmt} {scope : Scope} {fd : FuncData}
theorem inv_startX {N : List Str} {env : Env} {cc : Addr} {A : Around} {outer : List Env} {s : Shared} {h1 : Heap} {tk : Nat} {H : Hp} {E : XK} {ow : Value} {od : Option Addr} {osl : Array (Option Value)} {m : Str → Option Value} {vs : List V}
    (hd : A.handled = none) (e0 : Env0 P w K mg base A outer s H) (hcell : K.lookup cc = some ⟨ow, od, .cell (some (.ref C)), osl⟩)
    (e1 : env.scope = scope) (e2 : env.locals = s.heap.objs.size) (e3 : env.globals = mainGlobals) (e4 : env.builtins = builtinsNs) (e5 : env.cells = [(("__class__" : Str), cc)]) (e6 : env.frame = some s.heap.objs.size) (hk : scope.kind = .function)
    (onF : ∀ x, scope.names.lookup x = some .free → x = "__class__") (noc : ∀ x, scope.names.lookup x ≠ some .cell) (hns : h1.Ns s.heap.objs.size m) (hkp : ∀ b o, s.heap.get? b = some o → h1.get? b = some o) (hlen : vs.length = N.length)
    (hloc : ∀ (i : Nat) (x : Str) (v : V), N[i]? = some x → vs[i]? = some v → ∃ u, RelV v u ∧ scope.names.lookup x = some .local ∧ m x = some u) :
    Inv (cxX CX P w K mg base N env A outer s H E) [] (vs.map some) H { s with heap := h1, toks := tk } := by
  have noA : ∀ b : Addr, b ∉ (cxX CX P w K mg base N env A outer s H E).ex := fun b z => absurd (show b ∈ ([] : List Addr) from z) (by simp)
  have cin : ∀ b o, K.lookup b = some o → base.get? b = some o := fun b o e => e0.mod.kin b o e
  have cb := e0.bs _ _ (cin _ _ hcell)
  have cl : ∀ x c, env.cells.lookup x = some c → x = "__class__" ∧ c = cc := fun x c e => by
    rw [e5] at e
    by_cases hx : x = "__class__"
    · subst hx
      have : some cc = some c := e
      exact ⟨rfl, (Option.some.inj this).symm⟩
    · have hb : (x == ("__class__" : Str)) = false := by simpa using hx
      rw [List.lookup_cons, hb] at e
      cases e
  refine ⟨⟨e0.mod, by show env.scope.kind = _; rw [e1]; exact hk, e3, e4, by show s.heap.objs.size ≤ env.locals; rw [e2]; exact Nat.le_refl _, fun y z c h1 h2 => ?_, fun y hy => ?_, fun y c hf h => ?_, fun _ => hd, Around.frames_deeper e0.frames, .inr ⟨rfl, by show env.frame = some env.locals; rw [e6, e2]⟩, fun b z => absurd z (noA b), e0.bs, e0.bsz, fun b _ _ => noA b, fun b z => absurd z (noA b), e0.funs, e0.frf⟩,
    rfl, e0.bare, Un.kept hkp, ⟨m, by show h1.Ns env.locals m; rw [e2]; exact hns, fun i x v h1 h2 h3 => ?_⟩, fun y c h => ?_, by show H env.locals = none; rw [e2]; exact e0.hok.fresh (Nat.le_refl _), fun y c h => ?_, fun p hp => absurd (show p ∈ ([] : List (Addr × Obj)) from hp) (by simp), e0.hok.kept hkp, ?_⟩
  · exact (cl y c h1).1.trans (cl z c h2).1.symm
  · have hy : env.scope.names.lookup y = some .cell ∨ env.scope.names.lookup y = some .free := hy
    rw [e1] at hy
    rcases hy with hy | hy
    · exact absurd hy (noc y)
    · have := onF y hy
      subst this
      exact ⟨cc, by show env.cells.lookup _ = _; rw [e5]; rfl⟩
  · cases hf
  · have hv : vs[i]? = some v := by
      rw [List.getElem?_map] at h2
      cases q : vs[i]? with
      | none => rw [q] at h2; cases h2
      | some u => rw [q] at h2; cases h2; rfl
    obtain ⟨u, r, hl, hm⟩ := hloc i x v h1 hv
    exact ⟨u, r, .inl ⟨by show env.scope.names.lookup x = _; rw [e1]; exact hl, hm⟩⟩
  · obtain ⟨_, rfl⟩ := cl y c h
    exact ⟨some (.ref C), ⟨_, hkp _ _ cb.1, rfl⟩⟩
  · obtain ⟨_, rfl⟩ := cl y c h
    exact cb.2
  · rw [List.length_map]; exact hlen
end
end PSd

set_option Elab.async false
set_option linter.all false
set_option maxRecDepth 100000
set_option maxHeartbeats 4000000
namespace PSd
open PySem PySem.Spec PyProof.Rows L2
section
variable {CX : CXT} {P : Program} {w : World} {K : PySem.W.Frag} {mg : Str → Option Value} {base : Heap} {C fI : Addr} {f y : Str} {params : Arguments} {body : List Stmt} {scope : Scope} {fd : FuncData}
theorem fn_sup {k : Nat} (S : SupC P K C fI f y params body scope fd) (T : SupT f y params body scope) : FnOk P w K mg base CX k fI fd [("self" : Str), y] (spX K C f) := by
  obtain ⟨qual, kV, doc, pm, ct, oc, an, od, osl, cda, cc, ccl, cl, cdd, cld, ccs, csl, vs0, file, tf, rfl, lk, hcd, lcd, hvs, hfile, lcc⟩ := S.lk
  refine ⟨fun vs H Q E ⟨a, i, e, _⟩ => by rw [e]; rfl, fun A outer s H args us vs Q E hr e0 hb r hsp => ?_⟩
  obtain ⟨a, i, rfl, ea, ho, hq⟩ := hsp
  have KX : K.In s.heap := e0.mod.kin.keeps fun b o e => (e0.bs b o e).1
  have lim : s.heap.NoLimit := e0.mod.nolimit.keeps fun b o e => (e0.bs b o e).1
  obtain ⟨u1, u2, rfl, r1, r2⟩ := vals2 r
  obtain rfl : u1 = Value.ref a := r1
  obtain ⟨t, rfl⟩ := r2
  obtain ⟨p0, p1, p2, p3, p4, p5, p6, p7, p8, p9, v1, v2, rest, n, rfl, hn, hnl, hmet0⟩ := T.txt
  obtain ⟨ar, har, hself⟩ := T.arg
  refine PySem.ks_codeAny_call_defAt hr.depth (KX _ _ lk) rfl lim (PySem.W.codeRec_of KX hcd) rfl hb T.nocell (fun x hx => ?_) (fun h₁ hns hk₁ => ?_) T.co T.gen T.kind
  · rcases List.mem_cons.mp hx with rfl | hx
    · exact T.loS
    · obtain rfl : x = (y, Value.int i t) := by simpa using hx
      exact T.loY
  generalize henv : callEnv (PySem.W.ksFn "__init__" qual params _ scope .none kV doc pm an (.ref cda) ct cc) s.heap.objs.size fI = env
  have I0 : Inv (cxX CX P w K mg base [("self" : Str), y] env A outer s H E) [] [some (.ref a), some (.int i)] H { s with heap := h₁, toks := s.toks + ((([("self" : Str), y] : List Str).zip [Value.ref a, Value.int i t]).length) } := by
    refine inv_startX (vs := [.ref a, .int i]) (C := C) (scope := scope) hr.hd e0 lcc (by rw [← henv]; rfl) (by rw [← henv]; rfl) (by rw [← henv]; rfl) (by rw [← henv]; rfl) (by rw [← henv]; rfl) (by rw [← henv]; rfl) T.kind (fun x e => T.onF _ (PySem.mem_of_lookup e) rfl) (fun x e => T.nocell _ (PySem.mem_of_lookup e) rfl) hns hk₁ rfl fun j x v h1 h2 => ?_
    match j, h1, h2 with
    | 0, h1, h2 =>
      cases h1; cases h2
      have hb0 : (("self" : Str) == y) = false := by simpa using Ne.symm T.ne
      refine ⟨.ref a, rfl, T.loS, ?_⟩
      show List.lookup ("self" : Str) [(y, Value.int i t), (("self" : Str), Value.ref a)] = _
      rw [List.lookup_cons, hb0]
      rfl
    | 1, h1, h2 =>
      cases h1; cases h2
      refine ⟨.int i t, ⟨t, rfl⟩, T.loY, ?_⟩
      show List.lookup y [(y, Value.int i t), (("self" : Str), Value.ref a)] = _
      rw [List.lookup_cons, beq_self_eq_true]
    | j + 2, h1, h2 => simp at h1
  have hm : mg ("super" : Str) = none := PySem.W.mg_none_of e0.mod.kin e0.mod.glob S.fre
  obtain ⟨cd, hcl, hbm⟩ : ∃ cd, PySem.W.clsIn K C = some cd ∧ True := by
    obtain ⟨nm, q, N, bs, bm, sn, sub, ab, col, dd, k0, k1, k2, k3, k5, hC, hbm⟩ := S.ox.cls
    exact ⟨{ name := nm, bases := bs, mro := .ref C :: bm, ns := N, qualname := q, hasDict := true, slotNames := sn, subclasses := sub, abstract := ab, collection := col, hasDel := false }, by unfold PySem.W.clsIn; rw [hC] <;> rfl, trivial⟩
  obtain ⟨pl, hmet⟩ := hmet0 env
  have hsc : env.scope = scope := by rw [← henv]; rfl
  have hgl : env.globals = mainGlobals := by rw [← henv]; rfl
  have hbl : env.builtins = builtinsNs := by rw [← henv]; rfl
  have hce : env.cells = [(("__class__" : Str), cc)] := by rw [← henv]; rfl
  have hint : interactive env = false := by unfold interactive; rw [hsc, T.kind]; rfl
  have hki : env.scope.kind = .function := by rw [hsc]; exact T.kind
  have key : ∀ (R : Value → Shared → Prop), (∀ s', Inv (cxX CX P w K mg base [("self" : Str), y] env A outer s H E) [] [some (.ref a), some (.int i)] H s' → R .none s') →
      wpAny (model P w) (A.deeper env) (loadName env "super") (fun g s₁ => g = .type "super" ∧ wpAny (model P w) (A.deeper env) (loadName env "__class__") (fun cls s₂ => wpAny (model P w) (A.deeper env) (loadName env ar.arg) (fun self s₃ =>
      wpAny (model P w) (A.deeper env) (isType cls) (fun b s₄ => b = true ∧ wpAny (model P w) (A.deeper env) (call (.type "super") [cls, self]) (fun ov s₁ => wpAny (model P w) (A.deeper env) (getMethod ov "__init__" pl) (fun fx s₂ => wpAny (model P w) (A.deeper env) (callWith p3 fx.1 fx.2 (backTo p3 (starEach [.JoinedStr (v1 :: v2 :: rest) p5] env)) []) R (cxX CX P w K mg base [("self" : Str), y] env A outer s H E).xe s₂) (cxX CX P w K mg base [("self" : Str), y] env A outer s H E).xe s₁) (cxX CX P w K mg base [("self" : Str), y] env A outer s H E).xe s₄) (cxX CX P w K mg base [("self" : Str), y] env A outer s H E).xe s₃) (cxX CX P w K mg base [("self" : Str), y] env A outer s H E).xe s₂) (cxX CX P w K mg base [("self" : Str), y] env A outer s H E).xe s₁) (cxX CX P w K mg base [("self" : Str), y] env A outer s H E).xe
      { s with heap := h₁, toks := s.toks + ((([("self" : Str), y] : List Str).zip [Value.ref a, Value.int i t]).length) } := by
    intro R hR
    obtain ⟨mb, hb1, hb2⟩ := I0.mod.blt
    refine PySem.W.ks_loadName_global hki (by show env.scope.names.lookup _ = _; rw [hsc]; exact T.suG) (Calls.loadGlobal_builtin (by rw [hgl]; exact I0.mod.glob.keeps I0.bk) hm (by rw [hbl]; exact hb1.keeps I0.bk) ((hb2 _ (by decide)).trans (by first | rfl | decide +kernel)) ⟨rfl, ?_⟩)
    refine wpAny_loadName_free (c := cc) hki (by show env.scope.names.lookup _ = _; rw [hsc]; exact T.clF) (by rw [hce]; rfl) ⟨_, I0.kIn _ _ lcc, rfl⟩ ?_
    obtain ⟨m0, hns0, hl0⟩ := I0.loc
    obtain ⟨u0, ru0, lo0⟩ := hl0 0 "self" (.ref a) rfl rfl (.inl (by show env.scope.names.lookup _ = _; rw [hsc]; exact T.loS))
    obtain rfl : u0 = Value.ref a := ru0
    have hm0 : m0 ("self" : Str) = some (.ref a) := by
      rcases lo0 with ⟨_, z⟩ | ⟨z, _⟩
      · exact z
      · have e1 : env.scope.names.lookup ("self" : Str) = some .local := by rw [hsc]; exact T.loS
        have z : env.scope.names.lookup ("self" : Str) = some .cell ∨ env.scope.names.lookup ("self" : Str) = some .free := z
        rw [e1] at z
        rcases z with z | z <;> cases z
    rw [hself]
    refine wpAny_loadName_local hki (by show env.scope.names.lookup _ = _; rw [hsc]; exact T.loS) hns0 hm0 ?_
    obtain ⟨nm, q, N', bs, bm, sn, sub, ab, col, dd, k0, k1, k2, k3, k5, hC, hbm⟩ := S.ox.cls
    obtain ⟨t1, hx⟩ := exo_at I0.hok ea
    refine PySem.ks_wpAny_isType_cls (I0.kIn _ _ hC) rfl ⟨rfl, ?_⟩
    refine PySem.ks_wpAny_call_super (I0.kIn _ _ hC) rfl hx rfl (fun c e => by cases e) (PySem.W.looks_mroIn I0.kIn S.slf) (fun h' e kk => ?_)
    have I1 := ClX.pin_new (o := PySem.W.ks_superObj C a C) (t' := s.toks + ((([("self" : Str), y] : List Str).zip [Value.ref a, Value.int i t]).length)) I0 kk (Nat.le_refl _) e (fun v z => by cases z)
    obtain ⟨t2, hx1⟩ := exo_at I1.hok ea
    have IA : PySem.W.InstAt h' a { cls := .ref C, dict := none, data := .fields #[.ref t2, .none, .none, .none, .bool false, .none] } C none := ⟨hx1, rfl, rfl, trivial⟩
    have X1 : K.In h' := I1.kIn
    have hsup := S.sup
    unfold PySem.W.ks_superIn at hsup
    rw [hcl] at hsup
    refine PySem.W.kxs_getMethod (l₀ := cd.mro) PySem.W.kxs_ValueError e (PySem.W.looks_opaque X1 S.opq) ?_ rfl X1 hsup (IA.type.andThen (PySem.W.looks_subIn X1 S.isV)) (PySem.W.ks_ne X1 IA hcl) (by decide) ?_
    · exact fun A Q E s k q => wpAny_bind ((PySem.W.looks_clsIn X1 hcl) A _ E s k (wpAny_pure q))
    have I2 := ClX.pin_new (o := PySem.W.kxs_mw "ValueError.__init__" a) (t' := s.toks + ((([("self" : Str), y] : List Str).zip [Value.ref a, Value.int i t]).length) + 1) (h' := h'.push (PySem.W.kxs_mw "ValueError.__init__" a)) (a := h'.objs.size) I1 (fun b o z => Heap.get?_push_of_some _ z) (Nat.le_refl _) (Heap.get?_push_size _ rfl) (fun v z => by cases z)
    obtain ⟨ts, hp1, hp2⟩ := parts_go (X := cxX CX P w K mg base [("self" : Str), y] env A outer s H E) (y := y) (k := 1) (i := i) (fun p => pe_var rfl (by show Vis env.scope y; rw [hsc]; exact .inl T.loY) T.dbg.1 T.dbg.2) _ _ hn
    have hargs := (pa_cons (pe_joined (pos := p5) hp1) pa_nil rfl).run p3 _ _ [some (.ref a), some (.int i)] H (fun vs H' => H' = H ∧ ∃ out, vs = [.str out]) I2 (hp2 _ _ _ _ (by show 0 + n ≤ sizeLine; rw [sizeLine_eq]; omega) rfl ho fun out => ⟨rfl, out, rfl⟩)
    refine PySem.W.kxs_callWith (i := "ValueError.__init__") (x := a) rfl ?_
    refine Calls.evalArgs_plain ?_
    refine wpAny_mono hargs (fun us2 s3 h3 => ?_) fun _ _ z => z
    obtain ⟨vs3, H3, I3, r3, hH, out, rfl⟩ := h3
    rw [hH] at I3
    obtain ⟨w1, rfl, ⟨tk3, rfl⟩⟩ := r3.one
    have hu := ClX.pin_at I3
    refine ⟨hu, ?_⟩
    obtain ⟨t4, hx4⟩ := exo_at I3.hok ea
    obtain ⟨hp, g, d, tk, os⟩ := s3
    refine wpAny_call (codeAny_of_tree ?_)
    show wpAny _ (A.deeper env).in1 (callAny (.ref h'.objs.size) ⟨[.str out tk3], []⟩) _ _ _
    simp only [callAny]
    refine wpAny_bind (wpAny_load hu ?_)
    simp only [PySem.W.kxs_mw, show (Value.type "method-wrapper" == Value.type "method" || Value.type "method-wrapper" == Value.type "builtin_function_or_method" || Value.type "method-wrapper" == Value.type "method-wrapper") = true by decide, if_true]
    refine PySem.W.KFB.if_so (by decide) ?_
    refine wpAny_bind (PySem.W.check_bound_init F.excBase_ValueError.toExcCallFacts (I3.kIn _ _ hC) hx4 rfl ?_)
    refine wpAny_bind (wpAny_pure (wpAny_pure ?_))
    refine ⟨plainId_quiet F.excBase_ValueError.init.plain _, codeAny_builtin F.excBase_ValueError.initEntry ?_⟩
    refine PySem.W.exc_init_tree (cls := .ref C) (t0 := t4) (dv := none) (c2 := .none) (c3 := .none) (b4 := .bool false) hx4 (by rw [sizeLine_eq]; show 1 ≤ _; decide) fun h5 k5' hx5 _ => ?_
    have J := (ClX.unpin (ClX.unpin I3)).write (t' := tk) (x := a) (e := a) (o := exo a C none) (by rw [ea]; exact True.intro) (.inl rfl) k5' ⟨_, hx5⟩ (exo_ok hx5)
    have eu : upd H a (exo a C none) = H := by
      funext b
      by_cases hb' : b = a
      · rw [hb', upd_same, ea]
      · rw [upd_ne hb']
    rw [eu] at J
    exact hR _ J
  refine PySem.ks_wpAt_execs_cons (PySem.ks_wpAt_Expr_any (PySem.ks_wpAt_MethodCall (PySem.ks_wpAt_super_base (cc := cda) (by rw [← henv]; exact T.suG) (by rw [← henv]; exact T.clF) (by decide) (by rw [← henv]; rfl) (I0.kIn _ _ lk) rfl har (by rw [← henv]; rfl) (I0.kIn _ _ lcd) rfl hvs hfile S.top (key _ fun s' I1 => ?_)) hmet) hint rfl)
  refine wpAt_of_wpAny ?_
  have hY : Inv (cxX CX P w K mg base [("self" : Str), y] env A outer s H E) [] [some (.ref a), some (.int i)] H s' := I1
  have hx := pss_cons (X := cxX CX P w K mg base [("self" : Str), y] env A outer s H E) (ps_ost (f := f) (p' := p7) (pos := p9) (pe_var (i := 0) (pos := p6) (x := ("self" : Str)) rfl (by show Vis env.scope _; rw [hsc]; exact .inl T.loS) (by decide) (by decide)) (pe_var (i := 1) (pos := p8) rfl (by show Vis env.scope y; rw [hsc]; exact .inl T.loY) T.dbg.1 T.dbg.2) rfl) pss_nil
  refine wpAny_mono (hx.run [] s' _ H { nx := fun _ H' => Q .non H', rt := Q } I1 ?_) (fun fl s' hs => ?_) fun _ _ z => z
  · refine ⟨.int i, rfl, .ref a, rfl, a, C, rfl, S.ox, S.nof, .inl ⟨ea, fun dx n ne => hq dx n ne⟩⟩
  · cases fl with
    | ret u =>
      obtain ⟨v, σ', H', J, rv, z⟩ := hs
      exact ⟨v, H', J.os, J.bare, J.base, J.hok, rv, z⟩
    | next =>
      obtain ⟨σ', H', J, z⟩ := hs
      exact ⟨V.non, H', J.os, J.bare, J.base, J.hok, rfl, z⟩
    | brk => obtain ⟨_, _, _, z⟩ := hs; exact False.elim z
    | cont => obtain ⟨_, _, _, z⟩ := hs; exact False.elim z
end
end PSd

set_option Elab.async false
set_option linter.all false
set_option maxRecDepth 100000
set_option maxHeartbeats 4000000
namespace PSd
open PySem PySem.Spec PyProof.Rows L2
/-- C(e), C such a class -/
theorem pmk_sup {X : Cx} {CX : CXT} {x : Str} {e : Expr} {ta : TA} {p pos : Pos} {C fI : Addr} {k : Nat} {fd : FuncData} {ps : List Str} {sp : Sp} (T : OexC X.K C) (iC : PySem.W.findIn X.K (.ref C) "__init__" = some (some (.ref fI))) (tI : PySem.W.typeIn X.K (.ref fI) = some (.type "function"))
    (F1 : FnOk X.prog X.w X.K X.mg X.base CX k fI fd ps sp) (hr : Room (k + 1) X.A) (hb : Binds X.K fd ps []) (hx : Passes CX X (fun _ _ _ => False)) (hg : Gl X x) (hm : X.mg x = some (.ref C)) (ha : PA X [e] ta)
    (hdb : (x == ("__debug__" : Str)) = false) (he : starEach [e] X.env = (false, eval e X.env) :: starEach [] X.env) :
    L2N.PMk X (.Call (.Name x p) [e] [] pos) (tMkO C sp [] ta) := by
  intro pins s σ H Q I h
  obtain ⟨nm, q, N, bs, bm, sn, sub, ab, col, dd, k0, k1, k2, k3, k5, hC, hbm⟩ := T.cls
  refine wpAny_Call_Name_kw (ld_glob I hg hm ?_ hdb)
  refine PySem.W.callWith_K (h₀ := X.base) I.ok.mod.kin T.kC (thn (ha.run pos pins s σ H _ I h) fun us s1 ⟨vs, H1, I1, r1, hz, q1⟩ => ⟨I1.kIn, ?_⟩) he rfl
  show wpAny _ _ (call (.ref C) us) _ _ _
  obtain ⟨hp, g, dr, tk, os⟩ := s1
  have hsz : hp.objs.size ≤ hp.objs.size + 1 := Nat.le_succ _
  have hn : H1 (hp.objs.size + 1) = none := I1.hok.fresh hsz
  have hq := q1 (hp.objs.size + 1) hn
  rw [List.append_nil] at hq
  have kk : ∀ b o, hp.get? b = some o → ((hp.push (PySem.W.kdv_tup us)).push (PySem.HandSPX.excO C hp.objs.size)).get? b = some o := fun b o e => Heap.get?_push_of_some _ (Heap.get?_push_of_some _ e)
  have hget : ((hp.push (PySem.W.kdv_tup us)).push (PySem.HandSPX.excO C hp.objs.size)).get? (hp.objs.size + 1) = some (PySem.HandSPX.excO C hp.objs.size) := by heap_get
  have I2 : Inv X pins σ (upd H1 (hp.objs.size + 1) (exo (hp.objs.size + 1) C none)) ⟨(hp.push (PySem.W.kdv_tup us)).push (PySem.HandSPX.excO C hp.objs.size), g, dr, tk, os⟩ :=
    I1.laid (t' := tk) (a := hp.objs.size + 1) (o := exo (hp.objs.size + 1) C none) (h' := (hp.push (PySem.W.kdv_tup us)).push (PySem.HandSPX.excO C hp.objs.size)) kk hsz (exo_ok hget)
  have r2 : Vals (V.ref (hp.objs.size + 1) :: vs) (Value.ref (hp.objs.size + 1) :: us) := .cons rfl r1
  have hl : (Value.ref (hp.objs.size + 1) :: us ++ []).length = ps.length := by
    have e := r2.length
    rw [F1.len _ _ _ _ hq] at e
    rw [List.append_nil]
    exact e.symm
  have hus : us.length ≤ sizeLine := by
    rw [← Paired.length r1, sizeLine_eq]
    omega
  have b2 := hb _ (Value.ref (hp.objs.size + 1) :: us) I2.kIn hl
  rw [List.append_nil] at b2
  refine wpAny_call (PySem.HandSPX.call_own F.excBase_ValueError (fun Y => PySem.HandSPX.refsVE_contains Y bm hbm) (I1.kIn _ _ hC) (PySem.W.looks_findIn I1.kIn iC) (fun self => PySem.W.bind_fn I1.kIn self tI) hus
    (codeAny_mono (F1.run _ X.stack _ _ ⟨Value.ref (hp.objs.size + 1) :: us, []⟩ (Value.ref (hp.objs.size + 1) :: us) _ _ (fun _ _ _ => False) (hr.make C us []) (I2.env0.make C us []) b2 r2 hq) fun r s' hq' => ?_))
  cases r with
  | error er => exact hx pins σ _ _ er s' I2 hq'
  | ok fl =>
    cases fl with
    | ret u =>
      obtain ⟨v, H2, os2, bare2, un2, hok2, rv, ev, d, fs, ea, ed, hd1, q2⟩ := hq'
      subst ev
      obtain ⟨h2, g2, d2, t2, os'⟩ := s'
      obtain ⟨t0, G, J, kG, ge, hoe, na⟩ := mk_end0 (d2 := d2) (t2 := t2) I1 hsz kk un2 hok2 os2 bare2 ea ed hd1
      exact ⟨rv, hp.objs.size + 1, _, _, ⟨G, g2, d2, t2, os'⟩, _, .ref C, some d, rfl, J, kG, ge, hoe, ⟨rfl, rfl, fun vs hv => by cases hv; rfl⟩, rfl, rfl, na, rfl, bare2, raises_own T.exC T.tyC, q2⟩
    | next => exact False.elim hq'
    | brk => exact False.elim hq'
    | cont => exact False.elim hq'
end PSd

set_option Elab.async false
set_option linter.all false
set_option maxRecDepth 100000
set_option maxHeartbeats 4000000
namespace PSd
open PySem PySem.Spec PyProof.Rows L2

/-! ### weakening -/
theorem peI {X : Cx} {e : Expr} {t t' : TE} (h : PE X e t) (w : ∀ σ H Q, t' σ H Q → t σ H Q) : PE X e t' := ⟨fun pins s σ H Q I q => h.run pins s σ H Q I (w σ H Q q)⟩
theorem ptI {X : Cx} {e : Expr} {t t' : TT} (h : PT X e t) (w : ∀ σ H Q, t' σ H Q → t σ H Q) : PT X e t' := ⟨fun pins s σ H Q I q => h.run pins s σ H Q I (w σ H Q q)⟩
theorem pwI {X : Cx} {e : Expr} {t t' : TT} (h : PW X e t) (w : ∀ σ H Q, t' σ H Q → t σ H Q) : PW X e t' := ⟨fun wh pins s σ H Q I q => h.run wh pins s σ H Q I (w σ H Q q)⟩
theorem paI {X : Cx} {es : List Expr} {t t' : TA} (h : PA X es t) (w : ∀ σ H Q, t' σ H Q → t σ H Q) : PA X es t' := ⟨fun pos pins s σ H Q I q => h.run pos pins s σ H Q I (w σ H Q q)⟩
theorem poI {X : Cx} {e : Option Expr} {t t' : TO} (h : PO X e t) (w : ∀ σ H Q, t' σ H Q → t σ H Q) : PO X e t' := ⟨fun pins s σ H Q I q => h.run pins s σ H Q I (w σ H Q q)⟩
theorem psI {X : Cx} {e : Stmt} {t t' : TS} (h : PS X e t) (w : ∀ D σ H, t' D σ H → t D σ H) : PS X e t' := ⟨fun pins s σ H D I q => h.run pins s σ H D I (w D σ H q)⟩
theorem pssI {X : Cx} {e : List Stmt} {t t' : TS} (h : PSs X e t) (w : ∀ D σ H, t' D σ H → t D σ H) : PSs X e t' := ⟨fun pins s σ H D I q => h.run pins s σ H D I (w D σ H q)⟩

/-! ### what the module holds -/
def cV : PI.Cst → V
  | .non => .non | .bl b => .bl b | .int i => .int i | .str s => .str s
theorem cV_rel {K : PySem.W.Frag} {H : Hp} {ι : List Addr} (c : PI.Cst) : RD K H ι (PI.cstD c) (cV c) := by cases c <;> rfl
/-- what a class of exceptions must say -/
structure ExC (K : PySem.W.Frag) (C : Addr) : Prop where
  keep : PySem.W.keepIn K (.ref C) = true
  isB : PySem.W.subIn K (.ref C) (.type "BaseException") = some true
  ty : PySem.W.typeIn K (.ref C) = some (.type "type")
  ga : PySem.W.findIn K (.ref C) "__getattribute__" = some (some (.builtin "BaseException.__getattribute__"))
  gg : PySem.W.findIn K (.ref C) "__getattr__" = some none
  hd : PySem.W.hasDictIn K C = true
  kc : PySem.W.findIn K (.ref C) "__class__" = some (some (.builtin "object.__class__"))
  kg : PySem.W.specialIn K (.builtin "object.__class__") "__get__" = some (some (.builtin "getset_descriptor.__get__"))
  kt : PySem.W.takesIn K (.builtin "object.__class__") = some true
  mo : PySem.W.mroIn K C (.type "object") = some true
  ve : PySem.W.kitOne K (.ref C) (.type "ValueError") = some true
/-- one without an __init__ of its own -/
def ExPlain (K : PySem.W.Frag) (C : Addr) : Prop := PySem.W.excIn K C PySem.HandSPX.veTail "ValueError.__new__" = true
structure GE (P : PI.Prog) (P0 : Program) (K : PySem.W.Frag) (mg : Str → Option Value) : Prop where
  free : ∀ x ∈ PTr.bltns, mg x = none
  cst : ∀ x c, P.cst x = some c → ∃ u, mg x = some u ∧ RelV (cV c) u
  exc : ∀ c k, P.exc c = some k → ∃ C, mg c = some (.ref C) ∧ ExC K C
  plain : ∀ c C, P.exc c = some .plain → mg c = some (.ref C) → ExPlain K C
  fld : ∀ c f, P.exc c = some (.fld f) → ∃ C fI y params body scope fd, mg c = some (.ref C) ∧ SupC P0 K C fI f y params body scope fd ∧ SupT f y params body scope ∧ PySem.W.keepIn K (.ref fI) = true
  below : ∀ c c' b C, P.below c c' = some b → mg c = some (.ref C) → ∃ C', mg c' = some (.ref C') ∧ PySem.W.exmOne K (.ref C) (.ref C') = some b ∧ PySem.W.kitOne K (.ref C) (.ref C') = some b ∧ ExC K C

/-! ### defs called while an exception is handled -/
open L2H in
structure FnT (P : Program) (w : World) (K : PySem.W.Frag) (mg : Str → Option Value) (base : Heap) (CX : CXT) (p : Addr × Obj) (k : Nat) (f : Addr) (fd : FuncData) (ps : List Str) (sp : Sp) : Prop where
  len : ∀ vs H Q E, sp vs H Q E → vs.length = ps.length
  run : ∀ (A : Around) (outer : List Env) (s : Shared) (H : Hp) (args : Args) (us : List Value) (vs : List V) (Q : VK) (E : XK), RoomH k A → Hot1 A p → PinOk outer H s p → Env0 P w K mg base A outer s H →
    BindsTo s fd args (ps.zip us) → Vals vs us → sp vs H Q E → codeAny (model P w) A (.call (.ref f) args) (CR CX outer P w H s Q E) s

/-! ### the context -/
def lv (n : Nat) : Nat := 2 * n + 2
def Md.hotB : Md → Bool
  | .cold => false | .hot _ => true
def cxI (P : PI.Prog) (n : Nat) (md : Md) : PI.Cx := ⟨P, PI.wpCall P n, md.hotB⟩
def exK (K : PySem.W.Frag) (mg : Str → Option Value) (E : XK) (ι : List Addr) (H : Hp) : PI.KX := fun c fs s' =>
  ∀ cv dd H' ι', Step ι H ι' H' → RS K H' ι' s' → XR K mg H' ι' c fs cv dd → E cv dd H'
abbrev RA (K : PySem.W.Frag) (mg : Str → Option Value) (md : Md) : Hp → List Addr → Hp → List PI.Sl → List V → Prop := fun _ ι H as vs => REnv K mg H ι md as (vs.map some)
/-- a def's promise -/
def spA (K : PySem.W.Frag) (mg : Str → Option Value) (P : PI.Prog) (n : Nat) (md : Md) (f : Str) : Sp := fun vs H Q E =>
  ∃ as s ι, RA K mg md H ι H as vs ∧ RS K H ι s ∧ PI.wpCall P n md.hotB f as s (okG K (RV K) Q ι H) (exK K mg E ι H)
structure FnsOk (P : PI.Prog) (n : Nat) (P0 : Program) (w : World) (K : PySem.W.Frag) (mg : Str → Option Value) (base : Heap) (f : Str) (fn : PI.Fn) (fa : Addr) (fd : FuncData) (ps : List Str) : Prop where
  atm : mg f = some (.ref fa)
  keep : PySem.W.keepIn K (.ref fa) = true
  np : ps = fn.ps
  lk : ∃ oc od osl, K.lookup fa = some ⟨oc, od, .func fd, osl⟩
  all : ∀ (s : Shared) (us : List Value), us.length = ps.length → BindsTo s fd ⟨us, []⟩ (ps.zip us)
  binds : Binds K fd ps []
  cold : FnOk P0 w K mg base (L2N.CX P0 w) (lv n) fa fd ps (spA K mg P n .cold f)
  hot : ∀ p, FnT P0 w K mg base (L2N.CX P0 w) p (lv n) fa fd ps (spA K mg P n (.hot p) f)
structure GX (P : PI.Prog) (n : Nat) (md : Md) (W : WX) (N : List Str) (sc : Scope) (X : Cx) : Prop where
  hN : X.N = N
  nd : N.Nodup
  scE : X.env.scope = sc
  ok : PTr.okScope sc = true
  tk : L2N.Takes X W
  ge : GE P X.prog X.K X.mg
  un : X.A.units + 65 < cLine
  cold : md = .cold → X.calm = true ∧ Room (lv n) X.A
  hot : ∀ p, md = .hot p → L2H.Hot1 X.A p ∧ p ∈ X.pn ∧ L2H.RoomH (lv n) X.A
  fns : ∀ f fn, P.fn f = some fn → ∃ fa fd ps, FnsOk P n X.prog X.w X.K X.mg X.base f fn fa fd ps

section
variable {P : PI.Prog} {n : Nat} {md : Md} {W : WX} {N : List Str} {sc : Scope} {X : Cx}
theorem ok_at (h : PTr.okScope sc = true) {x : Str} {k : NameKind} (e : sc.names.lookup x = some k) : (x == ("__debug__" : Str)) = false ∧ (x == ("__classdict__" : Str)) = false ∧ x ≠ ("__name__" : Str) := by
  have m : (x, k) ∈ sc.names := PySem.mem_of_lookup e
  have q := List.all_eq_true.mp h (x, k) m
  simp only [Bool.and_eq_true, bne_iff_ne, ne_eq] at q
  exact ⟨by simpa using q.1.1, by simpa using q.1.2, q.2⟩
theorem slot_at {x : Str} {i : Nat} (e : PTr.slot N sc x = some i) : N[i]? = some x ∧ Vis sc x ∧ ∃ k, sc.names.lookup x = some k := by
  have go : N.findIdx? (· == x) = some i → N[i]? = some x := fun h => by
    obtain ⟨h1, h2, _⟩ := List.findIdx?_eq_some_iff_getElem.mp h
    rw [List.getElem?_eq_getElem h1]
    have : N[i] = x := by simpa using h2
    rw [this]
  unfold PTr.slot at e
  split at e
  · rename_i q; exact ⟨go e, .inl q, _, q⟩
  · rename_i q; exact ⟨go e, .inr (.inl q), _, q⟩
  · rename_i q; exact ⟨go e, .inr (.inr q), _, q⟩
  · cases e
theorem slotT_at {x : Str} {i : Nat} (e : PTr.slotT N sc x = some i) : N[i]? = some x ∧ Loc sc x := by
  have go : N.findIdx? (· == x) = some i → N[i]? = some x := fun h => by
    obtain ⟨h1, h2, _⟩ := List.findIdx?_eq_some_iff_getElem.mp h
    rw [List.getElem?_eq_getElem h1]
    have : N[i] = x := by simpa using h2
    rw [this]
  unfold PTr.slotT at e
  split at e
  · rename_i q; exact ⟨go e, .inl q⟩
  · rename_i q; exact ⟨go e, .inr q⟩
  · cases e
theorem glob_at {x : Str} (e : PTr.glob sc x = true) : sc.names.lookup x = some .globalImplicit := by
  unfold PTr.glob at e
  split at e
  · assumption
  · cases e
theorem GX.gl (G : GX P n md W N sc X) {x : Str} (e : PTr.glob sc x = true) : Gl X x := by
  show X.env.scope.names.lookup x = _
  rw [G.scE]; exact glob_at e
theorem GX.dbg (G : GX P n md W N sc X) {x : Str} (e : PTr.glob sc x = true) : (x == ("__debug__" : Str)) = false := (ok_at G.ok (glob_at e)).1
theorem GX.nam (G : GX P n md W N sc X) {x : Str} (e : PTr.glob sc x = true) : x ≠ ("__name__" : Str) := (ok_at G.ok (glob_at e)).2.2
theorem GX.fre (G : GX P n md W N sc X) {x : Str} (e : x ∈ PTr.bltns) : X.mg x = none := G.ge.free x e
theorem GX.var (G : GX P n md W N sc X) {x : Str} {i : Nat} (e : PTr.slot N sc x = some i) {pos : Pos} : PE X (.Name x pos) (tVar i) := by
  obtain ⟨h1, h2, k, h3⟩ := slot_at e
  have o := ok_at G.ok h3
  exact pe_var (by rw [G.hN]; exact h1) (by rw [G.scE]; exact h2) o.1 o.2.1
theorem GX.mono (G : GX P n md W N sc X) : PI.Mono (cxI P n md) := PI.mono_call P n md.hotB
theorem GX.calm (G : GX P n md W N sc X) (h : md.hotB = false) : X.calm = true := by
  cases md with
  | cold => exact (G.cold rfl).1
  | hot p => cases h
end
end PSd

set_option Elab.async false
set_option linter.all false
set_option maxRecDepth 100000
set_option maxHeartbeats 4000000
namespace PSd
open PySem PySem.Spec PyProof.Rows L2

section
variable {K : PySem.W.Frag} {mg : Str → Option Value} {W : WX} {md : Md}
theorem okG.shift {Q : VK} {ι ι' : List Addr} {H H' : Hp} {b : PI.D} {s : PI.S} (h : okG K (RV K) Q ι H b s) (st : Step ι H ι' H') : okG K (RV K) Q ι' H' b s :=
  fun g H2 ι2 st2 r q => h g H2 ι2 (st.trans st2) r q
theorem okG.go {β γ : Type} {R : Hp → List Addr → Hp → β → γ → Prop} {Q : γ → Hp → Prop} {ι ι' : List Addr} {H H' : Hp} {b : β} {s : PI.S} {g : γ} (h : okG K R Q ι H b s) (st : Step ι H ι' H') (r : RS K H' ι' s) (q : R H ι' H' b g) : Q g H' :=
  h g H' ι' st r q
end

section
variable {P : PI.Prog} {n : Nat} {md : Md} {W : WX} {N : List Str} {sc : Scope} {X : Cx}
abbrev aE (X : Cx) (W : WX) (md : Md) (P : PI.Prog) (n : Nat) (ir : PI.Ex) : TE := Lf X.K X.mg W md (RV X.K) (PI.wpE (cxI P n md) ir)
abbrev aL (X : Cx) (W : WX) (md : Md) (P : PI.Prog) (n : Nat) (l : List PI.Ex) : TA := Lf X.K X.mg W md (RVs X.K) (PI.wpL (cxI P n md) l)
abbrev aA (X : Cx) (W : WX) (md : Md) (P : PI.Prog) (n : Nat) (l : List PI.Ar) : TA := Lf X.K X.mg W md (RA X.K X.mg md) (PI.wpA (cxI P n md) l)
abbrev aO (X : Cx) (W : WX) (md : Md) (P : PI.Prog) (n : Nat) (o : Option PI.Ex) : TO := Lf X.K X.mg W md RO (PI.wpO (cxI P n md) o)
abbrev aT (X : Cx) (W : WX) (md : Md) (P : PI.Prog) (n : Nat) (t : PI.Te) : TT := Lf X.K X.mg W md RB (PI.wpT (cxI P n md) t)
abbrev aC (X : Cx) (W : WX) (md : Md) (P : PI.Prog) (n : Nat) (t : Option PI.Te) : TT := Lf X.K X.mg W md RB (PI.wpC (cxI P n md) t)
abbrev aQ (X : Cx) (W : WX) (md : Md) (P : PI.Prog) (n : Nat) (q : PI.Sq) : TE := Lf X.K X.mg W md (RQ X.K) (PI.wpQ (cxI P n md) q)
variable (M : PI.Mono (cxI P n md))
theorem mE (ir : PI.Ex) : MonoW (PI.wpE (cxI P n md) ir) := fun _ _ _ _ _ _ h1 h2 h => PI.wpE_mono (PI.mono_call P n _) ir h1 h2 h
theorem mL (l : List PI.Ex) : MonoW (PI.wpL (cxI P n md) l) := fun _ _ _ _ _ _ h1 h2 h => PI.wpL_mono (PI.mono_call P n _) l h1 h2 h
theorem mA (l : List PI.Ar) : MonoW (PI.wpA (cxI P n md) l) := fun _ _ _ _ _ _ h1 h2 h => PI.wpA_mono (PI.mono_call P n _) l h1 h2 h
theorem mO (o : Option PI.Ex) : MonoW (PI.wpO (cxI P n md) o) := fun _ _ _ _ _ _ h1 h2 h => PI.wpO_mono (PI.mono_call P n _) o h1 h2 h
theorem mT (t : PI.Te) : MonoW (PI.wpT (cxI P n md) t) := fun _ _ _ _ _ _ h1 h2 h => PI.wpT_mono (PI.mono_call P n _) t h1 h2 h
theorem mC (t : Option PI.Te) : MonoW (PI.wpC (cxI P n md) t) := fun _ _ _ _ _ _ h1 h2 h => PI.wpC_mono (PI.mono_call P n _) t h1 h2 h
theorem mQ (q : PI.Sq) : MonoW (PI.wpQ (cxI P n md) q) := fun _ _ _ _ _ _ h1 h2 h => PI.wpQ_mono (PI.mono_call P n _) q h1 h2 h

/-! ### leaves -/
theorem se_var (G : GX P n md W N sc X) {x : Str} {i : Nat} (e : PTr.slot N sc x = some i) {pos : Pos} : PE X (.Name x pos) (aE X W md P n (.var i)) :=
  peI (G.var e) fun σ H Q ⟨ρ, s, ι, re, rs, h⟩ => by
    simp only [PI.wpE] at h
    split at h
    · rename_i d q
      obtain ⟨v, hv, hr⟩ := re.at_ i _ q
      exact ⟨v, hv, h.here rs hr⟩
    · exact h.elim
theorem se_glb (G : GX P n md W N sc X) {x : Str} (hg : PTr.glob sc x = true) {pos : Pos} : PE X (.Name x pos) (aE X W md P n (.glb x)) := by
  cases q : P.cst x with
  | none => exact ⟨fun pins s σ H Q I ⟨ρ, t, ι, re, rs, h⟩ => by
      simp only [PI.wpE] at h
      rw [show (cxI P n md).P.cst x = none from q] at h
      exact h.elim⟩
  | some c =>
    obtain ⟨u, h1, h2⟩ := G.ge.cst x c q
    refine peI (pe_glob (G.gl hg) h1 h2 (G.dbg hg)) fun σ H Q ⟨ρ, s, ι, re, rs, h⟩ => ?_
    simp only [PI.wpE] at h
    rw [show (cxI P n md).P.cst x = some c from q] at h
    exact h.here rs (cV_rel c)
theorem se_cst {c : Const} {c' : PI.Cst} (e : PTr.cstOf c = some c') {j : Nat} {pos : Pos} : PE X (.Constant c j pos) (aE X W md P n (.cst c')) := by
  cases c <;> simp only [PTr.cstOf, Option.some.injEq, reduceCtorEq] at e <;> subst e
  · exact peI pe_non fun σ H Q ⟨ρ, s, ι, re, rs, h⟩ => okG.here h rs rfl
  · exact peI pe_bl fun σ H Q ⟨ρ, s, ι, re, rs, h⟩ => okG.here h rs rfl
  · exact peI pe_int fun σ H Q ⟨ρ, s, ι, re, rs, h⟩ => okG.here h rs rfl
  · exact peI pe_str fun σ H Q ⟨ρ, s, ι, re, rs, h⟩ => okG.here h rs rfl
variable {a b c : Expr} {ia ib ic : PI.Ex} {pos : Pos}
/-! ### operators -/
theorem se_bin (ha : PE X a (aE X W md P n ia)) (hb : PE X b (aE X W md P n ib)) {op : Operator} {o : PI.Op} (e : PTr.opOf op = some o) : PE X (.BinOp a op b pos) (aE X W md P n (.bin o ia ib)) :=
  peI (pe_op (opA op o e) ha hb) fun σ H Q ⟨ρ, s, ι, re, rs, h⟩ =>
    Lf.of (mE ia) re rs (Step.refl _ _) h fun d s1 v H1 ι1 st1 rs1 rd1 re1 h1 =>
      Lf.of (mE ib) re1 rs1 st1 h1 fun d2 s2 v2 H2 ι2 st2 rs2 rd2 re2 h2 =>
        ⟨s2, ι2, d, d2, rs2, RD.step st2 rs1.lo _ rd1, rd2, PI.binD_mono (fun d s hq => hq.shift (st1.trans st2)) h2⟩
theorem se_cmp (hu : X.A.units + 65 < cLine) (hbm : ∀ op, behindInMarks op b = false) (ha : PE X a (aE X W md P n ia)) (hb : PE X b (aE X W md P n ib)) {op : CmpOp} {o : PI.Co} (e : PTr.coOf op = some o) : PE X (.Compare a [op] [b] pos) (aE X W md P n (.cmp o ia ib)) :=
  peI (pe_cmpR (cmA hu op o e) ha hb (hbm _)) fun σ H Q ⟨ρ, s, ι, re, rs, h⟩ =>
    Lf.of (mE ia) re rs (Step.refl _ _) h fun d s1 v H1 ι1 st1 rs1 rd1 re1 h1 =>
      Lf.of (mE ib) re1 rs1 st1 h1 fun d2 s2 v2 H2 ι2 st2 rs2 rd2 re2 h2 =>
        ⟨s2, ι2, d, d2, rs2, RD.step st2 rs1.lo _ rd1, rd2, PI.cmpD_mono (fun d s hq => hq.shift (st1.trans st2)) h2⟩
theorem st_cmp (hu : X.A.units + 65 < cLine) (hbm : ∀ op, behindInMarks op b = false) (ha : PE X a (aE X W md P n ia)) (hb : PE X b (aE X W md P n ib)) {op : CmpOp} {o : PI.Co} (e : PTr.coOf op = some o) : PT X (.Compare a [op] [b] pos) (aT X W md P n (.ex (.cmp o ia ib))) :=
  ptI (pt_cmpR (cmA hu op o e) ha hb (hbm _)) fun σ H Q ⟨ρ, s, ι, re, rs, h⟩ =>
    Lf.of (mE ia) re rs (Step.refl _ _) h fun d s1 v H1 ι1 st1 rs1 rd1 re1 h1 =>
      Lf.of (mE ib) re1 rs1 st1 h1 fun d2 s2 v2 H2 ι2 st2 rs2 rd2 re2 h2 =>
        ⟨s2, ι2, d, d2, rs2, RD.step st2 rs1.lo _ rd1, rd2, PI.cmpD_mono (fun d s hq => by
          obtain ⟨⟨b, rfl⟩, hq⟩ := hq
          intro g H3 ι3 st3 rs3 rg
          obtain rfl := (rg : g = V.bl b)
          exact ⟨b, rfl, okG.go hq ((st1.trans st2).trans st3) rs3 rfl⟩) (cmp_bl h2)⟩
theorem lm_chain {op op' : CmpOp} (hbm : ∀ op, behindInMarks op c = false) : lastMarks [op, op'] [b, c] = false := by
  show behindInMarks op' c = false
  exact hbm _
theorem chain_go {o o' : PI.Co} {Q : VK} {σ : St} {H : Hp} (h : aE X W md P n (.chain o o' ia ib ic) σ H Q) :
    tChain (rD X.K (PI.cmpD o)) (rD X.K (PI.cmpD o')) (aE X W md P n ia) (aE X W md P n ib) (aE X W md P n ic) σ H Q := by
  obtain ⟨ρ, s, ι, re, rs, h⟩ := h
  refine Lf.of (mE ia) re rs (Step.refl _ _) h fun d s1 v H1 ι1 st1 rs1 rd1 re1 h1 => ?_
  refine Lf.of (mE ib) re1 rs1 st1 h1 fun d2 s2 v2 H2 ι2 st2 rs2 rd2 re2 h2 => ?_
  refine ⟨s2, ι2, d, d2, rs2, RD.step st2 rs1.lo _ rd1, rd2, PI.cmpD_mono (fun z s3 hq => ?_) (cmp_bl h2)⟩
  obtain ⟨⟨k, rfl⟩, hq⟩ := hq
  intro g H3 ι3 st3 rs3 rg
  obtain rfl := (rg : g = V.bl k)
  refine ⟨k, rfl, ?_⟩
  have s3' := (st1.trans st2).trans st3
  cases k with
  | true =>
    rw [if_pos rfl]
    refine Lf.of (mE ic) (re2.step st3 rs2.lo) rs3 s3' hq fun d4 s4 v4 H4 ι4 st4 rs4 rd4 re4 h4 => ?_
    exact ⟨s4, ι4, d2, d4, rs4, RD.step st4 rs3.lo _ (RD.step st3 rs2.lo _ rd2), rd4, PI.cmpD_mono (fun d s hq => hq.shift (s3'.trans st4)) h4⟩
  | false =>
    rw [if_neg Bool.false_ne_true]
    exact okG.go hq s3' rs3 rfl
theorem se_chain (hu : X.A.units + 65 < cLine) (hbm : ∀ op, behindInMarks op c = false) (ha : PE X a (aE X W md P n ia)) (hb : PE X b (aE X W md P n ib)) (hc : PE X c (aE X W md P n ic)) {op op' : CmpOp} {o o' : PI.Co} (e : PTr.coOf op = some o) (e' : PTr.coOf op' = some o') :
    PE X (.Compare a [op, op'] [b, c] pos) (aE X W md P n (.chain o o' ia ib ic)) :=
  peI (pe_chain (cmA hu op o e) (cmA hu op' o' e') ha hb hc (lm_chain hbm)) fun σ H Q h => chain_go h
theorem chain_bl {o o' : PI.Co} {ρ : PI.Env} {s : PI.S} {Q : PI.K1} {E : PI.KX} (h : PI.wpE (cxI P n md) (.chain o o' ia ib ic) ρ s Q E) : PI.wpE (cxI P n md) (.chain o o' ia ib ic) ρ s (fun d s' => (∃ b, d = .bl b) ∧ Q d s') E := by
  simp only [PI.wpE] at h ⊢
  refine mE ia _ _ _ _ _ _ (fun x s1 h => ?_) (fun _ _ _ h => h) h
  refine mE ib _ _ _ _ _ _ (fun y s2 h => ?_) (fun _ _ _ h => h) h
  refine PI.cmpD_mono (fun z s3 h => ?_) h
  split at h
  · refine mE ic _ _ _ _ _ _ (fun w s4 h => ?_) (fun _ _ _ h => h) h
    exact cmp_bl h
  · exact ⟨⟨_, rfl⟩, h⟩
  · exact h
theorem st_chain (hu : X.A.units + 65 < cLine) (hbm : ∀ op, behindInMarks op c = false) (ha : PE X a (aE X W md P n ia)) (hb : PE X b (aE X W md P n ib)) (hc : PE X c (aE X W md P n ic)) {op op' : CmpOp} {o o' : PI.Co} (e : PTr.coOf op = some o) (e' : PTr.coOf op' = some o') :
    PT X (.Compare a [op, op'] [b, c] pos) (aT X W md P n (.ex (.chain o o' ia ib ic))) :=
  ptI (pt_chain (cmA hu op o e) (cmA hu op' o' e') ha hb hc (lm_chain hbm)) fun σ H Q ⟨ρ, s, ι, re, rs, h⟩ => by
    refine chain_go (Q := fun x H1 => ∃ k, x = .bl k ∧ Q k H1) ⟨ρ, s, ι, re, rs, ?_⟩
    refine mE (.chain o o' ia ib ic) _ _ _ _ _ _ (fun d s1 h => ?_) (fun _ _ _ h => h) (chain_bl h)
    obtain ⟨⟨k, rfl⟩, h⟩ := h
    intro g H3 ι3 st3 rs3 rg
    obtain rfl := (rg : g = V.bl k)
    exact ⟨k, rfl, okG.go h st3 rs3 rfl⟩
theorem se_neg (ha : PE X a (aE X W md P n ia)) : PE X (.UnaryOp .USub a pos) (aE X W md P n (.neg ia)) :=
  peI (pe_un un_neg ha) fun σ H Q ⟨ρ, s, ι, re, rs, h⟩ =>
    Lf.of (mE ia) re rs (Step.refl _ _) h fun d s1 v H1 ι1 st1 rs1 rd1 re1 h1 => by
      split at h1
      · obtain rfl := (rd1 : v = V.int _)
        exact ⟨_, rfl, okG.go h1 st1 rs1 rfl⟩
      · exact h1.elim
theorem se_not (ha : PE X a (aE X W md P n ia)) : PE X (.UnaryOp .Not a pos) (aE X W md P n (.not ia)) :=
  peI (pe_notT ha) fun σ H Q ⟨ρ, s, ι, re, rs, h⟩ =>
    Lf.of (mE ia) re rs (Step.refl _ _) h fun d s1 v H1 ι1 st1 rs1 rd1 re1 h1 => by
      split at h1
      · rename_i b q
        exact ⟨b, truA rs1 rd1 q, okG.go h1 st1 rs1 rfl⟩
      · exact h1.elim
theorem se_and {rest : List Expr} (ha : PE X a (aE X W md P n ia)) (hb : PE X (.BoolOp .And (b :: rest) pos) (aE X W md P n ib)) : PE X (.BoolOp .And (a :: b :: rest) pos) (aE X W md P n (.and ia ib)) :=
  peI (pe_andT ha hb) fun σ H Q ⟨ρ, s, ι, re, rs, h⟩ =>
    Lf.of (mE ia) re rs (Step.refl _ _) h fun d s1 v H1 ι1 st1 rs1 rd1 re1 h1 => by
      split at h1
      · rename_i q
        refine ⟨true, truA rs1 rd1 q, ?_⟩
        rw [if_pos rfl]
        exact Lf.of (mE ib) re1 rs1 st1 h1 fun d2 s2 v2 H2 ι2 st2 rs2 rd2 re2 h2 => okG.go h2 (st1.trans st2) rs2 rd2
      · rename_i q
        refine ⟨false, truA rs1 rd1 q, ?_⟩
        rw [if_neg Bool.false_ne_true]
        exact okG.go h1 st1 rs1 rd1
      · exact h1.elim
theorem se_or {rest : List Expr} (ha : PE X a (aE X W md P n ia)) (hb : PE X (.BoolOp .Or (b :: rest) pos) (aE X W md P n ib)) : PE X (.BoolOp .Or (a :: b :: rest) pos) (aE X W md P n (.or ia ib)) :=
  peI (pe_orT ha hb) fun σ H Q ⟨ρ, s, ι, re, rs, h⟩ =>
    Lf.of (mE ia) re rs (Step.refl _ _) h fun d s1 v H1 ι1 st1 rs1 rd1 re1 h1 => by
      split at h1
      · rename_i q
        refine ⟨true, truA rs1 rd1 q, ?_⟩
        rw [if_pos rfl]
        exact okG.go h1 st1 rs1 rd1
      · rename_i q
        refine ⟨false, truA rs1 rd1 q, ?_⟩
        rw [if_neg Bool.false_ne_true]
        exact Lf.of (mE ib) re1 rs1 st1 h1 fun d2 s2 v2 H2 ι2 st2 rs2 rd2 re2 h2 => okG.go h2 (st1.trans st2) rs2 rd2
      · exact h1.elim
theorem se_ite {t : Expr} {it : PI.Te} (ht : PT X t (aT X W md P n it)) (ha : PE X a (aE X W md P n ia)) (hb : PE X b (aE X W md P n ib)) : PE X (.IfExp t a b pos) (aE X W md P n (.ite it ia ib)) :=
  peI (pe_ifExp ht ha hb) fun σ H Q ⟨ρ, s, ι, re, rs, h⟩ =>
    Lf.of (mT it) re rs (Step.refl _ _) h fun d s1 k H1 ι1 st1 rs1 rd1 re1 h1 => by
      obtain rfl := rd1
      cases k with
      | true =>
        rw [if_pos rfl] at h1 ⊢
        exact Lf.of (mE ia) re1 rs1 st1 h1 fun d2 s2 v2 H2 ι2 st2 rs2 rd2 re2 h2 => okG.go h2 (st1.trans st2) rs2 rd2
      | false =>
        rw [if_neg Bool.false_ne_true] at h1 ⊢
        exact Lf.of (mE ib) re1 rs1 st1 h1 fun d2 s2 v2 H2 ι2 st2 rs2 rd2 re2 h2 => okG.go h2 (st1.trans st2) rs2 rd2
/-! ### tests -/
theorem st_not {t : Expr} {it : PI.Te} (ht : PT X t (aT X W md P n it)) : PT X (.UnaryOp .Not t pos) (aT X W md P n (.not it)) :=
  ptI (pt_not ht) fun σ H Q ⟨ρ, s, ι, re, rs, h⟩ =>
    Lf.of (mT it) re rs (Step.refl _ _) h fun d s1 k H1 ι1 st1 rs1 rd1 re1 h1 => by
      obtain rfl := rd1
      exact okG.go h1 st1 rs1 rfl
theorem st_and {t u : Expr} {rest : List Expr} {it iu : PI.Te} (ht : PT X t (aT X W md P n it)) (hu : PW X (.BoolOp .And (u :: rest) pos) (aT X W md P n iu)) : PW X (.BoolOp .And (t :: u :: rest) pos) (aT X W md P n (.and it iu)) :=
  pwI (pw_and ht hu) fun σ H Q ⟨ρ, s, ι, re, rs, h⟩ =>
    Lf.of (mT it) re rs (Step.refl _ _) h fun d s1 k H1 ι1 st1 rs1 rd1 re1 h1 => by
      obtain rfl := rd1
      cases k with
      | true =>
        rw [if_pos rfl] at h1 ⊢
        exact Lf.of (mT iu) re1 rs1 st1 h1 fun d2 s2 v2 H2 ι2 st2 rs2 rd2 re2 h2 => okG.go h2 (st1.trans st2) rs2 rd2
      | false =>
        rw [if_neg Bool.false_ne_true] at h1 ⊢
        exact okG.go h1 st1 rs1 rfl
theorem st_or {t u : Expr} {rest : List Expr} {it iu : PI.Te} (ht : PT X t (aT X W md P n it)) (hu : PW X (.BoolOp .Or (u :: rest) pos) (aT X W md P n iu)) : PW X (.BoolOp .Or (t :: u :: rest) pos) (aT X W md P n (.or it iu)) :=
  pwI (pw_or ht hu) fun σ H Q ⟨ρ, s, ι, re, rs, h⟩ =>
    Lf.of (mT it) re rs (Step.refl _ _) h fun d s1 k H1 ι1 st1 rs1 rd1 re1 h1 => by
      obtain rfl := rd1
      cases k with
      | true =>
        rw [if_pos rfl] at h1 ⊢
        exact okG.go h1 st1 rs1 rfl
      | false =>
        rw [if_neg Bool.false_ne_true] at h1 ⊢
        exact Lf.of (mT iu) re1 rs1 st1 h1 fun d2 s2 v2 H2 ι2 st2 rs2 rd2 re2 h2 => okG.go h2 (st1.trans st2) rs2 rd2
theorem st_ex (ha : PE X a (aE X W md P n ia)) (he : ∀ whole, isTrue a X.env whole = (do let v ← whole; standAt a.pos; holding [v] (truthy v))) : PT X a (aT X W md P n (.ex ia)) :=
  ptI (pt_truth ha he) fun σ H Q ⟨ρ, s, ι, re, rs, h⟩ =>
    Lf.of (mE ia) re rs (Step.refl _ _) h fun d s1 v H1 ι1 st1 rs1 rd1 re1 h1 => by
      split at h1
      · rename_i b q
        exact ⟨b, truA rs1 rd1 q, okG.go h1 st1 rs1 rfl⟩
      · exact h1.elim
/-! ### lists of expressions -/
def NoStar (es : List Expr) (env : Env) : Prop := starEach es env = es.map fun e => (false, eval e env)
theorem noStar_cons {e : Expr} {es : List Expr} {env : Env} (h : NoStar (e :: es) env) : starEach (e :: es) env = (false, eval e env) :: starEach es env := by
  cases e <;> first | rfl | (simp [NoStar, starEach] at h)
theorem noStar_tail {e : Expr} {es : List Expr} {env : Env} (h : NoStar (e :: es) env) : NoStar es env := by
  have q := noStar_cons h
  unfold NoStar at h ⊢
  rw [q] at h
  exact (List.cons.inj h).2
theorem noStar_pl {es : List Expr} {env : Env} (h : NoStar es env) {pos : Pos} : (backTo pos (starEach es env)).any (·.1) = false := by
  rw [h]
  unfold backTo
  rw [List.any_map, List.any_map]
  induction es with
  | nil => rfl
  | cons a r ih => rw [List.any_cons, ih (noStar_tail h)]; rfl
theorem sl_nil : PA X [] (aL X W md P n []) := paI pa_nil fun σ H Q ⟨ρ, s, ι, re, rs, h⟩ => okG.here h rs rfl
theorem sl_cons {es : List Expr} {l : List PI.Ex} (ha : PE X a (aE X W md P n ia)) (hl : PA X es (aL X W md P n l)) (ns : starEach (a :: es) X.env = (false, eval a X.env) :: starEach es X.env) : PA X (a :: es) (aL X W md P n (ia :: l)) :=
  paI (pa_cons ha hl ns) fun σ H Q ⟨ρ, s, ι, re, rs, h⟩ =>
    Lf.of (mE ia) re rs (Step.refl _ _) h fun d s1 v H1 ι1 st1 rs1 rd1 re1 h1 =>
      Lf.of (mL l) re1 rs1 st1 h1 fun d2 s2 v2 H2 ι2 st2 rs2 rd2 re2 h2 => okG.go h2 (st1.trans st2) rs2 ⟨_, _, rfl, RD.step st2 rs1.lo _ rd1, rd2⟩
theorem ra_nil {H : Hp} {ι : List Addr} : RA X.K X.mg md H ι H [] [] := ⟨rfl, fun i sl e => by simp at e⟩
theorem ra_cons {H : Hp} {ι : List Addr} {sl : PI.Sl} {v : V} {as : List PI.Sl} {vs : List V} (h : RSlot X.K X.mg H ι md sl (some (some v))) (r : RA X.K X.mg md H ι H as vs) : RA X.K X.mg md H ι H (sl :: as) (v :: vs) := by
  refine ⟨by have := r.len; simp at this ⊢; exact this, fun i sl' e => ?_⟩
  cases i with
  | zero =>
    simp at e; subst e
    simpa using h
  | succ i => exact r.at_ i sl' (by simpa using e)
theorem sa_nil : PA X [] (aA X W md P n []) := paI pa_nil fun σ H Q ⟨ρ, s, ι, re, rs, h⟩ => okG.here h rs ra_nil
theorem sa_ex {es : List Expr} {l : List PI.Ar} (ha : PE X a (aE X W md P n ia)) (hl : PA X es (aA X W md P n l)) (ns : starEach (a :: es) X.env = (false, eval a X.env) :: starEach es X.env) : PA X (a :: es) (aA X W md P n (.ex ia :: l)) :=
  paI (pa_cons ha hl ns) fun σ H Q ⟨ρ, s, ι, re, rs, h⟩ =>
    Lf.of (mE ia) re rs (Step.refl _ _) h fun d s1 v H1 ι1 st1 rs1 rd1 re1 h1 =>
      Lf.of (mA l) re1 rs1 st1 h1 fun d2 s2 v2 H2 ι2 st2 rs2 rd2 re2 h2 => okG.go h2 (st1.trans st2) rs2 (ra_cons ⟨v, rfl, RD.step st2 rs1.lo _ rd1⟩ rd2)
theorem sa_nm (G : GX P n md W N sc X) {x : Str} {i : Nat} (e : PTr.slot N sc x = some i) {es : List Expr} {l : List PI.Ar} (hl : PA X es (aA X W md P n l)) : PA X (.Name x pos :: es) (aA X W md P n (.nm i :: l)) :=
  paI (pa_cons (G.var e) hl rfl) fun σ H Q ⟨ρ, s, ι, re, rs, h⟩ => by
    simp only [PI.wpA, PI.wpX] at h
    split at h
    · rename_i d q
      obtain ⟨v, hv, hr⟩ := re.at_ i _ q
      refine ⟨v, hv, ?_⟩
      exact Lf.of (mA l) re rs (Step.refl _ _) h fun d2 s2 v2 H2 ι2 st2 rs2 rd2 re2 h2 => okG.go h2 st2 rs2 (ra_cons ⟨v, rfl, RD.step st2 rs.lo _ hr⟩ rd2)
    · rename_i c fs q
      obtain ⟨p, C, d, z1, z2, z3, z4, z5⟩ := re.at_ i _ q
      refine ⟨_, z2, ?_⟩
      exact Lf.of (mA l) re rs (Step.refl _ _) h.2 fun d2 s2 v2 H2 ι2 st2 rs2 rd2 re2 h2 => okG.go h2 st2 rs2 (ra_cons ⟨p, C, d, z1, rfl, z3, z4, z5.step st2 rs.lo⟩ rd2)
    · exact h.elim
theorem so_none : PO X none (aO X W md P n none) := poI po_none fun σ H Q ⟨ρ, s, ι, re, rs, h⟩ => okG.here h rs rfl
theorem so_some (ha : PE X a (aE X W md P n ia)) : PO X (some a) (aO X W md P n (some ia)) :=
  poI (po_some ha) fun σ H Q ⟨ρ, s, ι, re, rs, h⟩ =>
    Lf.of (mE ia) re rs (Step.refl _ _) h fun d s1 v H1 ι1 st1 rs1 rd1 re1 h1 => by
      split at h1
      · obtain rfl := (rd1 : v = V.int _)
        exact ⟨_, rfl, okG.go h1 st1 rs1 rfl⟩
      · exact h1.elim
end
end PSd

set_option Elab.async false
set_option linter.all false
set_option maxRecDepth 100000
set_option maxHeartbeats 4000000
namespace PSd
open PySem PySem.Spec PyProof.Rows L2

/-! ### enumerate of a tuple -/
set_option maxHeartbeats 4000000 in
theorem meets_enum1 {v : Value} {o : Obj} {Hh : Heap → Prop} (B : Begins v o Hh) :
    Meets (Builtin.«enumerate.__new__» ⟨[.type "enumerate", v], []⟩) (fun _ R s => Hh s.heap ∧
      R (.ok (.ret (.ref (s.heap.push o).objs.size))) { s with heap := (s.heap.push o).push ⟨.type "enumerate", none, .fields #[.none, .bool false, .ref s.heap.objs.size, rawInt 0, .none, .none], #[]⟩ }) :=
  .of_wp fun pr ww AA RR ss hh => by
    obtain ⟨hp, gg, dd, tk, oos⟩ := ss
    obtain ⟨h1, hfin⟩ := hh
    have hsubE := sub_enumerate
    have qit : ∀ {A' : Around} {E : Value → Shared → Prop} {Q : Value → Shared → Prop}, Q (.ref hp.objs.size) ⟨hp.push o, gg, dd, tk, oos⟩ → wpAny (model pr ww) A' (pyIter v) Q E ⟨hp, gg, dd, tk, oos⟩ :=
      fun q => B.iter pr ww _ _ ⟨hp, gg, dd, tk, oos⟩ _ h1 q
    wp_walk using qit
    refine wpAny_stack_any fun stk => wpAny_pure ?_
    split
    · rename_i cc _ _ _ _ _
      cases (cc == Value.type "enumerate")
      all_goals
        wp_walk using qit
        exact ⟨_, rfl, hfin⟩
    · wp_walk using qit
      exact ⟨_, rfl, hfin⟩
theorem call_enumT {pr : Program} {ww : World} {A : Around} {E : Value → Shared → Prop} {s : Shared} {a : Addr} {items : Array Value} {Q : Value → Shared → Prop} (ht : s.heap.IsTuple a items)
    (fin : ∀ h', IsEnum h' (s.heap.objs.size + 1) s.heap.objs.size 0 .none → h'.IsTupleIter s.heap.objs.size a 0 → (∀ b u, s.heap.get? b = some u → h'.get? b = some u) → Q (.ref (s.heap.objs.size + 1)) { s with heap := h' }) :
    wpAny (model pr ww) A (call (.type "enumerate") [.ref a]) Q E s := by
  refine callType_new PySem.F.called_enumerate (by decide) (PySem.F.typeCall_enumerate_1 _) (PySem.F.newCall_enumerate_1 _) (fun ob => PySem.F.args_object_init_2 ob _) PySem.F.entry_enumerate_new (meets_enum1 (begins_tuple a items)) ⟨ht, ?_⟩
  have hz : (s.heap.push ⟨.type "tuple_iterator", none, .fields #[.ref a, .int 0 0], #[]⟩).objs.size = s.heap.objs.size + 1 := Heap.size_push ..
  show _ ∧ _
  rw [hz]
  have hen : IsEnum ((s.heap.push ⟨.type "tuple_iterator", none, .fields #[.ref a, .int 0 0], #[]⟩).push ⟨.type "enumerate", none, .fields #[.none, .bool false, .ref s.heap.objs.size, rawInt 0, .none, .none], #[]⟩) (s.heap.objs.size + 1) s.heap.objs.size 0 .none := by
    have z := Heap.get?_push_size (s.heap.push ⟨.type "tuple_iterator", none, .fields #[.ref a, .int 0 0], #[]⟩) (o := ⟨.type "enumerate", none, .fields #[.none, .bool false, .ref s.heap.objs.size, rawInt 0, .none, .none], #[]⟩) rfl
    rw [hz] at z
    exact z
  exact ⟨⟨_, hen, rfl⟩, fin _ hen ⟨_, Heap.get?_push_of_some _ (Heap.get?_push_size _ rfl), rfl, rfl⟩ fun b u z => Heap.get?_push_of_some _ (Heap.get?_push_of_some _ z)⟩
/-- the tuple at a, each item in a new pair -/
def ItE (K : PySem.W.Frag) (a : Addr) : It where
  go := fun i H => ∃ (xs : List V) (x : V), SqT K H a xs ∧ xs[i]? = some x
  yld := fun i H v H' => ∃ T x, v = .ref T ∧ H T = none ∧ H' = upd H T (.tup [.int (i : Nat), x]) ∧ ∀ xs, SqT K H a xs → xs[i]? = some x
  stop := fun i H => ∃ xs : List V, SqT K H a xs ∧ xs.length ≤ i
theorem turn_enumT {P0 : Program} {w : World} {K : PySem.W.Frag} {elts : List Expr} {kk : Nat} {tpos : Pos} (a e it : Addr) :
    Turn P0 w K (.Tuple elts kk tpos) (ItE K a) [e, it] e (fun i h => (∃ old, IsEnum h e it ((i : Nat) : Int) old) ∧ h.IsTupleIter it a i ∧ e ≠ it ∧ a ≠ it ∧ a ≠ e) where
  mem := by simp
  obj := fun i h st b hb => by
    obtain ⟨⟨old, he⟩, ⟨o, ho, hc, hd⟩, _⟩ := st
    rcases (show b = e ∨ b = it by simpa using hb) with rfl | rfl
    · exact ⟨_, he, fun v q => nomatch q⟩
    · exact ⟨o, ho, fun v q => by rw [hd] at q; cases q⟩
  keep := fun i h h' st k => by
    obtain ⟨⟨old, he⟩, hi, ne1, ne2, ne3⟩ := st
    exact ⟨⟨old, k e (by simp) _ he⟩, hi.at fun o q => k it (by simp) o q, ne1, ne2, ne3⟩
  item := by
    intro X hP hw hK hc i pins s σ H E I hf st hg
    subst hP hw hK
    obtain ⟨⟨old, he⟩, hit, ne1, ne2, ne3⟩ := st
    obtain ⟨xs, x, hq, hx⟩ := hg
    obtain ⟨its, rv, p, hz⟩ := I.tuple hq
    have hlen := rv.length
    have hi : i < its.toArray.size := by
      have := (List.getElem?_eq_some_iff.mp hx).1
      simp only [List.size_toArray]; omega
    have hel : e < s.heap.objs.size := Heap.lt_size he
    have hil : it < s.heap.objs.size := by obtain ⟨_, q, _⟩ := hit; exact Heap.lt_size q
    have D := Draws.tuple (prog := X.prog) (w := X.w) (A := X.A.in1) (I.ok.hd hc) it a ne2 its.toArray
    refine wpAny_pyNext_enum_itemC D he ⟨hit, p⟩ hi ne1 (by simp [ne1, Ne.symm ne3]) fun u h' tk hu ho hit' hT hsz hk => ?_
    have ru : RelV x u := by
      obtain ⟨u', hu', r'⟩ := rv.get hx
      have : its[i]? = some u := by simpa using hu
      rw [hu'] at this; cases this
      exact r'
    refine ⟨_, rfl, wpAny_letOwnedTupleGo_enum (s := { s with heap := h', toks := tk + 1 }) ho fun h'' he' sb => ?_⟩
    have hT2 := (sb.2 s.heap.objs.size (Nat.ne_of_gt hel)).trans hT
    have new : ObjOk X.prog X.w (upd H s.heap.objs.size (.tup [.int (i : Nat), x])) h'' s.heap.objs.size (.tup [.int (i : Nat), x]) :=
      ⟨by show 2 ≤ sizeLine; decide, [.int i tk, u], Paired.cons ⟨_, rfl⟩ (Paired.cons ru Paired.nil), ⟨_, hT2, rfl, _, rfl⟩⟩
    have keepAll : ∀ b ob, b ∉ [e, it] → s.heap.get? b = some ob → h''.get? b = some ob := fun b ob hb q => by
      have b1 : b ≠ e := fun z => hb (by simp [z])
      have b2 : b ≠ it := fun z => hb (by simp [z])
      exact (sb.2 b b1).trans (hk b ob b1 b2 q)
    have I1 : Inv X pins σ (upd H s.heap.objs.size (.tup [.int (i : Nat), x])) { s with heap := h'', toks := tk + 1 } := I.turnedNew (ch := [e, it]) keepAll hf (Nat.le_refl _) new
    refine ⟨.ref s.heap.objs.size, _, I1, rfl, ⟨_, x, rfl, I.hok.fresh (Nat.le_refl _), rfl, fun ys hy => by rw [I.tuple_inj hy hq]; exact hx⟩, ⟨⟨u, ?_⟩, hit'.1.at fun o q => (sb.2 it (Ne.symm ne1)).trans q, ne1, ne2, ne3⟩, fun b hb => ?_⟩
    · rw [show ((i + 1 : Nat) : Int) = (i : Int) + 1 by omega]
      exact he'
    · have hb' : b < s.heap.objs.size := by
        rcases (show b = e ∨ b = it by simpa using hb) with rfl | rfl <;> assumption
      rw [upd_ne (Nat.ne_of_lt hb')]
      exact (hf b hb).1
  done := by
    intro X hP hw hK hc i pins s σ H E I hf st hg
    subst hP hw hK
    obtain ⟨⟨old, he⟩, hit, ne1, ne2, ne3⟩ := st
    obtain ⟨xs, hq, hx⟩ := hg
    obtain ⟨its, rv, p, hz⟩ := I.tuple hq
    obtain ⟨f0, f1, f2, f3, f4, f5⟩ := hf it (by simp)
    have hlen := rv.length
    have hd := I.ok.hd hc
    have hT : s.TypeIs (.ref e) "enumerate" := ⟨_, he, rfl⟩
    unfold pyNext
    refine wpAny_bind (wpAny_attempt (wpAny_callSpecial?_slot (name := Str.ofString "__next__") hT PySem.F.slot_enumerate_next (wpAny_call_entry PySem.F.slot_enumerate_next hT PySem.F.entry_enumerate_next ?_ (PySem.F.args_enumerate_next_1 _))))
    show wpAny _ _ (field (.ref e) 2 >>= _) _ _ _
    refine wpAny_bind (wpAny_field he rfl (x := .ref it) rfl ?_)
    refine wpAny_bind (wpAny_nextOf_tuple_end (A := X.A.in1) hd hit p (by simp; omega) fun h' x he' hx' => ?_)
    obtain ⟨o, ho, hcl⟩ := hx'
    refine wpAny_bind (wpAny_isInstance (T := "StopIteration") (b := true) ⟨o, ho, hcl⟩ isSubtype_stop ?_)
    exact wpAny_pure ⟨rfl, I.turned (t' := s.toks) (fun b o hb q => he' b o hb q) f0 f1 f3 f4 f5⟩
  self := fun A i s Q E st h => by
    obtain ⟨⟨_, he⟩, _⟩ := st
    exact wpAny_pyIter_enum he h
end PSd

set_option Elab.async false
set_option linter.all false
set_option maxRecDepth 100000
set_option maxHeartbeats 4000000
namespace PSd
open PySem PySem.Spec PyProof.Rows L2

/-! ### plain facts -/
theorem minL_spec : ∀ (l : List Int) (m : Int), PI.minL m l ∈ m :: l ∧ (∀ y ∈ m :: l, PI.minL m l ≤ y)
  | [], m => ⟨by simp [PI.minL], fun y h => by simp [PI.minL] at h ⊢; omega⟩
  | x :: r, m => by
    unfold PI.minL
    by_cases hx : x < m
    · rw [if_pos hx]
      obtain ⟨h1, h2⟩ := minL_spec r x
      refine ⟨List.mem_cons_of_mem _ h1, fun y hy => ?_⟩
      rcases List.mem_cons.mp hy with rfl | hy
      · exact Int.le_trans (h2 x List.mem_cons_self) (by omega)
      · exact h2 y hy
    · rw [if_neg hx]
      obtain ⟨h1, h2⟩ := minL_spec r m
      refine ⟨?_, fun y hy => ?_⟩
      · rcases List.mem_cons.mp h1 with z | z
        · rw [z]; exact List.mem_cons_self
        · exact List.mem_cons_of_mem _ (List.mem_cons_of_mem _ z)
      · rcases List.mem_cons.mp hy with rfl | hy
        · exact h2 _ List.mem_cons_self
        · rcases List.mem_cons.mp hy with rfl | hy
          · exact Int.le_trans (h2 m List.mem_cons_self) (by omega)
          · exact h2 y (List.mem_cons_of_mem _ hy)
theorem maxL_spec : ∀ (l : List Int) (m : Int), PI.maxL m l ∈ m :: l ∧ (∀ y ∈ m :: l, y ≤ PI.maxL m l)
  | [], m => ⟨by simp [PI.maxL], fun y h => by simp [PI.maxL] at h ⊢; omega⟩
  | x :: r, m => by
    unfold PI.maxL
    by_cases hx : m < x
    · rw [if_pos hx]
      obtain ⟨h1, h2⟩ := maxL_spec r x
      refine ⟨List.mem_cons_of_mem _ h1, fun y hy => ?_⟩
      rcases List.mem_cons.mp hy with rfl | hy
      · exact Int.le_trans (by omega) (h2 x List.mem_cons_self)
      · exact h2 y hy
    · rw [if_neg hx]
      obtain ⟨h1, h2⟩ := maxL_spec r m
      refine ⟨?_, fun y hy => ?_⟩
      · rcases List.mem_cons.mp h1 with z | z
        · rw [z]; exact List.mem_cons_self
        · exact List.mem_cons_of_mem _ (List.mem_cons_of_mem _ z)
      · rcases List.mem_cons.mp hy with rfl | hy
        · exact h2 _ List.mem_cons_self
        · rcases List.mem_cons.mp hy with rfl | hy
          · exact Int.le_trans (by omega) (h2 m List.mem_cons_self)
          · exact h2 y (List.mem_cons_of_mem _ hy)
theorem insI_perm (x : Int) : ∀ l : List Int, (PI.insI x l).Perm (x :: l)
  | [] => List.Perm.refl _
  | y :: r => by
    unfold PI.insI
    split
    · exact List.Perm.refl _
    · exact ((insI_perm x r).cons y).trans (List.Perm.swap x y r)
theorem sortI_perm : ∀ l : List Int, (PI.sortI l).Perm l
  | [] => List.Perm.refl _
  | x :: r => (insI_perm x _).trans ((sortI_perm r).cons x)
theorem insI_sorted (x : Int) : ∀ l : List Int, l.Pairwise (· ≤ ·) → (PI.insI x l).Pairwise (· ≤ ·)
  | [], _ => by simp [PI.insI]
  | y :: r, h => by
    unfold PI.insI
    obtain ⟨h1, h2⟩ := List.pairwise_cons.mp h
    split
    · rename_i hxy
      refine List.pairwise_cons.mpr ⟨fun z hz => ?_, h⟩
      rcases List.mem_cons.mp hz with rfl | hz
      · exact hxy
      · exact Int.le_trans hxy (h1 z hz)
    · rename_i hxy
      refine List.pairwise_cons.mpr ⟨fun z hz => ?_, insI_sorted x r h2⟩
      rcases List.mem_cons.mp ((insI_perm x r).mem_iff.mp hz) with rfl | hz
      · omega
      · exact h1 z hz
theorem sortI_sorted : ∀ l : List Int, (PI.sortI l).Pairwise (· ≤ ·)
  | [] => List.Pairwise.nil
  | x :: r => insI_sorted x _ (sortI_sorted r)
theorem sorted_one : ∀ {l k : List Int}, l.Perm k → l.Pairwise (· ≤ ·) → k.Pairwise (· ≤ ·) → l = k
  | [], k, p, _, _ => by rw [List.Perm.nil_eq p]
  | x :: r, [], p, _, _ => by have := p.length_eq; simp at this
  | x :: r, y :: t, p, h, g => by
    obtain ⟨h1, h2⟩ := List.pairwise_cons.mp h
    obtain ⟨g1, g2⟩ := List.pairwise_cons.mp g
    have e : x = y := by
      have a : y ≤ x := by
        rcases List.mem_cons.mp (p.mem_iff.mp (List.mem_cons_self : x ∈ x :: r)) with z | z
        · omega
        · exact g1 x z
      have b : x ≤ y := by
        rcases List.mem_cons.mp (p.mem_iff.mpr (List.mem_cons_self : y ∈ y :: t)) with z | z
        · omega
        · exact h1 y z
      omega
    subst e
    rw [sorted_one (List.Perm.cons_inv p) h2 g2]
theorem cutV_all {vs : List V} {lo hi : Option Int} (h1 : HT.sIx vs.length 0 lo = 0) (h2 : HT.sIx vs.length vs.length hi = vs.length) : cutV vs lo hi = vs := by
  unfold cutV
  rw [h1, h2]; simp

/-! ### sum of a tuple -/
theorem sum_tup {pr : Program} {w : World} {A : Around} {E : Value → Shared → Prop} {s : Shared} {a : Addr} {its : List Value} {ns : List Int} {Q : Value → Shared → Prop} (hh : A.handled = none) (ht : s.heap.IsTuple a its.toArray) (hi : IntsAre its ns)
    (h : ∀ h' tk t', (∀ b o, s.heap.get? b = some o → h'.get? b = some o) → Q (.int ns.sum t') { s with heap := h', toks := tk }) : wpAny (model pr w) A (call (.builtin "sum") [.ref a]) Q E s := by
  obtain ⟨xs, e⟩ := hi.allInts.items
  have hn : numsOf (intItems xs).toList = ns := by rw [← e]; exact hi.numsOf
  rw [nums_intItems] at hn
  rw [e] at ht
  have hlt : a < s.heap.objs.size := by obtain ⟨_, q, _⟩ := ht; exact Heap.lt_size q
  have ht2 : (s.heap.push ⟨.type "tuple_iterator", none, .fields #[.ref a, .int 0 0], #[]⟩).IsTuple a (intItems xs) := by
    obtain ⟨o, q, r⟩ := ht
    exact ⟨o, Heap.get?_push_of_some _ q, r⟩
  refine call_sum_walkG (wpAny_pyIter_tuple ht ⟨_, _, _, _, _, _, numAt xs, rfl, Walks.tuple (A := A.in1) hh _ a (Nat.ne_of_lt hlt) (intItems xs), ⟨⟨_, Heap.get?_push_size _ rfl, rfl, rfl⟩, ht2⟩, fun b hb => ?_, (fun _ _ => intItems_at), fun h' tk t' hk => ?_⟩)
  · show b < (s.heap.push _).objs.size
    rw [Heap.size_push]
    rcases (show b = s.heap.objs.size ∨ b = a by simpa using hb) with rfl | rfl
    · exact Nat.lt_succ_self _
    · exact Nat.lt_succ_of_lt hlt
  · have q := h h' tk t' fun b o e => hk b o (fun hm => by
      have : b = s.heap.objs.size := by simpa using hm
      rw [this] at e
      exact absurd (Heap.lt_size e) (Nat.lt_irrefl _)) (Heap.get?_push_of_some _ e)
    have sz : (intItems xs).size = xs.size := by simp [intItems]
    rw [sz, preSum_eq, List.take_of_length_le (by simp), hn]
    exact q
section
variable {X : Cx}
/-- sum(xs) of a list or tuple of ints -/
theorem cr_sumA (hc : X.calm = true) : CallR X (.builtin "sum") (fun vs H Q => ∃ (a : Addr) (ns : List Int), vs = [.ref a] ∧ (SqL X.K H a (ns.map V.int) ∨ SqT X.K H a (ns.map V.int)) ∧ Q (.int ns.sum) H) := by
  intro pins s σ H vs us Q I r ⟨a, ns, e, h, q⟩
  rcases h with h | h
  · exact cr_sum hc pins s σ H vs us Q I r ⟨a, ns, e, h, q⟩
  · subst e
    obtain ⟨its, rv, ht, _⟩ := I.tuple h
    rw [Vals.ref1 r]
    exact sum_tup (I.ok.hd hc) ht rv.ints fun h' tk t' hk => ⟨.int _, H, I.kept hk, ⟨_, rfl⟩, q⟩
end
end PSd

set_option Elab.async false
set_option linter.all false
set_option maxRecDepth 100000
set_option maxHeartbeats 4000000
/-! sorted of a list or tuple of tuples of ints, any number of them -/
namespace SrtTI
open PySem PyProof.Rows SrtO Srt
section
variable {prog : Program} {w : World} {A : Around} {E : Value → Shared → Prop} {s : Shared}
abbrev sh0 : Nat → Bool := fun _ => false
def ky (h : Heap) (v : Value) : List (Int ⊕ List Nat) := (tupKey h sh0 v).getD []
def ltT (h : Heap) (v u : Value) : Bool := lexLt itemOrd (ky h v) (ky h u)
theorem swo_t (h : Heap) : Swo (ltT h) := by
  refine ⟨fun x y h1 => ?_, fun x y z h1 h2 => ?_⟩
  · cases q : ltT h y x with
    | false => rfl
    | true =>
      have := lex_trans _ _ _ h1 q
      rw [lex_irrefl] at this; cases this
  · cases q : ltT h z x with
    | false => rfl
    | true =>
      rcases lex_negTrans (O := itemOrd) (ky h z) (ky h y) (ky h x) q with a | a
      · have h2 : lexLt itemOrd (ky h z) (ky h y) = false := h2
        rw [h2] at a; cases a
      · have h1 : lexLt itemOrd (ky h y) (ky h x) = false := h1
        rw [h1] at a; cases a
/-- v is a tuple of these ints, one at least -/
structure TI (h : Heap) (v : Value) (ns : List Int) : Prop where
  ex : ∃ (a : Addr) (its : List Value) (o : Obj) (n : Nat), v = .ref a ∧ h.get? a = some o ∧ o.cls = .type "tuple" ∧ o.data = .seq its.toArray n ∧ IntsAre its ns
  ne : ns ≠ []
theorem items_of : ∀ {its : List Value} {ns : List Int} (i : Nat), IntsAre its ns → tupItems sh0 i its = some (ns.map Sum.inl)
  | _, _, _, .nil => rfl
  | _, _, i, .cons n t r => by
    show (if sh0 i = true then none else (tupItems sh0 (i + 1) _).map (Sum.inl n :: ·)) = _
    rw [if_neg Bool.false_ne_true, items_of (i + 1) r]
    rfl
theorem TI.key {h : Heap} {v : Value} {ns : List Int} (t : TI h v ns) : tupKey h sh0 v = some (ns.map Sum.inl) := by
  obtain ⟨a, its, o, n, rfl, ho, hc, hd, hi⟩ := t.ex
  show (match h.get? a with
    | some o => (match o.data with
      | .seq xs _ => tupItems sh0 0 xs.toList
      | _ => none)
    | none => none) = _
  rw [ho]
  show (match o.data with
      | .seq xs _ => tupItems sh0 0 xs.toList
      | _ => none) = _
  rw [hd]
  exact items_of 0 hi
theorem TI.keeps {h h' : Heap} {v : Value} {ns : List Int} (t : TI h v ns) (k : ∀ b o, o.cls = .type "tuple" → h.get? b = some o → h'.get? b = some o) : TI h' v ns := by
  obtain ⟨a, its, o, n, rfl, ho, hc, hd, hi⟩ := t.ex
  exact ⟨⟨a, its, o, n, rfl, k _ _ hc ho, hc, hd, hi⟩, t.ne⟩
theorem lexI_inl : ∀ (ns ms : List Int), lexLt itemOrd (ns.map Sum.inl) (ms.map Sum.inl) = PI.lexI ns ms
  | [], [] => rfl
  | [], _ :: _ => rfl
  | _ :: _, [] => rfl
  | x :: xs, y :: ys => by
    show lexLt itemOrd (Sum.inl x :: xs.map Sum.inl) (Sum.inl y :: ys.map Sum.inl) = if x = y then PI.lexI xs ys else decide (x < y)
    by_cases e : x = y
    · subst e
      rw [if_pos rfl, lex_self, lexI_inl xs ys]
    · rw [if_neg e, lex_diff fun z => e (Sum.inl.inj z)]
      rfl
theorem TI.lt {h : Heap} {v u : Value} {ns ms : List Int} (t : TI h v ns) (r : TI h u ms) : ltT h v u = PI.lexI ns ms := by
  unfold ltT ky
  rw [t.key, r.key]
  exact lexI_inl ns ms
theorem tupsOf : ∀ {vs : List Value}, (∀ v ∈ vs, ∃ ns, TI s.heap v ns) → ∃ fs, TupsOf s.heap sh0 vs fs ∧ fs.length = vs.length
  | [], _ => ⟨[], .nil, rfl⟩
  | v :: vs, h => by
    obtain ⟨fs, h1, h2⟩ := tupsOf (vs := vs) fun u hu => h u (List.mem_cons_of_mem _ hu)
    obtain ⟨ns, t⟩ := h v List.mem_cons_self
    obtain ⟨a, its, o, n, rfl, ho, hc, hd, hi⟩ := t.ex
    cases hi with
    | nil => exact absurd rfl t.ne
    | cons m tk r => exact ⟨_ :: fs, .cons ⟨a, o, _, n, rfl, ho, hc, hd, rfl, fun _ => ⟨m, tk, rfl⟩, fun z => by cases z⟩ h1, by rw [List.length_cons, List.length_cons, h2]⟩
theorem sortable {a : Addr} {vs : List Value} (h0 : 0 < vs.length) (hp : ∀ v ∈ vs, ∃ ns, TI s.heap v ns) (ha : ∀ o, s.heap.get? a = some o → o.cls ≠ .type "tuple") (h0' : Heap) (he : ∀ v ∈ vs, ∀ ns, TI s.heap v ns → TI h0' v ns) :
    SortableO prog w A s a vs (ltT h0') := by
  intro h' keep
  have hk : ∀ b o, o.cls = .type "tuple" → s.heap.get? b = some o → h'.get? b = some o := fun b o c e => keep b o (fun z => by subst z; exact ha o e c) e
  have hp' : ∀ v ∈ vs, ∃ ns, TI h' v ns := fun v hm => (hp v hm).imp fun ns t => t.keeps hk
  obtain ⟨fs, h1, h2⟩ := tupsOf (s := { s with heap := h' }) hp'
  refine ⟨tuples' true, fun Q E hq => tup_kind (s := { s with heap := h' }) (by omega) h1 hq, fun p q hm hm' => ?_⟩
  obtain ⟨ns, t⟩ := hp _ hm
  obtain ⟨ms, r⟩ := hp _ hm'
  have t1 := t.keeps hk
  have r1 := r.keeps hk
  refine tup_ltAt (shape := sh0) (s := { s with heap := h' }) true A _ p.1 q.1 _ _ t1.key r1.key ⟨rfl, ?_⟩
  show lexLt itemOrd _ _ = ltT h0' p.1 q.1
  rw [TI.lt (he _ hm _ t) (he _ hm' _ r)]
  exact lexI_inl ns ms
theorem collect_tuple {l : Addr} {vs : List Value} {Q : List Value → Shared → Prop} (hl : s.heap.IsTuple l vs.toArray)
    (h : Q vs { s with heap := (s.heap.push (seqObj "list" #[] 0)).update s.heap.objs.size (Obj.mapSeq (· ++ vs.toArray)) }) (hsz : vs.length ≤ sizeLine) :
    wpAny (model prog w) A (collect (.ref l)) Q E s := by
  obtain ⟨o, ho, hc, n, hd⟩ := id hl
  unfold collect
  refine wpAny_bind (wpAny_runValue (codeAny_builtin entry_proto_collect' ?_))
  show wpAny _ _ (do again (.builtin "list.__iadd__" ⟨[← newList [], .ref l], []⟩)) _ _ s
  refine wpAny_bind (wpAny_newList (wpAny_pure ⟨Code.quiet_builtin _ (by decide +kernel), codeAny_builtin entry_list_iadd' ?_⟩))
  show wpAny _ _ (Builtin.List.listExtendWith (.ref s.heap.objs.size) (.ref l) (.ref s.heap.objs.size)) _ _ { s with heap := s.heap.push (seqObj "list" #[] 0) }
  unfold Builtin.List.listExtendWith
  have ho' : (s.heap.push (seqObj "list" #[] 0)).get? l = some o := Heap.get?_push_of_some _ ho
  refine wpAny_bind (wpAny_typeOf (T := "tuple") ⟨o, ho', hc⟩ ?_)
  have ht : (Value.type "tuple" == Value.type "tuple") = true := by rfl
  rw [if_pos (by rw [ht]; simp)]
  refine wpAny_bind (listItems_at ho' hd ?_)
  refine wpAny_bind (listItems_at (xs := #[]) (n := 0) (Heap.get?_push_size _ rfl) rfl ?_)
  rw [if_neg (by simp)]
  refine wpAny_bind (listUpdate_at (xs := #[]) (n := 0) (Heap.get?_push_size _ rfl) rfl ?_ (Nat.zero_le _) (by show (#[] ++ vs.toArray).size ≤ sizeLine + 1; simp only [Array.size_append, List.size_toArray, List.length_nil]; omega))
  refine wpAny_pure ?_
  show wpAny (model prog w) A (do
      let o ← load s.heap.objs.size
      match o.data with
      | .seq xs _ => pure xs.toList
      | _ => unsupported "internal:collect") Q E { s with heap := (s.heap.push (seqObj "list" #[] 0)).update s.heap.objs.size (Obj.mapSeq (· ++ vs.toArray)) }
  refine wpAny_bind (wpAny_load (get?_update_seq (Heap.get?_push_size _ rfl) _) ?_)
  show wpAny _ _ (pure ((#[] : Array Value) ++ vs.toArray).toList) Q E _
  rw [show ((#[] : Array Value) ++ vs.toArray).toList = vs by simp]
  exact wpAny_pure h
/-- sorted of a tuple -/
theorem sorted_ordT {l : Addr} {vs : List Value} {ltv : Value → Value → Bool} {Q : Value → Shared → Prop} (O : Swo ltv) (hl : s.heap.IsTuple l vs.toArray) (hz : vs.length ≤ sizeLine)
    (hS : 2 ≤ vs.length → ∀ (h₁ : Heap) (a : Addr), h₁.get? a = some (seqObj "list" vs.toArray 0) → (∀ b o, s.heap.get? b = some o → b ≠ a ∧ h₁.get? b = some o) → SortableO prog w A.in1.in1 { s with heap := h₁ } a vs ltv)
    (h : ∀ out : List Value, Srtd ltv out → Stb ltv out vs → Q (.ref (s.heap.objs.size + 1)) { s with heap := sortedAll s.heap vs out.toArray }) :
    wpAny (model prog w) A (call (.builtin "sorted") [.ref l]) Q E s := by
  refine Calls.call_function_entry kind_sorted plain_sorted entry_sorted (args_sorted1 _) ?_
  unfold Builtin.«sorted»
  refine wpAny_bind (m := checkCount "sorted" 1 1 _) (wpAny_pure ?_)
  refine wpAny_bind (collect_tuple hl ?_ hz)
  refine wpAny_bind (wpAny_newList ?_ hz)
  have hsz : ((s.heap.push (seqObj "list" #[] 0)).update s.heap.objs.size (Obj.mapSeq (· ++ vs.toArray))).objs.size = s.heap.objs.size + 1 := by
    rw [Heap.size_update, size_push']
  have hoL : (((s.heap.push (seqObj "list" #[] 0)).update s.heap.objs.size (Obj.mapSeq (· ++ vs.toArray))).push (seqObj "list" vs.toArray 0)).get? (s.heap.objs.size + 1) = some (seqObj "list" vs.toArray 0) := by
    rw [← hsz]; exact Heap.get?_push_size _ rfl
  have keep : ∀ b o, s.heap.get? b = some o → b ≠ s.heap.objs.size + 1 ∧ (((s.heap.push (seqObj "list" #[] 0)).update s.heap.objs.size (Obj.mapSeq (· ++ vs.toArray))).push (seqObj "list" vs.toArray 0)).get? b = some o := fun b o q => by
    have hlt : b < s.heap.objs.size := Heap.lt_size q
    refine ⟨Nat.ne_of_lt (Nat.lt_succ_of_lt hlt), Heap.get?_push_of_some _ ?_⟩
    rw [Heap.get?_update_ne _ _ _ _ (Nat.ne_of_lt hlt)]
    exact Heap.get?_push_of_some _ q
  show wpAny _ _ _ _ _ { s with heap := ((s.heap.push (seqObj "list" #[] 0)).update s.heap.objs.size (Obj.mapSeq (· ++ vs.toArray))).push (seqObj "list" vs.toArray 0) }
  rw [hsz]
  refine wpAny_bind (wpAny_holding (wpAny_call_entry slot_list_sort ⟨_, hoL, rfl⟩ entry_list_sort (list_sort_ord O hoL hz (fun h2 => hS h2 _ _ hoL keep) fun out hs hb => ⟨_, rfl, ?_⟩) (args_list_sort _)))
  exact wpAny_pure ⟨_, rfl, h out hs hb⟩
end
end SrtTI
namespace PSd
open PySem PySem.Spec PyProof.Rows L2 SrtTI
/-- items that are tuples of ints -/
def TIs (K : PySem.W.Frag) (H : Hp) : List V → List (List Int) → Prop
  | [], nss => nss = []
  | x :: xs, nss => ∃ ns r, nss = ns :: r ∧ (∃ t, x = .ref t ∧ SqT K H t (ns.map V.int)) ∧ ns ≠ [] ∧ TIs K H xs r
def rSortTI (K : PySem.W.Frag) : List V → Hp → VK → Prop := fun vs H Q => ∃ (a : Addr) (xs : List V) (nss : List (List Int)), vs = [V.ref a] ∧ (SqL K H a xs ∨ SqT K H a xs) ∧ TIs K H xs nss ∧
  ∀ (ys : List V) (mss : List (List Int)) (p : Addr), TIs K H ys mss → mss.Perm nss → mss.Pairwise (fun a b => PI.lexI b a = false) → H p = none → Q (.ref p) (upd H p (.lst ys))
section
variable {X : Cx} {pins : List (Addr × Obj)} {σ : St} {H : Hp} {s : Shared}
theorem tis_raw (I : Inv X pins σ H s) : ∀ {xs : List V} {nss : List (List Int)} {us : List Value}, TIs X.K H xs nss → Vals xs us → Paired (fun u ns => TI s.heap u ns) us nss
  | [], _, _, h, .nil => by obtain rfl := h; exact .nil
  | x :: xs, _, _, h, .cons r rr => by
    obtain ⟨ns, q, rfl, ⟨t, rfl, hq⟩, ne, h2⟩ := h
    cases r
    obtain ⟨its, rv, ⟨o, ho, hc, n, hd⟩, _⟩ := I.tuple hq
    exact .cons ⟨⟨t, its, o, n, rfl, ho, hc, hd, by simpa using rv.ints⟩, ne⟩ (tis_raw I h2 rr)
theorem tis_map {K : PySem.W.Frag} {H : Hp} {g : Value → List Int} : ∀ {xs : List V} {us : List Value} {nss : List (List Int)}, TIs K H xs nss → xs = us.map bkV → Paired (fun u ns => g u = ns) us nss → True
  | _, _, _, _, _, _ => trivial
/-- for each value its ints -/
def kI (h : Heap) (u : Value) : List Int := (ky h u).filterMap fun z => match z with
  | .inl i => some i
  | .inr _ => none
theorem kI_of {h : Heap} {u : Value} {ns : List Int} (t : TI h u ns) : kI h u = ns := by
  unfold kI ky
  rw [t.key]
  show (ns.map Sum.inl).filterMap _ = ns
  rw [List.filterMap_map]
  exact List.filterMap_some
theorem paired_map {h : Heap} : ∀ {us : List Value} {nss : List (List Int)}, Paired (fun u ns => TI h u ns) us nss → us.map (kI h) = nss
  | _, _, .nil => rfl
  | _, _, .cons t r => by rw [List.map_cons, kI_of t, paired_map r]
theorem tis_refs {K : PySem.W.Frag} {H : Hp} : ∀ {xs : List V} {nss : List (List Int)}, TIs K H xs nss → ∀ x ∈ xs, ∃ a, x = V.ref a
  | [], _, _, x, h => by simp at h
  | y :: ys, _, h, x, hm => by
    obtain ⟨ns, q, rfl, ⟨t, rfl, hq⟩, ne, h2⟩ := h
    rcases List.mem_cons.mp hm with rfl | hm
    · exact ⟨t, rfl⟩
    · exact tis_refs h2 x hm
theorem tis_mem {K : PySem.W.Frag} {H : Hp} : ∀ {xs : List V} {nss : List (List Int)}, TIs K H xs nss → ∀ x ∈ xs, ∃ ns t, x = .ref t ∧ SqT K H t (ns.map V.int) ∧ ns ≠ []
  | [], _, _, x, h => by simp at h
  | y :: ys, _, h, x, hm => by
    obtain ⟨ns, q, rfl, ⟨t, rfl, hq⟩, ne, h2⟩ := h
    rcases List.mem_cons.mp hm with rfl | hm
    · exact ⟨ns, t, rfl, hq, ne⟩
    · exact tis_mem h2 x hm
theorem tis_build {K : PySem.W.Frag} {H : Hp} {g : V → List Int} : ∀ (ys : List V), (∀ x ∈ ys, ∃ t, x = .ref t ∧ SqT K H t ((g x).map V.int) ∧ g x ≠ []) → TIs K H ys (ys.map g)
  | [], _ => rfl
  | y :: ys, h => by
    obtain ⟨t, e, hq, ne⟩ := h y List.mem_cons_self
    exact ⟨g y, ys.map g, rfl, ⟨t, e, hq⟩, ne, tis_build ys fun x hx => h x (List.mem_cons_of_mem _ hx)⟩
theorem pairedAt {α β : Type} {R : α → β → Prop} : ∀ {l : List α} {k : List β} {i : Nat} {a : α}, Paired R l k → l[i]? = some a → ∃ b, k[i]? = some b ∧ R a b
  | _, _, _, _, .nil, h => by simp at h
  | _, _, 0, _, .cons r _, h => by simp at h; subst h; exact ⟨_, rfl, r⟩
  | _, _, i + 1, _, .cons _ t, h => by
    obtain ⟨b, h1, h2⟩ := pairedAt (i := i) t (by simpa using h)
    exact ⟨b, by simpa using h1, h2⟩
theorem tis_out {K : PySem.W.Frag} {H : Hp} {g : Value → List Int} : ∀ (out : List Value), (∀ u ∈ out, ∃ t, bkV u = .ref t ∧ SqT K H t ((g u).map V.int) ∧ g u ≠ []) → TIs K H (out.map bkV) (out.map g)
  | [], _ => rfl
  | y :: ys, h => by
    obtain ⟨t, e, hq, ne⟩ := h y List.mem_cons_self
    exact ⟨g y, ys.map g, rfl, ⟨t, e, hq⟩, ne, tis_out ys fun x hx => h x (List.mem_cons_of_mem _ hx)⟩
theorem TIs.keep {K : PySem.W.Frag} {H H' : Hp} (k : ∀ t vs, SqT K H t vs → SqT K H' t vs) : ∀ {xs : List V} {nss : List (List Int)}, TIs K H xs nss → TIs K H' xs nss
  | [], _, h => h
  | _ :: _, _, h => by
    obtain ⟨ns, q, e, ⟨t, e2, hq⟩, ne, h2⟩ := h
    exact ⟨ns, q, e, ⟨t, e2, k _ _ hq⟩, ne, TIs.keep k h2⟩
theorem cr_sortTI : CallR X (.builtin "sorted") (rSortTI X.K) := by
  intro pins s σ H vs us Q I r h
  obtain ⟨a, xs, nss, rfl, hs, hx, q⟩ := h
  have get : ∃ its : List Value, Vals xs its ∧ (s.heap.IsList a its.toArray ∨ s.heap.IsTuple a its.toArray) ∧ xs.length ≤ sizeLine := by
    rcases hs with hs | hs
    · obtain ⟨its, rv, hl, hz⟩ := I.list hs
      exact ⟨its, rv, .inl hl.isList, hz⟩
    · obtain ⟨its, rv, hl, hz⟩ := I.tuple hs
      exact ⟨its, rv, .inr hl, hz⟩
  obtain ⟨its, rv, hlt, hz⟩ := get
  rw [Vals.ref1 r]
  obtain ⟨e1, e2⟩ := bkV_refs rv (tis_refs hx)
  have P := tis_raw I hx rv
  have pm := paired_map P
  have hall : ∀ v ∈ its, ∃ ns, TI s.heap v ns := fun v hv => by
    obtain ⟨i, hi⟩ := List.mem_iff_getElem?.mp hv
    obtain ⟨ns, _, t⟩ := pairedAt P hi
    exact ⟨ns, t⟩
  have hS : 2 ≤ its.length → ∀ (h₁ : Heap) (a : Addr), h₁.get? a = some (seqObj "list" its.toArray 0) → (∀ b o, s.heap.get? b = some o → b ≠ a ∧ h₁.get? b = some o) → SrtO.SortableO X.prog X.w X.A.in1.in1 { s with heap := h₁ } a its (ltT s.heap) := fun h2 h₁ a' ha' kk => by
    refine sortable (s := { s with heap := h₁ }) (by omega) (fun v hv => (hall v hv).imp fun ns t => t.keeps fun b o _ e => (kk b o e).2) (fun o e => ?_) s.heap fun v hv ns t => ?_
    · have e' : some o = some (seqObj "list" its.toArray 0) := e.symm.trans ha'
      cases e'
      intro c
      exact absurd (Value.type.inj c) (by decide)
    · obtain ⟨ms, t2⟩ := hall v hv
      have t3 : TI h₁ v ms := t2.keeps fun b o _ e => (kk b o e).2
      have : ns = ms := by rw [← kI_of t, ← kI_of t3]
      rw [this]; exact t2
  have fin : ∀ out : List Value, SrtO.Srtd (ltT s.heap) out → SrtO.Stb (ltT s.heap) out its → EP X pins σ Q (.ref (s.heap.objs.size + 1)) { s with heap := sortedAll s.heap its out.toArray } := fun out h1 h2 => by
    obtain ⟨ep, he'⟩ := PyProof.Rows.sortedAll_at s.heap its out.toArray
    have hp := h2.perm
    have h3 : ∀ u ∈ out, ∃ a, u = Value.ref a := fun u hu => e2 u (hp.mem_iff.mp hu)
    have hlen : (out.map bkV).length ≤ sizeLine := by
      rw [List.length_map, hp.length_eq, ← rv.length]
      exact hz
    refine ⟨.ref _, upd H (s.heap.objs.size + 1) (.lst (out.map bkV)), I.laid (t' := s.toks) (fun _ _ => PyProof.Rows.sortedAll_old) (Nat.le_succ _) ⟨hlen, out, ep, bkV_vals h3, he'⟩, rfl, q _ (out.map (kI s.heap)) _ ?_ ?_ ?_ (I.hok.fresh (Nat.le_succ _))⟩
    · refine tis_out out fun u hu => ?_
      have hu' := hp.mem_iff.mp hu
      obtain ⟨ns, t, e, hq, ne⟩ := tis_mem hx (bkV u) (by rw [e1]; exact List.mem_map.mpr ⟨u, hu', rfl⟩)
      obtain rfl := bkV_ref e
      obtain ⟨its', rv', ⟨o, ho, hc, n, hd⟩, _⟩ := I.tuple hq
      have t1 : TI s.heap (.ref t) ns := ⟨⟨t, its', o, n, rfl, ho, hc, hd, by simpa using rv'.ints⟩, ne⟩
      rw [kI_of t1]
      exact ⟨t, rfl, hq, ne⟩
    · rw [← pm]; exact hp.map _
    · rw [List.pairwise_map]
      refine List.Pairwise.imp_of_mem (fun {u v} hu hv huv => ?_) h1
      obtain ⟨ns, t1⟩ := hall u (hp.mem_iff.mp hu)
      obtain ⟨ms, t2⟩ := hall v (hp.mem_iff.mp hv)
      rw [kI_of t1, kI_of t2, ← TI.lt t2 t1]
      exact huv
  rcases hlt with hl | hl
  · exact SrtO.sorted_ord (swo_t s.heap) hl (by rw [← rv.length]; exact hz) hS fin
  · exact sorted_ordT (swo_t s.heap) hl (by rw [← rv.length]; exact hz) hS fin
end
end PSd

set_option Elab.async false
set_option linter.all false
set_option maxRecDepth 100000
set_option maxHeartbeats 4000000
namespace PSd
open PySem PySem.Spec PyProof.Rows L2
section
variable {P : PI.Prog} {n : Nat} {md : Md} {W : WX} {N : List Str} {sc : Scope} {X : Cx}
variable {a b c : Expr} {ia ib ic : PI.Ex} {qa qb : PI.Sq} {pos p : Pos}

/-! ### subscripts, slices, displays -/
theorem se_sub (ha : PE X a (aE X W md P n ia)) (hb : PE X b (aE X W md P n ib)) (hs : PlainIx b) : PE X (.Subscript a b pos) (aE X W md P n (.sub ia ib)) :=
  peI (pe_ix subA ha hb hs) fun σ H Q ⟨ρ, s, ι, re, rs, h⟩ =>
    Lf.of (mE ia) re rs (Step.refl _ _) h fun d s1 v H1 ι1 st1 rs1 rd1 re1 h1 =>
      Lf.of (mE ib) re1 rs1 st1 h1 fun d2 s2 v2 H2 ι2 st2 rs2 rd2 re2 h2 =>
        ⟨s2, ι2, d, d2, rs2, RD.step st2 rs1.lo _ rd1, rd2, PI.subD_mono (fun d s hq => hq.shift (st1.trans st2)) h2⟩
/-- a slice of a list or a tuple -/
def rSl2 (K : PySem.W.Frag) : V → Option Int → Option Int → Hp → VK → Prop := fun x lo hi H Q => rSlL K x lo hi H Q ∨ rSlA K x lo hi H Q
theorem sl_two : SlR X (rSl2 X.K) := sl_list.or sl_tupA
theorem slT {K : PySem.W.Frag} {H : Hp} {ι : List Addr} {l : List PI.D} {a : Addr} {vs : List V} {lo hi : Option Int} {Q : VK} (t : SqT K H a vs) (q : RDs K H ι l vs)
    (h1 : ∀ b ws, SqT K H b ws → RDs K H ι (PI.cutL l lo hi) ws → Q (.ref b) H)
    (h2 : ∀ b, H b = none → Step ι H ι (upd H b (.tup (cutV vs lo hi))) → Q (.ref b) (upd H b (.tup (cutV vs lo hi)))) : rSlA K (.ref a) lo hi H Q := by
  refine ⟨a, vs, rfl, t, fun e => ?_, fun _ b hb => h2 b hb (Step.temp hb)⟩
  refine h1 a vs t ?_
  have := q.cut lo hi
  rwa [cutV_all e.1 e.2] at this
theorem se_slice {lo hi : Option Expr} {il ih : Option PI.Ex} {p2 : Pos} (ha : PE X a (aE X W md P n ia)) (hl : PO X lo (aO X W md P n il)) (hh : PO X hi (aO X W md P n ih)) : PE X (.Subscript a (.Slice lo hi none p2) pos) (aE X W md P n (.slice ia il ih)) :=
  peI (pe_slice sl_two ha hl hh) fun σ H Q ⟨ρ, s, ι, re, rs, h⟩ =>
    Lf.of (mE ia) re rs (Step.refl _ _) h fun d s1 v H1 ι1 st1 rs1 rd1 re1 h1 =>
      Lf.of (mO il) re1 rs1 st1 h1 fun l s2 l' H2 ι2 st2 rs2 rl re2 h2 => by
        obtain rfl := rl
        have st12 := st1.trans st2
        refine Lf.of (mO ih) re2 rs2 st12 h2 fun u s3 u' H3 ι3 st3 rs3 ru re3 h3 => ?_
        obtain rfl := ru
        have st123 := st12.trans st3
        have rd3 := RD.step (st2.trans st3) rs1.lo _ rd1
        split at h3
        · obtain ⟨a', vs, rfl, t, q⟩ := rd3
          exact .inr (slT t q (fun b ws tb qb => okG.go h3 st123 rs3 ⟨b, ws, rfl, tb, qb⟩) fun b hb stb => okG.go h3 (st123.trans stb) (rs3.temp hb) ⟨b, _, rfl, SqT.of upd_same, RDs.step stb rs3.lo _ (q.cut _ _)⟩)
        · obtain ⟨a', vs, rfl, t, q⟩ := rd3
          exact .inl ⟨a', vs, rfl, t.sq, fun b hb => okG.go h3 (st123.trans (Step.alloc hb)) (rs3.alloc hb (q.cut _ _)) (RD.newRef rs3)⟩
        · split at h3
          · rename_i xs hx
            obtain ⟨a', rfl, hk⟩ := rd3
            obtain ⟨a2, vs, e1, e2, q⟩ := rs3.at hx
            rw [hk] at e1; cases e1
            exact .inl ⟨a', vs, rfl, SqL.of e2, fun b hb => okG.go h3 (st123.trans (Step.alloc hb)) (rs3.alloc hb (q.cut _ _)) (RD.newRef rs3)⟩
          · exact h3.elim
        · exact h3.elim
theorem se_tup {es : List Expr} {l : List PI.Ex} {k : Nat} (hl : PA X es (aL X W md P n l)) : PE X (.Tuple es k pos) (aE X W md P n (.tup l)) :=
  peI (pe_tup hl) fun σ H Q ⟨ρ, s, ι, re, rs, h⟩ =>
    Lf.of (mL l) re rs (Step.refl _ _) h fun ds s1 vs H1 ι1 st1 rs1 rd1 re1 h1 =>
      ⟨by rw [← rd1.length, ← line_eq]; exact h1.1, fun q hq => okG.go h1.2 (st1.trans (Step.temp hq)) (rs1.temp hq) ⟨q, vs, rfl, SqT.of upd_same, RDs.step (Step.temp hq) rs1.lo _ rd1⟩⟩

/-! ### lists made -/
theorem Step.fresh {ι ι1 : List Addr} {H H1 : Hp} (st : Step ι H ι1 H1) (lo : Lo H1 ι1) {q : Addr} (h : H1 q = none) : H q = none := by
  cases e : H q with
  | none => rfl
  | some o =>
    by_cases hq : q ∈ ι
    · obtain ⟨_, z⟩ := lo q (st.sub hq)
      rw [h] at z; cases z
    · have z := st.keep q o e hq
      rw [h] at z; cases z
section
variable {K : PySem.W.Frag} {H : Hp} {ι t : List Addr}
mutual
theorem RD.grow : ∀ (d : PI.D) {v : V}, RD K H ι d v → RD K H (ι ++ t) d v
  | .non, _, h => h
  | .bl _, _, h => h
  | .int _, _, h => h
  | .str _, _, h => h
  | .tup ds, _, h => by
    obtain ⟨a, vs, e, h1, h2⟩ := h
    exact ⟨a, vs, e, h1, RDs.grow ds h2⟩
  | .fls ds, _, h => by
    obtain ⟨a, vs, e, h1, h2⟩ := h
    exact ⟨a, vs, e, h1, RDs.grow ds h2⟩
  | .ref k, _, h => by
    obtain ⟨a, e, h1⟩ := h
    exact ⟨a, e, by rw [List.getElem?_append_left (List.getElem?_eq_some_iff.mp h1).1]; exact h1⟩
theorem RDs.grow : ∀ (ds : List PI.D) {vs : List V}, RDs K H ι ds vs → RDs K H (ι ++ t) ds vs
  | [], _, h => h
  | d :: r, _, h => by
    obtain ⟨v, u, e, h1, h2⟩ := h
    exact ⟨v, u, e, RD.grow d h1, RDs.grow r h2⟩
end
end
theorem adopt {K : PySem.W.Frag} {ι ι1 : List Addr} {H H1 : Hp} {s : PI.S} {l : List PI.D} {v : V} (st : Step ι H ι1 H1) (r : RS K H1 ι1 s) (h : RQ K H ι1 H1 (.ls l) v) :
    ∃ ι2, Step ι H ι2 H1 ∧ RS K H1 ι2 (s ++ [.lst l]) ∧ RD K H1 ι2 (.ref s.length) v := by
  obtain ⟨a, vs, rfl, ⟨e, na, z⟩, q⟩ := h
  refine ⟨ι1 ++ [a], ⟨?_, fun b hb n => ?_, st.keep⟩, ⟨by simp [r.len], List.nodup_append.mpr ⟨r.nd, by simp, fun x hx y hy exy => ?_⟩, fun i b m e1 e2 => ?_⟩, ⟨a, rfl, ?_⟩⟩
  · obtain ⟨t, e⟩ := st.pre
    exact ⟨t ++ [a], by rw [e, List.append_assoc]⟩
  · rcases List.mem_append.mp hb with w | w
    · exact st.new b w n
    · obtain rfl : b = a := by simpa using w
      exact z
  · obtain rfl : y = a := by simpa using hy
    exact na (exy ▸ hx)
  · by_cases hi : i < ι1.length
    · rw [List.getElem?_append_left hi] at e1
      rw [List.getElem?_append_left (by rw [← r.len]; exact hi)] at e2
      obtain ⟨ws, h1, h2⟩ := r.ob i b m e1 e2
      exact ⟨ws, h1, RDs.grow m h2⟩
    · have hi' : i = ι1.length := by
        have := (List.getElem?_eq_some_iff.mp e1).1
        simp at this; omega
      subst hi'
      rw [List.getElem?_append_right (Nat.le_refl _)] at e1
      rw [List.getElem?_append_right (by rw [r.len]; exact Nat.le_refl _)] at e2
      simp [r.len] at e1 e2
      subst e1 e2
      exact ⟨vs, e, RDs.grow l q⟩
  · rw [← r.len, List.getElem?_append_right (Nat.le_refl _)]; simp
theorem se_new (hq : PE X a (aQ X W md P n qa)) : PE X a (aE X W md P n (.new qa)) :=
  peI hq fun σ H Q ⟨ρ, s, ι, re, rs, h⟩ =>
    Lf.of (mQ qa) re rs (Step.refl _ _) h fun r s1 v H1 ι1 st1 rs1 rq re1 h1 => by
      split at h1
      · obtain ⟨ι2, g1, g2, g3⟩ := adopt st1 rs1 rq
        exact okG.go h1 g1 g2 g3
      · exact h1.elim
theorem sq_lst {es : List Expr} {l : List PI.Ex} (hl : PA X es (aL X W md P n l)) : PE X (.List es pos) (aQ X W md P n (.lst l)) :=
  peI (pe_lst hl) fun σ H Q ⟨ρ, s, ι, re, rs, h⟩ =>
    Lf.of (mL l) re rs (Step.refl _ _) h fun ds s1 vs H1 ι1 st1 rs1 rd1 re1 h1 =>
      ⟨by rw [← rd1.length, ← line_eq]; exact h1.1, fun q hq => okG.go h1.2 (st1.trans (Step.temp hq)) (rs1.temp hq)
        ⟨q, vs, rfl, ⟨upd_same, not_mem_of_none rs1.lo hq, st1.fresh rs1.lo hq⟩, RDs.step (Step.temp hq) rs1.lo _ rd1⟩⟩
theorem sq_of (ha : PE X a (aE X W md P n ia)) : PE X a (aQ X W md P n (.of ia)) :=
  peI ha fun σ H Q ⟨ρ, s, ι, re, rs, h⟩ =>
    Lf.of (mE ia) re rs (Step.refl _ _) h fun d s1 v H1 ι1 st1 rs1 rd1 re1 h1 => by
      split at h1
      · rename_i r q
        exact okG.go h1 st1 rs1 (srcA rs1 rd1 q H)
      · exact h1.elim
theorem list_of {K : PySem.W.Frag} {H0 H : Hp} {ι : List Addr} {c : PI.Src} {v : V} (h : RQ K H0 ι H c v) (hl : c.isList = true) (hf : ∀ l, c ≠ .fl l) : ∃ a vs, v = .ref a ∧ H a = some (.lst vs) ∧ RDs K H ι c.items vs := by
  cases c with
  | tp l => cases hl
  | fl l => exact absurd rfl (hf l)
  | ls l =>
    obtain ⟨a, vs, e, t, q⟩ := h
    exact ⟨a, vs, e, t.1, q⟩
  | «at» k l =>
    obtain ⟨a, vs, e, t, z, q⟩ := h
    exact ⟨a, vs, e, z, q⟩
theorem sq_cat (ha : PE X a (aQ X W md P n qa)) (hb : PE X b (aQ X W md P n qb)) : PE X (.BinOp a .Add b pos) (aQ X W md P n (.cat qa qb)) :=
  peI (pe_op op_cat ha hb) fun σ H Q ⟨ρ, s, ι, re, rs, h⟩ =>
    Lf.of (mQ qa) re rs (Step.refl _ _) h fun x s1 v H1 ι1 st1 rs1 rq1 re1 h1 =>
      Lf.of (mQ qb) re1 rs1 st1 h1 fun y s2 v2 H2 ι2 st2 rs2 rq2 re2 h2 => by
        obtain ⟨f1, f2, l1, l2, ok, ln, hq⟩ := h2
        have st12 := st1.trans st2
        obtain ⟨a1, vs, rfl, z1, q1⟩ := list_of (rq1.step st2 rs1.lo rs2 ok) l1 (fun l e => by rw [e] at f1; cases f1)
        obtain ⟨a2, ws, rfl, z2, q2⟩ := list_of rq2 l2 (fun l e => by rw [e] at f2; cases f2)
        refine ⟨a1, a2, vs, ws, rfl, rfl, z1, z2, by rw [← q1.length, ← q2.length, ← line_eq]; exact ln, fun p hp => okG.go hq (st12.trans (Step.temp hp)) (rs2.temp hp) ?_⟩
        exact ⟨p, vs ++ ws, rfl, ⟨upd_same, not_mem_of_none rs2.lo hp, st12.fresh rs2.lo hp⟩, RDs.step (Step.temp hp) rs2.lo _ (q1.app q2)⟩
theorem tis_of {K : PySem.W.Frag} {H : Hp} {ι : List Addr} : ∀ {ds : List PI.D} {vs : List V} {nss : List (List Int)}, RDs K H ι ds vs → PI.tupsD ds = some nss → (∀ ns ∈ nss, ns ≠ []) → TIs K H vs nss
  | [], _, _, h, e, _ => by obtain rfl := h; cases e; rfl
  | .tup l :: r, _, nss, h, e, ne => by
    obtain ⟨v, t, rfl, ⟨a, ws, rfl, hq, q⟩, h2⟩ := h
    unfold PI.tupsD at e
    cases q1 : PI.intsD l with
    | none => rw [q1] at e; cases e
    | some ns =>
      rw [q1] at e
      cases q2 : PI.tupsD r with
      | none => rw [q2] at e; cases e
      | some ms =>
        rw [q2] at e
        obtain rfl : ns :: ms = nss := Option.some.inj e
        have f := q.ints q1
        subst f
        exact ⟨ns, ms, rfl, ⟨a, rfl, hq⟩, ne ns List.mem_cons_self, tis_of h2 q2 fun x hx => ne x (List.mem_cons_of_mem _ hx)⟩
  | .non :: _, _, _, _, e, _ => by cases e
  | .bl _ :: _, _, _, _, e, _ => by cases e
  | .int _ :: _, _, _, _, e, _ => by cases e
  | .str _ :: _, _, _, _, e, _ => by cases e
  | .fls _ :: _, _, _, _, e, _ => by cases e
  | .ref _ :: _, _, _, _, e, _ => by cases e
theorem rds_of_tis {K : PySem.W.Frag} {H : Hp} {ι : List Addr} : ∀ {ys : List V} {mss : List (List Int)}, TIs K H ys mss → RDs K H ι (mss.map fun ns => .tup (ns.map .int)) ys
  | [], _, h => by obtain rfl := h; rfl
  | _ :: _, _, h => by
    obtain ⟨ns, q, rfl, ⟨t, rfl, hq⟩, ne, h2⟩ := h
    exact ⟨_, _, rfl, ⟨t, _, rfl, hq, RDs.ofInts ns⟩, rds_of_tis h2⟩
theorem cr_or {X : Cx} {f : Value} {r1 r2 : List V → Hp → VK → Prop} (h1 : CallR X f r1) (h2 : CallR X f r2) : CallR X f (fun vs H Q => r1 vs H Q ∨ r2 vs H Q) := by
  intro pins s σ H vs us Q I r h
  rcases h with h | h
  · exact h1 pins s σ H vs us Q I r h
  · exact h2 pins s σ H vs us Q I r h
theorem sq_sorted (G : GX P n md W N sc X) {f : Str} (hf : f = PTr.bSorted) (hg : PTr.glob sc f = true) (ha : PE X a (aQ X W md P n qa)) (ns : starEach [a] X.env = (false, eval a X.env) :: starEach [] X.env) : PE X (.Call (.Name f p) [a] [] pos) (aQ X W md P n (.sorted qa)) := by
  have hm : X.mg f = none := G.fre (by rw [hf]; decide +kernel)
  have hv : bootBuiltins f = some (.builtin "sorted") := by rw [hf]; exact PyProof.Rows.boot_sorted
  refine peI (pe_callB (cr_or cr_sortTI cr_sorted) (G.gl hg) hm hv (pa_cons ha pa_nil ns) (G.nam hg) (G.dbg hg) ns rfl) fun σ H Q ⟨ρ, s, ι, re, rs, h⟩ => ?_
  refine Lf.of (mQ qa) re rs (Step.refl _ _) h fun x s1 v H1 ι1 st1 rs1 rq1 re1 h1 => ?_
  split at h1
  · rename_i nss hns
    obtain ⟨hne, h1⟩ := h1
    obtain ⟨a1, vs, rfl, hsq, q1, _⟩ := rq1.seq
    have T := tis_of q1 hns hne
    refine .inl ⟨a1, vs, nss, rfl, hsq, T, fun ys mss q hT hp hs hq => ?_⟩
    have rd := RDs.step (Step.temp (o := .lst ys) hq) rs1.lo _ (rds_of_tis (ι := ι1) hT)
    exact okG.go (h1 mss hp hs) (st1.trans (Step.temp hq)) (rs1.temp hq) ⟨q, ys, rfl, ⟨upd_same, not_mem_of_none rs1.lo hq, st1.fresh rs1.lo hq⟩, rd⟩
  split at h1
  · rename_i ns' hns
    obtain ⟨l1, l2, hq⟩ := h1
    obtain ⟨a1, vs, rfl, _, q1, z1, _⟩ := rq1.seq
    have e := q1.ints hns
    subst e
    refine .inr ⟨a1, ns', rfl, z1 l1, l2, fun ms q p1 p2 hp => okG.go hq (st1.trans (Step.temp hp)) (rs1.temp hp) ?_⟩
    have e : ms = PI.sortI ns' := sorted_one (p1.trans (sortI_perm ns').symm) p2 (sortI_sorted ns')
    rw [e]
    exact ⟨q, _, rfl, ⟨upd_same, not_mem_of_none rs1.lo hp, st1.fresh rs1.lo hp⟩, RDs.step (Step.temp hp) rs1.lo _ (RDs.ofInts _)⟩
  · exact h1.elim
theorem sq_cut {lo hi : Option Expr} {il ih : Option PI.Ex} {p2 : Pos} (ha : PE X a (aQ X W md P n qa)) (hl : PO X lo (aO X W md P n il)) (hh : PO X hi (aO X W md P n ih)) : PE X (.Subscript a (.Slice lo hi none p2) pos) (aQ X W md P n (.cut qa il ih)) :=
  peI (pe_slice sl_two ha hl hh) fun σ H Q ⟨ρ, s, ι, re, rs, h⟩ =>
    Lf.of (mQ qa) re rs (Step.refl _ _) h fun d s1 v H1 ι1 st1 rs1 rq1 re1 h1 =>
      Lf.of (mO il) re1 rs1 st1 h1 fun l s2 l' H2 ι2 st2 rs2 rl re2 h2 => by
        obtain rfl := rl
        have st12 := st1.trans st2
        refine Lf.of (mO ih) re2 rs2 st12 h2 fun u s3 u' H3 ι3 st3 rs3 ru re3 h3 => ?_
        obtain rfl := ru
        obtain ⟨ok, h3⟩ := h3
        have st123 := st12.trans st3
        have rq3 := rq1.step (st2.trans st3) rs1.lo rs3 ok
        have lst : d.isList = true → (∃ q, (match d with | .tp xs => PI.Src.tp (PI.cutL xs l' u') | r => PI.Src.ls (PI.cutL r.items l' u')) = q ∧ q = .ls (PI.cutL d.items l' u')) → rSl2 X.K v l' u' H3 Q := fun isl ⟨q, e1, e2⟩ => by
          obtain ⟨a1, vs, rfl, _, q1, z1, _⟩ := rq3.seq
          refine .inl ⟨a1, vs, rfl, z1 isl, fun b hb => ?_⟩
          have h4 : okG X.K (RQ X.K) Q ι H (.ls (PI.cutL d.items l' u')) s3 := by rw [← e2, ← e1]; exact h3
          exact okG.go h4 (st123.trans (Step.temp hb)) (rs3.temp hb) ⟨b, _, rfl, ⟨upd_same, not_mem_of_none rs3.lo hb, st123.fresh rs3.lo hb⟩, RDs.step (Step.temp hb) rs3.lo _ (q1.cut _ _)⟩
        cases d with
        | tp xs =>
          obtain ⟨a1, vs, rfl, t, q⟩ := rq3
          exact .inr (slT t q (fun b ws tb qb => okG.go h3 st123 rs3 ⟨b, ws, rfl, tb, qb⟩) fun b hb stb => okG.go h3 (st123.trans stb) (rs3.temp hb) ⟨b, _, rfl, SqT.of upd_same, RDs.step stb rs3.lo _ (q.cut _ _)⟩)
        | fl xs => exact lst rfl ⟨_, rfl, rfl⟩
        | ls xs => exact lst rfl ⟨_, rfl, rfl⟩
        | «at» k xs => exact lst rfl ⟨_, rfl, rfl⟩
end
end PSd

set_option Elab.async false
set_option linter.all false
set_option maxRecDepth 100000
set_option maxHeartbeats 4000000
namespace PSd
open PySem PySem.Spec PyProof.Rows L2
section
variable {P : PI.Prog} {n : Nat} {md : Md} {W : WX} {N : List Str} {sc : Scope} {X : Cx}
variable {a b c : Expr} {ia ib ic : PI.Ex} {qa qb : PI.Sq} {pos p : Pos} {f : Str}
abbrev Star1 (a : Expr) (env : Env) : Prop := starEach [a] env = (false, eval a env) :: starEach [] env
abbrev Star2 (a b : Expr) (env : Env) : Prop := starEach [a, b] env = (false, eval a env) :: starEach [b] env ∧ Star1 b env

theorem mem_bl {x : Str} (h : PTr.bltns.contains x = true) : x ∈ PTr.bltns := by simpa using h
/-- a call of a built-in function with one argument -/
theorem b1 (G : GX P n md W N sc X) (hg : PTr.glob sc f = true) (hb : PTr.bltns.contains f = true) {id : String} (hv : bootBuiltins f = some (.builtin id)) {r : List V → Hp → VK → Prop} (hc : CallR X (.builtin id) r) {te : TE} (ha : PE X a te) (ns : Star1 a X.env) :
    PE X (.Call (.Name f p) [a] [] pos) (fun σ H Q => te σ H fun x H1 => r [x] H1 Q) :=
  peI (pe_callB hc (G.gl hg) (G.fre (mem_bl hb)) hv (pa_cons ha pa_nil ns) (G.nam hg) (G.dbg hg) ns rfl) fun _ _ _ h => h
theorem t1 (G : GX P n md W N sc X) (hg : PTr.glob sc f = true) (hb : PTr.bltns.contains f = true) {id : String} (hv : bootBuiltins f = some (.type id)) {r : List V → Hp → VK → Prop} (hc : CallR X (.type id) r) {te : TE} (ha : PE X a te) (ns : Star1 a X.env) :
    PE X (.Call (.Name f p) [a] [] pos) (fun σ H Q => te σ H fun x H1 => r [x] H1 Q) :=
  peI (pe_callTy hc (G.gl hg) (G.fre (mem_bl hb)) hv (pa_cons ha pa_nil ns) (G.nam hg) (G.dbg hg) ns rfl) fun _ _ _ h => h
theorem b2 (G : GX P n md W N sc X) (hg : PTr.glob sc f = true) (hb : PTr.bltns.contains f = true) {id : String} (hv : bootBuiltins f = some (.builtin id)) {r : List V → Hp → VK → Prop} (hc : CallR X (.builtin id) r) {ta tb : TE} (ha : PE X a ta) (hb' : PE X b tb) (ns : Star2 a b X.env)
    (pl : (backTo pos (starEach [b] X.env)).any (·.1) = false) : PE X (.Call (.Name f p) [a, b] [] pos) (fun σ H Q => ta σ H fun x H1 => tb σ H1 fun y H2 => r [x, y] H2 Q) :=
  peI (pe_callB hc (G.gl hg) (G.fre (mem_bl hb)) hv (pa_cons ha (pa_cons hb' pa_nil ns.2) ns.1) (G.nam hg) (G.dbg hg) ns.1 pl) fun _ _ _ h => h
theorem pl_of (ns : Star1 b X.env) : (backTo pos (starEach [b] X.env)).any (·.1) = false := by rw [ns]; rfl

theorem bo_len : bootBuiltins PTr.bLen = some (.builtin "len") := PySem.boot_len
theorem bo_sum : bootBuiltins PTr.bSum = some (.builtin "sum") := PyProof.Rows.boot_sum
theorem bo_min : bootBuiltins PTr.bMin = some (.builtin "min") := PyProof.Rows.boot_min
theorem bo_max : bootBuiltins PTr.bMax = some (.builtin "max") := PyProof.Rows.boot_max
theorem bo_abs : bootBuiltins PTr.bAbs = some (.builtin "abs") := by decide +kernel
theorem bo_isi : bootBuiltins PTr.bIsi = some (.builtin "isinstance") := by decide +kernel
theorem bo_int : bootBuiltins PTr.bInt = some (.type "int") := PyProof.Rows.boot_int
theorem bo_tuple : bootBuiltins PTr.bTuple = some (.type "tuple") := PyProof.Rows.boot_tuple
theorem bo_list : bootBuiltins PTr.bList = some (.type "list") := PyProof.Rows.boot_list
theorem bo_enum : bootBuiltins PTr.bEnum = some (.type "enumerate") := PyProof.Rows.boot_enumerate
theorem bo_range : bootBuiltins PTr.bRange = some (.type "range") := PyProof.Rows.boot_range
theorem bl_all : PTr.bltns.contains PTr.bLen = true ∧ PTr.bltns.contains PTr.bSum = true ∧ PTr.bltns.contains PTr.bMin = true ∧ PTr.bltns.contains PTr.bMax = true ∧ PTr.bltns.contains PTr.bAbs = true ∧ PTr.bltns.contains PTr.bIsi = true ∧
    PTr.bltns.contains PTr.bInt = true ∧ PTr.bltns.contains PTr.bTuple = true ∧ PTr.bltns.contains PTr.bList = true ∧ PTr.bltns.contains PTr.bEnum = true ∧ PTr.bltns.contains PTr.bRange = true := by decide +kernel

theorem se_len (G : GX P n md W N sc X) (hg : PTr.glob sc PTr.bLen = true) (ha : PE X a (aE X W md P n ia)) (ns : Star1 a X.env) : PE X (.Call (.Name PTr.bLen p) [a] [] pos) (aE X W md P n (.len ia)) :=
  peI (b1 G hg bl_all.1 bo_len call_len ha ns) fun σ H Q ⟨ρ, s, ι, re, rs, h⟩ =>
    Lf.of (mE ia) re rs (Step.refl _ _) h fun d s1 v H1 ι1 st1 rs1 rd1 re1 h1 => by
      split at h1
      · rename_i k q
        exact ⟨v, k, rfl, lenA rs1 rd1 q, okG.go h1 st1 rs1 rfl⟩
      · exact h1.elim
theorem se_lenQ (G : GX P n md W N sc X) (hg : PTr.glob sc PTr.bLen = true) (ha : PE X a (aQ X W md P n qa)) (ns : Star1 a X.env) : PE X (.Call (.Name PTr.bLen p) [a] [] pos) (aE X W md P n (.lenQ qa)) :=
  peI (b1 G hg bl_all.1 bo_len call_len ha ns) fun σ H Q ⟨ρ, s, ι, re, rs, h⟩ =>
    Lf.of (mQ qa) re rs (Step.refl _ _) h fun d s1 v H1 ι1 st1 rs1 rq re1 h1 => by
      obtain ⟨a1, vs, rfl, z, q1, _⟩ := rq.seq
      refine ⟨.ref a1, d.items.length, rfl, ?_, okG.go h1 st1 rs1 rfl⟩
      rcases z with z | z
      · exact .inl ⟨vs, z, q1.length⟩
      · exact .inr ⟨vs, z, q1.length⟩
theorem se_tupOf (G : GX P n md W N sc X) (hg : PTr.glob sc PTr.bTuple = true) (ha : PE X a (aQ X W md P n qa)) (ns : Star1 a X.env) : PE X (.Call (.Name PTr.bTuple p) [a] [] pos) (aE X W md P n (.tupOf qa)) :=
  peI (t1 G hg bl_all.2.2.2.2.2.2.2.1 bo_tuple call_tuple_of ha ns) fun σ H Q ⟨ρ, s, ι, re, rs, h⟩ =>
    Lf.of (mQ qa) re rs (Step.refl _ _) h fun d s1 v H1 ι1 st1 rs1 rq re1 h1 => by
      obtain ⟨a1, vs, rfl, z, q1, _⟩ := rq.seq
      refine ⟨a1, vs, rfl, ?_⟩
      rcases z with z | z
      · exact .inl ⟨z, fun q hq => okG.go h1 (st1.trans (Step.temp hq)) (rs1.temp hq) ⟨q, vs, rfl, SqT.of upd_same, RDs.step (Step.temp hq) rs1.lo _ q1⟩⟩
      · exact .inr ⟨z, okG.go h1 st1 rs1 ⟨a1, vs, rfl, z, q1⟩⟩
theorem se_listOf (G : GX P n md W N sc X) (hg : PTr.glob sc PTr.bList = true) (ha : PE X a (aQ X W md P n qa)) (ns : Star1 a X.env) : PE X (.Call (.Name PTr.bList p) [a] [] pos) (aE X W md P n (.listOf qa)) :=
  peI (t1 G hg bl_all.2.2.2.2.2.2.2.2.1 bo_list call_list_of ha ns) fun σ H Q ⟨ρ, s, ι, re, rs, h⟩ =>
    Lf.of (mQ qa) re rs (Step.refl _ _) h fun d s1 v H1 ι1 st1 rs1 rq re1 h1 => by
      obtain ⟨a1, vs, rfl, z, q1, _⟩ := rq.seq
      exact ⟨a1, vs, rfl, z, fun q hq => okG.go h1 (st1.trans (Step.alloc hq)) (rs1.alloc hq q1) (RD.newRef rs1)⟩
theorem se_int1 (G : GX P n md W N sc X) (hg : PTr.glob sc PTr.bInt = true) (ha : PE X a (aE X W md P n ia)) (ns : Star1 a X.env) : PE X (.Call (.Name PTr.bInt p) [a] [] pos) (aE X W md P n (.int1 ia)) :=
  peI (t1 G hg bl_all.2.2.2.2.2.2.1 bo_int call_int1 ha ns) fun σ H Q ⟨ρ, s, ι, re, rs, h⟩ =>
    Lf.of (mE ia) re rs (Step.refl _ _) h fun d s1 v H1 ι1 st1 rs1 rd1 re1 h1 => by
      split at h1
      · obtain rfl := (rd1 : v = V.int _)
        exact .inl ⟨_, rfl, okG.go h1 st1 rs1 rfl⟩
      · obtain rfl := (rd1 : v = V.bl _)
        exact .inr ⟨_, rfl, okG.go h1 st1 rs1 rfl⟩
      · exact h1.elim
theorem se_abs (G : GX P n md W N sc X) (hg : PTr.glob sc PTr.bAbs = true) (ha : PE X a (aE X W md P n ia)) (ns : Star1 a X.env) : PE X (.Call (.Name PTr.bAbs p) [a] [] pos) (aE X W md P n (.abs ia)) :=
  peI (b1 G hg bl_all.2.2.2.2.1 bo_abs call_abs ha ns) fun σ H Q ⟨ρ, s, ι, re, rs, h⟩ =>
    Lf.of (mE ia) re rs (Step.refl _ _) h fun d s1 v H1 ι1 st1 rs1 rd1 re1 h1 => by
      split at h1
      · obtain rfl := (rd1 : v = V.int _)
        exact ⟨_, rfl, okG.go h1 st1 rs1 rfl⟩
      · exact h1.elim
theorem pe_false {t : TE} (h : ∀ σ H Q, ¬ t σ H Q) : PE X a t := ⟨fun _ _ σ H Q _ q => (h σ H Q q).elim⟩
theorem se_sum (G : GX P n md W N sc X) (hg : PTr.glob sc PTr.bSum = true) (ha : PE X a (aQ X W md P n qa)) (ns : Star1 a X.env) : PE X (.Call (.Name PTr.bSum p) [a] [] pos) (aE X W md P n (.sum qa)) := by
  cases hh : md.hotB with
  | true => exact pe_false fun σ H Q ⟨ρ, s, ι, re, rs, h⟩ => absurd (show md.hotB = false from h.1) (by rw [hh]; decide)
  | false =>
    refine peI (b1 G hg bl_all.2.1 bo_sum (cr_sumA (G.calm hh)) ha ns) fun σ H Q ⟨ρ, s, ι, re, rs, h⟩ => ?_
    refine Lf.of (mQ qa) re rs (Step.refl _ _) h.2 fun d s1 v H1 ι1 st1 rs1 rq re1 h1 => ?_
    split at h1
    · rename_i ks hk
      obtain ⟨a1, vs, rfl, z, q1, _⟩ := rq.seq
      have e := q1.ints hk
      subst e
      exact ⟨a1, ks, rfl, z, okG.go h1 st1 rs1 rfl⟩
    · exact h1.elim
theorem se_minQ (G : GX P n md W N sc X) (hg : PTr.glob sc PTr.bMin = true) (ha : PE X a (aQ X W md P n qa)) (ns : Star1 a X.env) : PE X (.Call (.Name PTr.bMin p) [a] [] pos) (aE X W md P n (.minQ qa)) := by
  cases hh : md.hotB with
  | true => exact pe_false fun σ H Q ⟨ρ, s, ι, re, rs, h⟩ => absurd (show md.hotB = false from h.1) (by rw [hh]; decide)
  | false =>
    refine peI (b1 G hg bl_all.2.2.1 bo_min (cr_min (G.calm hh)) ha ns) fun σ H Q ⟨ρ, s, ι, re, rs, h⟩ => ?_
    refine Lf.of (mQ qa) re rs (Step.refl _ _) h.2 fun d s1 v H1 ι1 st1 rs1 rq re1 h1 => ?_
    split at h1
    · rename_i k ks hk
      obtain ⟨a1, vs, rfl, _, q1, z, _⟩ := rq.seq
      have e := q1.ints hk
      subst e
      refine ⟨a1, k :: ks, rfl, z h1.1, by simp, fun m m1 m2 => ?_⟩
      obtain ⟨s1', s2'⟩ := minL_spec ks k
      have : m = PI.minL k ks := Int.le_antisymm (m2 _ s1') (s2' m m1)
      rw [this]
      exact okG.go h1.2 st1 rs1 rfl
    · exact h1.elim
theorem se_maxQ (G : GX P n md W N sc X) (hg : PTr.glob sc PTr.bMax = true) (ha : PE X a (aQ X W md P n qa)) (ns : Star1 a X.env) : PE X (.Call (.Name PTr.bMax p) [a] [] pos) (aE X W md P n (.maxQ qa)) := by
  cases hh : md.hotB with
  | true => exact pe_false fun σ H Q ⟨ρ, s, ι, re, rs, h⟩ => absurd (show md.hotB = false from h.1) (by rw [hh]; decide)
  | false =>
    refine peI (b1 G hg bl_all.2.2.2.1 bo_max (cr_max (G.calm hh)) ha ns) fun σ H Q ⟨ρ, s, ι, re, rs, h⟩ => ?_
    refine Lf.of (mQ qa) re rs (Step.refl _ _) h.2 fun d s1 v H1 ι1 st1 rs1 rq re1 h1 => ?_
    split at h1
    · rename_i k ks hk
      obtain ⟨a1, vs, rfl, _, q1, z, _⟩ := rq.seq
      have e := q1.ints hk
      subst e
      refine ⟨a1, k :: ks, rfl, z h1.1, by simp, fun m m1 m2 => ?_⟩
      obtain ⟨s1', s2'⟩ := maxL_spec ks k
      have : m = PI.maxL k ks := Int.le_antisymm (s2' m m1) (m2 _ s1')
      rw [this]
      exact okG.go h1.2 st1 rs1 rfl
    · exact h1.elim
theorem se_max2 (G : GX P n md W N sc X) (hg : PTr.glob sc PTr.bMax = true) (ha : PE X a (aE X W md P n ia)) (hb : PE X b (aE X W md P n ib)) (ns : Star2 a b X.env) : PE X (.Call (.Name PTr.bMax p) [a, b] [] pos) (aE X W md P n (.max2 ia ib)) := by
  cases hh : md.hotB with
  | true => exact pe_false fun σ H Q ⟨ρ, s, ι, re, rs, h⟩ => absurd (show md.hotB = false from h.1) (by rw [hh]; decide)
  | false =>
    refine peI (b2 G hg bl_all.2.2.2.1 bo_max (call_max2 (G.calm hh)) ha hb ns (pl_of ns.2)) fun σ H Q ⟨ρ, s, ι, re, rs, h⟩ => ?_
    refine Lf.of (mE ia) re rs (Step.refl _ _) h.2 fun d s1 v H1 ι1 st1 rs1 rd1 re1 h1 => ?_
    refine Lf.of (mE ib) re1 rs1 st1 h1 fun d2 s2 v2 H2 ι2 st2 rs2 rd2 re2 h2 => ?_
    split at h2
    · obtain rfl := (rd1 : v = V.int _)
      obtain rfl := (rd2 : v2 = V.int _)
      exact ⟨_, _, rfl, okG.go h2 (st1.trans st2) rs2 rfl⟩
    · exact h2.elim
theorem se_min2 (G : GX P n md W N sc X) (hg : PTr.glob sc PTr.bMin = true) (ha : PE X a (aE X W md P n ia)) (hb : PE X b (aE X W md P n ib)) (ns : Star2 a b X.env) : PE X (.Call (.Name PTr.bMin p) [a, b] [] pos) (aE X W md P n (.min2 ia ib)) := by
  cases hh : md.hotB with
  | true => exact pe_false fun σ H Q ⟨ρ, s, ι, re, rs, h⟩ => absurd (show md.hotB = false from h.1) (by rw [hh]; decide)
  | false =>
    refine peI (b2 G hg bl_all.2.2.1 bo_min (call_min2 (G.calm hh)) ha hb ns (pl_of ns.2)) fun σ H Q ⟨ρ, s, ι, re, rs, h⟩ => ?_
    refine Lf.of (mE ia) re rs (Step.refl _ _) h.2 fun d s1 v H1 ι1 st1 rs1 rd1 re1 h1 => ?_
    refine Lf.of (mE ib) re1 rs1 st1 h1 fun d2 s2 v2 H2 ι2 st2 rs2 rd2 re2 h2 => ?_
    split at h2
    · obtain rfl := (rd1 : v = V.int _)
      obtain rfl := (rd2 : v2 = V.int _)
      exact ⟨_, _, rfl, okG.go h2 (st1.trans st2) rs2 rfl⟩
    · exact h2.elim
/-! ### isinstance -/
theorem ty_nam {c : Str} {t : PI.Ty} (e : PTr.tyOf c = some t) : PTr.bltns.contains c = true ∧ bootBuiltins c = some (.type (tyN t)) := by
  unfold PTr.tyOf at e
  split at e
  · rename_i z; cases e; subst z; decide +kernel
  · split at e
    · rename_i z; cases e; subst z; decide +kernel
    · split at e
      · rename_i z; cases e; subst z; decide +kernel
      · split at e
        · rename_i z; cases e; subst z; decide +kernel
        · split at e
          · rename_i z; cases e; subst z; decide +kernel
          · cases e
theorem se_isi (G : GX P n md W N sc X) (hg : PTr.glob sc PTr.bIsi = true) {c : Str} {t : PI.Ty} (hc : PTr.glob sc c = true) (ht : PTr.tyOf c = some t) (ha : PE X a (aE X W md P n ia)) {pc : Pos} (ns : starEach [a, .Name c pc] X.env = (false, eval a X.env) :: starEach [.Name c pc] X.env) :
    PE X (.Call (.Name PTr.bIsi p) [a, .Name c pc] [] pos) (aE X W md P n (.isi ia t)) := by
  obtain ⟨t1', t2'⟩ := ty_nam ht
  have hb : PE X (.Name c pc) (tC (.ty (tyN t))) := pe_bltn (G.gl hc) (G.fre (mem_bl t1')) t2' rfl (G.nam hc) (G.dbg hc)
  refine peI (b2 G hg bl_all.2.2.2.2.2.1 bo_isi call_isi ha hb ⟨ns, rfl⟩ rfl) fun σ H Q ⟨ρ, s, ι, re, rs, h⟩ => ?_
  refine Lf.of (mE ia) re rs (Step.refl _ _) h fun d s1 v H1 ι1 st1 rs1 rd1 re1 h1 => ?_
  split at h1
  · rename_i k q
    obtain ⟨y1, y2⟩ := tyxA rs1 rd1 q
    exact ⟨v, .ty (tyN t), _, _, k, rfl, .ty _, y1, kit_ty y2, okG.go h1 st1 rs1 rfl⟩
  · exact h1.elim
/-- isinstance(e, c), e the exception that is handled -/
theorem call_isX : CallR X (.builtin "isinstance") (fun xs H Q => ∃ (pp : Addr × Obj) (C : Addr) (dd : Option Addr) (c : V) (cv : Value) (b : Bool), pp ∈ X.pn ∧ ExC X.K C ∧ L2N.Zn (.ref C) dd pp.2 ∧ (∃ vs, pp.2.data = .fields vs) ∧ (∀ d, dd = some d → ∃ ws, H d = some (.xd ws)) ∧
      xs = [.ref pp.1, c] ∧ (∀ u, RelV c u → u = cv) ∧ PySem.W.kitOne X.K (.ref C) cv = some b ∧ Q (.bl b) H) := by
  intro pins s σ H xs us Q I r ⟨pp, C, dd, c, cv, b, hp, E, hz, hf, hxd, e, hcv, hk, q⟩
  subst e
  obtain ⟨u1, u2, rfl, r1, r2⟩ := vals2 r
  obtain rfl := hcv _ r2
  obtain rfl := (r1 : u1 = Value.ref pp.1)
  obtain ⟨hget, _⟩ := I.pin pp (List.mem_append_left _ hp)
  obtain ⟨vs, hv⟩ := hf
  have J : ∃ od, PySem.W.InstAt s.heap pp.1 pp.2 C od := by
    cases dd with
    | none =>
      obtain ⟨pa, oc, od, oda, osl⟩ := pp
      obtain ⟨z1, z2, _⟩ := hz
      dsimp only at z1 z2 hv hget ⊢
      subst z1 z2 hv
      exact ⟨none, hget, rfl, rfl, trivial⟩
    | some d =>
      obtain ⟨ws, hw⟩ := hxd d rfl
      have hx : ObjOk X.prog X.w H s.heap d (.xd ws) := I.hok d _ hw
      obtain ⟨mA, hns, _⟩ := hx
      obtain ⟨od, ho, _⟩ := lookIn_ns hns
      exact ⟨some od, hget, hz.1, by unfold PySem.W.notCls; rw [hv], by rw [hz.2.1]; exact ho⟩
  obtain ⟨od, J⟩ := J
  have hcl : (PySem.W.clsIn X.K C).isSome = true := by obtain ⟨cd, hc, _⟩ := PySem.W.any_some E.hd; rw [hc]; rfl
  exact PySem.W.kia_one (PySem.W.kitx_exc (gt := none) hcl E.ga E.gg E.isB E.kc E.kg E.kt E.mo) I.kIn J hk (fun z => nomatch z) fun tk => ⟨.bl b, H, I.kept (t' := tk) fun _ _ z => z, rfl, q⟩
/-- e.f, e the exception that is handled -/
theorem pe_fldX {te : TE} {f : Str} {pos : Pos} (he : PE X a te) (hb : attributeBase a f X.env (eval a X.env) = eval a X.env) : PE X (.Attribute a f pos) (fun σ H Q => te σ H fun x H1 => ∃ (pp : Addr × Obj) (C dd : Addr) (fs : List (Str × V)) (v : V), pp ∈ X.pn ∧ ExC X.K C ∧
    PySem.W.findIn X.K (.ref C) f = some none ∧ L2N.Zn (.ref C) (some dd) pp.2 ∧ (∃ vs, pp.2.data = .fields vs) ∧ x = .ref pp.1 ∧ H1 dd = some (.xd fs) ∧ fs.lookup f = some v ∧ Q v H1) := by
  refine ⟨fun pins s σ H Q I h => ?_⟩
  refine attr_of hb (thn (he.run pins s σ H _ I h) fun u s1 hh => ?_)
  obtain ⟨x, H1, I1, rx, pp, C, dd, fs, v, hp, T, hno, hz, hf, ex, ea, l, q⟩ := hh
  subst ex
  obtain rfl : u = Value.ref pp.1 := rx
  obtain ⟨ha, _⟩ := I1.pin pp (List.mem_append_left _ hp)
  obtain ⟨vs, hd⟩ := hf
  have hx : ObjOk X.prog X.w H1 s1.heap dd (.xd fs) := I1.hok dd _ ea
  obtain ⟨mA, hns, hr⟩ := hx
  obtain ⟨od, ho, hl⟩ := lookIn_ns hns
  obtain ⟨u, hu, ru⟩ := RelO.some_of (v := v) (o := mA f) (by rw [← l]; exact hr f)
  have J : PySem.W.InstAt s1.heap pp.1 pp.2 C (some od) := ⟨ha, hz.1, by unfold PySem.W.notCls; rw [hd], by rw [hz.2.1]; exact ho⟩
  exact HandSPX.exc_get I1.kIn J T.ga T.gg T.isB (PySem.W.findObj_own T.hd hno rfl (by rw [hl, hu])) (handed_of ru) ⟨v, H1, I1.tok _, ru, q⟩
/-- an own class by its name -/
theorem pe_cls (G : GX P n md W N sc X) {c : Str} (hc : PTr.glob sc c = true) {pc : Pos} : PE X (.Name c pc) (fun _ H Q => ∃ C, X.mg c = some (.ref C) ∧ Q (.ref C) H) := by
  cases q : X.mg c with
  | none => exact pe_false fun σ H Q ⟨C, e, _⟩ => by cases e
  | some u =>
    by_cases hr : ∃ C, u = .ref C
    · obtain ⟨C, rfl⟩ := hr
      exact peI (pe_glob (v := .ref C) (G.gl hc) q rfl (G.dbg hc)) fun σ H Q ⟨C', e, h⟩ => by cases e; exact h
    · exact pe_false fun σ H Q ⟨C, e, _⟩ => hr ⟨C, Option.some.inj e⟩
theorem kit_two {K : PySem.W.Frag} {t : String} {b c : Bool} (h1 : kitB t "tuple" = some b) (h2 : kitB t "list" = some c) : PySem.W.kitAny K (.type t) [.type "tuple", .type "list"] = some (b || c) :=
  kitAny_cons (kit_ty h1) (fun e => by subst e; exact kitAny_cons (kit_ty h2) (fun e => by subst e; rfl) (fun e => by subst e; rfl)) (fun e => by subst e; rfl)
theorem se_exIs (G : GX P n md W N sc X) (hg : PTr.glob sc PTr.bIsi = true) {x c : Str} {i : Nat} (hx : PTr.slot N sc x = some i) (hc : PTr.glob sc c = true) {px pc : Pos} :
    PE X (.Call (.Name PTr.bIsi p) [.Name x px, .Name c pc] [] pos) (aE X W md P n (.exIs i c)) := by
  refine peI (b2 G hg bl_all.2.2.2.2.2.1 bo_isi call_isX (G.var hx) (pe_cls G hc) ⟨rfl, rfl⟩ rfl) fun σ H Q ⟨ρ, s, ι, re, rs, h⟩ => ?_
  simp only [PI.wpE] at h
  split at h
  · rename_i d fs0 q
    split at h
    · rename_i b hb
      obtain ⟨pp, C, dd, z1, z2, z3, z4, z5⟩ := re.at_ i _ q
      obtain ⟨g1, g2, _⟩ := G.hot pp z1
      obtain ⟨C', w1, w2, w3, w4⟩ := G.ge.below d c b C hb z3
      obtain ⟨_, vs, e1, _⟩ := g1
      exact ⟨_, z2, C', w1, pp, C, dd, .ref C', .ref C', b, g2, w4, z4, ⟨vs, e1⟩, fun d e => by
        subst e
        obtain ⟨_, ws, hw, _⟩ := z5
        exact ⟨ws, hw⟩, rfl, fun u hu => hu, w3, h.here rs rfl⟩
    · exact h.elim
  · exact h.elim
theorem se_exVE (G : GX P n md W N sc X) (hg : PTr.glob sc PTr.bIsi = true) {x : Str} {i : Nat} (hx : PTr.slot N sc x = some i) (hc : PTr.glob sc PTr.bVE = true) {px pc : Pos} :
    PE X (.Call (.Name PTr.bIsi p) [.Name x px, .Name PTr.bVE pc] [] pos) (aE X W md P n (.exVE i)) := by
  have hb : PE X (.Name PTr.bVE pc) (tC (.ty "ValueError")) := pe_bltn (G.gl hc) (G.fre (by decide +kernel)) (by decide +kernel : bootBuiltins PTr.bVE = some (.type "ValueError")) rfl (G.nam hc) (G.dbg hc)
  refine peI (b2 G hg bl_all.2.2.2.2.2.1 bo_isi call_isX (G.var hx) hb ⟨rfl, rfl⟩ rfl) fun σ H Q ⟨ρ, s, ι, re, rs, h⟩ => ?_
  simp only [PI.wpE] at h
  split at h
  · rename_i d fs0 q
    obtain ⟨pp, C, dd, z1, z2, z3, z4, z5⟩ := re.at_ i _ q
    obtain ⟨g1, g2, _⟩ := G.hot pp z1
    split at h
    · rename_i k hk
      obtain ⟨_, vs, e1, _⟩ := g1
      obtain ⟨C', w1, w4⟩ := G.ge.exc d k hk
      rw [z3] at w1
      cases w1
      exact ⟨_, z2, pp, C, dd, .ty "ValueError", .type "ValueError", true, g2, w4, z4, ⟨vs, e1⟩, fun d e => by
        subst e
        obtain ⟨_, ws, hw, _⟩ := z5
        exact ⟨ws, hw⟩, rfl, fun u hu => hu, w4.ve, h.here rs rfl⟩
    · exact h.elim
  · exact h.elim
theorem se_exFld (G : GX P n md W N sc X) {x f : Str} {i : Nat} (hx : PTr.slot N sc x = some i) {px pc : Pos} : PE X (.Attribute (.Name x px) f pc) (aE X W md P n (.exFld i f)) := by
  refine peI (pe_fldX (G.var hx) rfl) fun σ H Q ⟨ρ, s, ι, re, rs, h⟩ => ?_
  simp only [PI.wpE] at h
  split at h
  · rename_i c fs q
    split at h
    · rename_i g y hg hy
      obtain ⟨rfl, h⟩ := h
      obtain ⟨pp, C, dd, z1, z2, z3, z4, z5⟩ := re.at_ i _ q
      obtain ⟨g1, g2, _⟩ := G.hot pp z1
      obtain ⟨C', w1, w4⟩ := G.ge.exc c _ hg
      rw [z3] at w1
      cases w1
      obtain ⟨C2, fI, y2, pr, bd, scp, fd, m2, S, _⟩ := G.ge.fld c g hg
      rw [z3] at m2
      cases m2
      obtain ⟨_, vs, e1, _⟩ := g1
      cases dd with
      | none => obtain rfl : fs = [] := z5; cases hy
      | some d =>
        obtain ⟨_, ws, hw, hl⟩ := z5
        obtain ⟨v, l1, l2⟩ := hl _ _ hy
        exact ⟨_, z2, pp, C, d, ws, v, g2, w4, S.nof, z4, ⟨vs, e1⟩, rfl, hw, l1, h.here rs l2⟩
    · exact h.elim
  · exact h.elim
theorem se_isTL (G : GX P n md W N sc X) (hg : PTr.glob sc PTr.bIsi = true) {c d : Str} (hc : PTr.glob sc c = true) (hd : PTr.glob sc d = true) (e1 : c = PTr.bTuple) (e2 : d = PTr.bList) (ha : PE X a (aE X W md P n ia)) {pc pd pt : Pos} {kk : Nat} (ns : starEach [a, .Tuple [.Name c pc, .Name d pd] kk pt] X.env = (false, eval a X.env) :: starEach [.Tuple [.Name c pc, .Name d pd] kk pt] X.env) :
    PE X (.Call (.Name PTr.bIsi p) [a, .Tuple [.Name c pc, .Name d pd] kk pt] [] pos) (aE X W md P n (.isTL ia)) := by
  subst e1 e2
  have hb1 : PE X (.Name PTr.bTuple pc) (tC (.ty "tuple")) := pe_bltn (G.gl hc) (G.fre (by decide +kernel)) bo_tuple rfl (G.nam hc) (G.dbg hc)
  have hb2 : PE X (.Name PTr.bList pd) (tC (.ty "list")) := pe_bltn (G.gl hd) (G.fre (by decide +kernel)) bo_list rfl (G.nam hd) (G.dbg hd)
  have hb : PE X (.Tuple [.Name PTr.bTuple pc, .Name PTr.bList pd] kk pt) _ := pe_tup (pa_cons hb1 (pa_cons hb2 pa_nil rfl) rfl)
  refine peI (b2 G hg bl_all.2.2.2.2.2.1 bo_isi call_isiT ha hb ⟨ns, rfl⟩ rfl) fun σ H Q ⟨ρ, s, ι, re, rs, h⟩ => ?_
  refine Lf.of (mE ia) re rs (Step.refl _ _) h fun d s1 v H1 ι1 st1 rs1 rd1 re1 h1 => ?_
  split at h1
  · rename_i b c q1 q2
    obtain ⟨y1, y2⟩ := tyxA rs1 rd1 q1
    obtain ⟨_, y3⟩ := tyxA rs1 rd1 q2
    refine ⟨by rw [sizeLine_eq]; decide, fun tq hq => ?_⟩
    have st2 : Step ι1 H1 ι1 (upd H1 tq (.tup [.ty "tuple", .ty "list"])) := Step.temp hq
    obtain ⟨y4, _⟩ := tyxA (rs1.temp (o := .tup [.ty "tuple", .ty "list"]) hq) (RD.step st2 rs1.lo _ rd1) q1
    exact ⟨v, tq, [.ty "tuple", .ty "list"], _, [.type "tuple", .type "list"], b || c, rfl, upd_same, .cons (.ty _) (.cons (.ty _) .nil), y4, kit_two y2 y3, okG.go h1 (st1.trans st2) (rs1.temp hq) rfl⟩
  · exact h1.elim
end
end PSd

set_option Elab.async false
set_option linter.all false
set_option maxRecDepth 100000
set_option maxHeartbeats 4000000
namespace PSd
open PySem PySem.Spec PyProof.Rows L2

/-! ### calls of own defs -/
section
variable {X : Cx} {CX : CXT} {k : Nat} {f : Addr} {fd : FuncData} {ps : List Str} {sp : Sp} {E : St → XK} {x : Str} {q pos : Pos} {e : Expr} {es : List Expr} {t : TA} {pp : Addr × Obj}
theorem pe_callT (F : FnT X.prog X.w X.K X.mg X.base CX pp k f fd ps sp) (hr : L2H.RoomH k X.A) (hot : L2H.Hot1 X.A pp) (hp : pp ∈ X.pn) (hg : Gl X x) (hm : X.mg x = some (.ref f)) (hk : PySem.W.keepIn X.K (.ref f) = true) (hb : Binds X.K fd ps [])
    (hx : ∀ σ, PassesAt CX X σ (E σ)) (ha : PA X (e :: es) t) (hdb : (x == ("__debug__" : Str)) = false) (he : starEach (e :: es) X.env = (false, eval e X.env) :: starEach es X.env) (hpl : (backTo pos (starEach es X.env)).any (·.1) = false) :
    PE X (.Call (.Name x q) (e :: es) [] pos) (tCallS sp E t) := by
  refine ⟨fun pins s σ H Q I h => wpAny_Call_Name_kw (ld_glob I hg hm ?_ hdb)⟩
  refine PySem.W.callWith_K (h₀ := X.base) I.ok.mod.kin hk (thn (ha.run pos pins s σ H _ I h) fun us s1 hh => ?_) he hpl
  obtain ⟨vs, H1, I1, r, hsp⟩ := hh
  refine ⟨I1.kIn, ?_⟩
  show wpAny _ _ (call (.ref f) us) _ _ _
  have hl : us.length = ps.length := by rw [← r.length]; exact F.len _ _ _ _ hsp
  have bind := hb s1 us I1.kIn (by rw [List.append_nil]; exact hl)
  rw [List.append_nil] at bind
  obtain ⟨p1, p2, p3, p4, p5⟩ := I1.pin pp (List.mem_append_left _ hp)
  have nofs : pp.1 ∉ frs X.stack := fun hm' => by
    rcases List.mem_cons.mp (I1.stkSub pp.1 hm') with z | z
    · exact p3 z
    · exact p4 z
  refine wpAny_call (codeAny_mono (F.run X.A X.stack s1 H1 ⟨us, []⟩ us vs Q (E σ) hr hot ⟨p1, p2, nofs, p5⟩ I1.env0 bind r hsp) fun res s2 hq => ?_)
  rcases res with er | fl
  · exact hx σ pins H1 s1 er s2 I1 hq
  · cases fl with
    | ret u => exact I1.after hq
    | _ => exact False.elim hq
theorem pe_callS0 (F : FnOk X.prog X.w X.K X.mg X.base CX k f fd ps sp) (hr : Room k X.A) (hg : Gl X x) (hm : X.mg x = some (.ref f)) (hk : PySem.W.keepIn X.K (.ref f) = true) (hb : Binds X.K fd ps []) (hx : ∀ σ, PassesAt CX X σ (E σ))
    (hdb : (x == ("__debug__" : Str)) = false) : PE X (.Call (.Name x q) [] [] pos) (fun σ H Q => sp [] H Q (E σ)) := by
  refine ⟨fun pins s σ H Q I h => wpAny_Call_Name_kw (ld_glob I hg hm ?_ hdb)⟩
  refine PySem.W.callWith_K0 I.kIn hk ?_
  show wpAny _ _ (call (.ref f) []) _ _ _
  exact run_fnS F hr hb (hx σ) I .nil h
theorem pe_callT0 (F : FnT X.prog X.w X.K X.mg X.base CX pp k f fd ps sp) (hr : L2H.RoomH k X.A) (hot : L2H.Hot1 X.A pp) (hp : pp ∈ X.pn) (hg : Gl X x) (hm : X.mg x = some (.ref f)) (hk : PySem.W.keepIn X.K (.ref f) = true) (hb : Binds X.K fd ps [])
    (hx : ∀ σ, PassesAt CX X σ (E σ)) (hdb : (x == ("__debug__" : Str)) = false) : PE X (.Call (.Name x q) [] [] pos) (fun σ H Q => sp [] H Q (E σ)) := by
  refine ⟨fun pins s1 σ H1 Q I1 hsp => wpAny_Call_Name_kw (ld_glob I1 hg hm ?_ hdb)⟩
  refine PySem.W.callWith_K0 I1.kIn hk ?_
  show wpAny _ _ (call (.ref f) []) _ _ _
  have hl : ([] : List Value).length = ps.length := F.len _ _ _ _ hsp
  have bind := hb s1 [] I1.kIn hl
  have e0 : ps = [] := List.length_eq_zero_iff.mp hl.symm
  subst e0
  obtain ⟨p1, p2, p3, p4, p5⟩ := I1.pin pp (List.mem_append_left _ hp)
  have nofs : pp.1 ∉ frs X.stack := fun hm' => by
    rcases List.mem_cons.mp (I1.stkSub pp.1 hm') with z | z
    · exact p3 z
    · exact p4 z
  refine wpAny_call (codeAny_mono (F.run X.A X.stack s1 H1 ⟨[], []⟩ [] [] Q (E σ) hr hot ⟨p1, p2, nofs, p5⟩ I1.env0 bind .nil hsp) fun res s2 hq => ?_)
  rcases res with er | fl
  · exact hx σ pins H1 s1 er s2 I1 hq
  · cases fl with
    | ret u => exact I1.after hq
    | _ => exact False.elim hq
end
/-- a def, by its body, called while p is handled -/
theorem fn_ofT {CX : CXT} {P0 : Program} {w : World} {K : PySem.W.Frag} {mg : Str → Option Value} {base : Heap} {k : Nat} {f : Addr} {name qual : Str} {params : Arguments} {body : List Stmt} {scope : Scope} {dV kV doc pm cdv ct oc : Value} {an od : Option Addr}
    {osl : Array (Option Value)} {N ps : List Str} {sp : Sp} {pp : Addr × Obj} (lk : K.lookup f = some ⟨oc, od, .func (PySem.W.fnOf name qual params body scope dV kV doc pm an cdv ct), osl⟩) (hcd : PySem.W.codeIn K cdv qual = true) (S : FnScope N ps scope)
    (len : ∀ vs H Q E, sp vs H Q E → vs.length = ps.length)
    (hbody : ∀ (A : Around) (outer : List Env) (s : Shared) (H : Hp) (vs : List V) (Q : VK) (E : XK), L2H.Hot1 A pp → L2H.RoomH k (A.deeper (envOfC qual scope s.heap.objs.size f cdv)) → sp vs H Q E →
      ∃ t, PSs (L2H.cxH CX P0 w K mg base N qual scope f cdv A outer s H E pp) body t ∧ t { nx := fun _ H' => Q .non H', rt := Q } (L2.start N vs) H) :
    FnT P0 w K mg base CX pp (k + 1) f (PySem.W.fnOf name qual params body scope dV kV doc pm an cdv ct) ps sp := by
  refine ⟨len, fun A outer s H args us vs Q E hr hot hpin e0 hb r hsp => ?_⟩
  have hl := len _ _ _ _ hsp
  have stays : ∀ b o, base.get? b = some o → s.heap.get? b = some o := fun b o e => (e0.bs b o e).1
  have hkind : ∀ y ∈ ps.zip us, scope.names.lookup y.1 = some .local ∨ (scope.names.lookup y.1 = some .cell ∧ ((cellsFrom (s.heap.objs.size + 1) scope.names []).lookup y.1).isSome = true) := by
    rintro ⟨nm, v⟩ hy
    refine (S.par nm (List.of_mem_zip hy).1).imp id fun z => ⟨z, PySem.W.cellsFrom_some _ _ _ (.inl z)⟩
  have KX := e0.mod.kin.keeps stays
  refine codeAny_call_function hr.depth (KX _ _ lk) rfl S.co S.gen rfl (PySem.W.codeRec_of KX hcd) (hb _ _ _ _ ?_)
  refine wpAny_newFunctionEnv_cells S.kind hkind fun env he s1 xc => ?_
  subst he
  refine ⟨(e0.mod.nolimit.keeps stays).keeps xc.toInCall.keep, codeAny_func ?_⟩
  obtain ⟨t, ht, hq⟩ := hbody A outer s H vs Q E hot (hr.deeper _) hsp
  have I := L2H.inv_startH (CX := CX) (P := P0) (w := w) (K := K) (mg := mg) (base := base) (cd := cdv) (E := E) S hpin e0 hl r xc
  refine wpAny_mono (ht.run [] s1 (L2.start N vs) H _ I hq) (fun fl s' hs => ?_) fun _ _ z => z
  cases fl with
  | ret u =>
    obtain ⟨v, σ', H', J, rv, z⟩ := hs
    exact ⟨v, H', J.os, J.bare, J.base, J.hok, rv, z⟩
  | next =>
    obtain ⟨σ', H', J, z⟩ := hs
    exact ⟨V.non, H', J.os, J.bare, J.base, J.hok, rfl, z⟩
  | brk => obtain ⟨_, _, _, z⟩ := hs; exact False.elim z
  | cont => obtain ⟨_, _, _, z⟩ := hs; exact False.elim z

section
variable {P : PI.Prog} {n : Nat} {md : Md} {W : WX} {N : List Str} {sc : Scope} {X : Cx}
variable {a b c : Expr} {ia ib ic : PI.Ex} {qa qb : PI.Sq} {pos p : Pos} {f : Str}
theorem se_call (G : GX P n md W N sc X) (hg : PTr.glob sc f = true) {es : List Expr} {l : List PI.Ar} (hl : PA X (a :: es) (aA X W md P n l)) (ns : starEach (a :: es) X.env = (false, eval a X.env) :: starEach es X.env) (pl : (backTo pos (starEach es X.env)).any (·.1) = false) :
    PE X (.Call (.Name f p) (a :: es) [] pos) (aE X W md P n (.call f l)) := by
  cases q : P.fn f with
  | none => exact pe_false fun σ H Q ⟨ρ, s, ι, re, rs, h⟩ => absurd (show (P.fn f).isSome = true from h.1) (by rw [q]; decide)
  | some fn =>
    obtain ⟨fa, fd, ps, F⟩ := G.fns f fn q
    have red : ∀ (E : St → XK) (md' : Md), md' = md → (∀ σ cls d H, E σ cls d H ↔ W cls d σ H) → ∀ σ H Q, aE X W md P n (.call f l) σ H Q → tCallS (spA X.K X.mg P n md' f) E (aA X W md P n l) σ H Q := by
      rintro E md' rfl hE σ H Q ⟨ρ, s, ι, re, rs, _, h⟩
      refine Lf.of (mA l) re rs (Step.refl _ _) h fun ds s1 vs H1 ι1 st1 rs1 ra re1 h1 => ?_
      refine ⟨ds, s1, ι1, ra, rs1, PI.wpCall_mono P n _ f ds s1 _ _ _ _ (fun d s2 hq => hq.shift st1) (fun c fs s2 hx cv dd H2 ι2 st2 rs2 xr => ?_) h1⟩
      exact (hE _ _ _ _).mpr (hx cv dd H2 ι2 (st1.trans st2) rs2 xr)
    cases md with
    | cold =>
      exact peI (pe_callS F.cold (G.cold rfl).2 (G.gl hg) F.atm F.keep F.binds (fun σ => L2N.passAt G.tk σ) hl (G.dbg hg) ns pl) (red (WE W) .cold rfl fun _ _ _ _ => Iff.rfl)
    | hot pp =>
      obtain ⟨g1, g2, g3⟩ := G.hot pp rfl
      exact peI (pe_callT (F.hot pp) g3 g1 g2 (G.gl hg) F.atm F.keep F.binds (fun σ => L2N.passAt G.tk σ) hl (G.dbg hg) ns pl) (red (WE W) (.hot pp) rfl fun _ _ _ _ => Iff.rfl)
theorem se_appendO {o : Expr} {io : PI.Ex} (ho : PE X o (aE X W md P n io)) {m : Str} (hm : m = ("append" : Str)) {ap cp : Pos} (hbase : attributeBase o "append" X.env (eval o X.env) = eval o X.env) (hline : (ap.endLine == cp.line) = true) (ha : PE X a (aE X W md P n ia)) (ns : starEach [a] X.env = (false, eval a X.env) :: starEach [] X.env) :
    PE X (.Call (.Attribute o m ap) [a] [] cp) (aE X W md P n (.append io ia)) := by
  subst hm
  have few : ((backTo cp (starEach [a] X.env)).all (fun x => !x.1) && (backToKw cp (keywordEach [] X.env)).all (fun x => x.1.isSome) && decide (([a] : List Expr).length + ([] : List Keyword).length + (if ([] : List Keyword).isEmpty then 0 else 1) < 30)) = true := by
    rw [ns]; rfl
  refine peI (pe_bm PySem.F.plainAttrs_list PySem.F.slot_list_append PySem.F.type_list_append mt_append ho (pa_cons ha pa_nil ns) hbase few hline ns rfl) fun σ H Q ⟨ρ, s, ι, re, rs, h⟩ => ?_
  refine Lf.of (mE io) re rs (Step.refl _ _) h fun d s1 v H1 ι1 st1 rs1 rd1 re1 h1 => ?_
  split at h1
  · rename_i k
    split at h1
    · rename_i l0 hl0
      obtain ⟨q, rfl, hq⟩ := rd1
      obtain ⟨q', vs, e1, e2, e3⟩ := rs1.at hl0
      rw [hq] at e1; cases e1
      refine ⟨.inl ⟨rfl, vs, SqL.of e2⟩, ?_⟩
      refine Lf.of (mE ia) re1 rs1 st1 h1 fun y s2 v2 H2 ι2 st2 rs2 rd2 re2 h2 => ?_
      split at h2
      · rename_i l hl
        obtain ⟨q', ws, f1, f2, f3⟩ := rs2.at hl
        have hq2 := st2.at hq
        rw [hq2] at f1; cases f1
        refine ⟨q, ws, v2, rfl, rfl, f2, by rw [← f3.length, ← line_eq]; exact h2.1, ?_⟩
        exact okG.go h2.2 ((st1.trans st2).trans (Step.write hq2)) (rs2.write hq2 (f3.app (RDs.one rd2))) rfl
      · exact h2.elim
    · exact h1.elim
  · exact h1.elim
theorem se_append (G : GX P n md W N sc X) {x : Str} {i : Nat} (hx : PTr.slot N sc x = some i) {m : Str} (hm : m = ("append" : Str)) {px ap cp : Pos} (hline : (ap.endLine == cp.line) = true) (ha : PE X a (aE X W md P n ia)) (ns : starEach [a] X.env = (false, eval a X.env) :: starEach [] X.env) :
    PE X (.Call (.Attribute (.Name x px) m ap) [a] [] cp) (aE X W md P n (.append (.var i) ia)) :=
  se_appendO (se_var G hx) hm rfl hline ha ns
theorem se_call0 (G : GX P n md W N sc X) (hg : PTr.glob sc f = true) : PE X (.Call (.Name f p) [] [] pos) (aE X W md P n (.call f [])) := by
  cases q : P.fn f with
  | none => exact pe_false fun σ H Q ⟨ρ, s, ι, re, rs, h⟩ => absurd (show (P.fn f).isSome = true from h.1) (by rw [q]; decide)
  | some fn =>
    obtain ⟨fa, fd, ps, F⟩ := G.fns f fn q
    have red : ∀ (E : St → XK) (md' : Md), md' = md → (∀ σ cls d H, E σ cls d H ↔ W cls d σ H) → ∀ σ H Q, aE X W md P n (.call f []) σ H Q → spA X.K X.mg P n md' f [] H Q (E σ) := by
      rintro E md' rfl hE σ H Q ⟨ρ, s, ι, re, rs, _, h⟩
      refine ⟨[], s, ι, ra_nil, rs, PI.wpCall_mono P n _ f [] s _ _ _ _ (fun d s2 hq => hq) (fun c fs s2 hx cv dd H2 ι2 st2 rs2 xr => ?_) h⟩
      exact (hE _ _ _ _).mpr (hx cv dd H2 ι2 st2 rs2 xr)
    cases md with
    | cold => exact peI (pe_callS0 F.cold (G.cold rfl).2 (G.gl hg) F.atm F.keep F.binds (fun σ => L2N.passAt G.tk σ) (G.dbg hg)) (red (WE W) .cold rfl fun _ _ _ _ => Iff.rfl)
    | hot pp =>
      obtain ⟨g1, g2, g3⟩ := G.hot pp rfl
      exact peI (pe_callT0 (F.hot pp) g3 g1 g2 (G.gl hg) F.atm F.keep F.binds (fun σ => L2N.passAt G.tk σ) (G.dbg hg)) (red (WE W) (.hot pp) rfl fun _ _ _ _ => Iff.rfl)
theorem vs_last {K : PySem.W.Frag} {H : Hp} {ι : List Addr} {l : List PI.D} {vs : List V} (h : RDs K H ι l vs) : RDs K H ι l.dropLast vs.dropLast := by
  rw [List.dropLast_eq_take, List.dropLast_eq_take, h.length]
  exact RDs.take _ h
theorem vs_erase {K : PySem.W.Frag} {H : Hp} {ι : List Addr} {l : List PI.D} {vs : List V} (h : RDs K H ι l vs) (j : Nat) : RDs K H ι (l.eraseIdx j) (vs.eraseIdx j) := by
  rw [List.eraseIdx_eq_take_drop_succ, List.eraseIdx_eq_take_drop_succ]
  exact RDs.app (RDs.take _ h) (RDs.drop _ h)
theorem se_pop {o : Expr} {io : PI.Ex} (ho : PE X o (aE X W md P n io)) {m : Str} (hm : m = ("pop" : Str)) {ap cp : Pos} (hbase : attributeBase o "pop" X.env (eval o X.env) = eval o X.env) (hline : (ap.endLine == cp.line) = true) :
    PE X (.Call (.Attribute o m ap) [] [] cp) (aE X W md P n (.pop io)) := by
  subst hm
  refine peI (pe_bm0 PySem.F.plainAttrs_list PySem.F.slot_list_pop PySem.F.type_list_pop mt_pop ho hbase hline) fun σ H Q ⟨ρ, s, ι, re, rs, h⟩ => ?_
  refine Lf.of (mE io) re rs (Step.refl _ _) h fun d s1 v H1 ι1 st1 rs1 rd1 re1 h1 => ?_
  split at h1
  · rename_i k
    split at h1
    · rename_i l hl
      split at h1
      · rename_i y hy
        obtain ⟨q, rfl, hq⟩ := rd1
        obtain ⟨q', vs, e1, e2, e3⟩ := rs1.at hl
        rw [hq] at e1; cases e1
        obtain ⟨w, w1, w2⟩ := e3.get hy
        refine ⟨.inl ⟨rfl, vs, SqL.of e2⟩, q, vs, w, rfl, rfl, e2, by rw [← e3.length]; exact w1, ?_⟩
        exact okG.go h1 (st1.trans (Step.write hq)) (rs1.write hq (vs_last e3)) (RD.step (Step.write hq) rs1.lo _ w2)
      · exact h1.elim
    · exact h1.elim
  · exact h1.elim
theorem seqIx {n : Nat} {i : Int} {j : Nat} (h : PI.ixN n i = some j) : seqIndex? i n = some j := by
  unfold PI.ixN at h
  unfold seqIndex?
  split at h
  · rename_i h0
    split at h
    · rename_i h1
      cases h
      have e : (if i < 0 then i + (n : Int) else i) = i := if_neg (by omega)
      simp only [e]
      rw [if_pos (by simp; omega)]
    · cases h
  · rename_i h0
    split at h
    · rename_i h1
      cases h
      have e : (if i < 0 then i + (n : Int) else i) = i + n := if_pos (by omega)
      simp only [e]
      rw [if_pos (by simp; omega)]
    · cases h
theorem few1 {cp : Pos} (ns : starEach [a] X.env = (false, eval a X.env) :: starEach [] X.env) : ((backTo cp (starEach [a] X.env)).all (fun x => !x.1) && (backToKw cp (keywordEach [] X.env)).all (fun x => x.1.isSome) && decide (([a] : List Expr).length + ([] : List Keyword).length + (if ([] : List Keyword).isEmpty then 0 else 1) < 30)) = true := by
  rw [ns]; rfl
theorem se_popAt {o : Expr} {io : PI.Ex} (ho : PE X o (aE X W md P n io)) {m : Str} (hm : m = ("pop" : Str)) {ap cp : Pos} (hbase : attributeBase o "pop" X.env (eval o X.env) = eval o X.env) (hline : (ap.endLine == cp.line) = true) (ha : PE X a (aE X W md P n ia)) (ns : starEach [a] X.env = (false, eval a X.env) :: starEach [] X.env) :
    PE X (.Call (.Attribute o m ap) [a] [] cp) (aE X W md P n (.popAt io ia)) := by
  subst hm
  refine peI (pe_bm PySem.F.plainAttrs_list PySem.F.slot_list_pop PySem.F.type_list_pop mt_popAt ho (pa_cons ha pa_nil ns) hbase (few1 ns) hline ns rfl) fun σ H Q ⟨ρ, s, ι, re, rs, h⟩ => ?_
  refine Lf.of (mE io) re rs (Step.refl _ _) h fun d s1 v H1 ι1 st1 rs1 rd1 re1 h1 => ?_
  split at h1
  · rename_i k
    split at h1
    · rename_i l0 hl0
      obtain ⟨q, rfl, hq⟩ := rd1
      obtain ⟨q', vs, e1, e2, e3⟩ := rs1.at hl0
      rw [hq] at e1; cases e1
      refine ⟨.inl ⟨rfl, vs, SqL.of e2⟩, ?_⟩
      refine Lf.of (mE ia) re1 rs1 st1 h1 fun y s2 v2 H2 ι2 st2 rs2 rd2 re2 h2 => ?_
      split at h2
      · rename_i i
        obtain ⟨hi, h2⟩ := h2
        obtain rfl := (rd2 : v2 = V.int _)
        split at h2
        · rename_i l hl
          split at h2
          · rename_i j hj
            split at h2
            · rename_i z hz
              obtain ⟨q', ws, f1, f2, f3⟩ := rs2.at hl
              have hq2 := st2.at hq
              rw [hq2] at f1; cases f1
              obtain ⟨w, w1, w2⟩ := f3.get hz
              refine ⟨q, ws, i, j, w, rfl, rfl, f2, hi.1, hi.2, by rw [← f3.length]; exact seqIx hj, w1, ?_⟩
              exact okG.go h2 ((st1.trans st2).trans (Step.write hq2)) (rs2.write hq2 (vs_erase f3 j)) (RD.step (Step.write hq2) rs2.lo _ w2)
            · exact h2.elim
          · exact h2.elim
        · exact h2.elim
      · exact h2.elim
    · exact h1.elim
  · exact h1.elim
/-- xs.extend(t), t a tuple -/
theorem ext_meets (l : Addr) (items : Array Value) (n : Nat) (b : Addr) (items2 : Array Value) (n2 : Nat) (od : Option Addr) (osl : Array (Option Value)) (hs0 : ¬(!items.isEmpty && Builtin.List.listTooLong (items.size + items2.size)) = true) (hs1 : items.size ≤ sizeLine) (hs2 : items.size + items2.size ≤ sizeLine + 1) :
    Meets (Builtin.«list.extend» ⟨[.ref l, .ref b], []⟩) (fun _ R s => s.heap.get? l = some { cls := .type "list", dict := none, data := .seq items n, slots := #[] } ∧ s.heap.get? b = some { cls := .type "tuple", dict := od, data := .seq items2 n2, slots := osl } ∧ R (.ok (.ret Value.none)) { s with heap := s.heap.update l (Obj.mapSeq fun x => x ++ items2), toks := s.toks }) :=
  .of_wp fun prog w A R s h => by
    obtain ⟨hp, g, d, tk, os⟩ := s
    obtain ⟨hl, hb, h⟩ := h
    have f1 := AutoSeq1.idx_int
    have f2 := AutoSeq1.sub_tuple_tuple
    have f3 := AutoSeq1.sub_list_list
    have f4 := AutoSeq1.sub_tuple_list
    have f5 := AutoSeq1.sub_list_tuple
    have hz' : (items ++ items2).size ≤ sizeLine + 1 := by rw [Array.size_append]; exact hs2
    wp_walk using (wpAny_updateSeq hl rfl (hz := hs1) (_hz' := hz')), AutoSeq1.wpAny_loadPart' hl, AutoSeq1.wpAny_loadPart' hb
    exact ⟨_, rfl, h⟩
def rExtT (K : PySem.W.Frag) : V → List V → Hp → VK → Prop := fun x vs H Q => ∃ l b xs zs, x = .ref l ∧ vs = [.ref b] ∧ H l = some (.lst xs) ∧ SqT K H b zs ∧ xs.length + zs.length ≤ sizeLine ∧ Q .non (upd H l (.lst (xs ++ zs)))
theorem mt_extT : MtR X "list.extend" (rExtT X.K) := by
  intro pins s σ H x xs0 v us Q I rx rv h
  obtain ⟨l, b, xs, zs, rfl, rfl, hH, hB, hz, q⟩ := h
  cases rx
  obtain ⟨u, rfl, ru⟩ := rv.one
  cases ru
  obtain ⟨z, its, n, r, hl, e⟩ := I.lstM hH
  obtain ⟨its2, r2, ⟨⟨oc, od, odt, osl⟩, ho, hc, n2, hd⟩, z2⟩ := I.tuple hB
  simp only at hc hd
  subst hc hd
  have hl2 := r2.length
  have hsz : its.toArray.size + its2.toArray.size ≤ sizeLine := by rw [List.size_toArray, List.size_toArray]; omega
  have hlong : ¬ (!its.toArray.isEmpty && Builtin.List.listTooLong (its.toArray.size + its2.toArray.size)) = true := by
    rw [notLongL hsz, Bool.and_false]
    exact Bool.false_ne_true
  refine call_meets F.slot_list_extend ⟨_, e, rfl⟩ F.entry_list_extend (F.args_list_extend_2 _ _) (ext_meets l its.toArray n b its2.toArray n2 od osl hlong (by rw [List.size_toArray]; omega) (by omega)) ⟨e, ho, ?_⟩
  refine ⟨.non, _, I.lset (its' := its ++ its2) hH e (by simp) (r.append r2) ?_, rfl, q⟩
  rw [List.length_append]
  omega
theorem se_extend {o : Expr} {io : PI.Ex} (ho : PE X o (aE X W md P n io)) {m : Str} (hm : m = ("extend" : Str)) {ap cp : Pos} (hbase : attributeBase o "extend" X.env (eval o X.env) = eval o X.env) (hline : (ap.endLine == cp.line) = true) (ha : PE X a (aQ X W md P n qa)) (ns : starEach [a] X.env = (false, eval a X.env) :: starEach [] X.env) :
    PE X (.Call (.Attribute o m ap) [a] [] cp) (aE X W md P n (.extend io qa)) := by
  subst hm
  refine peI (pe_bm PySem.F.plainAttrs_list PySem.F.slot_list_extend PySem.F.type_list_extend mt_extT ho (pa_cons ha pa_nil ns) hbase (few1 ns) hline ns rfl) fun σ H Q ⟨ρ, s, ι, re, rs, h⟩ => ?_
  refine Lf.of (mE io) re rs (Step.refl _ _) h fun d s1 v H1 ι1 st1 rs1 rd1 re1 h1 => ?_
  split at h1
  · rename_i k
    split at h1
    · rename_i l0 hl0
      obtain ⟨q, rfl, hq⟩ := rd1
      obtain ⟨q', vs, e1, e2, e3⟩ := rs1.at hl0
      rw [hq] at e1; cases e1
      refine ⟨.inl ⟨rfl, vs, SqL.of e2⟩, ?_⟩
      refine Lf.of (mQ qa) re1 rs1 st1 h1 fun y s2 v2 H2 ι2 st2 rs2 rq2 re2 h2 => ?_
      split at h2
      · rename_i zs l hl
        obtain ⟨b, ws, rfl, tq, rq⟩ := rq2
        obtain ⟨q', us, f1, f2, f3⟩ := rs2.at hl
        have hq2 := st2.at hq
        rw [hq2] at f1; cases f1
        refine ⟨q, b, us, ws, rfl, rfl, f2, tq, by rw [← f3.length, ← rq.length, ← line_eq]; exact h2.1, ?_⟩
        exact okG.go h2.2 ((st1.trans st2).trans (Step.write hq2)) (rs2.write hq2 (f3.app rq)) rfl
      · exact h2.elim
    · exact h1.elim
  · exact h1.elim
end
end PSd

set_option Elab.async false
set_option linter.all false
set_option maxRecDepth 100000
set_option maxHeartbeats 4000000
namespace PSd
open PySem PySem.Spec PyProof.Rows L2 L2H

/-! ### a comprehension while an exception is handled -/
abbrev hblk (X : Cx) (s : Shared) (H : Hp) (scope : Scope) (ce : Env) (fp : List Addr) : Cx := { X.blk s H scope ce fp with pn := X.pn }
section
variable {X : Cx}
theorem hblk_inv {s s' : Shared} {H H' : Hp} {scope : Scope} {ce : Env} {fp : List Addr} {τ : St} (I : Inv (X.blk s H scope ce fp) [] τ H' s')
    (hp : ∀ p ∈ X.pn, s'.heap.get? p.1 = some p.2 ∧ H' p.1 = none ∧ p.1 ≠ ce.locals ∧ p.1 ∉ frs X.stack ∧ ∀ v, p.2.data ≠ .cell v) : Inv (hblk X s H scope ce fp) [] τ H' s' :=
  let o := I.ok
  ⟨⟨o.mod, o.kind, o.glob, o.blt, o.above, o.inj, o.has, o.cab, o.hd, o.frames, o.stk, o.exf, o.bs, o.bsz, o.noex, o.exfs, o.funs, o.frf⟩, I.os, I.bare, I.base, I.loc, I.cell, I.free, I.freeC,
    fun p hq => hp p ((List.mem_append.mp hq).elim id (fun z => nomatch z)), I.hok, I.len⟩
theorem hblk_start {pins : List (Addr × Obj)} {σ : St} {H : Hp} {s : Shared} {scope : Scope} {own : List (Str × Nat)} {fp : List Addr} (I : Inv X pins σ H s) (ok : BlkOk X.N X.env.scope scope own) (hN : X.N.Nodup) (hfp : ∀ b ∈ fp, FpOk X pins H b ∧ b < s.heap.objs.size) :
    Inv (hblk X s H scope (compEnvC scope (cellsFrom (s.heap.objs.size + 1) scope.names (cloFrom X.env.cells scope.names [])) s.heap.objs.size X.env) fp) [] (L2.wipe σ (own.map (·.2))) H
      { s with heap := pushCells (s.heap.push { cls := .type "dict", data := .dict #[] }) scope.names } := by
  refine hblk_inv (block_start I ok hN hfp) fun p hp => ?_
  obtain ⟨e, f, l, nf, nc⟩ := I.pin p (List.mem_append_left _ hp)
  refine ⟨pushCells_keeps _ _ _ _ (Heap.get?_push_of_some _ e), f, Nat.ne_of_lt (Heap.lt_size e), fun z => ?_, nc⟩
  rcases List.mem_cons.mp (I.stkSub p.1 z) with z | z
  · exact l z
  · exact nf z
variable {elt tg iter : Expr} {ifs : List Expr} {scope : Scope} {own : List (Str × Nat)} {pos pos' : Pos} {wi : TI} {g : TG} {tt : TT} {te : TE}
/-- the parts of a block, in whichever block of X they run -/
structure BlkParts (X : Cx) (scope : Scope) (elt tg : Expr) (ifs : List Expr) (g : TG) (tt : TT) (te : TE) : Prop where
  tgt : ∀ (s : Shared) (H : Hp) (C : Addr) (cl : List (Str × Addr)) (fp : List Addr), PG (hblk X s H scope (compEnvC scope cl C X.env) fp) tg g
  tst : ∀ (s : Shared) (H : Hp) (C : Addr) (cl : List (Str × Addr)) (fp : List Addr), PTs (hblk X s H scope (compEnvC scope cl C X.env) fp) ifs tt
  elm : ∀ (s : Shared) (H : Hp) (C : Addr) (cl : List (Str × Addr)) (fp : List Addr), PE (hblk X s H scope (compEnvC scope cl C X.env) fp) elt te
set_option maxHeartbeats 8000000 in
theorem hot_core {pins : List (Addr × Obj)} {s : Shared} {σ : St} {H : Hp} {Q : VK} {use : Option (Value → Sem Unit)} {Z : Value → Shared → Prop}
    (hot : HotC X) (hN : X.N.Nodup) (I : Inv X pins σ H s) (hi : PIH X tg iter wi) (ok : BlkOk X.N X.env.scope scope own) (B : BlkParts X scope elt tg ifs g tt te) (hs : ∀ x, foldedSetIterable iter X.env x = pure x)
    (h : tLc wi g tt te (own.map (·.2)) σ H Q)
    (after : ∀ D C s' m H', Inv X pins σ H' s' → Q (.ref D) H' → s'.heap.Ns C m → FpOk X pins H' C → compPost (model X.prog X.w) X.A X.xe use Z (.ref D) C (.ok .next) s') :
    wpAny (model X.prog X.w) X.A (comprehension (.ListComp elt [⟨tg, iter, ifs, 0⟩] scope pos) scope X.env pos' (newList []) false (eval iter X.env) use) Z X.xe s := by
  have caught : ∀ y ∈ scope.names, y.2 = .free → ∃ c, X.env.cells.lookup y.1 = some c := fun y hy e => I.ok.has _ (ok.free y hy e)
  refine wpAny_comprehension_free (use := use) rfl hs (closure_ok caught) ok.kind (fun y hy e => (ok.uniq y hy).trans (congrArg some e)) (thn (hi.run pins s σ H _ I h) fun src sA hA => thn hA fun itv sB hB => ?_)
  obtain ⟨it, fp, tn, J, HB, rfl, IB, T, stB, fB, q⟩ := hB
  refine wpAny_newObj_type (newEnv_comp ?_) (by show 0 ≤ sizeLine; decide)
  generalize hL : sB.heap.objs.size = L
  have fresh : HB L = none := IB.hok.fresh (Nat.le_of_eq hL)
  obtain ⟨Wv, ⟨m0, w0⟩, turn⟩ := q L fresh
  generalize hsC : ({ sB with heap := sB.heap.push { cls := .type "list", data := .seq ([] : List Value).toArray } } : Shared) = sC
  have hC : sC.heap = sB.heap.push { cls := .type "list", data := .seq ([] : List Value).toArray } := congrArg Shared.heap hsC.symm
  have IC : Inv X pins σ (upd HB L (.lst [])) sC := hsC ▸ IB.laid (t' := sB.toks) (fun b o e => Heap.get?_push_of_some _ e) (Nat.le_of_eq hL) ⟨Nat.zero_le _, [], 0, .nil, hL ▸ Heap.get?_push_size _ rfl⟩
  have small : ∀ b ∈ fp, b < sB.heap.objs.size := fun b hb => (T.obj _ _ stB b hb).elim fun o e => Heap.lt_size e.1
  have fC : ∀ b ∈ fp, FpOk X pins (upd HB L (.lst [])) b ∧ b < sC.heap.objs.size := fun b hb =>
    ⟨⟨(upd_ne (hL ▸ Nat.ne_of_lt (small b hb))).trans (fB b hb).1, (fB b hb).2⟩, by rw [hC, Heap.size_push]; exact Nat.lt_succ_of_lt (small b hb)⟩
  have stC : tn 0 sC.heap := T.keep _ _ _ stB fun b _ o e => by rw [hC]; exact Heap.get?_push_of_some _ e
  have ID := hblk_start IC ok hN fC
  have pT := B.tgt sC (upd HB L (.lst [])) sC.heap.objs.size (cellsFrom (sC.heap.objs.size + 1) scope.names (cloFrom X.env.cells scope.names [])) fp
  have pI := B.tst sC (upd HB L (.lst [])) sC.heap.objs.size (cellsFrom (sC.heap.objs.size + 1) scope.names (cloFrom X.env.cells scope.names [])) fp
  have pE := B.elm sC (upd HB L (.lst [])) sC.heap.objs.size (cellsFrom (sC.heap.objs.size + 1) scope.names (cloFrom X.env.cells scope.names [])) fp
  show codeAny _ _ (.compStart (.ListComp elt [⟨tg, iter, ifs, 0⟩] scope pos) 0 (.ref it) (.ref L) (compEnvC scope (cellsFrom (sC.heap.objs.size + 1) scope.names (cloFrom X.env.cells scope.names [])) sC.heap.objs.size X.env)) (compPost (model X.prog X.w) X.A X.xe use Z (.ref L) sC.heap.objs.size)
    { sC with heap := pushCells (sC.heap.push { cls := .type "dict", data := .dict #[] }) scope.names }
  have untr : ∀ b ∈ fp, (upd HB L (.lst [])) b = none := fun b hb => (fC b hb).1.1
  generalize hce : compEnvC scope (cellsFrom (sC.heap.objs.size + 1) scope.names (cloFrom X.env.cells scope.names [])) sC.heap.objs.size X.env = ce at ID pT pI pE ⊢
  have lce : ce.locals = sC.heap.objs.size := by rw [← hce]; rfl
  generalize hHC : upd HB L (.lst []) = HC at IC ID pT pI pE w0 untr fC
  generalize hsD : ({ sC with heap := pushCells (sC.heap.push { cls := .type "dict", data := .dict #[] }) scope.names } : Shared) = sD at ID ⊢
  have stD : tn 0 sD.heap := T.keep _ _ _ stC fun b _ o e => hsD ▸ pushCells_keeps _ _ _ _ (Heap.get?_push_of_some _ e)
  have hotB : HotC (hblk X sC HC scope ce fp) := hot
  have pnOk : ∀ {τ : St} {H' : Hp} {s' : Shared}, Inv (hblk X sC HC scope ce fp) [] τ H' s' → (∀ b ∈ fp, H' b = none) → ∀ b ∈ fp, FpOk (hblk X sC HC scope ce fp) [] H' b := fun {τ H' s'} J' hn b hb =>
    ⟨hn b hb, (J'.ok.exf b hb).1, J'.ok.exfs b hb, .inl hb, fun x c e => (J'.ok.exf b hb).2 x c e, fun p hp => (fC b hb).1.2.2.2.2.2 p (List.mem_append_left _ ((List.mem_append.mp hp).elim id fun z => nomatch z))⟩
  refine (fun loop => codeAny_compStart_list loop (T.self X.A 0 _ _ _ stD loop)) ?_
  refine compLoop_any (fun n s' => ∃ i H', Inv (hblk X sC HC scope ce fp) [] (L2.wipe σ (own.map (·.2))) H' s' ∧ tn i s'.heap ∧ (∀ b ∈ fp, H' b = none) ∧ Wv i n H') ?_ m0 ⟨0, HC, ID, stD, untr, w0⟩
  rintro n sE ⟨i, HE, IE, stE, nE, wE⟩
  rcases turn i n HE wE with ⟨stop, qq⟩ | ⟨go, Nx, hNx, step⟩
  · refine thnF (T.done (hblk X sC HC scope ce fp) rfl rfl rfl hotB i [] sE _ HE (fun _ _ => False) IE (pnOk IE nE) stE stop) fun r sF ⟨hr, IF⟩ => ?_
    subst hr
    have back : Inv X pins σ HE sF := IC.call' (ch := fp) IF.os IF.base IF.hok IF.bare fun b hb => ⟨(fC b hb).1.2.2.2.1, (fC b hb).1.2.1, (fC b hb).1.2.2.2.2.1, (fC b hb).1.2.2.2.2.2⟩
    have freeC : HE sC.heap.objs.size = none := by rw [← lce]; exact IF.free
    obtain ⟨m, hn, _⟩ := IF.loc
    exact after L sC.heap.objs.size sF m HE back qq (by rw [← lce]; exact hn) (IC.fpOk (Nat.le_refl _) freeC)
  · refine thnF (T.item (hblk X sC HC scope ce fp) rfl rfl rfl hotB i [] sE _ HE (fun _ _ => False) IE (pnOk IE nE) stE go) fun r sF ⟨u, hr, hF⟩ => ?_
    subst hr
    refine thnF hF fun _ sG ⟨x, HG, IG, rG, yG, stG, nG⟩ => ?_
    refine thnF (pT.run _ sG _ HG x u _ (IG.pinned (pnOk IG nG) (T.obj _ _ stG)) rG (step x HG yG)) fun _ sH ⟨σH, HH, IH, same, qH⟩ => ?_
    refine thnF (pI.run _ sH σH HH _ IH qH) fun b sI ⟨HI, II, qI⟩ => ?_
    have close : ∀ {s' : Shared} {H' : Hp}, Inv (hblk X sC HC scope ce fp) ([] ++ pinsAt fp sG.heap) σH H' s' → Nx H' → ∃ m, m < n ∧ ∃ i H', Inv (hblk X sC HC scope ce fp) [] (L2.wipe σ (own.map (·.2))) H' s' ∧ tn i s'.heap ∧ (∀ b ∈ fp, H' b = none) ∧ Wv i m H' := fun {s' H'} J' nx => by
      obtain ⟨m', lt, w'⟩ := hNx H' nx
      have held : ∀ b ∈ fp, ∀ o, sG.heap.get? b = some o → s'.heap.get? b = some o ∧ H' b = none := fun b hb o e =>
        (J'.pin (b, o) (List.mem_append_right _ (List.mem_append_right _ (mem_pinsAt hb e)))).imp id fun z => z.1
      refine ⟨m', lt, i + 1, H', (J'.unpinned (pins := [])).weak (by rw [← same, wipe_length]) (fun j v e => ?_), T.keep _ _ _ stG fun b hb o e => (held b hb o e).1, fun b hb => ?_, w'⟩
      · rw [← same] at e
        exact (wipe_some e).1
      · obtain ⟨o, e, _⟩ := T.obj _ _ stG b hb
        exact (held b hb o e).2
    cases b with
    | false =>
      rw [if_neg Bool.false_ne_true] at qI ⊢
      exact close II qI
    | true =>
      rw [if_pos rfl] at qI ⊢
      refine thnF (pE.run _ sI σH HI _ II qI) fun z sJ ⟨y, HJ, IJ, rJ, acc, hacc, room, nx⟩ => ?_
      exact app_ok (X := hblk X sC HC scope ce fp) IJ hacc room rJ fun sK IK => close IK nx
theorem hot_lc (hot : HotC X) (hN : X.N.Nodup) (hi : PIH X tg iter wi) (ok : BlkOk X.N X.env.scope scope own) (B : BlkParts X scope elt tg ifs g tt te) (hs : ∀ x, foldedSetIterable iter X.env x = pure x) :
    PE X (.ListComp elt [⟨tg, iter, ifs, 0⟩] scope pos) (tLc wi g tt te (own.map (·.2))) := by
  refine ⟨fun pins s σ H Q I h => ?_⟩
  rw [eval_ListComp]
  refine hot_core hot hN I hi ok B hs h fun D C s' m H' J q hn f => ⟨m, hn, fun h'' sb => ?_⟩
  exact ⟨.ref D, H', J.turned (t' := s'.toks) (fun b o hb e => (sb.2 b hb).trans e) f.1 f.2.1 f.2.2.2.1 f.2.2.2.2.1 f.2.2.2.2.2, rfl, q⟩
/-- name = [..] whose block is swapped in -/
theorem hot_setLc {i : Nat} {y : Str} {py spos : Pos} (hot : HotC X) (hN : X.N.Nodup) (hy : X.N[i]? = some y) (hyl : X.env.scope.names.lookup y = some .local)
    (hsw : swapsWith (.ListComp elt [⟨tg, iter, ifs, 0⟩] scope pos) (some (.Name y py)) spos.line X.env = pure true) (hi : PIH X tg iter wi) (ok : BlkOk X.N X.env.scope scope own) (B : BlkParts X scope elt tg ifs g tt te) (hs : ∀ x, foldedSetIterable iter X.env x = pure x) :
    PS X (.Assign [.Name y py] (.ListComp elt [⟨tg, iter, ifs, 0⟩] scope pos) spos) (tAsg (tLc wi g tt te (own.map (·.2))) (gName i)) := by
  refine ⟨fun pins s σ H D I h => ?_⟩
  rw [exec_Assign_Name_used _ _ _ _ hsw]
  refine wpAny_bind (wpAny_standAt (wpAny_bind ?_))
  show wpAny _ X.A (do let _ ← comprehension (.ListComp elt [⟨tg, iter, ifs, 0⟩] scope pos) scope X.env (firstIterPos [⟨tg, iter, ifs, 0⟩] pos) (newList []) false (eval iter X.env) (some (assign (.Name y py) X.env))) _ _ s
  refine wpAny_bind (thn (hot_core (Z := fun _ s' => SP X pins D .next s') (Q := fun x H1 => gName i x σ H1 D.nx) hot hN I hi ok B hs h fun L C s' m H' J q hn f => ?_) fun _ s' hq => wpAny_pure (wpAny_pure hq))
  show wpAny _ _ (assign (.Name y py) X.env (.ref L)) _ _ _
  refine wpAny_assign_Name (store_ok2 (v := V.ref L) J hN hy (.inl hyl) rfl (fun sA IA ⟨a, sb, ha⟩ => ?_) (.inr hyl))
  have other : C ≠ a := ha.elim (fun z => z ▸ f.2.1) fun z e => f.2.2.2.2.1 y a z e.symm
  refine ⟨m, hn.sameBut sb other, fun hh sbh => ?_⟩
  exact ⟨_, H', IA.turned (t' := sA.toks) (fun b o hb e => (sbh.2 b hb).trans e) f.1 f.2.1 f.2.2.2.1 f.2.2.2.2.1 f.2.2.2.2.2, q⟩
end
end PSd

set_option Elab.async false
set_option linter.all false
set_option maxRecDepth 100000
set_option maxHeartbeats 4000000
namespace PSd
open PySem PySem.Spec PyProof.Rows L2

/-! ### what is walked -/
/-- the iterator J yields what stands in items, while src stands -/
def WkOk (K : PySem.W.Frag) (ι1 : List Addr) (H1 : Hp) (src : PI.Src) (items : List PI.D) (J : L2.It) : Prop :=
  ∀ ι2 H2 s2, Step ι1 H1 ι2 H2 → RS K H2 ι2 s2 → src.ok s2 →
    (∀ i d, items[i]? = some d → J.go i H2 ∧ ∀ x H', J.yld i H2 x H' → Step ι2 H2 ι2 H' ∧ RS K H' ι2 s2 ∧ RD K H' ι2 d x) ∧ ∀ i, items.length ≤ i → J.stop i H2
section
variable {K : PySem.W.Frag} {H H0 : Hp} {ι : List Addr}
theorem wk_seq {a : Addr} {vs : List V} {src : PI.Src} (h : RQ K H0 ι H src (.ref a)) (lo : Lo H ι) : ∃ J, (J = Itl K a ∨ J = Itt K a) ∧ (src.isList = true → J = Itl K a) ∧ (src.isList = false → J = Itt K a) ∧ WkOk K ι H src src.items J := by
  cases hl : src.isList with
  | true =>
    refine ⟨Itl K a, .inl rfl, fun _ => rfl, nofun, fun ι2 H2 s2 st r ok => ?_⟩
    obtain ⟨a', ws, e, _, q, z, _⟩ := (h.step st lo r ok).seq
    cases e
    have z := z hl
    refine ⟨fun i d e => ?_, fun i hi => ⟨ws, z, by rw [← q.length]; exact hi⟩⟩
    obtain ⟨v, e1, e2⟩ := q.get e
    refine ⟨⟨ws, v, z, e1⟩, fun x H' y => ?_⟩
    obtain ⟨rfl, y⟩ := y
    have := y ws z
    rw [e1] at this; cases this
    exact ⟨Step.refl _ _, r, e2⟩
  | false =>
    refine ⟨Itt K a, .inr rfl, nofun, fun _ => rfl, fun ι2 H2 s2 st r ok => ?_⟩
    obtain ⟨a', ws, e, _, q, _, z⟩ := (h.step st lo r ok).seq
    cases e
    have z := z hl
    refine ⟨fun i d e => ?_, fun i hi => ⟨ws, z, by rw [← q.length]; exact hi⟩⟩
    obtain ⟨v, e1, e2⟩ := q.get e
    refine ⟨⟨ws, v, z, e1⟩, fun x H' y => ?_⟩
    obtain ⟨rfl, y⟩ := y
    have := y ws z
    rw [e1] at this; cases this
    exact ⟨Step.refl _ _, r, e2⟩
theorem enumD_get {l : List PI.D} {i : Nat} {d : PI.D} (e : (PI.enumD l)[i]? = some d) : ∃ y, l[i]? = some y ∧ d = .tup [.int (i : Nat), y] := by
  unfold PI.enumD at e
  rw [List.getElem?_map, List.getElem?_zipIdx] at e
  cases q : l[i]? with
  | none => rw [q] at e; cases e
  | some y =>
    rw [q] at e
    simp at e
    exact ⟨y, rfl, e.symm⟩
theorem enumD_len (l : List PI.D) : (PI.enumD l).length = l.length := by unfold PI.enumD; simp
theorem wk_enum {a : Addr} {src : PI.Src} (h : RQ K H0 ι H src (.ref a)) (lo : Lo H ι) : ∃ J, (J = Ite K a ∨ J = ItE K a) ∧ (src.isList = true → J = Ite K a) ∧ (src.isList = false → J = ItE K a) ∧ WkOk K ι H src (PI.enumD src.items) J := by
  cases hl : src.isList with
  | true =>
    refine ⟨Ite K a, .inl rfl, fun _ => rfl, nofun, fun ι2 H2 s2 st r ok => ?_⟩
    obtain ⟨a', ws, e, _, q, z, _⟩ := (h.step st lo r ok).seq
    cases e
    have z := z hl
    refine ⟨fun i d e => ?_, fun i hi => ⟨ws, z, by rw [← q.length]; rw [enumD_len] at hi; exact hi⟩⟩
    obtain ⟨y, e0, rfl⟩ := enumD_get e
    obtain ⟨v, e1, e2⟩ := q.get e0
    refine ⟨⟨ws, v, z, e1⟩, fun x H' y => ?_⟩
    obtain ⟨T, x', rfl, hT, rfl, y⟩ := y
    have := y ws z
    rw [e1] at this; cases this
    exact ⟨Step.temp hT, r.temp hT, T, _, rfl, SqT.of upd_same, ⟨_, _, rfl, rfl, RDs.one (RD.step (Step.temp hT) r.lo _ e2)⟩⟩
  | false =>
    refine ⟨ItE K a, .inr rfl, nofun, fun _ => rfl, fun ι2 H2 s2 st r ok => ?_⟩
    obtain ⟨a', ws, e, _, q, _, z⟩ := (h.step st lo r ok).seq
    cases e
    have z := z hl
    refine ⟨fun i d e => ?_, fun i hi => ⟨ws, z, by rw [← q.length]; rw [enumD_len] at hi; exact hi⟩⟩
    obtain ⟨y, e0, rfl⟩ := enumD_get e
    obtain ⟨v, e1, e2⟩ := q.get e0
    refine ⟨⟨ws, v, z, e1⟩, fun x H' y => ?_⟩
    obtain ⟨T, x', rfl, hT, rfl, y⟩ := y
    have := y ws z
    rw [e1] at this; cases this
    exact ⟨Step.temp hT, r.temp hT, T, _, rfl, SqT.of upd_same, ⟨_, _, rfl, rfl, RDs.one (RD.step (Step.temp hT) r.lo _ e2)⟩⟩
theorem wk_rng (lo : Int) (n : Nat) : WkOk K ι H (.ls []) (PI.rangeD lo n) (Itr lo n) := fun ι2 H2 s2 st r ok => by
  refine ⟨fun i d e => ?_, fun i hi => ?_⟩
  · unfold PI.rangeD at e
    rw [List.getElem?_map] at e
    by_cases hi : i < n
    · rw [List.getElem?_range hi] at e
      obtain rfl : PI.D.int (lo + (i : Int)) = d := by simpa using e
      refine ⟨hi, fun x H' y => ?_⟩
      obtain ⟨rfl, rfl⟩ := y
      exact ⟨Step.refl _ _, r, rfl⟩
    · rw [List.getElem?_eq_none (by simpa using hi)] at e; cases e
  · unfold PI.rangeD at hi
    simp at hi
    exact hi
theorem wk_str (x : Str) : WkOk K ι H (.ls []) (PI.strD x) (Its x) := fun ι2 H2 s2 st r ok => by
  refine ⟨fun i d e => ?_, fun i hi => ?_⟩
  · unfold PI.strD at e
    rw [List.getElem?_map] at e
    cases q : x.cps.toList[i]? with
    | none => rw [q] at e; cases e
    | some c =>
      rw [q] at e
      obtain rfl : PI.D.str ⟨#[c]⟩ = d := by simpa using e
      have q' : x.cps[i]? = some c := by simpa using q
      refine ⟨(Array.getElem?_eq_some_iff.mp q').1, fun y H' z => ?_⟩
      obtain ⟨rfl, c', e1, rfl⟩ := z
      rw [q'] at e1; cases e1
      exact ⟨Step.refl _ _, r, rfl⟩
  · unfold PI.strD at hi
    simp at hi
    exact hi
end

section
variable {P : PI.Prog} {n : Nat} {md : Md} {W : WX} {N : List Str} {sc : Scope} {X : Cx}
variable {a b c : Expr} {ia ib ic : PI.Ex} {qa qb : PI.Sq} {pos p : Pos} {f : Str} {tg : Expr}
def okI (K : PySem.W.Frag) (it : PI.It) (R : L2.It → Hp → Prop) (ι : List Addr) (H : Hp) : PI.Src → List PI.D → PI.S → Prop := fun src items s' =>
  ∀ J H' ι', Step ι H ι' H' → RS K H' ι' s' → WkOk K ι' H' src items J → (it.cool = true → ∃ n, src = .ls [] ∧ items = PI.rangeD 0 n ∧ J = Itr 0 n) → R J H'
def aI (X : Cx) (W : WX) (md : Md) (P : PI.Prog) (n : Nat) (i : PI.It) : TI := fun σ H R =>
  ∃ ρ s ι, REnv X.K X.mg H ι md ρ σ ∧ RS X.K H ι s ∧ PI.wpI (cxI P n md) i ρ s (okI X.K i R ι H) (exW X.K X.mg W σ ι H)
/-- a list, a tuple or a str is walked -/
def WkV (K : PySem.W.Frag) (v : V) (H : Hp) (R : L2.It → Hp → Prop) : Prop :=
  (∃ a, v = .ref a ∧ (∃ xs, SqL K H a xs) ∧ R (Itl K a) H) ∨ (∃ a, v = .ref a ∧ (∃ xs, SqT K H a xs) ∧ R (Itt K a) H) ∨ ∃ x, v = .str x ∧ R (Its x) H
theorem pi_any {te : TE} (ha : PE X a te) : PI X tg a (fun σ H R => te σ H fun v H1 => WkV X.K v H1 R) := by
  refine ⟨fun pins s σ H R I h => thn (ha.run pins s σ H _ I h) fun u s1 ⟨v, H1, I1, rv, q⟩ => ?_⟩
  rcases q with ⟨r, rfl, ⟨xs, hq⟩, q⟩ | ⟨r, rfl, ⟨xs, hq⟩, q⟩ | ⟨x, rfl, q⟩
  · cases rv
    obtain ⟨its, _, isl, _⟩ := I1.list hq
    exact wpAny_pyIter_list isl.isList (pi_one (tk := s1.toks) I1 _ (turn_list r _) ⟨_, Heap.get?_push_size _ rfl, rfl, rfl⟩ q)
  · cases rv
    obtain ⟨its, _, ist, _⟩ := I1.tuple hq
    exact wpAny_pyIter_tuple (show s1.heap.IsTuple r its.toArray from ist) (pi_one (tk := s1.toks) I1 _ (turn_tuple r _) ⟨_, Heap.get?_push_size _ rfl, rfl, rfl⟩ q)
  · obtain ⟨t, rfl⟩ := rv
    cases asc : x.cps.all (· < 128)
    · exact wpAny_pyIter_wide asc (pi_one (tk := s1.toks) I1 _ (turn_str _ x t "str_iterator" (.inr rfl)) ⟨_, Heap.get?_push_size _ rfl, rfl, rfl⟩ q)
    · exact wpAny_pyIter_ascii asc (pi_one (tk := s1.toks) I1 _ (turn_str _ x t "str_ascii_iterator" (.inl rfl)) ⟨_, Heap.get?_push_size _ rfl, rfl, rfl⟩ q)
theorem piI {e : Expr} {t t' : TI} (h : PI X tg e t) (w : ∀ σ H R, t' σ H R → t σ H R) : PI X tg e t' := ⟨fun pins s σ H R I q => h.run pins s σ H R I (w σ H R q)⟩
theorem wkv_of {K : PySem.W.Frag} {H0 H : Hp} {ι : List Addr} {src : PI.Src} {v : V} {R : L2.It → Hp → Prop} (h : RQ K H0 ι H src v) (lo : Lo H ι) (q : ∀ J, WkOk K ι H src src.items J → R J H) : WkV K v H R := by
  obtain ⟨a, vs, rfl, _, rd, z1, z2⟩ := h.seq
  obtain ⟨J, _, j1, j2, wk⟩ := wk_seq (vs := vs) h lo
  cases hl : src.isList with
  | true =>
    have e := j1 hl
    subst e
    exact .inl ⟨a, rfl, ⟨vs, z1 hl⟩, q _ wk⟩
  | false =>
    have e := j2 hl
    subst e
    exact .inr (.inl ⟨a, rfl, ⟨vs, z2 hl⟩, q _ wk⟩)
theorem si_of (ha : PE X a (aE X W md P n ia)) : PI X tg a (aI X W md P n (.of ia)) :=
  piI (pi_any ha) fun σ H R ⟨ρ, s, ι, re, rs, h⟩ =>
    Lf.of (mE ia) re rs (Step.refl _ _) h fun d s1 v H1 ι1 st1 rs1 rd1 re1 h1 => by
      split at h1
      · rename_i r q
        unfold PI.walkD at q
        split at q
        · rename_i x
          split at q
          · cases q
            obtain rfl := (rd1 : v = V.str _)
            exact .inr (.inr ⟨x, rfl, h1 _ _ _ st1 rs1 (wk_str x) (fun z => nomatch z)⟩)
          · cases q
        · cases e : PI.srcD d s1 with
          | none => rw [e] at q; cases q
          | some src =>
            rw [e] at q
            obtain rfl : (src, src.items) = r := by simpa using q
            exact wkv_of (srcA rs1 rd1 e H) rs1.lo fun J wk => h1 _ _ _ st1 rs1 wk (fun z => nomatch z)
      · exact h1.elim
theorem si_seq (ha : PE X a (aQ X W md P n qa)) : PI X tg a (aI X W md P n (.seq qa)) :=
  piI (pi_any ha) fun σ H R ⟨ρ, s, ι, re, rs, h⟩ =>
    Lf.of (mQ qa) re rs (Step.refl _ _) h fun r s1 v H1 ι1 st1 rs1 rq re1 h1 =>
      wkv_of rq rs1.lo fun J wk => h1 _ _ _ st1 rs1 wk (fun z => nomatch z)
theorem rng1_go {σ : St} {H : Hp} {R : L2.It → Hp → Prop} (h : aI X W md P n (.rng1 ia) σ H R) : aE X W md P n ia σ H fun v H1 => ∃ j : Int, [v] = [V.int j] ∧ -(2 ^ 62) ≤ j ∧ j < 2 ^ 62 ∧ R (Itr 0 j.toNat) H1 := by
  obtain ⟨ρ, s, ι, re, rs, h⟩ := h
  exact Lf.of (mE ia) re rs (Step.refl _ _) h fun d s1 v H1 ι1 st1 rs1 rd1 re1 h1 => by
    split at h1
    · obtain rfl := (rd1 : v = V.int _)
      exact ⟨_, rfl, h1.2.1, h1.1, h1.2.2 _ _ _ st1 rs1 (wk_rng _ _) (fun _ => ⟨_, rfl, rfl, rfl⟩)⟩
    · exact h1.elim
theorem si_rng1 (G : GX P n md W N sc X) (hg : PTr.glob sc PTr.bRange = true) (ha : PE X a (aE X W md P n ia)) (ns : Star1 a X.env) : PI X tg (.Call (.Name PTr.bRange p) [a] [] pos) (aI X W md P n (.rng1 ia)) :=
  piI (pi_range1 (G.gl hg) (G.fre (by decide +kernel)) (pa_cons ha pa_nil ns) ns) fun σ H R h => rng1_go h
theorem si_rng1H (G : GX P n md W N sc X) (hg : PTr.glob sc PTr.bRange = true) (ha : PE X a (aE X W md P n ia)) (ns : Star1 a X.env) : L2H.PIH X tg (.Call (.Name PTr.bRange p) [a] [] pos) (aI X W md P n (.rng1 ia)) :=
  ⟨fun pins s σ H R I h => (L2H.pi_range1H (tg := tg) (pos := pos) (p := p) (G.gl hg) (G.fre (by decide +kernel)) (pa_cons ha pa_nil ns) ns).run pins s σ H R I (rng1_go h)⟩
theorem si_rng2 (G : GX P n md W N sc X) (hg : PTr.glob sc PTr.bRange = true) (ha : PE X a (aE X W md P n ia)) (hb : PE X b (aE X W md P n ib)) (ns : Star2 a b X.env) : PI X tg (.Call (.Name PTr.bRange p) [a, b] [] pos) (aI X W md P n (.rng2 ia ib)) :=
  piI (pi_range2 (G.gl hg) (G.fre (by decide +kernel)) (pa_cons ha (pa_cons hb pa_nil ns.2) ns.1) (ns.1.trans (by rw [ns.2]; rfl)) (ns.2.trans rfl)) fun σ H R ⟨ρ, s, ι, re, rs, h⟩ =>
    Lf.of (mE ia) re rs (Step.refl _ _) h fun d s1 v H1 ι1 st1 rs1 rd1 re1 h1 =>
      Lf.of (mE ib) re1 rs1 st1 h1 fun d2 s2 v2 H2 ι2 st2 rs2 rd2 re2 h2 => by
        split at h2
        · obtain rfl := (rd1 : v = V.int _)
          obtain rfl := (rd2 : v2 = V.int _)
          exact ⟨_, _, rfl, h2.1, h2.2 _ _ _ (st1.trans st2) rs2 (wk_rng _ _) (fun z => nomatch z)⟩
        · exact h2.elim
/-- enumerate of a list or of a tuple -/
theorem pi_enumA {ta : TA} {tpos : Pos} {elts : List Expr} {kk : Nat} (hg : Gl X "enumerate") (hm : X.mg "enumerate" = none) (ha : PA X [a] ta) (hs : starEach [a] X.env = [(false, eval a X.env)]) :
    PI X (.Tuple elts kk tpos) (.Call (.Name "enumerate" p) [a] [] pos) (fun σ H R => ta σ H fun vs H1 => ∃ q, vs = [.ref q] ∧ (((∃ xs, SqL X.K H1 q xs) ∧ R (Ite X.K q) H1) ∨ ((∃ xs, SqT X.K H1 q xs) ∧ R (ItE X.K q) H1))) := by
  refine ⟨fun pins s σ H R I h => ?_⟩
  refine Call_ (ld_blt I hg hm boot_enumerate (PyProof.Rows.callWith_type1 (thn (ha.run pos pins s σ H _ I h) fun us s1 ⟨vs, H1, I1, rv, q, ex, hq⟩ => ?_) hs rfl))
  subst ex
  cases rv with
  | cons r rr =>
    cases rr
    cases r
    have far : ∀ b ∈ [s1.heap.objs.size + 1, s1.heap.objs.size], s1.heap.objs.size ≤ b := fun b hb => by
      rcases List.mem_cons.mp hb with z | z
      · omega
      · have : b = s1.heap.objs.size := by simpa using z
        omega
    rcases hq with ⟨⟨xs, hq⟩, hR⟩ | ⟨⟨xs, hq⟩, hR⟩
    · obtain ⟨its, _, isl, _⟩ := I1.list hq
      refine call_enumerate_list isl.isList fun h' he hit _ hk => wpAny_pyIter_enum he ?_
      exact ⟨_, _, _, _, H1, rfl, I1.kept (t' := s1.toks) hk, turn_enum q (s1.heap.objs.size + 1) s1.heap.objs.size, ⟨⟨.none, he⟩, hit, Nat.succ_ne_self _⟩, fun b hb => I1.fpOk (far b hb) (I1.hok.fresh (far b hb)), hR⟩
    · obtain ⟨its, _, ist, _⟩ := I1.tuple hq
      have ist : s1.heap.IsTuple q its.toArray := ist
      have lt : q < s1.heap.objs.size := by
        obtain ⟨o, ho, _⟩ := ist
        exact Heap.lt_size ho
      refine call_enumT ist fun h' he hit hk => wpAny_pyIter_enum he ?_
      exact ⟨_, _, _, _, H1, rfl, I1.kept (t' := s1.toks) hk, turn_enumT q (s1.heap.objs.size + 1) s1.heap.objs.size, ⟨⟨.none, he⟩, hit, Nat.succ_ne_self _, Nat.ne_of_lt lt, Nat.ne_of_lt (Nat.lt_succ_of_lt lt)⟩, fun b hb => I1.fpOk (far b hb) (I1.hok.fresh (far b hb)), hR⟩
theorem si_enum (G : GX P n md W N sc X) (hg : PTr.glob sc PTr.bEnum = true) (ha : PE X a (aQ X W md P n qa)) (ns : Star1 a X.env) {tpos : Pos} {elts : List Expr} {kk : Nat} : PI X (.Tuple elts kk tpos) (.Call (.Name PTr.bEnum p) [a] [] pos) (aI X W md P n (.enum qa)) :=
  piI (pi_enumA (G.gl hg) (G.fre (by decide +kernel)) (pa_cons ha pa_nil ns) ns) fun σ H R ⟨ρ, s, ι, re, rs, h⟩ =>
    Lf.of (mQ qa) re rs (Step.refl _ _) h fun r s1 v H1 ι1 st1 rs1 rq re1 h1 => by
      obtain ⟨q, vs, rfl, _, rd, z1, z2⟩ := rq.seq
      obtain ⟨J, _, j1, j2, wk⟩ := wk_enum rq rs1.lo
      refine ⟨q, rfl, ?_⟩
      cases hl : r.isList with
      | true =>
        have e := j1 hl
        subst e
        exact .inl ⟨⟨vs, z1 hl⟩, h1 _ _ _ st1 rs1 wk (fun z => nomatch z)⟩
      | false =>
        have e := j2 hl
        subst e
        exact .inr ⟨⟨vs, z2 hl⟩, h1 _ _ _ st1 rs1 wk (fun z => nomatch z)⟩

/-! ### targets -/
def gSlots : List Nat → TGs
  | [] => gNil
  | i :: r => gCons (gName i) (gSlots r)
def gT (K : PySem.W.Frag) : PI.Tg → TG
  | .name i => gName i
  | .tup l => gTup K l.length (gSlots l)
/-- the names of a target may be stored in the context -/
def TgOk (X : Cx) (N : List Str) (sct : Scope) : Prop := ∀ x i, PTr.slotT N sct x = some i → X.N[i]? = some x ∧ Loc X.env.scope x ∧ (X.fn x = true ∨ X.env.scope.names.lookup x = some .local)
theorem tg_name {sct : Scope} (hN : X.N.Nodup) (T : TgOk X N sct) {x : Str} {i : Nat} (e : PTr.slotT N sct x = some i) : PG X (.Name x pos) (gName i) :=
  let ⟨h1, h2, h3⟩ := T x i e
  pg_name hN h1 h2 h3
theorem tgs_all {sct : Scope} (hN : X.N.Nodup) (T : TgOk X N sct) : ∀ (es : List Expr) (l : List Nat), es.mapM (PTr.nmOf N sct) = some l → PGs X es (gSlots l) ∧ (assignEach es X.env).length = l.length ∧ (assignEach es X.env).findIdx? (·.1) = none
  | [], l, h => by
    simp at h
    subst h
    exact ⟨pgs_nil, rfl, rfl⟩
  | e :: es, l, h => by
    rw [List.mapM_cons] at h
    cases q : PTr.nmOf N sct e with
    | none => rw [q] at h; exact nomatch h
    | some i =>
      rw [q] at h
      cases q2 : es.mapM (PTr.nmOf N sct) with
      | none => rw [q2] at h; exact nomatch h
      | some r =>
        rw [q2] at h
        obtain rfl : i :: r = l := Option.some.inj h
        obtain ⟨g1, g2, g3⟩ := tgs_all hN T es r q2
        unfold PTr.nmOf at q
        split at q
        · refine ⟨pgs_cons (tg_name hN T q) g1, congrArg (· + 1) g2, ?_⟩
          show List.findIdx? _ ((false, _) :: assignEach es X.env) = none
          rw [List.findIdx?_cons, g3]
          rfl
        · cases q
theorem tg_all {sct : Scope} (hN : X.N.Nodup) (T : TgOk X N sct) {e : Expr} {t : PI.Tg} (h : PTr.trTg N sct e = some t) (hc : t.one = false → X.calm = true) : PG X e (gT X.K t) := by
  unfold PTr.trTg at h
  split at h
  · rename_i x p
    cases q : PTr.slotT N sct x with
    | none => rw [q] at h; exact nomatch h
    | some i =>
      rw [q] at h
      obtain rfl : PI.Tg.name i = t := Option.some.inj h
      exact tg_name hN T q
  · rename_i es k p
    cases q : es.mapM (PTr.nmOf N sct) with
    | none => rw [q] at h; exact nomatch h
    | some l =>
      rw [q] at h
      obtain rfl : PI.Tg.tup l = t := Option.some.inj h
      obtain ⟨g1, g2, g3⟩ := tgs_all hN T es l q
      exact pg_tup (hc rfl) g1 g2 g3
  · exact nomatch h
theorem slots_go {K : PySem.W.Frag} {mg : Str → Option Value} {H : Hp} {ι : List Addr} {Q : St → Hp → Prop} : ∀ (l : List Nat) (ds : List PI.D) (vs : List V) (ρ : PI.Env) (σ : St), REnv K mg H ι md ρ σ → RDs K H ι ds vs → ds.length = l.length →
    (∀ σ1, REnv K mg H ι md ((l.zip ds).foldl (fun ρ p => ρ.set p.1 (.val p.2)) ρ) σ1 → σ1.length = σ.length → (∀ i, i ∉ l → σ1[i]? = σ[i]?) → Q σ1 H) → gSlots l vs σ H Q
  | [], ds, vs, ρ, σ, re, rd, e, k => by
    have : ds = [] := List.length_eq_zero_iff.mp e
    subst this
    obtain rfl := rd
    exact ⟨rfl, k σ re rfl fun _ _ => rfl⟩
  | i :: l, ds, vs, ρ, σ, re, rd, e, k => by
    cases ds with
    | nil => cases e
    | cons d ds =>
      obtain ⟨v, t, rfl, h1, h2⟩ := rd
      refine ⟨v, t, rfl, ?_⟩
      exact slots_go l ds t (ρ.set i (.val d)) (σ.set i (some v)) (re.set i h1) h2 (by simpa using e) fun σ1 r1 l1 o1 => k σ1 r1 (by simpa using l1) fun j hj => by
        have hj1 : j ≠ i := fun z => hj (by simp [z])
        have hj2 : j ∉ l := fun z => hj (by simp [z])
        rw [o1 j hj2, List.getElem?_set_ne (Ne.symm hj1)]
def tgIx : PI.Tg → List Nat
  | .name i => [i]
  | .tup l => l
theorem tg_go {K : PySem.W.Frag} {mg : Str → Option Value} {H : Hp} {ι : List Addr} {Q : St → Hp → Prop} {t : PI.Tg} {d : PI.D} {v : V} {ρ ρ1 : PI.Env} {σ : St} (re : REnv K mg H ι md ρ σ) (rd : RD K H ι d v) (h : PI.asgT t d ρ = some ρ1)
    (k : ∀ σ1, REnv K mg H ι md ρ1 σ1 → σ1.length = σ.length → (∀ i, i ∉ tgIx t → σ1[i]? = σ[i]?) → Q σ1 H) : gT K t v σ H Q := by
  cases t with
  | name i =>
    obtain rfl : ρ.set i (.val d) = ρ1 := Option.some.inj h
    exact k _ (re.set i rd) (by simp) fun j hj => List.getElem?_set_ne (Ne.symm (by simpa [tgIx] using hj))
  | tup l =>
    unfold PI.asgT at h
    split at h
    · rename_i e; cases e
    · rename_i e0
      cases e0
      split at h
      · rename_i ds
        split at h
        · rename_i hl
          obtain rfl := Option.some.inj h
          obtain ⟨a, vs, rfl, t1, t2⟩ := rd
          exact ⟨a, vs, rfl, t1, by rw [← t2.length, hl], slots_go l ds vs ρ σ re t2 hl k⟩
        · cases h
      · cases h
theorem wipe_get {σ : St} {i : Nat} : ∀ {vs : List Nat}, i ∉ vs → (L2.wipe σ vs)[i]? = σ[i]?
  | [], _ => rfl
  | v :: vs, h => by
    unfold L2.wipe
    rw [List.getElem?_set_ne (fun z => h (by simp [z])), wipe_get (fun z => h (by simp [z]))]
theorem wipe_own {σ : St} {i : Nat} : ∀ {vs : List Nat}, i ∈ vs → i < σ.length → (L2.wipe σ vs)[i]? = some none
  | v :: vs, h, hl => by
    unfold L2.wipe
    by_cases e : v = i
    · subst e
      rw [List.getElem?_set_self (by rw [wipe_length]; exact hl)]
    · rw [List.getElem?_set_ne e]
      exact wipe_own ((List.mem_cons.mp h).resolve_left fun z => e z.symm) hl
theorem wipe_same {σ τ : St} {vs : List Nat} (hl : τ.length = σ.length) (h : ∀ i, i ∉ vs → τ[i]? = σ[i]?) : L2.wipe τ vs = L2.wipe σ vs := by
  refine List.ext_getElem? fun i => ?_
  by_cases hi : i ∈ vs
  · by_cases hlt : i < σ.length
    · rw [wipe_own hi hlt, wipe_own hi (by rw [hl]; exact hlt)]
    · rw [List.getElem?_eq_none (by rw [wipe_length]; omega), List.getElem?_eq_none (by rw [wipe_length]; omega)]
  · rw [wipe_get hi, wipe_get hi, h i hi]
theorem unset_all : ∀ (own : List Nat) (ρ : PI.Env) (i : Nat) (d : PI.D), (own.foldl (fun ρ i => ρ.set i PI.Sl.no) ρ)[i]? = some (.val d) → i ∉ own ∧ ρ[i]? = some (.val d)
  | [], ρ, i, d, h => ⟨by simp, h⟩
  | j :: own, ρ, i, d, h => by
    obtain ⟨h1, h2⟩ := unset_all own (ρ.set j .no) i d h
    by_cases e : j = i
    · subst e
      by_cases hl : j < ρ.length
      · rw [List.getElem?_set_self hl] at h2; cases h2
      · rw [List.getElem?_eq_none (by simpa using hl)] at h2; cases h2
    · rw [List.getElem?_set_ne e] at h2
      exact ⟨by simp only [List.mem_cons, not_or]; exact ⟨fun z => e z.symm, h1⟩, h2⟩
theorem unset_len : ∀ (own : List Nat) (ρ : PI.Env), (own.foldl (fun ρ i => ρ.set i PI.Sl.no) ρ).length = ρ.length
  | [], _ => rfl
  | j :: own, ρ => by rw [List.foldl_cons, unset_len own]; simp
theorem REnv.wipe {K : PySem.W.Frag} {mg : Str → Option Value} {H : Hp} {ι : List Addr} {ρ : PI.Env} {σ : St} {own : List Nat} {md' : Md} (r : REnv K mg H ι md ρ σ) : REnv K mg H ι md' (PI.wipe ρ own) (L2.wipe σ own) := by
  refine ⟨by unfold PI.wipe; rw [List.length_map, unset_len, wipe_length]; exact r.len, fun i sl e => ?_⟩
  unfold PI.wipe at e
  rw [List.getElem?_map] at e
  cases q : (own.foldl (fun ρ i => ρ.set i PI.Sl.no) ρ)[i]? with
  | none => rw [q] at e; cases e
  | some x =>
    rw [q] at e
    cases x with
    | no => cases e; trivial
    | exn c fs => cases e; trivial
    | val d =>
      cases e
      obtain ⟨h1, h2⟩ := unset_all own ρ i d q
      obtain ⟨v, e, h⟩ := r.at_ i _ h2
      exact ⟨v, (wipe_get h1).trans e, h⟩
end
end PSd

set_option Elab.async false
set_option linter.all false
set_option maxRecDepth 100000
set_option maxHeartbeats 4000000
namespace PSd
open PySem PySem.Spec PyProof.Rows L2

/-! ### a list that nothing refers to grows -/
section
variable {K : PySem.W.Frag} {H H' : Hp} {ι : List Addr}
theorem sqt_keep (k : ∀ a o, H a = some o → (∀ vs, o ≠ .lst vs) → H' a = some o) {a : Addr} {vs : List V} (h : SqT K H a vs) : SqT K H' a vs := by
  rcases h with (h | ⟨o, h⟩) | h
  · exact .inl (.inl (k a _ h nofun))
  · exact .inl (.inr ⟨o, k a _ h nofun⟩)
  · exact .inr h
theorem sqf_keep (k : ∀ a o, H a = some o → (∀ vs, o ≠ .lst vs) → H' a = some o) {a : Addr} {vs : List V} (h : SqF K H a vs) : SqF K H' a vs := by
  rcases h with ⟨o, h⟩ | h
  · exact .inl ⟨o, k a _ h nofun⟩
  · exact .inr h
mutual
theorem RD.keep (k : ∀ a o, H a = some o → (∀ vs, o ≠ .lst vs) → H' a = some o) : ∀ (d : PI.D) {v : V}, RD K H ι d v → RD K H' ι d v
  | .non, _, h => h
  | .bl _, _, h => h
  | .int _, _, h => h
  | .str _, _, h => h
  | .tup ds, _, ⟨a, vs, e, h1, h2⟩ => ⟨a, vs, e, sqt_keep k h1, RDs.keep k ds h2⟩
  | .fls ds, _, ⟨a, vs, e, h1, h2⟩ => ⟨a, vs, e, sqf_keep k h1, RDs.keep k ds h2⟩
  | .ref _, _, h => h
theorem RDs.keep (k : ∀ a o, H a = some o → (∀ vs, o ≠ .lst vs) → H' a = some o) : ∀ (ds : List PI.D) {vs : List V}, RDs K H ι ds vs → RDs K H' ι ds vs
  | [], _, h => h
  | d :: r, _, ⟨v, t, e, h1, h2⟩ => ⟨v, t, e, RD.keep k d h1, RDs.keep k r h2⟩
end
theorem keep_upd {D : Addr} {vs ws : List V} (h : H D = some (.lst vs)) : ∀ a o, H a = some o → (∀ vs, o ≠ .lst vs) → upd H D (.lst ws) a = some o := fun a o e n => by
  rw [upd_ne]
  · exact e
  · rintro rfl
    rw [h] at e
    exact n vs (Option.some.inj e).symm
theorem RS.other {s : PI.S} {D : Addr} {vs ws : List V} (r : RS K H ι s) (n : D ∉ ι) (h : H D = some (.lst vs)) : RS K (upd H D (.lst ws)) ι s :=
  ⟨r.len, r.nd, fun k a l e1 e2 => by
    obtain ⟨us, h1, h2⟩ := r.ob k a l e1 e2
    refine ⟨us, ?_, RDs.keep (keep_upd h) l h2⟩
    have ne : a ≠ D := fun z => n (by rw [← z]; exact List.mem_of_getElem? e1)
    rw [upd_ne ne]
    exact h1⟩
theorem Step.other {ι' : List Addr} {D : Addr} {o : HO} (st : Step ι H ι' H') (h : H D = none) : Step ι H ι' (upd H' D o) :=
  ⟨st.pre, st.new, fun a u e n => by rw [upd_ne (ne_of_none e h)]; exact st.keep a u e n⟩
end

section
variable {P : PI.Prog} {n : Nat} {md : Md} {W : WX} {N : List Str} {sc : Scope} {X : Cx}
abbrev Wf : WX := fun _ _ _ _ => False
variable {e : PI.Ex} {own : List Nat} {t : PI.Tg} {it : PI.It} {cond : Option PI.Te}
theorem comp_go {σ : St} {H : Hp} {Q : VK} (hin : ∀ i ∈ tgIx t, i ∈ own) (h : aQ X W md P n (.comp e own t it cond) σ H Q) :
    ((md.hotB = true → it.cool = true ∧ t.one = true)) ∧ tLc (aI X W md P n it) (gT X.K t) (aC X Wf md P n cond) (aE X Wf md P n e) own σ H Q := by
  obtain ⟨ρ, s, ι, re, rs, h0, h⟩ := h
  refine ⟨h0, ρ, s, ι, re, rs, PI.wpI_mono (PI.mono_call P n _) it (fun src items s1 hcw => ?_) (fun _ _ _ h => h) h⟩
  obtain ⟨hln, hcw⟩ := hcw
  intro J H1 ι1 st1 rs1 wk _ D hD
  refine ⟨fun i m H' => m = items.length - i ∧ i ≤ items.length ∧ (∃ ι' s' acc vs, Step ι1 H1 ι' H' ∧ RS X.K H' ι' s' ∧ D ∉ ι' ∧ H' D = some (.lst vs) ∧ RDs X.K H' ι' acc vs ∧ acc.length ≤ i ∧
      PI.compW src.ok (fun d s2 nx => match PI.asgT t d (PI.wipe ρ own) with
        | some ρ1 => PI.wpC (cxI P n md) cond ρ1 s2 (fun b s3 => if b = true then PI.wpE (cxI P n md) e ρ1 s3 (fun y s4 => nx (some y) s4) (fun _ _ _ => False) else nx none s3) fun _ _ _ => False
        | none => False) (fun l s2 => okG X.K (RQ X.K) Q ι H (.ls l) s2) (items.drop i) acc s'), ⟨items.length, by simp, Nat.zero_le _, ι1, s1, [], [], Step.temp hD, rs1.temp hD, not_mem_of_none rs1.lo hD, upd_same, rfl, Nat.le_refl _, hcw⟩, ?_⟩
  rintro i m H2 ⟨rfl, hi, ι2, s2, acc, vs, st2, rs2, nD, hDv, rda, la, hc⟩
  by_cases hlt : i < items.length
  · rw [List.drop_eq_getElem_cons hlt] at hc
    obtain ⟨hok, hc⟩ := hc
    obtain ⟨go, yl⟩ := (wk ι2 H2 s2 st2 rs2 hok).1 i items[i] (List.getElem?_eq_getElem hlt)
    refine .inr ⟨go, _, fun H' nx => ⟨items.length - (i + 1), by omega, rfl, hlt, nx⟩, fun x H3 y => ?_⟩
    obtain ⟨st3, rs3, rd3⟩ := yl x H3 y
    have st23 := st2.trans st3
    have re3 := re.step (st1.trans st23) rs.lo
    split at hc
    · rename_i ρ1 hρ
      refine tg_go (md := md) re3.wipe rd3 hρ fun σ1 re1 l1 o1 => ⟨?_, ?_⟩
      · refine wipe_same (l1.trans (wipe_length _ _)) fun j hj => ?_
        rw [o1 j fun z => hj (hin j z), wipe_get hj]
      · have hD3 : H3 D = some (.lst vs) := st3.keep D _ hDv nD
        have nD3 : D ∉ ι2 := nD
        refine Lf.of (W := Wf) (mC cond) re1 rs3 (Step.refl _ _) (mC cond _ _ _ _ _ _ (fun _ _ h => h) (fun _ _ _ h => h.elim) hc) fun b s4 g H4 ι4 st4 rs4 rg re4 hb => ?_
        obtain rfl := rg
        have hD4 := st4.keep D _ hD3 nD3
        have nD4 := st4.stays hD3 nD3
        cases g with
        | true =>
          rw [if_pos rfl] at hb ⊢
          refine Lf.of (W := Wf) (mE e) re4 rs4 (Step.refl _ _) (mE e _ _ _ _ _ _ (fun _ _ h => h) (fun _ _ _ h => h.elim) hb) fun y s5 v H5 ι5 st5 rs5 rd5 re5 h5 => ?_
          have hD5 := st5.keep D _ hD4 nD4
          have nD5 := st5.stays hD4 nD4
          have rda5 : RDs X.K H5 ι5 acc vs := RDs.step (st3.trans (st4.trans st5)) rs2.lo _ rda
          refine ⟨vs, hD5, ?_, ι5, s5, acc ++ [y], vs ++ [v], (st23.trans (st4.trans st5)).other hD, rs5.other nD5 hD5, nD5, upd_same, RDs.keep (keep_upd hD5) _ (rda5.app (RDs.one rd5)), by simp; omega, h5⟩
          rw [← rda.length, ← line_eq]
          omega
        | false =>
          rw [if_neg Bool.false_ne_true] at hb ⊢
          refine ⟨ι4, s4, acc, vs, st23.trans st4, rs4, nD4, hD4, RDs.step (st3.trans st4) rs2.lo _ rda, by omega, ?_⟩
          rw [show acc ++ (none : Option PI.D).toList = acc from List.append_nil _] at hb
          exact hb
    · exact hc.elim
  · have hi' : i = items.length := by omega
    subst hi'
    rw [List.drop_eq_nil_of_le (Nat.le_refl _)] at hc
    refine .inl ⟨(wk ι2 H2 s2 st2 rs2 hc.1).2 _ (Nat.le_refl _), ?_⟩
    exact okG.go hc.2 (st1.trans st2) rs2 ⟨D, vs, rfl, ⟨hDv, nD, st1.fresh rs1.lo hD⟩, rda⟩
end

section
variable {K : PySem.W.Frag} {mg : Str → Option Value} {H H' : Hp} {ι : List Addr} {md : Md}
theorem REnv.keep {ρ : PI.Env} {σ : St} (k : ∀ a o, H a = some o → (∀ vs, o ≠ .lst vs) → H' a = some o) (r : REnv K mg H ι md ρ σ) : REnv K mg H' ι md ρ σ :=
  ⟨r.len, fun i sl e => by
    have h := r.at_ i sl e
    cases sl with
    | no => trivial
    | val d =>
      obtain ⟨v, e1, h1⟩ := h
      exact ⟨v, e1, RD.keep k d h1⟩
    | exn c fs =>
      obtain ⟨p, C, d, h1, h2, h3, h4, h5⟩ := h
      refine ⟨p, C, d, h1, h2, h3, h4, ?_⟩
      cases d with
      | none => exact h5
      | some dd =>
        obtain ⟨h0, ws, hw, hl⟩ := h5
        refine ⟨h0, ws, k dd _ hw nofun, fun f x e => ?_⟩
        obtain ⟨v, e1, e2⟩ := hl f x e
        exact ⟨v, e1, RD.keep k x e2⟩⟩
end
section
variable {P : PI.Prog} {n : Nat} {md : Md} {W : WX} {N : List Str} {sc : Scope} {X : Cx}
variable {e : PI.Ex} {own own1 : List Nat} {t t1 : PI.Tg} {it it1 : PI.It} {cond cond1 : Option PI.Te}
theorem comp2_go {σ : St} {H : Hp} {Q : VK} (hin : ∀ i ∈ tgIx t, i ∈ own) (hin1 : ∀ i ∈ tgIx t1, i ∈ own1) (h : aQ X W md P n (.comp2 e own own1 t it cond t1 it1 cond1) σ H Q) :
    (md.hotB = false ∧ it1.cool = true) ∧ tLc2 (aI X W md P n it) (gT X.K t) (aC X Wf md P n cond) (aI X Wf md P n it1) (gT X.K t1) (aC X Wf md P n cond1) (aE X Wf md P n e) own own1 σ H Q := by
  obtain ⟨ρ, s, ι, re, rs, h0, h⟩ := h
  refine ⟨h0, ρ, s, ι, re, rs, PI.wpI_mono (PI.mono_call P n _) it (fun src items s1 hcw => ?_) (fun _ _ _ h => h) h⟩
  intro J H1 ι1 st1 rs1 wk _ D hD
  refine ⟨fun i m H' => m = items.length - i ∧ i ≤ items.length ∧ (∃ ι' s' acc vs, Step ι1 H1 ι' H' ∧ RS X.K H' ι' s' ∧ D ∉ ι' ∧ H' D = some (.lst vs) ∧ RDs X.K H' ι' acc vs ∧
      PI.compA src.ok (fun d acc s2 nx => match PI.asgT t d (PI.wipe ρ own) with
        | some ρ1 => PI.wpC (cxI P n md) cond ρ1 s2 (fun b s3 => if b = true then PI.wpI (cxI P n md) it1 ρ1 s3 (fun src1 items1 s4 =>
            PI.compA src1.ok (fun d1 acc1 s5 nx1 => match PI.asgT t1 d1 (PI.wipe ρ1 own1) with
              | some ρ2 => PI.wpC (cxI P n md) cond1 ρ2 s5 (fun b1 s6 => if b1 = true then PI.wpE (cxI P n md) e ρ2 s6 (fun y s7 => acc1.length < PI.line ∧ nx1 (acc1 ++ [y]) s7) (fun _ _ _ => False) else nx1 acc1 s6) fun _ _ _ => False
              | none => False) nx items1 acc s4) (fun _ _ _ => False) else nx acc s3) fun _ _ _ => False
        | none => False) (fun l s2 => okG X.K (RQ X.K) Q ι H (.ls l) s2) (items.drop i) acc s'), ⟨items.length, by simp, Nat.zero_le _, ι1, s1, [], [], Step.temp hD, rs1.temp hD, not_mem_of_none rs1.lo hD, upd_same, rfl, hcw⟩, ?_⟩
  rintro i m H2 ⟨rfl, hi, ι2, s2, acc, vs, st2, rs2, nD, hDv, rda, hc⟩
  by_cases hlt : i < items.length
  · rw [List.drop_eq_getElem_cons hlt] at hc
    obtain ⟨hok, hc⟩ := hc
    obtain ⟨go, yl⟩ := (wk ι2 H2 s2 st2 rs2 hok).1 i items[i] (List.getElem?_eq_getElem hlt)
    refine .inr ⟨go, _, fun H' nx => ⟨items.length - (i + 1), by omega, rfl, hlt, nx⟩, fun x H3 y => ?_⟩
    obtain ⟨st3, rs3, rd3⟩ := yl x H3 y
    have st23 := st2.trans st3
    have re3 := re.step (st1.trans st23) rs.lo
    split at hc
    · rename_i ρ1 hρ
      refine tg_go (md := md) re3.wipe rd3 hρ fun σ1 re1 l1 o1 => ⟨?_, ?_⟩
      · refine wipe_same (l1.trans (wipe_length _ _)) fun j hj => ?_
        rw [o1 j fun z => hj (hin j z), wipe_get hj]
      · have hD3 : H3 D = some (.lst vs) := st3.keep D _ hDv nD
        refine Lf.of (W := Wf) (mC cond) re1 rs3 (Step.refl _ _) (mC cond _ _ _ _ _ _ (fun _ _ h => h) (fun _ _ _ h => h.elim) hc) fun b s4 g H4 ι4 st4 rs4 rg re4 hb => ?_
        obtain rfl := rg
        have hD4 := st4.keep D _ hD3 nD
        have nD4 := st4.stays hD3 nD
        have rda4 := RDs.step (st3.trans st4) rs2.lo _ rda
        have st24 := st23.trans st4
        cases g with
        | true =>
          rw [if_pos rfl] at hb ⊢
          refine ⟨ρ1, s4, ι4, re4, rs4, PI.wpI_mono (PI.mono_call P n _) it1 (fun src1 items1 s5 hcw1 => ?_) (fun _ _ _ h => h.elim) hb⟩
          intro J1 H5 ι5 st5 rs5 _ hJ
          obtain ⟨k, rfl, rfl, rfl⟩ := hJ h0.2
          have hD5 := st5.keep D _ hD4 nD4
          have nD5 := st5.stays hD4 nD4
          refine ⟨fun j m H' => m = k - j ∧ j ≤ k ∧ (∃ ι' s' acc' vs', Step ι1 H1 ι' H' ∧ RS X.K H' ι' s' ∧ REnv X.K X.mg H' ι' md ρ1 σ1 ∧ D ∉ ι' ∧ H' D = some (.lst vs') ∧ RDs X.K H' ι' acc' vs' ∧
            PI.compA (PI.Src.ls []).ok (fun d1 acc1 s5 nx1 => match PI.asgT t1 d1 (PI.wipe ρ1 own1) with
              | some ρ2 => PI.wpC (cxI P n md) cond1 ρ2 s5 (fun b1 s6 => if b1 = true then PI.wpE (cxI P n md) e ρ2 s6 (fun y s7 => acc1.length < PI.line ∧ nx1 (acc1 ++ [y]) s7) (fun _ _ _ => False) else nx1 acc1 s6) fun _ _ _ => False
              | none => False) _ ((PI.rangeD 0 k).drop j) acc' s'), ⟨k, by simp, Nat.zero_le _, ι5, s5, acc, vs, st24.trans st5, rs5, re4.step st5 rs4.lo, nD5, hD5, RDs.step st5 rs4.lo _ rda4, hcw1⟩, ?_⟩
          rintro j m1 H6 ⟨rfl, hj, ι6, s6, acc6, vs6, st6, rs6, re6, nD6, hD6, rda6, hc6⟩
          by_cases hlt1 : j < k
          · have hlen : j < (PI.rangeD 0 k).length := by unfold PI.rangeD; simp; exact hlt1
            rw [List.drop_eq_getElem_cons hlen] at hc6
            obtain ⟨_, hc6⟩ := hc6
            refine .inr ⟨hlt1, _, fun H' nx => ⟨k - (j + 1), by omega, rfl, hlt1, nx⟩, fun x H7 y => ?_⟩
            obtain ⟨rfl, rfl⟩ := y
            have hitem : (PI.rangeD 0 k)[j] = PI.D.int (0 + (j : Int)) := by unfold PI.rangeD; simp
            rw [hitem] at hc6
            split at hc6
            · rename_i ρ2 hρ2
              refine tg_go (md := md) re6.wipe (show RD X.K H7 ι6 (.int (0 + (j : Int))) _ from rfl) hρ2 fun σ2 re7 l2 o2 => ⟨?_, ?_⟩
              · refine wipe_same (l2.trans (wipe_length _ _)) fun j' hj' => ?_
                rw [o2 j' fun z => hj' (hin1 j' z), wipe_get hj']
              · refine Lf.of (W := Wf) (mC cond1) re7 rs6 (Step.refl _ _) (mC cond1 _ _ _ _ _ _ (fun _ _ h => h) (fun _ _ _ h => h.elim) hc6) fun b s8 g H8 ι8 st8 rs8 rg re8 hb8 => ?_
                obtain rfl := rg
                have hD8 := st8.keep D _ hD6 nD6
                have nD8 := st8.stays hD6 nD6
                cases g with
                | true =>
                  rw [if_pos rfl] at hb8 ⊢
                  refine Lf.of (W := Wf) (mE e) re8 rs8 (Step.refl _ _) (mE e _ _ _ _ _ _ (fun _ _ h => h) (fun _ _ _ h => h.elim) hb8) fun y s9 v H9 ι9 st9 rs9 rd9 re9 h9 => ?_
                  have hD9 := st9.keep D _ hD8 nD8
                  have nD9 := st9.stays hD8 nD8
                  have rda9 : RDs X.K H9 ι9 acc6 vs6 := RDs.step (st8.trans st9) rs6.lo _ rda6
                  refine ⟨vs6, hD9, by rw [← rda9.length, ← line_eq]; exact h9.1, ι9, s9, acc6 ++ [y], vs6 ++ [v], ((st6.trans (st8.trans st9)).other hD), rs9.other nD9 hD9, (re6.step (st8.trans st9) rs6.lo).keep (keep_upd hD9), nD9, upd_same, RDs.keep (keep_upd hD9) _ (rda9.app (RDs.one rd9)), h9.2⟩
                | false =>
                  rw [if_neg Bool.false_ne_true] at hb8 ⊢
                  exact ⟨ι8, s8, acc6, vs6, st6.trans st8, rs8, re6.step st8 rs6.lo, nD8, hD8, RDs.step st8 rs6.lo _ rda6, hb8⟩
            · exact hc6.elim
          · have hj' : j = k := by omega
            subst hj'
            have hlen : (PI.rangeD 0 j).drop j = [] := List.drop_eq_nil_of_le (by unfold PI.rangeD; simp)
            rw [hlen] at hc6
            exact .inl ⟨Nat.le_refl _, ι6, s6, acc6, vs6, st6, rs6, nD6, hD6, rda6, hc6.2⟩
        | false =>
          rw [if_neg Bool.false_ne_true] at hb ⊢
          exact ⟨ι4, s4, acc, vs, st24, rs4, nD4, hD4, rda4, hb⟩
    · exact hc.elim
  · have hi' : i = items.length := by omega
    subst hi'
    rw [List.drop_eq_nil_of_le (Nat.le_refl _)] at hc
    refine .inl ⟨(wk ι2 H2 s2 st2 rs2 hc.1).2 _ (Nat.le_refl _), ?_⟩
    exact okG.go hc.2 (st1.trans st2) rs2 ⟨D, vs, rfl, ⟨hDv, nD, st1.fresh rs1.lo hD⟩, rda⟩
end

/-! ### the contexts of blocks -/
section
variable {P : PI.Prog} {n : Nat} {md : Md} {W : WX} {N : List Str} {sc scope : Scope} {X : Cx}
theorem relS_eq : PTr.relS scope sc = L2.relS scope sc := rfl
theorem okScope_rel (h : PTr.okScope scope = true) : PTr.okScope (PTr.relS scope sc) = true := by
  unfold PTr.okScope at h ⊢
  show List.all (List.map _ scope.names) _ = true
  rw [List.all_map]
  refine List.all_eq_true.mpr fun y hy => ?_
  have := List.all_eq_true.mp h y hy
  simp only [Function.comp]
  split <;> exact this
theorem GX.block (G : GX P n md W N sc X) (hok : PTr.okScope scope = true) {s : Shared} {H : Hp} {C : Addr} {cl : List (Str × Addr)} {fp : List Addr} {pn : List (Addr × Obj)} (hp : md = .cold ∨ pn = X.pn) :
    GX P n md Wf N (PTr.relS scope sc) { X.blk s H scope (compEnvC scope cl C X.env) fp with pn := pn } where
  hN := G.hN
  nd := G.nd
  scE := by
    show L2.relS scope X.env.scope = _
    rw [G.scE]
    rfl
  ok := okScope_rel hok
  tk := fun u s' ⟨_, _, _, _, _, _, _, _, _, _, _, _, _, _, _, _, w⟩ => w.elim
  ge := G.ge
  un := G.un
  cold := G.cold
  hot := fun p e => by
    rcases hp with h | h
    · rw [h] at e; cases e
    · obtain ⟨h1, h2, h3⟩ := G.hot p e
      exact ⟨h1, by show p ∈ pn; rw [h]; exact h2, h3⟩
  fns := G.fns
theorem tgok_block (hN : X.N = N) {s : Shared} {H : Hp} {C : Addr} {cl : List (Str × Addr)} {fp : List Addr} {pn : List (Addr × Obj)} :
    TgOk { X.blk s H scope (compEnvC scope cl C X.env) fp with pn := pn } N scope := fun x i e => by
  obtain ⟨h1, h2⟩ := slotT_at e
  refine ⟨by show X.N[i]? = _; rw [hN]; exact h1, ?_, ?_⟩
  · rcases h2 with h2 | h2
    · exact .inl (lookup_relS_keep (by decide) h2)
    · exact .inr (lookup_relS_keep (by decide) h2)
  · rcases h2 with h2 | h2
    · exact .inr (lookup_relS_keep (by decide) h2)
    · refine .inl ?_
      show (scope.names.lookup x == some .cell) = true
      rw [h2]; rfl
theorem ptsI {X : Cx} {es : List Expr} {t t' : TT} (h : PTs X es t) (w : ∀ σ H Q, t' σ H Q → t σ H Q) : PTs X es t' := ⟨fun pins s σ H Q I q => h.run pins s σ H Q I (w σ H Q q)⟩
variable {e : PI.Ex} {own : List (Str × Nat)} {t : PI.Tg} {it : PI.It} {cond : Option PI.Te} {elt tg iter : Expr} {ifs : List Expr} {pos : Pos}
/-- the parts of a comprehension -/
structure CompOk (X : Cx) (W : WX) (md : Md) (P : PI.Prog) (n : Nat) (N : List Str) (sc scope : Scope) (own : List (Str × Nat)) (elt tg iter : Expr) (ifs : List Expr) (e : PI.Ex) (t : PI.Tg) (it : PI.It) (cond : Option PI.Te) : Prop where
  blk : PTr.blkC N sc scope own = true
  okS : PTr.okScope scope = true
  tgt : PTr.trTg N scope tg = some t
  isIn : PTr.tgIn t (own.map (·.2)) = true
  itC : PI X tg iter (aI X W md P n it)
  itH : it.cool = true → L2H.PIH X tg iter (aI X W md P n it)
  tst : ∀ Xb, GX P n md Wf N (PTr.relS scope sc) Xb → PTs Xb ifs (aC Xb Wf md P n cond)
  elm : ∀ Xb, GX P n md Wf N (PTr.relS scope sc) Xb → PE Xb elt (aE Xb Wf md P n e)
  fol : ∀ x, foldedSetIterable iter X.env x = pure x
theorem in_of (h : PTr.tgIn t (own.map (·.2)) = true) : ∀ i ∈ tgIx t, i ∈ own.map (·.2) := fun i hi => by
  cases t with
  | name j =>
    obtain rfl : i = j := by simpa [tgIx] using hi
    simpa [PTr.tgIn] using h
  | tup l =>
    unfold PTr.tgIn at h
    simpa using List.all_eq_true.mp h i hi
theorem CompOk.ok (C : CompOk X W md P n N sc scope own elt tg iter ifs e t it cond) (G : GX P n md W N sc X) : BlkOk X.N X.env.scope scope own := by
  rw [G.hN, G.scE]
  exact blkOk_by C.blk
theorem CompOk.parts (C : CompOk X W md P n N sc scope own elt tg iter ifs e t it cond) (G : GX P n md W N sc X) (h1 : t.one = true) : BlkParts X scope elt tg ifs (gT X.K t) (aC X Wf md P n cond) (aE X Wf md P n e) where
  tgt := fun s H Cc cl fp => tg_all (X := hblk X s H scope (compEnvC scope cl Cc X.env) fp) (by show X.N.Nodup; rw [G.hN]; exact G.nd) (tgok_block G.hN) C.tgt fun z => by rw [h1] at z; cases z
  tst := fun s H Cc cl fp => C.tst _ (G.block C.okS (.inr rfl))
  elm := fun s H Cc cl fp => C.elm _ (G.block C.okS (.inr rfl))
theorem sq_comp (G : GX P n md W N sc X) (C : CompOk X W md P n N sc scope own elt tg iter ifs e t it cond) : PE X (.ListComp elt [⟨tg, iter, ifs, 0⟩] scope pos) (aQ X W md P n (.comp e (own.map (·.2)) t it cond)) := by
  have hN : X.N.Nodup := by rw [G.hN]; exact G.nd
  cases md with
  | cold =>
    refine peI (pe_lc (own := own) (G.calm rfl) hN C.itC (C.ok G) (fun s H Cc cl fp => tg_all (X := X.blk s H scope (compEnvC scope cl Cc X.env) fp) hN (tgok_block (pn := []) G.hN) C.tgt fun _ => G.calm rfl) (fun s H Cc cl fp => C.tst _ (G.block (pn := []) C.okS (.inl rfl)))
      (fun s H Cc cl fp => C.elm _ (G.block (pn := []) C.okS (.inl rfl))) C.fol) fun σ H Q h => (comp_go (in_of C.isIn) h).2
  | hot p =>
    cases hc : it.cool with
    | false => exact pe_false fun σ H Q h => by have := ((comp_go (in_of C.isIn) h).1 rfl).1; rw [hc] at this; cases this
    | true =>
      cases h1 : t.one with
      | false => exact pe_false fun σ H Q h => by have := ((comp_go (in_of C.isIn) h).1 rfl).2; rw [h1] at this; cases this
      | true =>
        exact peI (hot_lc ⟨p, (G.hot p rfl).1, (G.hot p rfl).2.1⟩ hN (C.itH hc) (C.ok G) (C.parts G h1) C.fol) fun σ H Q h => (comp_go (in_of C.isIn) h).2
/-- name = [..], the block swapped in -/
theorem set_comp (G : GX P n md W N sc X) (C : CompOk X W md P n N sc scope own elt tg iter ifs e t it cond) {i : Nat} {y : Str} {py spos : Pos} (hy : X.N[i]? = some y) (hyl : X.env.scope.names.lookup y = some .local)
    (hsw : swapsWith (.ListComp elt [⟨tg, iter, ifs, 0⟩] scope pos) (some (.Name y py)) spos.line X.env = pure true) :
    PS X (.Assign [.Name y py] (.ListComp elt [⟨tg, iter, ifs, 0⟩] scope pos) spos) (tAsg (aQ X W md P n (.comp e (own.map (·.2)) t it cond)) (gName i)) := by
  have hN : X.N.Nodup := by rw [G.hN]; exact G.nd
  cases md with
  | cold =>
    exact psI (ps_setLc (own := own) (G.calm rfl) hN hy hyl hsw C.itC (C.ok G) (fun s H Cc cl fp => tg_all (X := X.blk s H scope (compEnvC scope cl Cc X.env) fp) hN (tgok_block (pn := []) G.hN) C.tgt fun _ => G.calm rfl) (fun s H Cc cl fp => C.tst _ (G.block (pn := []) C.okS (.inl rfl)))
      (fun s H Cc cl fp => C.elm _ (G.block (pn := []) C.okS (.inl rfl))) C.fol) fun D σ H h => (comp_go (in_of C.isIn) h).2
  | hot p =>
    cases hc : it.cool with
    | false => exact ⟨fun pins s σ H D I h => by have := ((comp_go (in_of C.isIn) h).1 rfl).1; rw [hc] at this; cases this⟩
    | true =>
      cases h1 : t.one with
      | false => exact ⟨fun pins s σ H D I h => by have := ((comp_go (in_of C.isIn) h).1 rfl).2; rw [h1] at this; cases this⟩
      | true =>
        exact psI (hot_setLc ⟨p, (G.hot p rfl).1, (G.hot p rfl).2.1⟩ hN hy hyl hsw (C.itH hc) (C.ok G) (C.parts G h1) C.fol) fun D σ H h => (comp_go (in_of C.isIn) h).2
/-- the parts of a comprehension of two clauses -/
structure CompOk2 (X : Cx) (W : WX) (md : Md) (P : PI.Prog) (n : Nat) (N : List Str) (sc scope : Scope) (own : List (Str × Nat)) (elt tg iter : Expr) (ifs : List Expr) (tg1 iter1 : Expr) (ifs1 : List Expr) (e : PI.Ex) (t : PI.Tg) (it : PI.It) (cond : Option PI.Te) (t1 : PI.Tg) (it1 : PI.It) (cond1 : Option PI.Te) : Prop where
  blk : PTr.blkC N sc scope own = true
  okS : PTr.okScope scope = true
  tgt : PTr.trTg N scope tg = some t
  tgt1 : PTr.trTg N scope tg1 = some t1
  isIn : PTr.tgIn t (own.map (·.2)) = true
  isIn1 : PTr.tgIn t1 (own.map (·.2)) = true
  itC : PI X tg iter (aI X W md P n it)
  tst : ∀ Xb, GX P n md Wf N (PTr.relS scope sc) Xb → PTs Xb ifs (aC Xb Wf md P n cond)
  itC1 : ∀ Xb, GX P n md Wf N (PTr.relS scope sc) Xb → PI Xb tg1 iter1 (aI Xb Wf md P n it1)
  tst1 : ∀ Xb, GX P n md Wf N (PTr.relS scope sc) Xb → PTs Xb ifs1 (aC Xb Wf md P n cond1)
  elm : ∀ Xb, GX P n md Wf N (PTr.relS scope sc) Xb → PE Xb elt (aE Xb Wf md P n e)
  fol : ∀ x, foldedSetIterable iter X.env x = pure x
  fol1 : ∀ env x, foldedSetIterable iter1 env x = pure x
theorem CompOk2.ok {tg1 iter1 : Expr} {ifs1 : List Expr} {t1 : PI.Tg} {it1 : PI.It} {cond1 : Option PI.Te} (C : CompOk2 X W md P n N sc scope own elt tg iter ifs tg1 iter1 ifs1 e t it cond t1 it1 cond1) (G : GX P n md W N sc X) : BlkOk X.N X.env.scope scope own := by
  rw [G.hN, G.scE]
  exact blkOk_by C.blk
theorem tgSl_ix (t : PI.Tg) : PTr.tgSl t = tgIx t := by cases t <;> rfl
theorem sq_comp2 {tg1 iter1 : Expr} {ifs1 : List Expr} {t1 : PI.Tg} {it1 : PI.It} {cond1 : Option PI.Te} (G : GX P n md W N sc X) (C : CompOk2 X W md P n N sc scope own elt tg iter ifs tg1 iter1 ifs1 e t it cond t1 it1 cond1) :
    PE X (.ListComp elt [⟨tg, iter, ifs, 0⟩, ⟨tg1, iter1, ifs1, 0⟩] scope pos) (aQ X W md P n (.comp2 e (own.map (·.2)) (PTr.tgSl t1) t it cond t1 it1 cond1)) := by
  have hN : X.N.Nodup := by rw [G.hN]; exact G.nd
  cases md with
  | cold =>
    refine peI (pe_lc2 (own := own) (vs1 := PTr.tgSl t1) (G.calm rfl) hN C.itC (C.ok G) (by rw [tgSl_ix]; exact in_of C.isIn1) (fun s H Cc cl fp => tg_all (X := X.blk s H scope (compEnvC scope cl Cc X.env) fp) hN (tgok_block (pn := []) G.hN) C.tgt fun _ => G.calm rfl) (fun s H Cc cl fp => C.tst _ (G.block (pn := []) C.okS (.inl rfl)))
      (fun s H Cc cl fp => C.itC1 _ (G.block (pn := []) C.okS (.inl rfl))) (fun s H Cc cl fp => tg_all (X := X.blk s H scope (compEnvC scope cl Cc X.env) fp) hN (tgok_block (pn := []) G.hN) C.tgt1 fun _ => G.calm rfl) (fun s H Cc cl fp => C.tst1 _ (G.block (pn := []) C.okS (.inl rfl)))
      (fun s H Cc cl fp => C.elm _ (G.block (pn := []) C.okS (.inl rfl))) C.fol C.fol1) fun σ H Q h => (comp2_go (in_of C.isIn) (by rw [tgSl_ix]; exact fun i h => h) h).2
  | hot p => exact pe_false fun σ H Q ⟨ρ, s, ι, re, rs, h⟩ => by cases h.1.1
theorem set_comp2 {tg1 iter1 : Expr} {ifs1 : List Expr} {t1 : PI.Tg} {it1 : PI.It} {cond1 : Option PI.Te} (G : GX P n md W N sc X) (C : CompOk2 X W md P n N sc scope own elt tg iter ifs tg1 iter1 ifs1 e t it cond t1 it1 cond1) {i : Nat} {y : Str} {py spos : Pos} (hy : X.N[i]? = some y) (hyl : X.env.scope.names.lookup y = some .local)
    (hsw : swapsWith (.ListComp elt [⟨tg, iter, ifs, 0⟩, ⟨tg1, iter1, ifs1, 0⟩] scope pos) (some (.Name y py)) spos.line X.env = pure true) :
    PS X (.Assign [.Name y py] (.ListComp elt [⟨tg, iter, ifs, 0⟩, ⟨tg1, iter1, ifs1, 0⟩] scope pos) spos) (tAsg (aQ X W md P n (.comp2 e (own.map (·.2)) (PTr.tgSl t1) t it cond t1 it1 cond1)) (gName i)) := by
  have hN : X.N.Nodup := by rw [G.hN]; exact G.nd
  cases md with
  | cold =>
    exact psI (ps_setLc2 (own := own) (vs1 := PTr.tgSl t1) (G.calm rfl) hN hy hyl hsw C.itC (C.ok G) (by rw [tgSl_ix]; exact in_of C.isIn1) (fun s H Cc cl fp => tg_all (X := X.blk s H scope (compEnvC scope cl Cc X.env) fp) hN (tgok_block (pn := []) G.hN) C.tgt fun _ => G.calm rfl) (fun s H Cc cl fp => C.tst _ (G.block (pn := []) C.okS (.inl rfl)))
      (fun s H Cc cl fp => C.itC1 _ (G.block (pn := []) C.okS (.inl rfl))) (fun s H Cc cl fp => tg_all (X := X.blk s H scope (compEnvC scope cl Cc X.env) fp) hN (tgok_block (pn := []) G.hN) C.tgt1 fun _ => G.calm rfl) (fun s H Cc cl fp => C.tst1 _ (G.block (pn := []) C.okS (.inl rfl)))
      (fun s H Cc cl fp => C.elm _ (G.block (pn := []) C.okS (.inl rfl))) C.fol C.fol1) fun D σ H h => (comp2_go (in_of C.isIn) (by rw [tgSl_ix]; exact fun i h => h) h).2
  | hot p => exact ⟨fun pins s σ H D I ⟨ρ, t, ι, re, rs, h⟩ => by cases h.1.1⟩
end
end PSd

set_option Elab.async false
set_option linter.all false
set_option maxRecDepth 100000
set_option maxHeartbeats 4000000
namespace PSd
open PySem PySem.Spec PyProof.Rows L2

section
variable (P : PI.Prog) (n : Nat) (N : List Str)
/-- all that k steps of the translation give stands -/
structure AllE (k : Nat) : Prop where
  eE : ∀ sc e ir, PTr.trE N k sc e = some ir → ∀ (md : Md) (W : WX) (X : Cx), GX P n md W N sc X → PE X e (aE X W md P n ir)
  eB : ∀ sc f as ir, PTr.trB N k sc f as = some ir → PTr.glob sc f = true → ∀ (md : Md) (W : WX) (X : Cx), GX P n md W N sc X → ∀ p pos, PE X (.Call (.Name f p) as [] pos) (aE X W md P n ir)
  eL : ∀ sc es l, PTr.trEs N k sc es = some l → (∀ env, NoStar es env) ∧ ∀ (md : Md) (W : WX) (X : Cx), GX P n md W N sc X → Paired (fun e ir => PE X e (aE X W md P n ir)) es l
  eA : ∀ sc es l, PTr.trArs N k sc es = some l → (∀ env, NoStar es env) ∧ ∀ (md : Md) (W : WX) (X : Cx), GX P n md W N sc X → PA X es (aA X W md P n l)
  eO : ∀ sc o r, PTr.trO N k sc o = some r → ∀ (md : Md) (W : WX) (X : Cx), GX P n md W N sc X → PO X o (aO X W md P n r)
  eT : ∀ sc e t, PTr.trT N k sc e = some t → ∀ (md : Md) (W : WX) (X : Cx), GX P n md W N sc X → PT X e (aT X W md P n t)
  eTs : ∀ sc es l, PTr.trTs N k sc es = some l → ∀ (md : Md) (W : WX) (X : Cx), GX P n md W N sc X → Paired (fun e t => PT X e (aT X W md P n t)) es l
  eQ : ∀ sc e q, PTr.trQ N k sc e = some q → ∀ (md : Md) (W : WX) (X : Cx), GX P n md W N sc X → PE X e (aQ X W md P n q)
  eC2 : ∀ sc elt tg iter ifs tg1 iter1 ifs1 scope pos q, PTr.trQ N k sc (.ListComp elt [⟨tg, iter, ifs, 0⟩, ⟨tg1, iter1, ifs1, 0⟩] scope pos) = some q → ∃ own e t it cond t1 it1 cond1, q = .comp2 e (own.map (·.2)) (PTr.tgSl t1) t it cond t1 it1 cond1 ∧
    ∀ (md : Md) (W : WX) (X : Cx), GX P n md W N sc X → CompOk2 X W md P n N sc scope own elt tg iter ifs tg1 iter1 ifs1 e t it cond t1 it1 cond1
  eC : ∀ sc elt tg iter ifs scope pos q, PTr.trQ N k sc (.ListComp elt [⟨tg, iter, ifs, 0⟩] scope pos) = some q → ∃ own e t it cond, q = .comp e (own.map (·.2)) t it cond ∧
    ∀ (md : Md) (W : WX) (X : Cx), GX P n md W N sc X → CompOk X W md P n N sc scope own elt tg iter ifs e t it cond
  eF : ∀ sc es r, PTr.trIfs N k sc es = some r → ∀ (md : Md) (W : WX) (X : Cx), GX P n md W N sc X → PTs X es (aC X W md P n r)
  eI : ∀ sc tt e it, PTr.trI N k sc tt e = some it → ∀ (md : Md) (W : WX) (X : Cx), GX P n md W N sc X →
    (∀ tg, (tt = true → ∃ elts kk pos, tg = Expr.Tuple elts kk pos) → PI X tg e (aI X W md P n it)) ∧ (it.cool = true → ∀ tg, L2H.PIH X tg e (aI X W md P n it)) ∧ ∀ env x, foldedSetIterable e env x = pure x
end

section
variable {P : PI.Prog} {n : Nat} {N : List Str} {k : Nat} {sc : Scope} {md : Md} {W : WX} {X : Cx}
theorem star_E {e : Expr} {ir : PI.Ex} (h : PTr.trE N k sc e = some ir) : ∀ es env, starEach (e :: es) env = (false, eval e env) :: starEach es env := by
  intro es env
  cases e <;> first
    | rfl
    | (cases k with
       | zero => exact nomatch h
       | succ k => exact nomatch h)
theorem ix_E {e : Expr} {ir : PI.Ex} (h : PTr.trE N k sc e = some ir) : PlainIx e := by
  intro o i
  cases e <;> first
    | rfl
    | (cases k with
       | zero => exact nomatch h
       | succ k => exact nomatch h)
theorem fol_E {e : Expr} {ir : PI.Ex} (h : PTr.trE N k sc e = some ir) (env : Env) : ∀ x, foldedSetIterable e env x = pure x := by
  intro x
  cases e <;> first
    | rfl
    | (cases k with
       | zero => exact nomatch h
       | succ k => exact nomatch h)
theorem star_Q {e : Expr} {q : PI.Sq} (h : PTr.trQ N k sc e = some q) : ∀ es env, starEach (e :: es) env = (false, eval e env) :: starEach es env := by
  intro es env
  cases e <;> first
    | rfl
    | (cases k with
       | zero => exact nomatch h
       | succ k =>
         cases k with
         | zero => exact nomatch h
         | succ k => exact nomatch h)
theorem fol_Q {e : Expr} {q : PI.Sq} (h : PTr.trQ N k sc e = some q) (env : Env) : ∀ x, foldedSetIterable e env x = pure x := by
  intro x
  cases e <;> first
    | rfl
    | (cases k with
       | zero => exact nomatch h
       | succ k =>
         cases k with
         | zero => exact nomatch h
         | succ k => exact nomatch h)
theorem fol_I {k : Nat} {sc : Scope} {tt : Bool} {e : Expr} {it : PI.It} (h : PTr.trI N k sc tt e = some it) : ∀ env x, foldedSetIterable e env x = pure x := by
  intro env x
  cases e <;> first
    | rfl
    | (cases k with
       | zero => exact nomatch h
       | succ k =>
         cases k with
         | zero => exact nomatch h
         | succ k => exact nomatch h)
theorem pl_of_ns {es : List Expr} {env : Env} {pos : Pos} (h : NoStar es env) : (backTo pos (starEach es env)).any (·.1) = false := noStar_pl h
theorem pa_all : ∀ {es : List Expr} {l : List PI.Ex}, (∀ env, NoStar es env) → Paired (fun e ir => PE X e (aE X W md P n ir)) es l → PA X es (aL X W md P n l)
  | _, _, _, .nil => sl_nil
  | _, _, ns, .cons h t => sl_cons h (pa_all (fun env => noStar_tail (ns env)) t) (noStar_cons (ns _))
theorem pe_bool1 {op : BoolOp} {a : Expr} {pos : Pos} {t : TE} (h : PE X a t) : PE X (.BoolOp op [a] pos) t := ⟨fun pins s σ H Q I q => h.run pins s σ H Q I q⟩
theorem ands_all {pos : Pos} : ∀ {es : List Expr} {l : List PI.Ex} {ir : PI.Ex}, Paired (fun e ir => PE X e (aE X W md P n ir)) es l → PTr.foldB .and l = some ir → PE X (.BoolOp .And es pos) (aE X W md P n ir)
  | _, _, _, .nil, h => nomatch h
  | _, _, _, .cons h1 .nil, h => by
    cases h
    exact pe_bool1 h1
  | _, _, ir, .cons (b := i1) h1 (.cons (b := i2) (l₂ := l2) h2 t), h => by
    have h : (PTr.foldB .and (i2 :: l2)).map (PI.Ex.and i1) = some ir := h
    cases q : PTr.foldB .and (i2 :: l2) with
    | none => rw [q] at h; exact nomatch h
    | some j =>
      rw [q] at h
      obtain rfl : PI.Ex.and i1 j = ir := Option.some.inj h
      exact se_and h1 (ands_all (.cons h2 t) q)
theorem ors_all {pos : Pos} : ∀ {es : List Expr} {l : List PI.Ex} {ir : PI.Ex}, Paired (fun e ir => PE X e (aE X W md P n ir)) es l → PTr.foldB .or l = some ir → PE X (.BoolOp .Or es pos) (aE X W md P n ir)
  | _, _, _, .nil, h => nomatch h
  | _, _, _, .cons h1 .nil, h => by
    cases h
    exact pe_bool1 h1
  | _, _, ir, .cons (b := i1) h1 (.cons (b := i2) (l₂ := l2) h2 t), h => by
    have h : (PTr.foldB .or (i2 :: l2)).map (PI.Ex.or i1) = some ir := h
    cases q : PTr.foldB .or (i2 :: l2) with
    | none => rw [q] at h; exact nomatch h
    | some j =>
      rw [q] at h
      obtain rfl : PI.Ex.or i1 j = ir := Option.some.inj h
      exact se_or h1 (ors_all (.cons h2 t) q)
theorem tands_all {pos : Pos} : ∀ {es : List Expr} {l : List PI.Te} {ir : PI.Te}, Paired (fun e ir => PT X e (aT X W md P n ir)) es l → PTr.foldT .and l = some ir → PW X (.BoolOp .And es pos) (aT X W md P n ir)
  | _, _, _, .nil, h => nomatch h
  | _, _, _, .cons h1 .nil, h => by
    cases h
    exact pw_and1 h1
  | _, _, ir, .cons (b := i1) h1 (.cons (b := i2) (l₂ := l2) h2 t), h => by
    have h : (PTr.foldT .and (i2 :: l2)).map (PI.Te.and i1) = some ir := h
    cases q : PTr.foldT .and (i2 :: l2) with
    | none => rw [q] at h; exact nomatch h
    | some j =>
      rw [q] at h
      obtain rfl : PI.Te.and i1 j = ir := Option.some.inj h
      exact st_and h1 (tands_all (.cons h2 t) q)
theorem tors_all {pos : Pos} : ∀ {es : List Expr} {l : List PI.Te} {ir : PI.Te}, Paired (fun e ir => PT X e (aT X W md P n ir)) es l → PTr.foldT .or l = some ir → PW X (.BoolOp .Or es pos) (aT X W md P n ir)
  | _, _, _, .nil, h => nomatch h
  | _, _, _, .cons h1 .nil, h => by
    cases h
    exact pw_or1 h1
  | _, _, ir, .cons (b := i1) h1 (.cons (b := i2) (l₂ := l2) h2 t), h => by
    have h : (PTr.foldT .or (i2 :: l2)).map (PI.Te.or i1) = some ir := h
    cases q : PTr.foldT .or (i2 :: l2) with
    | none => rw [q] at h; exact nomatch h
    | some j =>
      rw [q] at h
      obtain rfl : PI.Te.or i1 j = ir := Option.some.inj h
      exact st_or h1 (tors_all (.cons h2 t) q)
theorem map_some {α β : Type} {f : α → β} {o : Option α} {b : β} (h : o.map f = some b) : ∃ a, o = some a ∧ f a = b := by
  cases o with
  | none => exact nomatch h
  | some a => exact ⟨a, rfl, Option.some.inj h⟩
theorem bind_some {α β : Type} {f : α → Option β} {o : Option α} {b : β} (h : o.bind f = some b) : ∃ a, o = some a ∧ f a = some b := by
  cases o with
  | none => exact nomatch h
  | some a => exact ⟨a, rfl, h⟩
theorem bind_some' {α β : Type} {f : α → Option β} {o : Option α} {b : β} (h : (o >>= f) = some b) : ∃ a, o = some a ∧ f a = some b := bind_some h
theorem if_some {c : Prop} [Decidable c] {α : Type} {x : Option α} {b : α} (h : (if c then none else x) = some b) : ¬ c ∧ x = some b := by
  by_cases hc : c
  · rw [if_pos hc] at h; exact nomatch h
  · rw [if_neg hc] at h; exact ⟨hc, h⟩
theorem if_none {c : Prop} [Decidable c] {α : Type} {x : Option α} {b : α} (h : (if c then x else none) = some b) : c ∧ x = some b := by
  by_cases hc : c
  · rw [if_pos hc] at h; exact ⟨hc, h⟩
  · rw [if_neg hc] at h; exact nomatch h
theorem bm_E {k : Nat} {e : Expr} {ir : PI.Ex} (h : PTr.trE N k sc e = some ir) : ∀ op, behindInMarks op e = false := by
  intro op
  cases e <;> first
    | rfl
    | (cases k with
       | zero => exact nomatch h
       | succ k => exact nomatch h)

theorem all0 : AllE P n N 0 :=
  ⟨(fun _ _ _ h => (nomatch h)), (fun _ _ _ _ h => (nomatch h)), (fun _ _ _ h => (nomatch h)), (fun _ _ _ h => (nomatch h)), (fun _ _ _ h => (nomatch h)), (fun _ _ _ h => (nomatch h)), (fun _ _ _ h => (nomatch h)), (fun _ _ _ h => (nomatch h)), (fun _ _ _ _ _ _ _ _ _ _ _ h => (nomatch h)), (fun _ _ _ _ _ _ _ _ h => (nomatch h)), (fun _ _ _ h => (nomatch h)), (fun _ _ _ _ h => (nomatch h))⟩
theorem nf {b : Bool} (h : ¬ b = false) : b = true := by simpa using h
theorem stepE (A : AllE P n N k) : ∀ sc e ir, PTr.trE N (k + 1) sc e = some ir → ∀ (md : Md) (W : WX) (X : Cx), GX P n md W N sc X → PE X e (aE X W md P n ir) := by
  intro sc e ir h md W X G
  unfold PTr.trE at h
  split at h
  · exact nomatch h
  · rename_i hk
    obtain rfl := Nat.succ.inj hk
    split at h
    · rename_i i hs
      cases h
      exact se_var G hs
    · obtain ⟨hc, h⟩ := if_none h
      cases h
      simp only [Bool.and_eq_true] at hc
      exact se_glb G hc.1
  · obtain ⟨c, hc, rfl⟩ := map_some h
    exact se_cst hc
  · rename_i hk
    obtain rfl := Nat.succ.inj hk
    split at h
    · obtain ⟨q, hq, rfl⟩ := map_some h
      exact se_new (A.eQ _ _ _ hq md W X G)
    · obtain ⟨o, ho, h⟩ := bind_some' h
      obtain ⟨x, hx, h⟩ := bind_some' h
      obtain ⟨y, hy, h⟩ := bind_some' h
      cases h
      exact se_bin (A.eE _ _ _ hx md W X G) (A.eE _ _ _ hy md W X G) ho
  · rename_i hk
    obtain rfl := Nat.succ.inj hk
    obtain ⟨x, hx, rfl⟩ := map_some h
    exact se_neg (A.eE _ _ _ hx md W X G)
  · rename_i hk
    obtain rfl := Nat.succ.inj hk
    obtain ⟨x, hx, rfl⟩ := map_some h
    exact se_not (A.eE _ _ _ hx md W X G)
  · rename_i hk
    obtain rfl := Nat.succ.inj hk
    obtain ⟨l, hl, h⟩ := bind_some h
    exact ands_all ((A.eL _ _ _ hl).2 md W X G) h
  · rename_i hk
    obtain rfl := Nat.succ.inj hk
    obtain ⟨l, hl, h⟩ := bind_some h
    exact ors_all ((A.eL _ _ _ hl).2 md W X G) h
  · rename_i hk
    obtain rfl := Nat.succ.inj hk
    obtain ⟨o, ho, h⟩ := bind_some' h
    obtain ⟨x, hx, h⟩ := bind_some' h
    obtain ⟨y, hy, h⟩ := bind_some' h
    cases h
    exact se_cmp G.un (bm_E hy) (A.eE _ _ _ hx md W X G) (A.eE _ _ _ hy md W X G) ho
  · rename_i hk
    obtain rfl := Nat.succ.inj hk
    obtain ⟨o, ho, h⟩ := bind_some' h
    obtain ⟨o', ho', h⟩ := bind_some' h
    obtain ⟨x, hx, h⟩ := bind_some' h
    obtain ⟨y, hy, h⟩ := bind_some' h
    obtain ⟨z, hz, h⟩ := bind_some' h
    cases h
    exact se_chain G.un (bm_E hz) (A.eE _ _ _ hx md W X G) (A.eE _ _ _ hy md W X G) (A.eE _ _ _ hz md W X G) ho ho'
  · rename_i hk
    obtain rfl := Nat.succ.inj hk
    obtain ⟨t, ht, h⟩ := bind_some' h
    obtain ⟨x, hx, h⟩ := bind_some' h
    obtain ⟨y, hy, h⟩ := bind_some' h
    cases h
    exact se_ite (A.eT _ _ _ ht md W X G) (A.eE _ _ _ hx md W X G) (A.eE _ _ _ hy md W X G)
  · obtain ⟨hc, h⟩ := if_none h
    cases h
    simp only [Bool.and_eq_true] at hc
    exact se_call0 G hc.1
  · rename_i hk
    obtain rfl := Nat.succ.inj hk
    obtain ⟨hg, h⟩ := if_some h
    have hg := nf hg
    split at h
    · exact A.eB _ _ _ _ h hg md W X G _ _
    · obtain ⟨l, hl, rfl⟩ := map_some h
      obtain ⟨ns, ha⟩ := A.eA _ _ _ hl
      exact se_call G hg (ha md W X G) (noStar_cons (ns _)) (noStar_pl (noStar_tail (ns _)))
  · rename_i hk
    obtain rfl := Nat.succ.inj hk
    obtain ⟨hc, h⟩ := if_none h
    obtain ⟨x, hx, rfl⟩ := map_some h
    simp only [Bool.and_eq_true, decide_eq_true_eq] at hc
    exact se_pop (A.eE _ _ _ hx md W X G) hc.1 rfl hc.2
  · rename_i hk
    obtain rfl := Nat.succ.inj hk
    split at h
    · rename_i hc
      obtain ⟨x, hx, h⟩ := bind_some' h
      obtain ⟨y, hy, h⟩ := bind_some' h
      cases h
      simp only [Bool.and_eq_true, decide_eq_true_eq] at hc
      exact se_appendO (A.eE _ _ _ hx md W X G) hc.1 rfl hc.2 (A.eE _ _ _ hy md W X G) (star_E hy _ _)
    split at h
    · rename_i hc
      obtain ⟨x, hx, h⟩ := bind_some' h
      obtain ⟨y, hy, h⟩ := bind_some' h
      cases h
      simp only [Bool.and_eq_true, decide_eq_true_eq] at hc
      exact se_popAt (A.eE _ _ _ hx md W X G) hc.1 rfl hc.2 (A.eE _ _ _ hy md W X G) (star_E hy _ _)
    · obtain ⟨hc, h⟩ := if_none h
      obtain ⟨x, hx, h⟩ := bind_some' h
      obtain ⟨y, hy, h⟩ := bind_some' h
      cases h
      simp only [Bool.and_eq_true, decide_eq_true_eq] at hc
      exact se_extend (A.eE _ _ _ hx md W X G) hc.1 rfl hc.2 (A.eQ _ _ _ hy md W X G) (star_Q hy _ _)
  · obtain ⟨i, hi, rfl⟩ := map_some h
    exact se_exFld G hi
  · rename_i hk
    obtain rfl := Nat.succ.inj hk
    obtain ⟨x, hx, h⟩ := bind_some' h
    obtain ⟨l, hl, h⟩ := bind_some' h
    obtain ⟨u, hu, h⟩ := bind_some' h
    cases h
    exact se_slice (A.eE _ _ _ hx md W X G) (A.eO _ _ _ hl md W X G) (A.eO _ _ _ hu md W X G)
  · exact nomatch h
  · rename_i hk
    obtain rfl := Nat.succ.inj hk
    obtain ⟨x, hx, h⟩ := bind_some' h
    obtain ⟨y, hy, h⟩ := bind_some' h
    cases h
    exact se_sub (A.eE _ _ _ hx md W X G) (A.eE _ _ _ hy md W X G) (ix_E hy)
  · rename_i hk
    obtain rfl := Nat.succ.inj hk
    obtain ⟨l, hl, rfl⟩ := map_some h
    obtain ⟨ns, hp⟩ := A.eL _ _ _ hl
    exact se_tup (pa_all ns (hp md W X G))
  · rename_i hk
    obtain rfl := Nat.succ.inj hk
    obtain ⟨l, hl, rfl⟩ := map_some h
    obtain ⟨ns, hp⟩ := A.eL _ _ _ hl
    exact se_new (sq_lst (pa_all ns (hp md W X G)))
  · rename_i hk
    obtain rfl := Nat.succ.inj hk
    obtain ⟨q, hq, rfl⟩ := map_some h
    exact se_new (A.eQ _ _ _ hq md W X G)
  · exact nomatch h

theorem stepB (A : AllE P n N k) : ∀ sc f as ir, PTr.trB N (k + 1) sc f as = some ir → PTr.glob sc f = true → ∀ (md : Md) (W : WX) (X : Cx), GX P n md W N sc X → ∀ p pos, PE X (.Call (.Name f p) as [] pos) (aE X W md P n ir) := by
  intro sc f as ir h hg md W X G p pos
  unfold PTr.trB at h
  split at h
  · exact nomatch h
  · rename_i hk
    obtain rfl := Nat.succ.inj hk
    split at h
    · rename_i e; subst e
      split at h
      · obtain ⟨q, hq, rfl⟩ := map_some h
        exact se_lenQ G hg (A.eQ _ _ _ hq md W X G) (star_Q hq _ _)
      · obtain ⟨x, hx, rfl⟩ := map_some h
        exact se_len G hg (A.eE _ _ _ hx md W X G) (star_E hx _ _)
    split at h
    · rename_i e; subst e
      obtain ⟨q, hq, rfl⟩ := map_some h
      exact se_tupOf G hg (A.eQ _ _ _ hq md W X G) (star_Q hq _ _)
    split at h
    · rename_i e; subst e
      obtain ⟨q, hq, rfl⟩ := map_some h
      exact se_listOf G hg (A.eQ _ _ _ hq md W X G) (star_Q hq _ _)
    split at h
    · rename_i e; subst e
      obtain ⟨x, hx, rfl⟩ := map_some h
      exact se_int1 G hg (A.eE _ _ _ hx md W X G) (star_E hx _ _)
    split at h
    · rename_i e; subst e
      obtain ⟨x, hx, rfl⟩ := map_some h
      exact se_abs G hg (A.eE _ _ _ hx md W X G) (star_E hx _ _)
    split at h
    · rename_i e; subst e
      obtain ⟨q, hq, rfl⟩ := map_some h
      exact se_sum G hg (A.eQ _ _ _ hq md W X G) (star_Q hq _ _)
    split at h
    · rename_i e; subst e
      obtain ⟨q, hq, rfl⟩ := map_some h
      exact se_minQ G hg (A.eQ _ _ _ hq md W X G) (star_Q hq _ _)
    split at h
    · rename_i e; subst e
      obtain ⟨q, hq, rfl⟩ := map_some h
      exact se_maxQ G hg (A.eQ _ _ _ hq md W X G) (star_Q hq _ _)
    split at h
    · rename_i e
      obtain ⟨q, hq, rfl⟩ := map_some h
      exact se_new (sq_sorted G e hg (A.eQ _ _ _ hq md W X G) (star_Q hq _ _))
    · exact nomatch h
  · rename_i hk
    obtain rfl := Nat.succ.inj hk
    split at h
    · rename_i e; subst e
      split at h
      · obtain ⟨hc, h⟩ := if_some h
        have hc := nf hc
        split at h
        · rename_i t ht
          obtain ⟨x, hx, rfl⟩ := map_some h
          exact se_isi G hg hc ht (A.eE _ _ _ hx md W X G) (star_E hx _ _)
        · split at h
          · split at h
            · rename_i e
              obtain ⟨i, hi, rfl⟩ := map_some h
              subst e
              exact se_exVE G hg hi hc
            · obtain ⟨_, h⟩ := if_some h
              obtain ⟨i, hi, rfl⟩ := map_some h
              exact se_exIs G hg hi hc
          · exact nomatch h
      · obtain ⟨hc, h⟩ := if_none h
        obtain ⟨x, hx, rfl⟩ := map_some h
        simp only [Bool.and_eq_true, beq_iff_eq] at hc
        exact se_isTL G hg hc.1.1.1 hc.1.1.2 hc.1.2 hc.2 (A.eE _ _ _ hx md W X G) (star_E hx _ _)
      · exact nomatch h
    split at h
    · rename_i e; subst e
      obtain ⟨x, hx, h⟩ := bind_some' h
      obtain ⟨y, hy, h⟩ := bind_some' h
      cases h
      exact se_max2 G hg (A.eE _ _ _ hx md W X G) (A.eE _ _ _ hy md W X G) ⟨star_E hx _ _, star_E hy _ _⟩
    split at h
    · rename_i e; subst e
      obtain ⟨x, hx, h⟩ := bind_some' h
      obtain ⟨y, hy, h⟩ := bind_some' h
      cases h
      exact se_min2 G hg (A.eE _ _ _ hx md W X G) (A.eE _ _ _ hy md W X G) ⟨star_E hx _ _, star_E hy _ _⟩
    · exact nomatch h
  · exact nomatch h
theorem ns_nil (env : Env) : NoStar [] env := rfl
theorem ns_cons {e : Expr} {es : List Expr} {env : Env} (h : starEach (e :: es) env = (false, eval e env) :: starEach es env) (t : NoStar es env) : NoStar (e :: es) env := by
  unfold NoStar at t ⊢
  rw [h, t]; rfl
theorem stepL (A : AllE P n N k) : ∀ sc es l, PTr.trEs N (k + 1) sc es = some l → (∀ env, NoStar es env) ∧ ∀ (md : Md) (W : WX) (X : Cx), GX P n md W N sc X → Paired (fun e ir => PE X e (aE X W md P n ir)) es l := by
  intro sc es l h
  unfold PTr.trEs at h
  split at h
  · exact nomatch h
  · cases h
    exact ⟨ns_nil, fun _ _ _ _ => .nil⟩
  · exact nomatch h
  · rename_i hk
    obtain rfl := Nat.succ.inj hk
    obtain ⟨x, hx, h⟩ := bind_some' h
    obtain ⟨y, hy, h⟩ := bind_some' h
    cases h
    obtain ⟨ns, hp⟩ := A.eL _ _ _ hy
    exact ⟨fun env => ns_cons (star_E hx _ _) (ns env), fun md W X G => .cons (A.eE _ _ _ hx md W X G) (hp md W X G)⟩
theorem stepA (A : AllE P n N k) : ∀ sc es l, PTr.trArs N (k + 1) sc es = some l → (∀ env, NoStar es env) ∧ ∀ (md : Md) (W : WX) (X : Cx), GX P n md W N sc X → PA X es (aA X W md P n l) := by
  intro sc es l h
  unfold PTr.trArs at h
  split at h
  · exact nomatch h
  · cases h
    exact ⟨ns_nil, fun _ _ _ _ => sa_nil⟩
  · exact nomatch h
  · rename_i hk
    obtain rfl := Nat.succ.inj hk
    obtain ⟨y, hy, h⟩ := bind_some' h
    obtain ⟨ns, hp⟩ := A.eA _ _ _ hy
    split at h
    · rename_i i hi
      cases h
      exact ⟨fun env => ns_cons rfl (ns env), fun md W X G => sa_nm G hi (hp md W X G)⟩
    · obtain ⟨x, hx, rfl⟩ := map_some h
      exact ⟨fun env => ns_cons rfl (ns env), fun md W X G => sa_ex (A.eE _ _ _ hx md W X G) (hp md W X G) rfl⟩
  · rename_i hk
    obtain rfl := Nat.succ.inj hk
    obtain ⟨x, hx, h⟩ := bind_some' h
    obtain ⟨y, hy, h⟩ := bind_some' h
    cases h
    obtain ⟨ns, hp⟩ := A.eA _ _ _ hy
    exact ⟨fun env => ns_cons (star_E hx _ _) (ns env), fun md W X G => sa_ex (A.eE _ _ _ hx md W X G) (hp md W X G) (star_E hx _ _)⟩
theorem stepO (A : AllE P n N k) : ∀ sc o r, PTr.trO N (k + 1) sc o = some r → ∀ (md : Md) (W : WX) (X : Cx), GX P n md W N sc X → PO X o (aO X W md P n r) := by
  intro sc o r h md W X G
  unfold PTr.trO at h
  split at h
  · exact nomatch h
  · cases h; exact so_none
  · rename_i hk
    obtain rfl := Nat.succ.inj hk
    obtain ⟨x, hx, rfl⟩ := map_some h
    exact so_some (A.eE _ _ _ hx md W X G)
theorem plain_test {e : Expr} (h1 : ∀ a p, e = .UnaryOp .Not a p → False) (h2 : ∀ v p, e = .BoolOp .And v p → False) (h3 : ∀ v p, e = .BoolOp .Or v p → False) (h4 : ∀ a b c p, e = .IfExp a b c p → False)
    (h7 : ∀ a o c p, e = .Compare a o c p → False) (env : Env) (whole : Sem Value) : isTrue e env whole = (do let v ← whole; standAt e.pos; holding [v] (truthy v)) := by
  cases e <;> first
    | rfl
    | (rename_i op a p; cases op <;> first | rfl | exact (h1 _ _ rfl).elim | exact (h2 _ _ rfl).elim | exact (h3 _ _ rfl).elim)
    | exact (h4 _ _ _ _ rfl).elim
    | exact (h7 _ _ _ _ rfl).elim
theorem stepT (A : AllE P n N k) : ∀ sc e t, PTr.trT N (k + 1) sc e = some t → ∀ (md : Md) (W : WX) (X : Cx), GX P n md W N sc X → PT X e (aT X W md P n t) := by
  intro sc e t h md W X G
  unfold PTr.trT at h
  split at h
  · exact nomatch h
  · rename_i hk
    obtain rfl := Nat.succ.inj hk
    obtain ⟨x, hx, rfl⟩ := map_some h
    exact st_not (A.eT _ _ _ hx md W X G)
  · rename_i hk
    obtain rfl := Nat.succ.inj hk
    obtain ⟨l, hl, h⟩ := bind_some h
    exact (tands_all (A.eTs _ _ _ hl md W X G) h).pt
  · rename_i hk
    obtain rfl := Nat.succ.inj hk
    obtain ⟨l, hl, h⟩ := bind_some h
    exact (tors_all (A.eTs _ _ _ hl md W X G) h).pt
  · exact nomatch h
  · rename_i hk
    obtain rfl := Nat.succ.inj hk
    obtain ⟨o, ho, h⟩ := bind_some' h
    obtain ⟨x, hx, h⟩ := bind_some' h
    obtain ⟨y, hy, h⟩ := bind_some' h
    cases h
    exact st_cmp G.un (bm_E hy) (A.eE _ _ _ hx md W X G) (A.eE _ _ _ hy md W X G) ho
  · rename_i hk
    obtain rfl := Nat.succ.inj hk
    obtain ⟨o, ho, h⟩ := bind_some' h
    obtain ⟨o', ho', h⟩ := bind_some' h
    obtain ⟨x, hx, h⟩ := bind_some' h
    obtain ⟨y, hy, h⟩ := bind_some' h
    obtain ⟨z, hz, h⟩ := bind_some' h
    cases h
    exact st_chain G.un (bm_E hz) (A.eE _ _ _ hx md W X G) (A.eE _ _ _ hy md W X G) (A.eE _ _ _ hz md W X G) ho ho'
  · exact nomatch h
  · rename_i hk h1 h2 h3 h4 h5 h6 h7
    obtain rfl := Nat.succ.inj hk
    obtain ⟨x, hx, rfl⟩ := map_some h
    exact st_ex (A.eE _ _ _ hx md W X G) fun whole => plain_test h1 h2 h3 h4 h7 _ _
theorem stepTs (A : AllE P n N k) : ∀ sc es l, PTr.trTs N (k + 1) sc es = some l → ∀ (md : Md) (W : WX) (X : Cx), GX P n md W N sc X → Paired (fun e t => PT X e (aT X W md P n t)) es l := by
  intro sc es l h md W X G
  unfold PTr.trTs at h
  split at h
  · exact nomatch h
  · cases h; exact .nil
  · rename_i hk
    obtain rfl := Nat.succ.inj hk
    obtain ⟨x, hx, h⟩ := bind_some' h
    obtain ⟨y, hy, h⟩ := bind_some' h
    cases h
    exact .cons (A.eT _ _ _ hx md W X G) (A.eTs _ _ _ hy md W X G)
theorem stepC (A : AllE P n N k) : ∀ sc elt tg iter ifs scope pos q, PTr.trQ N (k + 1) sc (.ListComp elt [⟨tg, iter, ifs, 0⟩] scope pos) = some q → ∃ own e t it cond, q = .comp e (own.map (·.2)) t it cond ∧
    ∀ (md : Md) (W : WX) (X : Cx), GX P n md W N sc X → CompOk X W md P n N sc scope own elt tg iter ifs e t it cond := by
  intro sc elt tg iter ifs scope pos q h
  unfold PTr.trQ at h
  obtain ⟨_, h⟩ := if_some h
  obtain ⟨own, hown, h⟩ := bind_some' h
  obtain ⟨hb, h⟩ := if_some h
  obtain ⟨t, ht, h⟩ := bind_some' h
  obtain ⟨hin, h⟩ := if_some h
  obtain ⟨it, hit, h⟩ := bind_some' h
  obtain ⟨c, hc, h⟩ := bind_some' h
  obtain ⟨x, hx, h⟩ := bind_some' h
  cases h
  have hb : PTr.blkC N sc scope own = true ∧ PTr.okScope scope = true := by simpa using hb
  have hin : PTr.tgIn t (own.map (·.2)) = true := by simpa using hin
  refine ⟨own, x, t, it, c, rfl, fun md W X G => ?_⟩
  obtain ⟨i1, i2, i3⟩ := A.eI _ _ _ _ hit md W X G
  refine ⟨hb.1, hb.2, ht, hin, i1 tg fun ho => ?_, fun hc => i2 hc tg, fun Xb Gb => A.eF _ _ _ hc _ _ _ Gb, fun Xb Gb => A.eE _ _ _ hx _ _ _ Gb, i3 _⟩
  unfold PTr.trTg at ht
  split at ht
  · obtain ⟨i, _, rfl⟩ := map_some ht
    cases ho
  · exact ⟨_, _, _, rfl⟩
  · exact nomatch ht
theorem tg_tup {N : List Str} {sc : Scope} {tg : Expr} {t : PI.Tg} (ht : PTr.trTg N sc tg = some t) (ho : (!t.one) = true) : ∃ elts kk pos, tg = Expr.Tuple elts kk pos := by
  unfold PTr.trTg at ht
  split at ht
  · obtain ⟨i, _, rfl⟩ := map_some ht
    cases ho
  · exact ⟨_, _, _, rfl⟩
  · exact nomatch ht
theorem stepC2 (A : AllE P n N k) : ∀ sc elt tg iter ifs tg1 iter1 ifs1 scope pos q, PTr.trQ N (k + 1) sc (.ListComp elt [⟨tg, iter, ifs, 0⟩, ⟨tg1, iter1, ifs1, 0⟩] scope pos) = some q → ∃ own e t it cond t1 it1 cond1, q = .comp2 e (own.map (·.2)) (PTr.tgSl t1) t it cond t1 it1 cond1 ∧
    ∀ (md : Md) (W : WX) (X : Cx), GX P n md W N sc X → CompOk2 X W md P n N sc scope own elt tg iter ifs tg1 iter1 ifs1 e t it cond t1 it1 cond1 := by
  intro sc elt tg iter ifs tg1 iter1 ifs1 scope pos q h
  unfold PTr.trQ at h
  obtain ⟨_, h⟩ := if_some h
  obtain ⟨_, h⟩ := if_some h
  obtain ⟨own, hown, h⟩ := bind_some' h
  obtain ⟨hb, h⟩ := if_some h
  obtain ⟨t, ht, h⟩ := bind_some' h
  obtain ⟨t1, ht1, h⟩ := bind_some' h
  obtain ⟨hin, h⟩ := if_some h
  obtain ⟨it, hit, h⟩ := bind_some' h
  obtain ⟨c, hc, h⟩ := bind_some' h
  obtain ⟨it1, hit1, h⟩ := bind_some' h
  obtain ⟨c1, hc1, h⟩ := bind_some' h
  obtain ⟨x, hx, h⟩ := bind_some' h
  cases h
  have hb : PTr.blkC N sc scope own = true ∧ PTr.okScope scope = true := by simpa using hb
  have hin := nf hin
  rw [Bool.and_eq_true] at hin
  refine ⟨own, x, t, it, c, t1, it1, c1, rfl, fun md W X G => ?_⟩
  obtain ⟨i1, i2, i3⟩ := A.eI _ _ _ _ hit md W X G
  exact ⟨hb.1, hb.2, ht, ht1, hin.1, hin.2, i1 tg fun ho => tg_tup ht ho, fun Xb Gb => A.eF _ _ _ hc _ _ _ Gb, fun Xb Gb => (A.eI _ _ _ _ hit1 _ _ Xb Gb).1 tg1 fun ho => tg_tup ht1 ho, fun Xb Gb => A.eF _ _ _ hc1 _ _ _ Gb, fun Xb Gb => A.eE _ _ _ hx _ _ _ Gb, i3 _,
    fol_I hit1⟩
theorem stepQ (A : AllE P n N k) : ∀ sc e q, PTr.trQ N (k + 1) sc e = some q → ∀ (md : Md) (W : WX) (X : Cx), GX P n md W N sc X → PE X e (aQ X W md P n q) := by
  intro sc e q h md W X G
  have h0 := h
  unfold PTr.trQ at h
  split at h
  · exact nomatch h
  · rename_i hk
    obtain rfl := Nat.succ.inj hk
    obtain ⟨l, hl, rfl⟩ := map_some h
    obtain ⟨ns, hp⟩ := A.eL _ _ _ hl
    exact sq_lst (pa_all ns (hp md W X G))
  · obtain ⟨hz, _⟩ := if_some h
    have hz := Decidable.of_not_not hz
    subst hz
    obtain ⟨own, e, t, it, cond, rfl, C⟩ := stepC A _ _ _ _ _ _ _ _ h0
    exact sq_comp G (C md W X G)
  · obtain ⟨hz, h3⟩ := if_some h
    obtain ⟨hz1, _⟩ := if_some h3
    have hz := Decidable.of_not_not hz
    have hz1 := Decidable.of_not_not hz1
    subst hz hz1
    obtain ⟨own, e, t, it, cond, t1, it1, cond1, rfl, C⟩ := stepC2 A _ _ _ _ _ _ _ _ _ _ _ h0
    exact sq_comp2 G (C md W X G)
  · exact nomatch h
  · rename_i hk
    obtain rfl := Nat.succ.inj hk
    obtain ⟨_, h⟩ := if_none h
    obtain ⟨x, hx, h⟩ := bind_some' h
    obtain ⟨y, hy, h⟩ := bind_some' h
    cases h
    exact sq_cat (A.eQ _ _ _ hx md W X G) (A.eQ _ _ _ hy md W X G)
  · rename_i hk
    obtain rfl := Nat.succ.inj hk
    obtain ⟨x, hx, h⟩ := bind_some' h
    obtain ⟨l, hl, h⟩ := bind_some' h
    obtain ⟨u, hu, h⟩ := bind_some' h
    cases h
    exact sq_cut (A.eQ _ _ _ hx md W X G) (A.eO _ _ _ hl md W X G) (A.eO _ _ _ hu md W X G)
  · rename_i hk
    obtain rfl := Nat.succ.inj hk
    split at h
    · rename_i hc
      obtain ⟨x, hx, rfl⟩ := map_some h
      simp only [Bool.and_eq_true, beq_iff_eq] at hc
      exact sq_sorted G hc.2 hc.1 (A.eQ _ _ _ hx md W X G) (star_Q hx _ _)
    · obtain ⟨x, hx, rfl⟩ := map_some h
      exact sq_of (A.eE _ _ _ hx md W X G)
  · rename_i hk u1 u2 u3 u4 u5 u6 u7
    obtain rfl := Nat.succ.inj hk
    obtain ⟨x, hx, rfl⟩ := map_some h
    exact sq_of (A.eE _ _ _ hx md W X G)
theorem pts_none : PTs X [] (aC X W md P n none) := ptsI pts_nil fun σ H Q ⟨ρ, s, ι, re, rs, h⟩ => okG.here h rs rfl
theorem stepF (A : AllE P n N k) : ∀ sc es r, PTr.trIfs N (k + 1) sc es = some r → ∀ (md : Md) (W : WX) (X : Cx), GX P n md W N sc X → PTs X es (aC X W md P n r) := by
  intro sc es r h md W X G
  unfold PTr.trIfs at h
  split at h
  · exact nomatch h
  · cases h; exact pts_none
  · rename_i hk
    obtain rfl := Nat.succ.inj hk
    obtain ⟨x, hx, rfl⟩ := map_some h
    exact pts_one (A.eT _ _ _ hx md W X G)
  · exact nomatch h
theorem stepI (A : AllE P n N k) : ∀ sc tt e it, PTr.trI N (k + 1) sc tt e = some it → ∀ (md : Md) (W : WX) (X : Cx), GX P n md W N sc X →
    (∀ tg, (tt = true → ∃ elts kk pos, tg = Expr.Tuple elts kk pos) → PI X tg e (aI X W md P n it)) ∧ (it.cool = true → ∀ tg, L2H.PIH X tg e (aI X W md P n it)) ∧ ∀ env x, foldedSetIterable e env x = pure x := by
  intro sc tt e it h md W X G
  unfold PTr.trI at h
  split at h
  · exact nomatch h
  · rename_i hk
    obtain rfl := Nat.succ.inj hk
    split at h
    · rename_i hc
      simp only [Bool.and_eq_true, beq_iff_eq] at hc
      obtain ⟨hg, rfl⟩ := hc
      obtain ⟨x, hx, rfl⟩ := map_some h
      exact ⟨fun tg _ => si_rng1 G hg (A.eE _ _ _ hx md W X G) (star_E hx _ _), fun _ tg => si_rng1H G hg (A.eE _ _ _ hx md W X G) (star_E hx _ _), fun _ _ => rfl⟩
    split at h
    · rename_i hc
      simp only [Bool.and_eq_true, beq_iff_eq] at hc
      obtain ⟨hg, rfl⟩ := hc
      obtain ⟨ht, h⟩ := if_none h
      obtain ⟨x, hx, rfl⟩ := map_some h
      refine ⟨fun tg htg => ?_, (fun z => nomatch z), fun _ _ => rfl⟩
      obtain ⟨elts, kk, pos, rfl⟩ := htg ht
      exact si_enum G hg (A.eQ _ _ _ hx md W X G) (star_Q hx _ _)
    split at h
    · obtain ⟨x, hx, rfl⟩ := map_some h
      exact ⟨fun tg _ => si_seq (A.eQ _ _ _ hx md W X G), (fun z => nomatch z), fun _ _ => rfl⟩
    · obtain ⟨x, hx, rfl⟩ := map_some h
      exact ⟨fun tg _ => si_of (A.eE _ _ _ hx md W X G), (fun z => nomatch z), fun _ _ => rfl⟩
  · rename_i hk
    obtain rfl := Nat.succ.inj hk
    split at h
    · rename_i hc
      simp only [Bool.and_eq_true, beq_iff_eq] at hc
      obtain ⟨hg, rfl⟩ := hc
      obtain ⟨x, hx, h⟩ := bind_some' h
      obtain ⟨y, hy, h⟩ := bind_some' h
      cases h
      exact ⟨fun tg _ => si_rng2 G hg (A.eE _ _ _ hx md W X G) (A.eE _ _ _ hy md W X G) ⟨star_E hx _ _, star_E hy _ _⟩, (fun z => nomatch z), fun _ _ => rfl⟩
    · obtain ⟨x, hx, rfl⟩ := map_some h
      exact ⟨fun tg _ => si_of (A.eE _ _ _ hx md W X G), (fun z => nomatch z), fun _ _ => rfl⟩
  · rename_i hk
    obtain rfl := Nat.succ.inj hk
    obtain ⟨x, hx, rfl⟩ := map_some h
    exact ⟨fun tg _ => si_seq (A.eQ _ _ _ hx md W X G), (fun z => nomatch z), fun _ _ => rfl⟩
  · rename_i hk
    obtain rfl := Nat.succ.inj hk
    obtain ⟨x, hx, rfl⟩ := map_some h
    exact ⟨fun tg _ => si_seq (A.eQ _ _ _ hx md W X G), (fun z => nomatch z), fun _ _ => rfl⟩
  · rename_i hk
    obtain rfl := Nat.succ.inj hk
    split at h
    · obtain ⟨x, hx, rfl⟩ := map_some h
      exact ⟨fun tg _ => si_seq (A.eQ _ _ _ hx md W X G), (fun z => nomatch z), fun _ _ => rfl⟩
    · obtain ⟨x, hx, rfl⟩ := map_some h
      exact ⟨fun tg _ => si_of (A.eE _ _ _ hx md W X G), (fun z => nomatch z), fun _ _ => rfl⟩
  · rename_i hk
    obtain rfl := Nat.succ.inj hk
    obtain ⟨x, hx, rfl⟩ := map_some h
    exact ⟨fun tg _ => si_seq (A.eQ _ _ _ hx md W X G), (fun z => nomatch z), fun _ _ => rfl⟩
  · rename_i hk u1 u2 u3 u4 u5 u6
    obtain rfl := Nat.succ.inj hk
    obtain ⟨x, hx, rfl⟩ := map_some h
    exact ⟨fun tg _ => si_of (A.eE _ _ _ hx md W X G), (fun z => nomatch z), fun env => fol_E hx env⟩
theorem allE : ∀ k, AllE P n N k
  | 0 => all0
  | k + 1 => let A := allE k
    ⟨stepE A, stepB A, stepL A, stepA A, stepO A, stepT A, stepTs A, stepQ A, stepC2 A, stepC A, stepF A, stepI A⟩
end
end PSd

set_option Elab.async false
set_option linter.all false
set_option maxRecDepth 100000
set_option maxHeartbeats 4000000
namespace PSd
open PySem PySem.Spec PyProof.Rows L2

/-! ### statements -/
def pK (K : PySem.W.Frag) (mg : Str → Option Value) (W : WX) (md : Md) (ι : List Addr) (H : Hp) (D : Ends) : PI.Pst where
  nx := fun ρ s => ∀ σ' H' ι', Step ι H ι' H' → RS K H' ι' s → REnv K mg H' ι' md ρ σ' → D.nx σ' H'
  rt := okG K (RV K) D.rt ι H
  bk := fun ρ s => ∀ σ' H' ι', Step ι H ι' H' → RS K H' ι' s → REnv K mg H' ι' md ρ σ' → D.bk σ' H'
  ct := fun ρ s => ∀ σ' H' ι', Step ι H ι' H' → RS K H' ι' s → REnv K mg H' ι' md ρ σ' → D.ct σ' H'
  ex := fun c fs ρ s => ∀ cv dd σ' H' ι', Step ι H ι' H' → RS K H' ι' s → REnv K mg H' ι' md ρ σ' → XR K mg H' ι' c fs cv dd → W cv dd σ' H'
section
variable {K : PySem.W.Frag} {mg : Str → Option Value} {W : WX} {md : Md} {ι ι' : List Addr} {H H' : Hp} {D D' : Ends}
theorem pK_shift (st : Step ι H ι' H') : (pK K mg W md ι H D).Le (pK K mg W md ι' H' D) :=
  ⟨fun ρ s h σ' H2 ι2 st2 => h σ' H2 ι2 (st.trans st2), fun d s h => h.shift st, fun ρ s h σ' H2 ι2 st2 => h σ' H2 ι2 (st.trans st2), fun ρ s h σ' H2 ι2 st2 => h σ' H2 ι2 (st.trans st2), fun c fs ρ s h cv dd σ' H2 ι2 st2 => h cv dd σ' H2 ι2 (st.trans st2)⟩
variable {β γ : Type}
theorem LfS {R : Hp → List Addr → Hp → β → γ → Prop} {w : PI.Env → PI.S → (β → PI.S → Prop) → PI.KX → Prop} (mo : MonoW w) {ι0 : List Addr} {H0 : Hp} {ρ : PI.Env} {s : PI.S} {σ : St} {Ψ : β → PI.S → Prop} {Qg : γ → Hp → Prop}
    (re : REnv K mg H ι md ρ σ) (rs : RS K H ι s) (st0 : Step ι0 H0 ι H) (h : w ρ s Ψ (fun c fs s1 => (pK K mg W md ι0 H0 D).ex c fs ρ s1))
    (k : ∀ b s1 g H1 ι1, Step ι H ι1 H1 → RS K H1 ι1 s1 → R H ι1 H1 b g → REnv K mg H1 ι1 md ρ σ → Ψ b s1 → Qg g H1) : Lf K mg W md R w σ H Qg := by
  refine ⟨ρ, s, ι, re, rs, mo _ _ _ _ _ _ (fun b s1 hb g H1 ι1 st r rg => k b s1 g H1 ι1 st r rg (re.step st rs.lo) hb) (fun c fs s1 hx cv dd H1 ι1 st r x => ?_) h⟩
  exact hx cv dd σ H1 ι1 (st0.trans st) r (re.step st rs.lo) x
end

section
variable {P : PI.Prog} {n : Nat} {md : Md} {W : WX} {N : List Str} {sc : Scope} {X : Cx}
def aS (X : Cx) (W : WX) (md : Md) (P : PI.Prog) (n : Nat) (t : PI.St) : TS := fun D σ H => ∃ ρ s ι, REnv X.K X.mg H ι md ρ σ ∧ RS X.K H ι s ∧ PI.wpS (cxI P n md) t ρ s (pK X.K X.mg W md ι H D)
def aB (X : Cx) (W : WX) (md : Md) (P : PI.Prog) (n : Nat) (l : List PI.St) : TS := fun D σ H => ∃ ρ s ι, REnv X.K X.mg H ι md ρ σ ∧ RS X.K H ι s ∧ PI.wpB (cxI P n md) l ρ s (pK X.K X.mg W md ι H D)
theorem mS (t : PI.St) {ρ s} {D D' : PI.Pst} (l : D.Le D') (h : PI.wpS (cxI P n md) t ρ s D) : PI.wpS (cxI P n md) t ρ s D' := PI.wpS_mono (PI.wpCall P n) P (fun _ => PI.mono_call P n _) t l h
theorem mB (t : List PI.St) {ρ s} {D D' : PI.Pst} (l : D.Le D') (h : PI.wpB (cxI P n md) t ρ s D) : PI.wpB (cxI P n md) t ρ s D' := PI.wpB_mono (PI.wpCall P n) P (fun _ => PI.mono_call P n _) t l h
structure GS (P : PI.Prog) (n : Nat) (md : Md) (W : WX) (N : List Str) (sc : Scope) (X : Cx) : Prop extends GX P n md W N sc X where
  pas : PassesOwn (model X.prog X.w) X.A X.env X.xe
  stk : X.stack = X.env :: X.outer
  frm : X.env.frame = some X.env.locals
  fnl : ∀ x, X.fn x = true
theorem GS.tgok (G : GS P n md W N sc X) : TgOk X N sc := fun x i e => by
  obtain ⟨h1, h2⟩ := slotT_at e
  exact ⟨by rw [G.hN]; exact h1, by rw [G.scE]; exact h2, .inl (G.fnl x)⟩
theorem GX.ndX (G : GX P n md W N sc X) : X.N.Nodup := by rw [G.hN]; exact G.nd
variable {a b c e : Expr} {ia ib ic ie : PI.Ex} {pos : Pos} {t : PI.Tg}
theorem ss_nil : PSs X [] (aB X W md P n []) := pssI pss_nil fun D σ H ⟨ρ, s, ι, re, rs, h⟩ => h σ H ι (Step.refl _ _) rs re
theorem ss_cons {x : Stmt} {r : List Stmt} {t : PI.St} {l : List PI.St} (h1 : PS X x (aS X W md P n t)) (h2 : PSs X r (aB X W md P n l)) : PSs X (x :: r) (aB X W md P n (t :: l)) :=
  pssI (pss_cons h1 h2) fun D σ H ⟨ρ, s, ι, re, rs, h⟩ => by
    unfold PI.wpB at h
    have le : PI.Pst.Le { pK X.K X.mg W md ι H D with nx := fun ρ1 s1 => PI.wpB (cxI P n md) l ρ1 s1 (pK X.K X.mg W md ι H D) } (pK X.K X.mg W md ι H { D with nx := aB X W md P n l D }) :=
      ⟨fun ρ1 s1 h σ' H' ι' st rs' re' => ⟨ρ1, s1, ι', re', rs', mB l (pK_shift st) h⟩, fun _ _ h => h, fun _ _ h => h, fun _ _ h => h, fun _ _ _ _ h => h⟩
    exact ⟨ρ, s, ι, re, rs, mS t le h⟩
/-- what an assignment wants -/
theorem asg_go {D : Ends} {σ : St} {H : Hp} (h : aS X W md P n (.asg t ie) D σ H) : (md.hotB = true → t.one = true) ∧ aE X W md P n ie σ H fun x H1 => gT X.K t x σ H1 D.nx := by
  obtain ⟨ρ, s, ι, re, rs, h1, h⟩ := h
  refine ⟨h1, LfS (mE ie) re rs (Step.refl _ _) h fun d s1 v H1 ι1 st1 rs1 rd1 re1 h1 => ?_⟩
  split at h1
  · rename_i ρ1 hρ
    exact tg_go re1 rd1 hρ fun σ1 r1 _ _ => h1 σ1 H1 ι1 st1 rs1 r1
  · exact h1.elim
theorem new_go {q : PI.Sq} {σ : St} {H : Hp} {Q : VK} (h : aE X W md P n (.new q) σ H Q) : aQ X W md P n q σ H Q := by
  obtain ⟨ρ, s, ι, re, rs, h⟩ := h
  exact Lf.of (mQ q) re rs (Step.refl _ _) h fun r s1 v H1 ι1 st1 rs1 rq re1 h1 => by
    split at h1
    · obtain ⟨ι2, g1, g2, g3⟩ := adopt st1 rs1 rq
      exact okG.go h1 g1 g2 g3
    · exact h1.elim
theorem ps_false {st : Stmt} {t : TS} (h : ∀ D σ H, ¬ t D σ H) : PS X st t := ⟨fun _ _ σ H D _ q => (h D σ H q).elim⟩
theorem ss_name (G : GS P n md W N sc X) {x : Str} {i : Nat} (hx : PTr.slotT N sc x = some i) (he : PE X e (aE X W md P n ie)) {pos' : Pos} (hs : swapsWith e (some (.Name x pos')) pos.line X.env = pure false) :
    PS X (.Assign [.Name x pos'] e pos) (aS X W md P n (.asg (.name i) ie)) :=
  let ⟨h1, h2, h3⟩ := G.tgok x i hx
  psI (ps_set G.ndX h1 h2 he hs h3) fun D σ H h => (asg_go h).2
theorem ss_comp (G : GS P n md W N sc X) {x : Str} {i : Nat} (hx : PTr.slotT N sc x = some i) {own : List (Str × Nat)} {t : PI.Tg} {it : PI.It} {cond : Option PI.Te} {elt tg iter : Expr} {ifs : List Expr} {scope : Scope} {pq py spos : Pos}
    (C : CompOk X W md P n N sc scope own elt tg iter ifs ie t it cond) : PS X (.Assign [.Name x py] (.ListComp elt [⟨tg, iter, ifs, 0⟩] scope pq) spos) (aS X W md P n (.asg (.name i) (.new (.comp ie (own.map (·.2)) t it cond)))) := by
  cases hb : (X.env.blockKind == .function && X.env.kindOf x == some .local && py.line == pq.line && !(scope.names.any fun (n, k) => n == x && (k == .local || k == .cell))) with
  | false => exact ss_name G hx (se_new (sq_comp G.toGX C)) (show (pure _ : Sem Bool) = pure false from congrArg pure hb)
  | true =>
    obtain ⟨h1, _, _⟩ := G.tgok x i hx
    have hl : X.env.scope.names.lookup x = some .local := by
      simp only [Bool.and_eq_true, beq_iff_eq] at hb
      exact hb.1.1.2
    exact psI (set_comp G.toGX C h1 hl (show (pure _ : Sem Bool) = pure true from congrArg pure hb)) fun D σ H h => new_go (asg_go h).2
theorem ss_comp2 (G : GS P n md W N sc X) {x : Str} {i : Nat} (hx : PTr.slotT N sc x = some i) {own : List (Str × Nat)} {t : PI.Tg} {it : PI.It} {cond : Option PI.Te} {elt tg iter : Expr} {ifs : List Expr} {t1 : PI.Tg} {it1 : PI.It} {cond1 : Option PI.Te} {tg1 iter1 : Expr} {ifs1 : List Expr} {scope : Scope} {pq py spos : Pos}
    (C : CompOk2 X W md P n N sc scope own elt tg iter ifs tg1 iter1 ifs1 ie t it cond t1 it1 cond1) : PS X (.Assign [.Name x py] (.ListComp elt [⟨tg, iter, ifs, 0⟩, ⟨tg1, iter1, ifs1, 0⟩] scope pq) spos) (aS X W md P n (.asg (.name i) (.new (.comp2 ie (own.map (·.2)) (PTr.tgSl t1) t it cond t1 it1 cond1)))) := by
  cases hb : (X.env.blockKind == .function && X.env.kindOf x == some .local && py.line == pq.line && !(scope.names.any fun (n, k) => n == x && (k == .local || k == .cell))) with
  | false => exact ss_name G hx (se_new (sq_comp2 G.toGX C)) (show (pure _ : Sem Bool) = pure false from congrArg pure hb)
  | true =>
    obtain ⟨h1, _, _⟩ := G.tgok x i hx
    have hl : X.env.scope.names.lookup x = some .local := by
      simp only [Bool.and_eq_true, beq_iff_eq] at hb
      exact hb.1.1.2
    exact psI (set_comp2 G.toGX C h1 hl (show (pure _ : Sem Bool) = pure true from congrArg pure hb)) fun D σ H h => new_go (asg_go h).2
theorem ss_tup (G : GS P n md W N sc X) {es : List Expr} {k : Nat} {p : Pos} (ht : PTr.trTg N sc (.Tuple es k p) = some t) (he : PE X e (aE X W md P n ie)) (hn : PTr.isTup e = false) : PS X (.Assign [.Tuple es k p] e pos) (aS X W md P n (.asg t ie)) := by
  cases md with
  | hot q =>
    refine ps_false fun D σ H h => ?_
    have h1 := (asg_go h).1 rfl
    unfold PTr.trTg at ht
    obtain ⟨l, _, rfl⟩ := map_some ht
    cases h1
  | cold =>
    refine psI (ps_asg he (tg_all G.ndX G.tgok ht fun _ => G.calm rfl) ?_ ?_ rfl) fun D σ H h => (asg_go h).2
    · cases e <;> rfl
    · cases e <;> first | rfl | exact nomatch hn
theorem ss_setIx (ho : PE X a (aE X W md P n ia)) (hi : PE X b (aE X W md P n ib)) (he : PE X e (aE X W md P n ie)) (hb : ∃ k ir, PTr.trE N k sc b = some ir) {p : Pos} : PS X (.Assign [.Subscript a b p] e pos) (aS X W md P n (.setIx ia ib ie)) := by
  refine psI (ps_asg he (pg_sub ho hi set_list ?_) ?_ ?_ rfl) fun D σ H ⟨ρ, s, ι, re, rs, h⟩ => ?_
  · intro v
    obtain ⟨k, ir, h⟩ := hb
    cases b <;> first
      | rfl
      | (cases k with
         | zero => exact nomatch h
         | succ k => exact nomatch h)
  · cases e <;> rfl
  · cases e <;> rfl
  · refine LfS (mE ie) re rs (Step.refl _ _) h fun d s1 v H1 ι1 st1 rs1 rd1 re1 h1 => ?_
    refine LfS (mE ia) re1 rs1 st1 h1 fun x s2 vx H2 ι2 st2 rs2 rd2 re2 h2 => ?_
    have st12 := st1.trans st2
    refine LfS (mE ib) re2 rs2 st12 h2 fun y s3 vy H3 ι3 st3 rs3 rd3 re3 h3 => ?_
    have st123 := st12.trans st3
    split at h3
    · rename_i k j
      split at h3
      · rename_i l hl
        split at h3
        · rename_i m hm
          obtain ⟨q, rfl, hq⟩ := RD.step st3 rs2.lo _ rd2
          obtain rfl := (rd3 : vy = V.int _)
          obtain ⟨q', vs, e1, e2, e3⟩ := rs3.at hl
          rw [hq] at e1; cases e1
          refine ⟨q, vs, j, m, rfl, rfl, e2, by rw [← e3.length]; exact hm, ?_⟩
          have rdv := RD.step (st2.trans st3) rs1.lo _ rd1
          have stw : Step ι3 H3 ι3 (upd H3 q (.lst (vs.set m v))) := Step.write hq
          exact h3 σ _ ι3 (st123.trans stw) (rs3.write hq (e3.set m rdv)) (re3.step stw rs3.lo)
        · exact h3.elim
      · exact h3.elim
    · exact h3.elim
theorem ip_two {op : Operator} {o : PI.Op} (ho : (match op with | .Add => some PI.Op.add | .Sub => some PI.Op.sub | _ => none) = some o) : PIp X op (fun x y H Q => ∃ i j k, x = .int i ∧ y = .int j ∧ PI.augD o i j = some k ∧ Q (.int k) H) := by
  split at ho
  · cases ho
    intro pins s σ H x y v u Q I r1 r2 ⟨i, j, k, e1, e2, e3, q⟩
    cases e3
    exact ip_add pins s σ H x y v u Q I r1 r2 ⟨i, j, e1, e2, q⟩
  · cases ho
    intro pins s σ H x y v u Q I r1 r2 ⟨i, j, k, e1, e2, e3, q⟩
    cases e3
    exact ip_sub pins s σ H x y v u Q I r1 r2 ⟨i, j, e1, e2, q⟩
  · cases ho
theorem ss_aug (G : GS P n md W N sc X) {x : Str} {i : Nat} (hx : PTr.slotT N sc x = some i) {op : Operator} {o : PI.Op} (ho : (match op with | .Add => some PI.Op.add | .Sub => some PI.Op.sub | _ => none) = some o) (he : PE X e (aE X W md P n ie)) {pos' : Pos} :
    PS X (.AugAssign (.Name x pos') op e pos) (aS X W md P n (.aug i o ie)) :=
  let ⟨h1, h2, h3⟩ := G.tgok x i hx
  psI (ps_aug G.ndX h1 h2 he (ip_two ho) h3) fun D σ H ⟨ρ, s, ι, re, rs, h⟩ => by
    simp only [PI.wpS] at h
    split at h
    · rename_i j hj
      obtain ⟨v, hv, hr⟩ := re.at_ i _ hj
      obtain rfl := (hr : v = V.int _)
      refine ⟨_, hv, LfS (mE ie) re rs (Step.refl _ _) h fun d s1 v H1 ι1 st1 rs1 rd1 re1 h1 => ?_⟩
      split at h1
      · rename_i k
        split at h1
        · rename_i m hm
          obtain rfl := (rd1 : v = V.int _)
          exact ⟨_, _, m, rfl, rfl, hm, h1 _ H1 ι1 st1 rs1 (re1.set i rfl)⟩
        · exact h1.elim
      · exact h1.elim
    · exact h.elim
theorem ss_expr (he : PE X e (aE X W md P n ie)) (hs : PTr.isCallE e = true) : PS X (.Expr e pos) (aS X W md P n (.expr ie)) :=
  psI (ps_expr he (by cases e <;> first | rfl | exact nomatch hs)) fun D σ H ⟨ρ, s, ι, re, rs, h⟩ =>
    LfS (mE ie) re rs (Step.refl _ _) h fun d s1 v H1 ι1 st1 rs1 rd1 re1 h1 => h1 σ H1 ι1 st1 rs1 re1
theorem ss_ret (he : PE X e (aE X W md P n ie)) : PS X (.Return (some e) pos) (aS X W md P n (.ret ie)) :=
  psI (ps_ret he) fun D σ H ⟨ρ, s, ι, re, rs, h⟩ =>
    LfS (mE ie) re rs (Step.refl _ _) h fun d s1 v H1 ι1 st1 rs1 rd1 re1 h1 => okG.go h1 st1 rs1 rd1
theorem ss_retN : PS X (.Return none pos) (aS X W md P n .retN) := psI ps_retN fun D σ H ⟨ρ, s, ι, re, rs, h⟩ => okG.here (R := RV X.K) (Q := D.rt) (b := PI.D.non) h rs rfl
theorem ss_if {it : PI.Te} {x y : List Stmt} {l r : List PI.St} (hc : PT X c (aT X W md P n it)) (hx : PSs X x (aB X W md P n l)) (hy : PSs X y (aB X W md P n r)) : PS X (.If c x y pos) (aS X W md P n (.cond it l r)) :=
  psI (ps_if hc hx hy) fun D σ H ⟨ρ, s, ι, re, rs, h⟩ =>
    LfS (mT it) re rs (Step.refl _ _) h fun d s1 k H1 ι1 st1 rs1 rd1 re1 h1 => by
      obtain rfl := rd1
      cases k with
      | true => exact ⟨ρ, s1, ι1, re1, rs1, mB l (pK_shift st1) h1⟩
      | false => exact ⟨ρ, s1, ι1, re1, rs1, mB r (pK_shift st1) h1⟩
theorem ss_brk : PS X (.Break pos) (aS X W md P n .brk) := psI ps_break fun D σ H ⟨ρ, s, ι, re, rs, h⟩ => h σ H ι (Step.refl _ _) rs re
theorem ss_cont : PS X (.Continue pos) (aS X W md P n .cont) := psI ps_continue fun D σ H ⟨ρ, s, ι, re, rs, h⟩ => h σ H ι (Step.refl _ _) rs re
theorem ss_pass : PS X (.Pass pos) (aS X W md P n .pass) := psI ps_pass fun D σ H ⟨ρ, s, ι, re, rs, h⟩ => h σ H ι (Step.refl _ _) rs re
theorem ss_while (G : GS P n md W N sc X) {it : PI.Te} {x : List Stmt} {l : List PI.St} (hc : PT X c (aT X W md P n it)) (hx : PSs X x (aB X W md P n l)) : PS X (.While c x [] pos) (aS X W md P n (.while it l)) :=
  psI (ps_while G.pas hc hx) fun D σ H ⟨ρ, s, ι, re, rs, V, ⟨m0, w0⟩, h⟩ => by
    refine ⟨fun m σ' H' => ∃ ρ1 s1 ι1, Step ι H ι1 H' ∧ RS X.K H' ι1 s1 ∧ REnv X.K X.mg H' ι1 md ρ1 σ' ∧ V m ρ1 s1, ⟨m0, ρ, s, ι, Step.refl _ _, rs, re, w0⟩, ?_⟩
    rintro m σ1 H1 ⟨ρ1, s1, ι1, st1, rs1, re1, w1⟩
    refine LfS (mT it) re1 rs1 st1 (h m ρ1 s1 w1).2 fun d s2 k H2 ι2 st2 rs2 rd2 re2 h2 => ?_
    obtain rfl := rd2
    have st12 := st1.trans st2
    cases k with
    | true =>
      refine ⟨_, fun σ' H' z => z, ρ1, s2, ι2, re2, rs2, mB l ⟨?_, ?_, ?_, ?_, ?_⟩ h2⟩
      · rintro ρ3 s3 ⟨m', lt, w'⟩ σ' H' ι' st' rs' re'
        exact ⟨m', lt, ρ3, s3, ι', st12.trans st', rs', re', w'⟩
      · exact fun d s h => h.shift st12
      · exact fun ρ s h σ' H' ι' st' rs' re' => h σ' H' ι' (st12.trans st') rs' re'
      · rintro ρ3 s3 ⟨m', lt, w'⟩ σ' H' ι' st' rs' re'
        exact ⟨m', lt, ρ3, s3, ι', st12.trans st', rs', re', w'⟩
      · exact fun c fs ρ s h cv dd σ' H' ι' st' => h cv dd σ' H' ι' (st12.trans st')
    | false => exact h2 σ1 H2 ι2 st12 rs2 re2
theorem for_go {it : PI.It} {l : List PI.St} {D : Ends} {σ : St} {H : Hp} (h : aS X W md P n (.for t it l) D σ H) : (md.hotB = true → it.cool = true ∧ t.one = true) ∧ tFor (aI X W md P n it) (gT X.K t) (aB X W md P n l) D σ H := by
  obtain ⟨ρ, s, ι, re, rs, h0, h⟩ := h
  refine ⟨h0, ρ, s, ι, re, rs, PI.wpI_mono (PI.mono_call P n _) it (fun src items s1 hw => ?_) (fun c fs s1 hx cv dd H1 ι1 st r x => hx cv dd σ H1 ι1 st r (re.step st rs.lo) x) h⟩
  intro J H1 ι1 st1 rs1 wk _
  refine ⟨fun i m σ' H' => m = items.length - i ∧ i ≤ items.length ∧ ∃ ρ' s' ι', Step ι1 H1 ι' H' ∧ RS X.K H' ι' s' ∧ REnv X.K X.mg H' ι' md ρ' σ' ∧
    PI.forW src.ok (fun d ρ1 s2 nx => match PI.asgT t d ρ1 with
        | some ρ2 => PI.wpB (cxI P n md) l ρ2 s2 { pK X.K X.mg W md ι H D with nx := nx, ct := nx, bk := (pK X.K X.mg W md ι H D).nx }
        | none => False) (pK X.K X.mg W md ι H D).nx (items.drop i) ρ' s', ⟨items.length, by simp, Nat.zero_le _, ρ, s1, ι1, Step.refl _ _, rs1, re.step st1 rs.lo, hw⟩, ?_⟩
  rintro i m σ2 H2 ⟨rfl, hi, ρ2, s2, ι2, st2, rs2, re2, hc⟩
  have st12 := st1.trans st2
  by_cases hlt : i < items.length
  · rw [List.drop_eq_getElem_cons hlt] at hc
    obtain ⟨hok, hc⟩ := hc
    obtain ⟨go, yl⟩ := (wk ι2 H2 s2 st2 rs2 hok).1 i items[i] (List.getElem?_eq_getElem hlt)
    refine .inr ⟨go, _, fun σ' H' nx => ⟨items.length - (i + 1), by omega, rfl, hlt, nx⟩, fun x H3 y => ?_⟩
    obtain ⟨st3, rs3, rd3⟩ := yl x H3 y
    split at hc
    · rename_i ρ3 hρ
      refine tg_go (re2.step st3 rs2.lo) rd3 hρ fun σ3 re3 _ _ => ⟨ρ3, s2, ι2, re3, rs3, mB l ⟨?_, ?_, ?_, ?_, ?_⟩ hc⟩
      · exact fun ρ4 s4 h4 σ' H' ι' st' rs' re' => ⟨ρ4, s4, ι', (st2.trans st3).trans st', rs', re', h4⟩
      · exact fun d s h => h.shift (st12.trans st3)
      · exact fun ρ s h σ' H' ι' st' rs' re' => h σ' H' ι' ((st12.trans st3).trans st') rs' re'
      · exact fun ρ4 s4 h4 σ' H' ι' st' rs' re' => ⟨ρ4, s4, ι', (st2.trans st3).trans st', rs', re', h4⟩
      · exact fun c fs ρ s h cv dd σ' H' ι' st' => h cv dd σ' H' ι' ((st12.trans st3).trans st')
    · exact hc.elim
  · have hi' : i = items.length := by omega
    subst hi'
    rw [List.drop_eq_nil_of_le (Nat.le_refl _)] at hc
    exact .inl ⟨(wk ι2 H2 s2 st2 rs2 hc.1).2 _ (Nat.le_refl _), hc.2 σ2 H2 ι2 st12 rs2 re2⟩
theorem ss_for (G : GS P n md W N sc X) {tg iter : Expr} {it : PI.It} {x : List Stmt} {l : List PI.St} (ht : PTr.trTg N sc tg = some t) (hi : PI X tg iter (aI X W md P n it)) (hiH : it.cool = true → L2H.PIH X tg iter (aI X W md P n it))
    (hf : ∀ x, foldedSetIterable iter X.env x = pure x) (hx : PSs X x (aB X W md P n l)) : PS X (.For tg iter x [] pos) (aS X W md P n (.for t it l)) := by
  cases md with
  | cold => exact psI (ps_for G.pas (G.calm rfl) hi (tg_all G.ndX G.tgok ht fun _ => G.calm rfl) hx hf) fun D σ H h => (for_go h).2
  | hot p =>
    cases hc : it.cool with
    | false => exact ps_false fun D σ H h => by have := ((for_go h).1 rfl).1; rw [hc] at this; cases this
    | true =>
      cases h1 : t.one with
      | false => exact ps_false fun D σ H h => by have := ((for_go h).1 rfl).2; rw [h1] at this; cases this
      | true => exact psI (L2H.ps_forH G.pas ⟨p, (G.hot p rfl).1, (G.hot p rfl).2.1⟩ (hiH hc) (tg_all G.ndX G.tgok ht fun z => by rw [h1] at z; cases z) hx hf) fun D σ H h => (for_go h).2
end
end PSd

set_option Elab.async false
set_option linter.all false
set_option maxRecDepth 100000
set_option maxHeartbeats 4000000
namespace PSd
open PySem PySem.Spec PyProof.Rows L2
section
variable {P : PI.Prog} {n : Nat} {md : Md} {W : WX} {N : List Str} {sc : Scope} {X : Cx}
variable {a b c e : Expr} {ia ib ic ie : PI.Ex} {pos : Pos} {t : PI.Tg}
/-- X(), X an own class of exceptions without an __init__ -/
theorem pmk_none {C : Addr} {x : Str} {p : Pos} (E : ExC X.K C) (q : ExPlain X.K C) (gC : X.mg x = some (.ref C)) (hg : Gl X x) (hdb : (x == ("__debug__" : Str)) = false) : L2N.PMk X (.Call (.Name x p) [] [] pos) (fun _ H Q => Q (.ref C) none H) := by
  intro pins s σ H Q I h
  refine wpAny_Call_Name_kw (ld_glob I hg gC ?_ hdb)
  refine PySem.W.callWith_K0 I.kIn E.keep ?_
  show wpAny _ _ (call (.ref C) []) _ _ _
  obtain ⟨bm, Nn, nm, qn, bs, hdct, sn, sub, ab, col, dd, k0, k1, k2, k3, k5, mN, hC, hN, hni, T⟩ := exc_obj I.kIn q
  refine wpAny_call_exc_subT PySem.F.excBase_ValueError T hC hN hni (fun h' e hm => ?_) (Nat.zero_le _)
  exact L2N.mk_of I hm (raises_own E.isB E.ty) h (I.hok.gone hm.new)
theorem ss_raise0 (G : GS P n md W N sc X) {x : Str} (hg : PTr.glob sc x = true) {p pos' : Pos} : PS X (.Raise (some (.Call (.Name x p) [] [] pos)) none pos') (aS X W md P n (.raise x [])) := by
  cases md with
  | hot q => exact ps_false fun D σ H ⟨ρ, s, ι, re, rs, h⟩ => by cases h.1
  | cold =>
    cases q : P.exc x with
    | none => exact ps_false fun D σ H ⟨ρ, s, ι, re, rs, _, h⟩ => by rw [show (cxI P n .cold).P.exc x = none from q] at h; exact h
    | some k =>
      cases k with
      | fld f => exact ps_false fun D σ H ⟨ρ, s, ι, re, rs, _, h⟩ => by rw [show (cxI P n .cold).P.exc x = some (.fld f) from q] at h; exact h
      | plain =>
        obtain ⟨C, h1, E⟩ := G.ge.exc x _ q
        refine psI (L2N.ps_raise (G.calm rfl) G.tk (pmk_none E (G.ge.plain x C q h1) h1 (G.gl hg) (G.dbg hg))) fun D σ H ⟨ρ, s, ι, re, rs, _, h⟩ => ?_
        rw [show (cxI P n .cold).P.exc x = some .plain from q] at h
        exact h (.ref C) none σ H ι (Step.refl _ _) rs re ⟨C, h1, rfl, rfl⟩
theorem ss_raise2 {x : Str} {as : List Expr} {y z : PI.Ex} {l : List PI.Ex} {p pos' : Pos} : PS X (.Raise (some (.Call (.Name x p) as [] pos)) none pos') (aS X W md P n (.raise x (y :: z :: l))) :=
  ps_false fun D σ H ⟨ρ, s, ι, re, rs, _, h⟩ => by
    split at h
    · rename_i e; cases e
    · rename_i e; cases e
    · exact h
/-- where a class with a field is made, none is let out of its __init__ -/
theorem pass_none {CX : CXT} (h : ∀ outer H s e s', ¬ CX outer H s (fun _ _ _ => False) e s') : Passes CX X (fun _ _ _ => False) := fun pins σ H s e s' I c => (h _ _ _ _ _ c).elim
theorem ss_raiseF (G : GS P n md W N sc X) {x : Str} (hg : PTr.glob sc x = true) (ha : PE X a (aE X W md P n ia)) (ns : starEach [a] X.env = (false, eval a X.env) :: starEach [] X.env) {p pos' : Pos} : PS X (.Raise (some (.Call (.Name x p) [a] [] pos)) none pos') (aS X W md P n (.raise x [ia])) := by
  cases md with
  | hot q => exact ps_false fun D σ H ⟨ρ, s, ι, re, rs, h⟩ => by cases h.1
  | cold =>
    cases q : P.exc x with
    | none => exact ps_false fun D σ H ⟨ρ, s, ι, re, rs, _, h⟩ => by rw [show (cxI P n .cold).P.exc x = none from q] at h; exact h
    | some k =>
      cases k with
      | plain => exact ps_false fun D σ H ⟨ρ, s, ι, re, rs, _, h⟩ => by rw [show (cxI P n .cold).P.exc x = some .plain from q] at h; exact h
      | fld f =>
        obtain ⟨C, fI, y, params, body, scope, fd, h1, S, T, hk⟩ := G.ge.fld x f q
        have F : FnOk X.prog X.w X.K X.mg X.base CX0 0 fI fd [("self" : Str), y] (spX X.K C f) := fn_sup S T
        have hb : Binds X.K fd [("self" : Str), y] [] := by
          obtain ⟨qual, kV, doc, pm, ct, oc, an, od, osl, cda, cc, ccl, cl, cdd, cld, ccs, csl, vs0, file, tf, rfl, _⟩ := S.lk
          intro s us hin hl
          match us, hl with
          | [u1, u2], _ => exact BindsTo.of_eq (T.bnd _ _ _ _ _ _ _ _ _ _)
        refine psI (L2N.ps_raise (G.calm rfl) G.tk (pmk_sup (k := 0) S.ox S.ini S.ity F ((G.cold rfl).2.mono (by unfold lv; omega)) hb (pass_none fun _ _ _ _ _ z => z) (G.gl hg) h1 (pa_cons ha pa_nil ns) (G.dbg hg) ns)) fun D σ H ⟨ρ, s, ι, re, rs, _, h⟩ => ?_
        rw [show (cxI P n .cold).P.exc x = some (.fld f) from q] at h
        refine LfS (mE ia) re rs (Step.refl _ _) h fun d s1 v H1 ι1 st1 rs1 rd1 re1 h1' => ?_
        split at h1'
        · rename_i i
          obtain ⟨ho, h2⟩ := h1'
          obtain rfl := (rd1 : v = V.int _)
          refine ⟨by show 1 ≤ 1000; decide, fun e hn => ⟨e, i, rfl, upd_same, ho, fun dx hd hne => ⟨rfl, dx, [(f, .int i)], by rw [upd_same], by rw [upd_ne hne, upd_same], ?_, ?_⟩⟩⟩
          · have : upd H1 e (exo e C none) dx = none := hd
            rw [upd_ne hne] at this; exact this
          · have hd1 : H1 dx = none := by
              have : upd H1 e (exo e C none) dx = none := hd
              rw [upd_ne hne] at this; exact this
            have eq : upd (del (upd (upd (upd H1 e (exo e C none)) dx (exd dx [(f, .int i)])) e (exo e C (some dx))) e) dx (.xd [(f, .int i)]) = upd H1 dx (.xd [(f, .int i)]) := by
              funext b
              by_cases hb1 : b = dx
              · rw [hb1, upd_same, upd_same]
              · rw [upd_ne hb1, upd_ne hb1]
                by_cases hb2 : b = e
                · rw [hb2, del_same, hn]
                · rw [del_ne hb2, upd_ne hb2, upd_ne hb1, upd_ne hb2]
            rw [eq]
            have st2 : Step ι1 H1 ι1 (upd H1 dx (.xd [(f, .int i)])) := Step.temp hd1
            refine h2 (.ref C) (some dx) σ _ ι1 (st1.trans st2) (rs1.temp hd1) (re1.step st2 rs1.lo) ⟨C, h1, rfl, by simp, _, upd_same, fun g w hw => ?_⟩
            refine ⟨.int i, ?_, ?_⟩
            · rw [List.lookup_cons] at hw ⊢
              cases eg : g == f with
              | true => rfl
              | false => rw [eg] at hw; cases hw
            · rw [List.lookup_cons] at hw
              cases eg : g == f with
              | true => rw [eg] at hw; cases hw; rfl
              | false => rw [eg] at hw; cases hw
        · exact h1'.elim
theorem REnv.hot {K : PySem.W.Frag} {mg : Str → Option Value} {H : Hp} {ι : List Addr} {ρ : PI.Env} {σ : St} (r : REnv K mg H ι .cold ρ σ) {i : Nat} {p : Addr × Obj} {d : Str} {fs : PI.Fs} {C : Addr} {dd : Option Addr}
    (h1 : mg d = some (.ref C)) (h2 : L2N.Zn (.ref C) dd p.2) (h3 : XF K H ι fs dd) : REnv K mg H ι (.hot p) (ρ.set i (.exn d fs)) (σ.set i (some (.ref p.1))) := by
  refine ⟨by simp [r.len], fun j sl e => ?_⟩
  by_cases hj : j = i
  · subst hj
    have hl : j < ρ.length := by
      have := (List.getElem?_eq_some_iff.mp e).1
      simpa using this
    rw [List.getElem?_set_self hl] at e
    cases e
    exact ⟨p, C, dd, rfl, by rw [List.getElem?_set_self (by rw [← r.len]; exact hl)], h1, h2, h3⟩
  · rw [List.getElem?_set_ne (Ne.symm hj)] at e ⊢
    have := r.at_ j sl e
    cases sl with
    | no => trivial
    | val d => exact this
    | exn c fs =>
      obtain ⟨_, _, _, z, _⟩ := this
      cases z
theorem GS.tr (G : GS P n .cold W N sc X) {W' : WX} {pn : List (Addr × Obj)} {xe : Value → Shared → Prop} (tk : L2N.Takes (X.tr pn xe) W') (pa : PassesOwn (model X.prog X.w) X.A X.env xe) : GS P n .cold W' N sc (X.tr pn xe) where
  hN := G.hN
  nd := G.nd
  scE := G.scE
  ok := G.ok
  tk := tk
  ge := G.ge
  un := G.un
  cold := G.cold
  hot := fun p e => by cases e
  fns := G.fns
  pas := pa
  stk := G.stk
  frm := G.frm
  fnl := G.fnl
theorem GS.suite (G : GS P n .cold W N sc X) {ad : Addr} {oe : Obj} {pn : List (Addr × Obj)} {cls : Value} {d : Option Addr} (hz : L2N.Zn cls d oe) (hf : ∃ vs, oe.data = .fields vs) : GS P n (.hot (ad, oe)) Wf N sc (X.suite ad ((ad, oe) :: pn)) where
  hN := G.hN
  nd := G.nd
  scE := G.scE
  ok := G.ok
  tk := fun u s' ⟨_, _, _, _, _, _, _, _, _, _, _, _, _, _, _, _, w⟩ => w.elim
  ge := G.ge
  un := G.un
  cold := fun e => by cases e
  hot := fun p e => by
    cases e
    refine ⟨⟨rfl, ?_⟩, List.mem_cons_self, ?_⟩
    · obtain ⟨vs, hv⟩ := hf
      exact ⟨vs, hv, hz.2.2 vs hv⟩
    · have := L2H.roomH_of (G.cold rfl).2
      exact ⟨this.dp, this.un⟩
  fns := G.fns
  pas := PassesOwn.never
  stk := G.stk
  frm := G.frm
  fnl := G.fnl
theorem ss_try (G : GS P n md W N sc X) {x c : Str} {i : Nat} (hg : PTr.glob sc c = true) (hx : PTr.slotT N sc x = some i) (hxl : sc.names.lookup x = some .local) {body suite : List Stmt} {b0 : Stmt} {lb ls : List PI.St} {np pos' : Pos}
    (hb : ∀ W' X', GS P n .cold W' N sc X' → PSs X' body (aB X' W' .cold P n lb)) (hs : ∀ q X', GS P n (.hot q) Wf N sc X' → PSs X' (b0 :: suite) (aB X' Wf (.hot q) P n ls)) :
    PS X (.Try body [.ExceptHandler (some (.Name c np)) (some x) (b0 :: suite) pos'] [] [] pos) (aS X W md P n (.try lb c i ls)) := by
  cases md with
  | hot q => exact ps_false fun D σ H ⟨ρ, s, ι, re, rs, h⟩ => by cases h.1
  | cold =>
    cases q : P.exc c with
    | none => exact ps_false fun D σ H ⟨ρ, s, ι, re, rs, _, h, _⟩ => by rw [show (cxI P n .cold).P.exc c = none from q] at h; cases h
    | some k =>
      obtain ⟨C', g1, E⟩ := G.ge.exc c k q
      obtain ⟨h1, _, _⟩ := G.tgok x i hx
      have hl : X.env.kindOf x = some .local := by
        show X.env.scope.names.lookup x = _
        rw [G.scE]; exact hxl
      refine psI (L2N.ps_try_as (c := .ref C') (tb := fun W' => aB X W' .cold P n lb) (ts := fun a cls d D σ H => ∀ oe, L2N.Zn cls d oe → (∃ vs, oe.data = .fields vs) → aB X Wf (.hot (a, oe)) P n ls D σ H) (Wout := W)
        G.stk G.frm G.ndX h1 hl ⟨G.gl hg, G.dbg hg, .inl g1⟩ G.tk (fun W' pn xe tk pa => hb W' _ (G.tr tk pa)) (fun a oe cls d pn hz hf => pssI (hs (a, oe) _ (G.suite hz hf)) fun D σ H h => h oe hz hf)) fun D σ H ⟨ρ, s, ι, re, rs, _, _, h⟩ => ?_
      refine ⟨ρ, s, ι, re, rs, mB lb ?_ h⟩
      refine ⟨fun _ _ h => h, fun _ _ h => h, fun _ _ h => h, fun _ _ h => h, fun d fs ρ1 s1 h => ?_⟩
      intro cv dd σ' H' ι' st rs' re' ⟨C, m1, e1, xf⟩
      subst e1
      dsimp only at h
      split at h
      · rename_i hbl
        obtain ⟨C'', w1, w2, _, _⟩ := G.ge.below d c true C hbl m1
        rw [g1] at w1; cases w1
        refine ⟨true, w2, fun _ a _ oe hz hf => ?_, fun z => by cases z⟩
        refine ⟨ρ1.set i (.exn d fs), s1, ι', re'.hot (p := (a, oe)) m1 hz xf, rs', mB ls ?_ h⟩
        refine ⟨?_, ?_, ?_, ?_, fun _ _ _ _ h => h.elim⟩
        · exact fun ρ2 s2 h2 σ2 H2 ι2 st2 rs2 re2 => h2 (σ2.set i none) H2 ι2 (st.trans st2) rs2 (re2.wipe (own := [i]))
        · exact fun d s h => h.shift st
        · exact fun ρ2 s2 h2 σ2 H2 ι2 st2 rs2 re2 => h2 (σ2.set i none) H2 ι2 (st.trans st2) rs2 (re2.wipe (own := [i]))
        · exact fun ρ2 s2 h2 σ2 H2 ι2 st2 rs2 re2 => h2 (σ2.set i none) H2 ι2 (st.trans st2) rs2 (re2.wipe (own := [i]))
      · rename_i hbl
        obtain ⟨C'', w1, w2, _, _⟩ := G.ge.below d c false C hbl m1
        rw [g1] at w1; cases w1
        exact ⟨false, w2, (fun z => by cases z), fun _ => h _ _ σ' H' ι' st rs' re' ⟨C, m1, rfl, xf⟩⟩
      · exact h.elim

/-! ### the translation of statements -/
structure AllS (P : PI.Prog) (n : Nat) (N : List Str) (k : Nat) : Prop where
  eS : ∀ sc t ir, PTr.trS N k sc t = some ir → ∀ (md : Md) (W : WX) (X : Cx), GS P n md W N sc X → PS X t (aS X W md P n ir)
  eB : ∀ sc l ir, PTr.trSs N k sc l = some ir → ∀ (md : Md) (W : WX) (X : Cx), GS P n md W N sc X → PSs X l (aB X W md P n ir)
theorem stepSs {k : Nat} (A : AllS P n N k) : ∀ sc l ir, PTr.trSs N (k + 1) sc l = some ir → ∀ (md : Md) (W : WX) (X : Cx), GS P n md W N sc X → PSs X l (aB X W md P n ir) := by
  intro sc l ir h md W X G
  unfold PTr.trSs at h
  split at h
  · exact nomatch h
  · cases h; exact ss_nil
  · rename_i hk
    obtain rfl := Nat.succ.inj hk
    obtain ⟨x, hx, h⟩ := bind_some' h
    obtain ⟨y, hy, h⟩ := bind_some' h
    cases h
    exact ss_cons (A.eS _ _ _ hx md W X G) (A.eB _ _ _ hy md W X G)
theorem isComp_or (e : Expr) : (∃ elt gs scope pos, e = .ListComp elt gs scope pos) ∨ ∀ t l env, (∃ k N sc ir, PTr.trE N k sc e = some ir) → swapsWith e (some t) l env = pure false := by
  cases e <;> first
    | exact .inl ⟨_, _, _, _, rfl⟩
    | exact .inr fun t l env _ => rfl
    | exact .inr fun t l env ⟨k, N, sc, ir, h⟩ => by
        cases k with
        | zero => exact nomatch h
        | succ k => exact nomatch h
theorem comp_form2 {k : Nat} {elt : Expr} {gs : List Comprehension} {scope : Scope} {pq : Pos} {q : PI.Sq} (h : PTr.trQ N k sc (.ListComp elt gs scope pq) = some q) : (∃ tg iter ifs, gs = [⟨tg, iter, ifs, 0⟩]) ∨ ∃ tg iter ifs tg1 iter1 ifs1, gs = [⟨tg, iter, ifs, 0⟩, ⟨tg1, iter1, ifs1, 0⟩] := by
  cases k with
  | zero => exact nomatch h
  | succ k =>
    match gs, h with
    | [⟨tg, iter, ifs, z⟩], h =>
      unfold PTr.trQ at h
      obtain ⟨hz, _⟩ := if_some h
      have hz := Decidable.of_not_not hz
      subst hz
      exact .inl ⟨_, _, _, rfl⟩
    | [⟨tg, iter, ifs, z⟩, ⟨tg1, iter1, ifs1, z1⟩], h =>
      unfold PTr.trQ at h
      obtain ⟨hz, h3⟩ := if_some h
      obtain ⟨hz1, _⟩ := if_some h3
      have hz := Decidable.of_not_not hz
      have hz1 := Decidable.of_not_not hz1
      subst hz hz1
      exact .inr ⟨_, _, _, _, _, _, rfl⟩
    | [], h => simp [PTr.trQ] at h
    | _ :: _ :: _ :: _, h => simp [PTr.trQ] at h
theorem ss_raiseL {k : Nat} (G : GS P n md W N sc X) {x : Str} (hg : PTr.glob sc x = true) (E : AllE P n N k) {as : List Expr} {l : List PI.Ex} (hl : PTr.trEs N k sc as = some l) {p pos' : Pos} :
    PS X (.Raise (some (.Call (.Name x p) as [] pos)) none pos') (aS X W md P n (.raise x l)) := by
  match l, hl with
  | y :: z :: l, hl => exact ss_raise2
  | [y], hl =>
    obtain ⟨ns, hp⟩ := E.eL _ _ _ hl
    match as, (hp md W X G.toGX), ns with
    | [a], .cons h1 .nil, ns => exact ss_raiseF G hg h1 (noStar_cons (ns _))
  | [], hl =>
    cases as with
    | nil => exact ss_raise0 G hg
    | cons y r => cases (E.eL _ _ _ hl).2 md W X G.toGX
theorem ss_tryL {k : Nat} (G : GS P n md W N sc X) (A : AllS P n N k) {x c : Str} {i : Nat} (hg : PTr.glob sc c = true) (hx : PTr.slotT N sc x = some i) (hxl : sc.names.lookup x = some .local) {body suite : List Stmt} {lb ls : List PI.St} {np pos' : Pos}
    (hb : PTr.trSs N k sc body = some lb) (hs : (match suite with | [] => none | l => PTr.trSs N k sc l) = some ls) :
    PS X (.Try body [.ExceptHandler (some (.Name c np)) (some x) suite pos'] [] [] pos) (aS X W md P n (.try lb c i ls)) := by
  cases suite with
  | nil => exact nomatch hs
  | cons b0 r => exact ss_try G hg hx hxl (fun W' X' G' => A.eB _ _ _ hb .cold W' X' G') (fun q X' G' => A.eB _ _ _ hs (.hot q) Wf X' G')
theorem stepS {k : Nat} (A : AllS P n N k) : ∀ sc t ir, PTr.trS N (k + 1) sc t = some ir → ∀ (md : Md) (W : WX) (X : Cx), GS P n md W N sc X → PS X t (aS X W md P n ir) := by
  intro sc t ir h md W X G
  have E := allE (P := P) (n := n) (N := N) k
  unfold PTr.trS at h
  split at h
  · exact nomatch h
  · rename_i x p e pos hk
    obtain rfl := Nat.succ.inj hk
    obtain ⟨t, ht, h⟩ := bind_some' h
    obtain ⟨v, hv, h⟩ := bind_some' h
    cases h
    obtain ⟨i, hi, rfl⟩ := map_some (show (PTr.slotT _ _ _).map PI.Tg.name = some t from ht)
    rcases isComp_or e with ⟨elt, gs, scope, pq, rfl⟩ | hn
    · cases k with
      | zero => exact nomatch hv
      | succ k =>
        obtain ⟨q, hq, rfl⟩ := map_some (show (PTr.trQ N k _ (.ListComp elt gs scope pq)).map PI.Ex.new = some v from hv)
        rcases comp_form2 hq with ⟨tg, iter, ifs, rfl⟩ | ⟨tg, iter, ifs, tg1, iter1, ifs1, rfl⟩
        · obtain ⟨own, e', t', it, cond, rfl, C⟩ := (allE (P := P) (n := n) (N := N) k).eC _ _ _ _ _ _ _ _ hq
          exact ss_comp G hi (C md W X G.toGX)
        · obtain ⟨own, e', t', it, cond, t1, it1, cond1, rfl, C⟩ := (allE (P := P) (n := n) (N := N) k).eC2 _ _ _ _ _ _ _ _ _ _ _ hq
          exact ss_comp2 G hi (C md W X G.toGX)
    · exact ss_name G hi (E.eE _ _ _ hv md W X G.toGX) (hn _ _ _ ⟨_, _, _, _, hv⟩)
  · rename_i hk
    obtain rfl := Nat.succ.inj hk
    obtain ⟨ht0, h⟩ := if_some h
    obtain ⟨t, ht, h⟩ := bind_some' h
    obtain ⟨v, hv, h⟩ := bind_some' h
    cases h
    exact ss_tup G ht (E.eE _ _ _ hv md W X G.toGX) (by simpa using ht0)
  · exact nomatch h
  · rename_i hk
    obtain rfl := Nat.succ.inj hk
    obtain ⟨v, hv, h⟩ := bind_some' h
    obtain ⟨x, hx, h⟩ := bind_some' h
    obtain ⟨y, hy, h⟩ := bind_some' h
    cases h
    exact ss_setIx (E.eE _ _ _ hx md W X G.toGX) (E.eE _ _ _ hy md W X G.toGX) (E.eE _ _ _ hv md W X G.toGX) ⟨_, _, hy⟩
  · rename_i hk
    obtain rfl := Nat.succ.inj hk
    obtain ⟨i, hi, h⟩ := bind_some' h
    obtain ⟨o, ho, h⟩ := bind_some' h
    obtain ⟨v, hv, h⟩ := bind_some' h
    cases h
    exact ss_aug G hi ho (E.eE _ _ _ hv md W X G.toGX)
  · rename_i hk
    obtain rfl := Nat.succ.inj hk
    obtain ⟨hc, h⟩ := if_none h
    obtain ⟨v, hv, rfl⟩ := map_some h
    exact ss_expr (E.eE _ _ _ hv md W X G.toGX) hc
  · rename_i hk
    obtain rfl := Nat.succ.inj hk
    obtain ⟨v, hv, rfl⟩ := map_some h
    exact ss_ret (E.eE _ _ _ hv md W X G.toGX)
  · cases h; exact ss_retN
  · rename_i hk
    obtain rfl := Nat.succ.inj hk
    obtain ⟨c, hc, h⟩ := bind_some' h
    obtain ⟨x, hx, h⟩ := bind_some' h
    obtain ⟨y, hy, h⟩ := bind_some' h
    cases h
    exact ss_if (E.eT _ _ _ hc md W X G.toGX) (A.eB _ _ _ hx md W X G) (A.eB _ _ _ hy md W X G)
  · rename_i tg it body pos hk
    obtain rfl := Nat.succ.inj hk
    obtain ⟨t, ht, h⟩ := bind_some' h
    obtain ⟨i, hi, h⟩ := bind_some' h
    obtain ⟨y, hy, h⟩ := bind_some' h
    cases h
    obtain ⟨i1, i2, i3⟩ := E.eI _ _ _ _ hi md W X G.toGX
    refine ss_for G ht (i1 tg fun ho => ?_) (fun hc => i2 hc tg) (i3 _) (A.eB _ _ _ hy md W X G)
    unfold PTr.trTg at ht
    split at ht
    · obtain ⟨i, _, rfl⟩ := map_some ht
      cases ho
    · exact ⟨_, _, _, rfl⟩
    · exact nomatch ht
  · rename_i hk
    obtain rfl := Nat.succ.inj hk
    obtain ⟨c, hc, h⟩ := bind_some' h
    obtain ⟨x, hx, h⟩ := bind_some' h
    cases h
    exact ss_while G (E.eT _ _ _ hc md W X G.toGX) (A.eB _ _ _ hx md W X G)
  · cases h; exact ss_brk
  · cases h; exact ss_cont
  · cases h; exact ss_pass
  · rename_i hk
    obtain rfl := Nat.succ.inj hk
    obtain ⟨hc, h⟩ := if_none h
    obtain ⟨l, hl, rfl⟩ := map_some h
    simp only [Bool.and_eq_true] at hc
    exact ss_raiseL G hc.1 E hl
  · rename_i hk
    obtain rfl := Nat.succ.inj hk
    obtain ⟨hc, h⟩ := if_none h
    obtain ⟨b, hb, h⟩ := bind_some' h
    obtain ⟨i, hi, h⟩ := bind_some' h
    obtain ⟨s, hs, h⟩ := bind_some' h
    cases h
    simp only [Bool.and_eq_true, decide_eq_true_eq] at hc
    exact ss_tryL G A hc.1.1 hi hc.2 hb hs
  · exact nomatch h
theorem allS : ∀ k, AllS P n N k
  | 0 => ⟨(fun _ _ _ h => nomatch h), (fun _ _ _ h => nomatch h)⟩
  | k + 1 => let A := allS k
    ⟨stepS A, stepSs A⟩
end
end PSd

set_option Elab.async false
set_option linter.all false
set_option maxRecDepth 100000
set_option maxHeartbeats 4000000
namespace PSd
open PySem PySem.Spec PyProof.Rows L2

/-! ### defs -/
/-- a def of the module, its text translated -/
def DefOk (K : PySem.W.Frag) (mg : Str → Option Value) (f : Str) (fn : PI.Fn) : Prop :=
  ∃ (fa : Addr) (fd : FuncData) (ps N : List Str) (params : Arguments) (body : List Stmt) (scope : Scope) (k : Nat), mg f = some (.ref fa) ∧ FunD K f f params body scope [] [] fa fd ∧ Binds K fd ps [] ∧ FnScope N ps scope ∧ PTr.okScope scope = true ∧
    fn.ps = ps ∧ (∀ (s : Shared) (us : List Value), us.length = ps.length → BindsTo s fd ⟨us, []⟩ (ps.zip us)) ∧ fn.ns = N.length ∧ PTr.trSs N k scope body = some fn.body
section
variable {P : PI.Prog} {n : Nat} {K : PySem.W.Frag} {mg : Str → Option Value} {base : Heap} {P0 : Program} {w : World}
theorem rel_start {H : Hp} {ι : List Addr} {md : Md} {as : List PI.Sl} {vs : List V} {N : List Str} {np ns : Nat} (r : REnv K mg H ι md as (vs.map some)) (h1 : as.length = np) (h2 : ns = N.length) :
    REnv K mg H ι md (as ++ List.replicate (ns - np) PI.Sl.no) (L2.start N vs) := by
  have hl : as.length = vs.length := by have := r.len; simpa using this
  unfold L2.start
  refine ⟨by simp; omega, fun i sl e => ?_⟩
  by_cases hi : i < as.length
  · rw [List.getElem?_append_left hi] at e
    rw [List.getElem?_append_left (by simpa using (by omega : i < vs.length))]
    exact r.at_ i sl e
  · rw [List.getElem?_append_right (by omega)] at e
    rw [List.getElem?_replicate] at e
    split at e
    · cases e; trivial
    · cases e
theorem call_len {as : List PI.Sl} {f : Str} {fn : PI.Fn} (hf : P.fn f = some fn) {n : Nat} {h : Bool} {s : PI.S} {Q : PI.K1} {E : PI.KX} (hc : PI.wpCall P n h f as s Q E) : as.length = fn.np := by
  cases n with
  | zero => exact hc.elim
  | succ n =>
    unfold PI.wpCall at hc
    rw [hf] at hc
    exact hc.1
theorem sp_len {f : Str} {fn : PI.Fn} (hf : P.fn f = some fn) {md : Md} {vs : List V} {H : Hp} {Q : VK} {E : XK} (h : spA K mg P n md f vs H Q E) : vs.length = fn.np := by
  obtain ⟨as, s, ι, r, _, hc⟩ := h
  have := call_len hf hc
  have hl := r.len
  simp at hl
  omega
theorem body_go {f : Str} {fn : PI.Fn} (hf : P.fn f = some fn) {md : Md} {vs : List V} {H : Hp} {Q : VK} {E : XK} {N : List Str} (hN : fn.ns = N.length) {X : Cx} (hK : X.K = K) (hm : X.mg = mg) (h : spA K mg P (n + 1) md f vs H Q E) :
    aB X (fun cls d _ H => E cls d H) md P n fn.body { nx := fun _ H' => Q .non H', rt := Q } (L2.start N vs) H := by
  subst hK hm
  obtain ⟨as, s, ι, r, rs, hc⟩ := h
  unfold PI.wpCall at hc
  rw [hf] at hc
  obtain ⟨hl, hc⟩ := hc
  refine ⟨_, s, ι, rel_start r hl hN, rs, mB fn.body ?_ hc⟩
  exact ⟨fun ρ1 s1 h1 σ' H' ι' st rs' re' => okG.go (R := RV X.K) (Q := Q) (b := PI.D.non) h1 st rs' rfl, fun d s1 h1 => h1, fun _ _ h1 => h1.elim, fun _ _ h1 => h1.elim, fun c fs ρ1 s1 h1 cv dd σ' H' ι' st rs' re' x => h1 cv dd H' ι' st rs' x⟩
theorem fns_all (hP : ∀ f fn, P.fn f = some fn → DefOk K mg f fn) (ge : GE P P0 K mg) : ∀ (n : Nat) (f : Str) (fn : PI.Fn), P.fn f = some fn → ∃ fa fd ps, FnsOk P n P0 w K mg base f fn fa fd ps := by
  intro n
  induction n with
  | zero =>
    intro f fn hf
    obtain ⟨fa, fd, ps, N, params, body, scope, k, g1, F, b, S, ok, h1, ba, h2, tr⟩ := hP f fn hf
    exact ⟨fa, fd, ps, g1, F.kp, h1.symm, (by obtain ⟨oc, od, _, _, _, _, _, _, _, osl, _, lk, _⟩ := F.ex; exact ⟨oc, od, osl, lk⟩), ba, b, ⟨fun vs H Q E ⟨_, _, _, _, _, z⟩ => z.elim, fun _ _ _ _ _ _ _ _ _ _ _ _ _ ⟨_, _, _, _, _, z⟩ => z.elim⟩, fun p => ⟨fun vs H Q E ⟨_, _, _, _, _, z⟩ => z.elim, fun _ _ _ _ _ _ _ _ _ _ _ _ _ _ _ ⟨_, _, _, _, _, z⟩ => z.elim⟩⟩
  | succ n ih =>
    intro f fn hf
    obtain ⟨fa, fd, ps, N, params, body, scope, k, g1, F, b, S, ok, h1, ba, h2, tr⟩ := hP f fn hf
    refine ⟨fa, fd, ps, g1, F.kp, h1.symm, (by obtain ⟨oc, od, _, _, _, _, _, _, _, osl, _, lk, _⟩ := F.ex; exact ⟨oc, od, osl, lk⟩), ba, b, ?_, fun p => ?_⟩
    · refine F.ok (CX := L2N.CX P0 w) (k := 2 * n + 3) S (fun vs H Q E h => (sp_len hf h).trans (congrArg List.length h1)) fun cdv A outer s H vs Q E hr hsp => ?_
      refine ⟨_, (allS (P := P) (n := n) (N := N) k).eB scope body fn.body tr .cold (fun cls d _ H => E cls d H) _ ?_, body_go hf h2 rfl rfl hsp⟩
      exact { hN := rfl, nd := S.nd, scE := rfl, ok := ok, tk := L2N.takes_of rfl rfl rfl rfl, ge := ge, un := Nat.lt_of_le_of_lt (by show (A.deeper (envOfC f scope s.heap.objs.size fa cdv)).units + 65 ≤ (A.deeper (envOfC f scope s.heap.objs.size fa cdv)).units + 16 * (2 * n + 3) + 200; omega) hr.un, cold := fun _ => ⟨rfl, hr.mono (by unfold lv; omega)⟩, hot := (fun p e => nomatch e), fns := ih, pas := passes_of (K := fun e s'' => L2N.CX P0 w outer H s E e s'') rfl, stk := rfl, frm := rfl, fnl := fun _ => rfl }
    · obtain ⟨oc, od, dV, kV, doc, pm, an, cdv, ct, osl, rfl, lk, hcd, _, _⟩ := F.ex
      refine fn_ofT (k := 2 * n + 3) lk hcd S (fun vs H Q E h => (sp_len hf h).trans (congrArg List.length h1)) fun A outer s H vs Q E hot hr hsp => ?_
      refine ⟨_, (allS (P := P) (n := n) (N := N) k).eB scope body fn.body tr (.hot p) (fun cls d _ H => E cls d H) _ ?_, body_go hf h2 rfl rfl hsp⟩
      exact { hN := rfl, nd := S.nd, scE := rfl, ok := ok, tk := L2N.takes_of rfl rfl rfl rfl, ge := ge, un := Nat.lt_of_le_of_lt (by show (A.deeper (envOfC f scope s.heap.objs.size fa cdv)).units + 65 ≤ (A.deeper (envOfC f scope s.heap.objs.size fa cdv)).units + 16 * (2 * n + 3) + 200; omega) hr.un, cold := (fun e => nomatch e), hot := (fun q e => by cases e; exact ⟨hot, List.mem_cons_self, hr.mono (by unfold lv; omega)⟩), fns := ih, pas := passes_of (K := fun e s'' => L2N.CX P0 w outer H s E e s'') rfl, stk := rfl, frm := rfl, fnl := fun _ => rfl }
/-- at the top nothing is let out -/
theorem top_ok {k : Nat} {f : Addr} {fd : FuncData} {ps : List Str} {sp : Sp} (F : FnOk P0 w K mg base (L2N.CX P0 w) k f fd ps sp) : FnOk P0 w K mg base CX0 k f fd ps (fun vs H Q _ => sp vs H Q fun _ _ _ => False) :=
  ⟨fun vs H Q E h => F.len vs H Q _ h, fun A outer s H args us vs Q E hr e0 hb r h => codeAny_mono (F.run A outer s H args us vs Q _ hr e0 hb r h) fun res s2 hq => by
    rcases res with e | fl
    · obtain ⟨_, _, _, _, _, _, _, _, _, _, _, _, z⟩ := hq
      exact z.elim
    · cases fl <;> exact hq⟩
theorem sqf_only {H : Hp} {a : Addr} {vs : List V} (o : Only H) (h : SqL K H a vs) : SqF K H a vs := by
  rcases h with (h | ⟨o', h⟩) | h
  · rcases o a with z | ⟨ob, xs, z⟩
    · rw [h] at z; cases z
    · rw [h] at z; cases z
  · exact .inl ⟨o', h⟩
  · exact .inr h
/-- the law's promise -/
theorem law_sp {f : Str} {H : Hp} {a : Addr} {ns : List Int} {n : Nat} (o : Only H) (h : SqL K H a (ns.map V.int)) (q : PI.wpCall P n false f [.val (.fls (ns.map PI.D.int))] [] (fun d _ => d = .bl true) (fun _ _ _ => False)) :
    spA K mg P n .cold f [.ref a] H (fun v _ => v = .bl true) fun _ _ _ => False := by
  refine ⟨[.val (.fls (ns.map PI.D.int))], [], [], ⟨rfl, fun i sl e => ?_⟩, ⟨rfl, List.nodup_nil, fun k a l e => by simp at e⟩, PI.wpCall_mono P n _ f _ _ _ _ _ _ (fun d s h g H' ι' st rs rd => ?_) (fun _ _ _ h => h.elim) q⟩
  · cases i with
    | zero =>
      simp at e; subst e
      exact ⟨.ref a, rfl, a, _, rfl, sqf_only o h, RDs.ofInts ns⟩
    | succ i => simp at e
  · subst h
    exact rd
end
end PSd

set_option Elab.async false
set_option linter.all false
set_option maxRecDepth 100000
set_option maxHeartbeats 4000000
namespace PSd
open PySem PySem.Spec PyProof.Rows L2

/-! ### what the head must tell -/
/-- a law's program as tables -/
structure Ini where
  f : Str
  y : Str
  params : Arguments
  body : List Stmt
  scope : Scope
structure Tab where
  fns : List (Str × PI.Fn)
  csts : List (Str × PI.Cst)
  excs : List (Str × PI.Exc)
  bels : List (Str × Str × Bool)
  inis : List (Str × Ini)
  file : Str
def Tab.prog (T : Tab) : PI.Prog := ⟨fun f => T.fns.lookup f, fun x => T.csts.lookup x, fun c => T.excs.lookup c, fun c d => (T.bels.find? fun q => q.1 == c && q.2.1 == d).map (·.2.2)⟩
section
variable (K : PySem.W.Frag)
def gloB (x : Str) : Bool := He.eqO (PySem.W.nsIn K mainGlobals x) (some (some (.ref (He.ga K x))))
def cstB (x : Str) (c : PI.Cst) : Bool := match PySem.W.nsIn K mainGlobals x with
  | some (some u) => He.relB (cV c) u
  | _ => false
def excB (x : Str) : Bool :=
  let C := He.ga K x
  gloB K x && (PySem.W.keepIn K (.ref C) && (decide (PySem.W.subIn K (.ref C) (.type "BaseException") = some true) && (decide (PySem.W.typeIn K (.ref C) = some (.type "type")) &&
    (He.eqO (PySem.W.findIn K (.ref C) "__getattribute__") (some (some (.builtin "BaseException.__getattribute__"))) && (He.eqO (PySem.W.findIn K (.ref C) "__getattr__") (some none) && (PySem.W.hasDictIn K C &&
    (He.eqO (PySem.W.findIn K (.ref C) "__class__") (some (some (.builtin "object.__class__"))) && (He.eqO (PySem.W.specialIn K (.builtin "object.__class__") "__get__") (some (some (.builtin "getset_descriptor.__get__"))) &&
    (decide (PySem.W.takesIn K (.builtin "object.__class__") = some true) && (decide (PySem.W.mroIn K C (.type "object") = some true) && decide (PySem.W.kitOne K (.ref C) (.type "ValueError") = some true)))))))))))
def plnB (x : Str) : Bool := PySem.W.excIn K (He.ga K x) PySem.HandSPX.veTail "ValueError.__new__"
/-- a class of exceptions over ValueError with an own __init__ -/
def oxB (C : Addr) : Bool := match K.lookup C with
  | some ⟨.type "type", _, .cls cd, sl⟩ => (match cd.mro, sl.toList with
    | .ref C' :: bm, [_, _, _, _, some (.builtin n), _] => C' == C && n == "ValueError.__new__" && !cd.hasDel && cd.hasDict && PySem.HandSPX.refsVE bm
    | _, _ => false)
  | _ => false
def lkB (file : Str) (C fI : Addr) : Bool := match K.lookup fI with
  | some ⟨_, _, .func fd, _⟩ => (match fd.defaults with | .none => true | _ => false) && (PySem.W.codeIn K fd.code fd.qualname && ((match fd.closure with
    | [(nm, cc)] => nm == "__class__" && (match K.lookup cc with
      | some ⟨_, _, .cell (some (.ref C')), _⟩ => C' == C
      | _ => false)
    | _ => false) && (match fd.code with
      | .ref cda => (match K.lookup cda with
        | some ⟨_, _, .fields vs, _⟩ => (match (vs[2]? : Option Value) with
          | some (.str file' _) => file == file'
          | _ => false)
        | _ => false)
      | _ => false)))
  | _ => false
def supB (file x f : Str) : Bool :=
  let C := He.ga K x
  let fI := He.ma K C "__init__"
  oxB K C && (He.eqO (PySem.W.findIn K (.ref C) "__setattr__") (some (some (.builtin "object.__setattr__"))) && (He.eqO (PySem.W.findIn K (.ref C) "__init__") (some (some (.ref fI))) && (decide (PySem.W.typeIn K (.ref fI) = some (.type "function")) &&
    (He.eqO (PySem.W.ks_superIn K C C "__init__") (some (some (.builtin "ValueError.__init__"))) && (decide (PySem.W.subIn K (.ref C) (.type "ValueError") = some true) && (decide (PySem.W.mroIn K C (.ref C) = some true) &&
    (He.eqO (PySem.W.nsIn K PySem.cStatics "thirdparty.any") (some none) && (He.eqO (PySem.W.findIn K (.ref C) f) (some none) && (He.eqO (PySem.W.nsIn K mainGlobals "super") (some none) && (PySem.W.keepIn K (.ref fI) && lkB K file C fI))))))))))
def belB (c d : Str) (b : Bool) : Bool := gloB K d && (decide (PySem.W.exmOne K (.ref (He.ga K c)) (.ref (He.ga K d)) = some b) && decide (PySem.W.kitOne K (.ref (He.ga K c)) (.ref (He.ga K d)) = some b))
def Tab.says (T : Tab) : Bool :=
  (PTr.bltns.all fun x => He.eqO (PySem.W.nsIn K mainGlobals x) (some none)) && ((T.fns.all fun q => gloB K q.1) && ((T.csts.all fun q => cstB K q.1 q.2) && ((T.excs.all fun q => excB K q.1 && (match q.2 with
    | .plain => plnB K q.1
    | .fld f => (match T.inis.lookup q.1 with
      | some i => i.f == f && supB K T.file q.1 f
      | none => false))) && (T.bels.all fun q => excB K q.1 && belB K q.1 q.2.1 q.2.2))))
end
abbrev noE : List He.Fa := []
abbrev IniW : Type := Option (Str × Arguments × FuncBody × Scope × Addr × Addr)
def iniW (K : PySem.W.Frag) (x : Str) : IniW := match K.lookup (He.ma K (He.ga K x) "__init__") with
  | some ⟨_, _, .func fd, _⟩ => some (fd.name, fd.params, fd.body, fd.scope, fd.globals, fd.builtins)
  | _ => none
def Ini.val (i : Ini) : IniW := some ("__init__", i.params, .stmts i.body, i.scope, mainGlobals, builtinsNs)
abbrev AlI : Type := He.AlD × List IniW
def Tab.obs (T : Tab) (n : Nat) (ds : List He.DefD) (g : Addr → Option Obj) : AlI :=
  let K := He.frG g (PySem.cStatics :: He.asD g n)
  let r := He.obsD noE ds K
  ((T.says K && r.1, r.2), T.inis.map fun q => iniW K q.1)
def Tab.hook (T : Tab) (n : Nat) (ds : List He.DefD) : PySem.W.Hook where
  α := AlI
  obs := fun s => T.obs n ds s.heap.get?
  val := fun _ => (He.valD ds, T.inis.map fun q => q.2.val)
  says := fun _ h => ∃ K : PySem.W.Frag, K.In h ∧ T.says K = true ∧ He.SaysD noE ds K ∧ (T.inis.map fun q => iniW K q.1) = T.inis.map fun q => q.2.val
  of := fun _ s e => by
    refine ⟨He.frG s.heap.get? (PySem.cStatics :: He.asD s.heap.get? n), He.frG_in, ?_⟩
    have e0 : Tab.obs T n ds s.heap.get? = (He.valD ds, T.inis.map fun q => q.2.val) := e
    have e3 := congrArg Prod.snd e0
    have e1 := congrArg (fun z : AlI => z.1.1) e0
    have e2 := congrArg (fun z : AlI => z.1.2) e0
    have e1 : (T.says (He.frG s.heap.get? (PySem.cStatics :: He.asD s.heap.get? n)) && (He.obsD noE ds (He.frG s.heap.get? (PySem.cStatics :: He.asD s.heap.get? n))).1) = true := e1
    obtain ⟨z1, z2⟩ := He.ba e1
    exact ⟨z1, Prod.ext z2 e2, e3⟩
  keeps := fun _ _ _ ⟨K, hK, c⟩ k => ⟨K, PySem.W.Frag.In.keeps hK k, c⟩
theorem Tab.obs_eq {T : Tab} {n : Nat} {ds : List He.DefD} (s : PySem.W.SharedT) : T.obs n ds (HandSHeadRun.getT s) = (T.hook n ds).obs s.abs := by
  have e : HandSHeadRun.getT s = s.abs.heap.get? := funext (HandSHeadRun.getT_eq s)
  rw [e]; rfl
section
variable {K : PySem.W.Frag} {h : Heap} {mg : Str → Option Value}
theorem glo_at (X : K.In h) (G : h.Ns mainGlobals mg) {x : Str} (c : gloB K x = true) : mg x = some (.ref (He.ga K x)) := PySem.W.mg_of X G (He.eqO_ok c)
theorem exc_at (X : K.In h) (G : h.Ns mainGlobals mg) {x : Str} (c : excB K x = true) : mg x = some (.ref (He.ga K x)) ∧ ExC K (He.ga K x) := by
  unfold excB at c
  obtain ⟨c0, c⟩ := He.ba c
  obtain ⟨c1, c⟩ := He.ba c
  obtain ⟨c2, c⟩ := He.ba c
  obtain ⟨c3, c⟩ := He.ba c
  obtain ⟨c4, c⟩ := He.ba c
  obtain ⟨c5, c⟩ := He.ba c
  obtain ⟨c6, c⟩ := He.ba c
  obtain ⟨c7, c⟩ := He.ba c
  obtain ⟨c8, c⟩ := He.ba c
  obtain ⟨c9, c⟩ := He.ba c
  obtain ⟨c10, c11⟩ := He.ba c
  exact ⟨glo_at X G c0, c1, of_decide_eq_true c2, of_decide_eq_true c3, He.eqO_ok c4, He.eqO_ok c5, c6, He.eqO_ok c7, He.eqO_ok c8, of_decide_eq_true c9, of_decide_eq_true c10, of_decide_eq_true c11⟩
theorem ox_at {C : Addr} (q : oxB K C = true) (h1 : PySem.W.findIn K (.ref C) "__setattr__" = some (some (.builtin "object.__setattr__"))) (E : ExC K C) : OexC K C := by
  refine ⟨?_, h1, E.isB, E.ty, E.keep⟩
  unfold oxB at q
  split at q
  · rename_i dd cd sl ho
    split at q
    · rename_i C' bm k0 k1 k2 k3 n k5 hm hs
      simp only [Bool.and_eq_true, beq_iff_eq, Bool.not_eq_true'] at q
      obtain ⟨⟨⟨⟨rfl, rfl⟩, hdel⟩, hhd⟩, ht⟩ := q
      obtain ⟨nm, bs, mro, ns, qn, hd, sn, sub, ab, col, del⟩ := cd
      dsimp only at hm hdel hhd
      subst hm hdel hhd
      have hsl : sl = #[k0, k1, k2, k3, some (.builtin "ValueError.__new__"), k5] := by
        obtain ⟨l⟩ := sl
        simp only at hs
        rw [hs]
      subst hsl
      exact ⟨nm, qn, ns, bs, bm, sn, sub, ab, col, dd, k0, k1, k2, k3, k5, ho, ht⟩
    · cases q
  · cases q
theorem clo_at {C : Addr} {cl : List (Str × Addr)} (h : (match cl with
    | [(nm, cc)] => nm == "__class__" && (match K.lookup cc with
      | some ⟨_, _, .cell (some (.ref C')), _⟩ => C' == C
      | _ => false)
    | _ => false) = true) : ∃ (cc C' : Addr) (ow : Value) (od : Option Addr) (sl : Array (Option Value)), cl = [(("__class__" : Str), cc)] ∧ K.lookup cc = some ⟨ow, od, .cell (some (.ref C')), sl⟩ ∧ C' = C := by
  split at h
  · obtain ⟨h1, h2⟩ := He.ba h
    split at h2
    · rename_i hc
      refine ⟨_, _, _, _, _, ?_, hc, by simpa using h2⟩
      rw [eq_of_beq h1]
    · cases h2
  · cases h
theorem cod_at {file : Str} {v : Value} (h : (match v with
      | .ref cda => (match K.lookup cda with
        | some ⟨_, _, .fields vs, _⟩ => (match (vs[2]? : Option Value) with
          | some (.str file' _) => file == file'
          | _ => false)
        | _ => false)
      | _ => false) = true) : ∃ (cda : Addr) (cl : Value) (cd : Option Addr) (vs : Array Value) (cs : Array (Option Value)) (tf : Tok), v = .ref cda ∧ K.lookup cda = some ⟨cl, cd, .fields vs, cs⟩ ∧ vs[2]? = some (.str file tf) := by
  split at h
  · split at h
    · rename_i hc
      split at h
      · rename_i file' tk hv
        exact ⟨_, _, _, _, _, tk, rfl, hc, by rw [hv, eq_of_beq h]⟩
      · cases h
    · cases h
  · cases h
theorem sup_at {P0 : Program} {file x f : Str} {i : Ini} (q : supB K file x f = true) (E : ExC K (He.ga K x)) (w : iniW K x = i.val) (hf : (P0.main.file : Str) = file) (htop : (P0.main.scope.names.lookup ("super" : Str)).isSome = false) :
    ∃ fd, SupC P0 K (He.ga K x) (He.ma K (He.ga K x) "__init__") f i.y i.params i.body i.scope fd ∧ PySem.W.keepIn K (.ref (He.ma K (He.ga K x) "__init__")) = true := by
  unfold supB at q
  obtain ⟨c1, c⟩ := He.ba q
  obtain ⟨c2, c⟩ := He.ba c
  obtain ⟨c3, c⟩ := He.ba c
  obtain ⟨c4, c⟩ := He.ba c
  obtain ⟨c5, c⟩ := He.ba c
  obtain ⟨c6, c⟩ := He.ba c
  obtain ⟨c7, c⟩ := He.ba c
  obtain ⟨c8, c⟩ := He.ba c
  obtain ⟨c9, c⟩ := He.ba c
  obtain ⟨c10, c⟩ := He.ba c
  obtain ⟨c11, c⟩ := He.ba c
  unfold lkB at c
  unfold iniW at w
  cases ql : K.lookup (He.ma K (He.ga K x) "__init__") with
  | none => rw [ql] at c; cases c
  | some o =>
    obtain ⟨oc, od, dt, osl⟩ := o
    rw [ql] at c w
    cases dt with
    | func fd =>
      obtain ⟨n1, n2, n3, n4, n5, n6, n7, n8, n9, n10, n11, n12, n13, n14, n15⟩ := fd
      have e2 : (some (n1, n3, n4, n5, n6, n15) : IniW) = some (("__init__" : Str), i.params, .stmts i.body, i.scope, mainGlobals, builtinsNs) := w
      simp only [Option.some.injEq, Prod.mk.injEq] at e2
      obtain ⟨h1, h2, h3, h4, h5, h6⟩ := e2
      subst h1 h2 h3 h4 h5 h6
      dsimp only at c
      obtain ⟨d1, c⟩ := He.ba c
      obtain ⟨d2, c⟩ := He.ba c
      obtain ⟨d3, d4⟩ := He.ba c
      have hn8 : n8 = .none := by
        cases n8 <;> first | rfl | cases d1
      subst hn8
      obtain ⟨cc, C', cl, cld, csl, rfl, hcc, hC⟩ := clo_at d3
      subst hC
      obtain ⟨cda, ccl, cdd, vs, ccs, tf, rfl, hlc, hv⟩ := cod_at d4
      exact ⟨_, ⟨ox_at c1 (He.eqO_ok c2) E, He.eqO_ok c3, of_decide_eq_true c4, He.eqO_ok c5, of_decide_eq_true c6, of_decide_eq_true c7, He.eqO_ok c8, He.eqO_ok c9, He.eqO_ok c10, htop,
                    n2, n9, n10, n11, n14, oc, n12, od, osl, cda, cc, ccl, cl, cdd, cld, ccs, csl, vs, file, tf, rfl, ql, d2, hlc, hv, by rw [hf]; simp, hcc⟩, c11⟩
    | _ => cases c
theorem lookup_mem {α : Type} {l : List (Str × α)} {x : Str} {a : α} (h : l.lookup x = some a) : (x, a) ∈ l := PySem.mem_of_lookup h
theorem map_at {T : Tab} (w : (T.inis.map fun q => iniW K q.1) = T.inis.map fun q => q.2.val) {x : Str} {i : Ini} (h : T.inis.lookup x = some i) : iniW K x = i.val := by
  have m := lookup_mem h
  obtain ⟨j, hj⟩ := List.mem_iff_getElem?.mp m
  have e : (T.inis.map fun q => iniW K q.1)[j]? = (T.inis.map fun q => q.2.val)[j]? := by rw [w]
  rw [List.getElem?_map, List.getElem?_map, hj] at e
  exact Option.some.inj e
/-- what is so of the texts and the program, whatever the heap -/
structure Tab.Ok (T : Tab) (P0 : Program) : Prop where
  file : (P0.main.file : Str) = T.file
  top : (P0.main.scope.names.lookup ("super" : Str)).isSome = false
  sup : ∀ q ∈ T.inis, SupT q.2.f q.2.y q.2.params q.2.body q.2.scope
theorem Tab.ge {T : Tab} {P0 : Program} (O : T.Ok P0) (X : K.In h) (G : h.Ns mainGlobals mg) (c : T.says K = true) (w : (T.inis.map fun q => iniW K q.1) = T.inis.map fun q => q.2.val) : GE T.prog P0 K mg := by
  unfold Tab.says at c
  obtain ⟨c1, c⟩ := He.ba c
  obtain ⟨c2, c⟩ := He.ba c
  obtain ⟨c3, c⟩ := He.ba c
  obtain ⟨c4, c5⟩ := He.ba c
  refine ⟨fun x hx => ?_, fun x k e => ?_, fun x k e => ?_, fun x C e m => ?_, fun x f e => ?_, fun x y b C e m => ?_⟩
  · exact PySem.W.mg_none_of X G (He.eqO_ok (List.all_eq_true.mp c1 x hx))
  · have q := List.all_eq_true.mp c3 _ (lookup_mem (show T.csts.lookup x = some k from e))
    unfold cstB at q
    split at q
    · rename_i u hu
      exact ⟨u, PySem.W.mg_of X G hu, He.relB_ok q⟩
    · cases q
  · have q := List.all_eq_true.mp c4 _ (lookup_mem (show T.excs.lookup x = some k from e))
    obtain ⟨q1, q2⟩ := He.ba q
    exact ⟨_, exc_at X G q1⟩
  · have q := List.all_eq_true.mp c4 _ (lookup_mem (show T.excs.lookup x = some .plain from e))
    obtain ⟨q1, q2⟩ := He.ba q
    rw [(exc_at X G q1).1] at m
    cases m
    exact q2
  · have q := List.all_eq_true.mp c4 _ (lookup_mem (show T.excs.lookup x = some (.fld f) from e))
    obtain ⟨q1, q2⟩ := He.ba q
    obtain ⟨m, E⟩ := exc_at X G q1
    dsimp only at q2
    split at q2
    · rename_i i hi
      obtain ⟨q3, q4⟩ := He.ba q2
      have hf : i.f = f := by simpa using q3
      subst hf
      obtain ⟨fd, S, hk⟩ := sup_at q4 E (map_at w hi) O.file O.top
      exact ⟨_, _, _, _, _, _, fd, m, S, O.sup _ (lookup_mem hi), hk⟩
    · cases q2
  · have e : (T.bels.find? fun q => q.1 == x && q.2.1 == y).map (·.2.2) = some b := e
    obtain ⟨⟨x', y', b'⟩, hf, rfl⟩ := map_some e
    have hm := List.mem_of_find?_eq_some hf
    have hp := List.find?_some hf
    simp only [Bool.and_eq_true, beq_iff_eq] at hp
    obtain ⟨rfl, rfl⟩ := hp
    have q := List.all_eq_true.mp c5 _ hm
    obtain ⟨q1, q2⟩ := He.ba q
    obtain ⟨q2, q3⟩ := He.ba q2
    obtain ⟨q3, q4⟩ := He.ba q3
    obtain ⟨m', E⟩ := exc_at X G q1
    rw [m'] at m
    cases m
    exact ⟨_, glo_at X G q2, of_decide_eq_true q3, of_decide_eq_true q4, E⟩
/-- what is so of a def's text, whatever the heap -/
structure DefS (x : Str) (fn : PI.Fn) (d : He.DefD) : Prop where
  plc : d = ⟨(x, none), x, x, d.params, d.body, d.scope, [], []⟩
  ex : ∃ (N : List Str) (k : Nat), (∀ (kV doc pm : Value) (an : Option Addr) (cdv ct : Value) (us : List Value), us.length = fn.ps.length → bindArgs (PySem.W.fnOf x x d.params d.body d.scope .none kV doc pm an cdv ct) ⟨us, []⟩ = pure (fn.ps.zip us)) ∧
    FnScope N fn.ps d.scope ∧ PTr.okScope d.scope = true ∧ fn.ns = N.length ∧ PTr.trSs N k d.scope d.body = some fn.body
theorem lookup_ix {α : Type} : ∀ {l : List (Str × α)} {x : Str} {a : α}, l.lookup x = some a → ∃ i : Nat, l[i]? = some (x, a)
  | (y, b) :: r, x, a, h => by
    rw [List.lookup_cons] at h
    cases e : x == y with
    | true =>
      rw [e] at h
      cases h
      have : x = y := by simpa using e
      subst this
      exact ⟨0, rfl⟩
    | false =>
      rw [e] at h
      obtain ⟨i, hi⟩ := lookup_ix h
      exact ⟨i + 1, hi⟩
theorem paired_at {α β : Type} {R : α → β → Prop} : ∀ {l : List α} {k : List β} {i : Nat} {a : α}, Paired R l k → l[i]? = some a → ∃ b, k[i]? = some b ∧ R a b
  | _, _, _, _, .nil, h => by simp at h
  | _, _, 0, _, .cons r _, h => by simp at h; subst h; exact ⟨_, rfl, r⟩
  | _, _, i + 1, _, .cons _ t, h => by
    obtain ⟨b, h1, h2⟩ := paired_at (i := i) t (by simpa using h)
    exact ⟨b, by simpa using h1, h2⟩
theorem Tab.defs {T : Tab} {ds : List He.DefD} (X : K.In h) (G : h.Ns mainGlobals mg) (c : T.says K = true) (s : He.SaysD noE ds K) (p : Paired (fun (q : Str × PI.Fn) d => DefS q.1 q.2 d) T.fns ds) :
    ∀ f fn, T.prog.fn f = some fn → DefOk K mg f fn := fun f fn e => by
  obtain ⟨i, hi⟩ := lookup_ix (show T.fns.lookup f = some fn from e)
  obtain ⟨d, hd, D⟩ := paired_at p hi
  obtain ⟨fd, F⟩ := s.def_ i hd
  unfold Tab.says at c
  obtain ⟨_, c⟩ := He.ba c
  obtain ⟨c2, _⟩ := He.ba c
  have g := glo_at X G (List.all_eq_true.mp c2 _ (List.mem_of_getElem? hi))
  obtain ⟨N, k, b, S, ok, h2, tr⟩ := D.ex
  rw [D.plc] at F
  have F : FunD K f f d.params d.body d.scope [] [] (He.ga K f) fd := F
  exact ⟨_, fd, fn.ps, N, _, _, _, k, g, F, F.bindsN b, S, ok, rfl, F.bindsA b, h2, tr⟩
/-- the law's own promise, from the head's facts -/
theorem Tab.law {T : Tab} {ds : List He.DefD} {P0 : Program} {w : World} {f : Addr} {x y : Str} {fn : PI.Fn} (O : T.Ok P0) (X : K.In h) (G : h.Ns mainGlobals mg) (c : T.says K = true) (s : He.SaysD noE ds K) (w0 : (T.inis.map fun q => iniW K q.1) = T.inis.map fun q => q.2.val) (p : Paired (fun (q : Str × PI.Fn) d => DefS q.1 q.2 d) T.fns ds)
    (hl : T.fns.lookup x = some fn) (hx : fn.ps = [y]) (hfa : mg x = some (.ref f)) (n : Nat) : ∃ fd : FuncData, (∀ (s : Shared) (v : Value), BindsTo s fd ⟨[v], []⟩ [(y, v)]) ∧
      ∀ base : Heap, K.In base → base.Ns mainGlobals mg → FnOk P0 w K mg base CX0 (lv n) f fd [y] (fun vs H Q _ => spA K mg T.prog n .cold x vs H Q fun _ _ _ => False) := by
  obtain ⟨fa, fd, ps, N, params, body, scope, k, g1, F, b, S, ok, h1, ba, h2, tr⟩ := Tab.defs X G c s p x fn hl
  rw [hfa] at g1
  cases g1
  have e := h1.symm.trans hx
  subst e
  refine ⟨fd, fun s v => ba s [v] rfl, fun base KB GB => top_ok ?_⟩
  obtain ⟨fa', fd', ps', Fn⟩ := fns_all (P0 := P0) (w := w) (base := base) (Tab.defs X G c s p) (Tab.ge O X G c w0) n x fn hl
  have e2 := Fn.atm.symm.trans hfa
  cases e2
  have e3 := Fn.np.trans hx
  subst e3
  obtain ⟨oc, od, osl, l1⟩ := Fn.lk
  obtain ⟨oc', od', _, _, _, _, _, _, _, osl', _, l2, _⟩ := F.ex
  rw [l1] at l2
  cases l2
  exact Fn.cold
end
end PSd

set_option linter.all false
namespace TF
open PySem (Str)
open PI
def f_is_whole_row : PI.Fn := ⟨["value", "length", "high"], 4, [
    .cond (.or (.not (.ex (.isi (.var 0) .tup))) (.ex (.cmp .ne (.len (.var 0)) (.var 1)))) [
      .ret (.cst (.bl false))] [],
    .for (.name 3) (.of (.var 0)) [
      .cond (.or (.not (.ex (.isi (.var 3) .int))) (.or (.ex (.isi (.var 3) .bool)) (.or (.ex (.cmp .lt (.var 3) (.cst (.int 0)))) (.ex (.cmp .gt (.var 3) (.var 2)))))) [
        .ret (.cst (.bl false))] []],
    .ret (.cst (.bl true))]⟩
def f_is_basket : PI.Fn := ⟨["value"], 1, [
    .cond (.or (.not (.ex (.isi (.var 0) .tup))) (.or (.ex (.cmp .lt (.len (.var 0)) (.cst (.int 1)))) (.ex (.cmp .gt (.len (.var 0)) (.glb "KINDS"))))) [
      .ret (.cst (.bl false))] [],
    .ret (.call "is_whole_row" [.nm 0, .ex (.len (.var 0)), .ex (.glb "MANY")])]⟩
def f_check_one : PI.Fn := ⟨["x"], 1, [
    .cond (.not (.ex (.call "is_basket" [.nm 0]))) [
      .raise "BadBasket" []] []]⟩
def f_check_two : PI.Fn := ⟨["x", "y"], 2, [
    .expr (.call "check_one" [.nm 0]),
    .expr (.call "check_one" [.nm 1]),
    .cond (.ex (.cmp .ne (.len (.var 0)) (.len (.var 1)))) [
      .raise "BadBasket" []] []]⟩
def f_lies_in : PI.Fn := ⟨["x", "y"], 4, [
    .for (.tup [2, 3]) (.enum (.of (.var 0))) [
      .cond (.ex (.cmp .gt (.var 3) (.sub (.var 1) (.var 2)))) [
        .ret (.cst (.bl false))] []],
    .ret (.cst (.bl true))]⟩
def f_pieces : PI.Fn := ⟨["x"], 1, [
    .expr (.call "check_one" [.nm 0]),
    .ret (.sum (.of (.var 0)))]⟩
def f_fits : PI.Fn := ⟨["x", "y"], 2, [
    .expr (.call "check_two" [.nm 0, .nm 1]),
    .ret (.call "lies_in" [.nm 0, .nm 1])]⟩
def f_shares_kind : PI.Fn := ⟨["x", "y"], 4, [
    .expr (.call "check_two" [.nm 0, .nm 1]),
    .for (.tup [2, 3]) (.enum (.of (.var 0))) [
      .cond (.and (.ex (.cmp .gt (.var 3) (.cst (.int 0)))) (.ex (.cmp .gt (.sub (.var 1) (.var 2)) (.cst (.int 0))))) [
        .ret (.cst (.bl true))] []],
    .ret (.cst (.bl false))]⟩
def f_plus : PI.Fn := ⟨["x", "y"], 4, [
    .expr (.call "check_two" [.nm 0, .nm 1]),
    .ret (.tupOf (.comp (.bin .add (.var 3) (.sub (.var 1) (.var 2))) [2, 3] (.tup [2, 3]) (.enum (.of (.var 0))) none))]⟩
def f_minus : PI.Fn := ⟨["x", "y"], 4, [
    .expr (.call "check_two" [.nm 0, .nm 1]),
    .cond (.not (.ex (.call "lies_in" [.nm 1, .nm 0]))) [
      .raise "BadBasket" []] [],
    .ret (.tupOf (.comp (.bin .sub (.var 3) (.sub (.var 1) (.var 2))) [2, 3] (.tup [2, 3]) (.enum (.of (.var 0))) none))]⟩
def f_floor_minus : PI.Fn := ⟨["x", "y"], 4, [
    .expr (.call "check_two" [.nm 0, .nm 1]),
    .ret (.tupOf (.comp (.max2 (.bin .sub (.var 3) (.sub (.var 1) (.var 2))) (.cst (.int 0))) [2, 3] (.tup [2, 3]) (.enum (.of (.var 0))) none))]⟩
def f_highest : PI.Fn := ⟨["x", "y"], 4, [
    .expr (.call "check_two" [.nm 0, .nm 1]),
    .ret (.tupOf (.comp (.max2 (.var 3) (.sub (.var 1) (.var 2))) [2, 3] (.tup [2, 3]) (.enum (.of (.var 0))) none))]⟩
def f_times_in : PI.Fn := ⟨["x", "y"], 5, [
    .expr (.call "check_two" [.nm 0, .nm 1]),
    .asg (.name 2) (.new (.comp (.bin .fdiv (.sub (.var 1) (.var 3)) (.var 4)) [3, 4] (.tup [3, 4]) (.enum (.of (.var 0))) (some (.ex (.cmp .gt (.var 4) (.cst (.int 0))))))),
    .cond (.not (.ex (.var 2))) [
      .raise "BadBasket" []] [],
    .ret (.minQ (.of (.var 2)))]⟩
def f_law_mix : PI.Fn := ⟨["number", "turn"], 5, [
    .asg (.name 2) (.bin .mod (.int1 (.var 1)) (.cst (.int 1000003))),
    .asg (.name 3) (.bin .add (.bin .add (.bin .mul (.bin .add (.bin .mod (.int1 (.var 0)) (.cst (.int 1000000007))) (.cst (.int 1))) (.cst (.int 48271))) (.bin .mul (.var 2) (.cst (.int 69621)))) (.cst (.int 40692))),
    .asg (.name 3) (.bin .mod (.int1 (.var 3)) (.cst (.int 2147483647))),
    .asg (.name 4) (.bin .mod (.int1 (.bin .add (.bin .add (.bin .add (.bin .mul (.var 3) (.var 3)) (.bin .mul (.bin .fdiv (.var 3) (.cst (.int 65536))) (.cst (.int 16807)))) (.bin .mul (.var 2) (.cst (.int 1103515)))) (.cst (.int 12345)))) (.cst (.int 2147483629))),
    .ret (.bin .mod (.int1 (.bin .add (.bin .add (.bin .mul (.var 4) (.var 4)) (.bin .mul (.bin .fdiv (.var 4) (.cst (.int 32768))) (.cst (.int 48271)))) (.var 3))) (.cst (.int 2147483587)))]⟩
def f_law_store : PI.Fn := ⟨["script"], 3, [
    .asg (.name 1) (.new (.lst [(.cst (.int 5)), (.cst (.int 0)), (.cst (.int 0)), (.cst (.int 0)), (.cst (.int 314159))])),
    .for (.name 2) (.seq (.cut (.of (.var 0)) none (some (.cst (.int 63))))) [
      .cond (.ex (.cmp .ge (.var 2) (.bin .pow (.cst (.int 10)) (.cst (.int 18))))) [
        .expr (.append (.var 1) (.bin .add (.bin .pow (.cst (.int 10)) (.cst (.int 18))) (.bin .mod (.int1 (.bin .sub (.var 2) (.bin .pow (.cst (.int 10)) (.cst (.int 18))))) (.bin .pow (.bin .pow (.cst (.int 10)) (.cst (.int 60))) (.cst (.int 10))))))] [
        .expr (.append (.var 1) (.bin .mod (.int1 (.var 2)) (.cst (.int 1000000007))))]],
    .ret (.var 1)]⟩
def f_law_take : PI.Fn := ⟨["store", "many"], 6, [
    .cond (.ex (.cmp .lt (.var 1) (.cst (.int 2)))) [
      .ret (.cst (.int 0))] [],
    .setIx (.var 0) (.cst (.int 3)) (.bin .add (.sub (.var 0) (.cst (.int 3))) (.cst (.int 1))),
    .cond (.and (.ex (.cmp .eq (.sub (.var 0) (.cst (.int 1))) (.cst (.int 0)))) (.and (.ex (.cmp .eq (.sub (.var 0) (.cst (.int 2))) (.cst (.int 0)))) (.ex (.cmp .lt (.sub (.var 0) (.cst (.int 0))) (.len (.var 0)))))) [
      .asg (.name 2) (.sub (.var 0) (.sub (.var 0) (.cst (.int 0)))),
      .setIx (.var 0) (.cst (.int 0)) (.bin .add (.sub (.var 0) (.cst (.int 0))) (.cst (.int 1))),
      .setIx (.var 0) (.cst (.int 4)) (.call "_law_mix" [.ex (.bin .add (.sub (.var 0) (.cst (.int 4))) (.var 2)), .ex (.sub (.var 0) (.cst (.int 0)))]),
      .cond (.ex (.cmp .ge (.var 2) (.bin .pow (.cst (.int 10)) (.cst (.int 18))))) [
        .setIx (.var 0) (.cst (.int 1)) (.var 2)] [
        .setIx (.var 0) (.cst (.int 2)) (.cst (.int 3))]] [],
    .cond (.ex (.cmp .gt (.sub (.var 0) (.cst (.int 1))) (.cst (.int 0)))) [
      .asg (.name 3) (.bin .mod (.int1 (.sub (.var 0) (.cst (.int 1)))) (.var 1)),
      .setIx (.var 0) (.cst (.int 1)) (.bin .fdiv (.sub (.var 0) (.cst (.int 1))) (.var 1)),
      .ret (.var 3)] [],
    .cond (.ex (.cmp .gt (.sub (.var 0) (.cst (.int 2))) (.cst (.int 0)))) [
      .setIx (.var 0) (.cst (.int 2)) (.bin .sub (.sub (.var 0) (.cst (.int 2))) (.cst (.int 1)))] [],
    .asg (.name 3) (.call "_law_mix" [.ex (.sub (.var 0) (.cst (.int 4))), .ex (.sub (.var 0) (.cst (.int 3)))]),
    .asg (.name 4) (.cst (.int 2147483587)),
    .for (.name 5) (.rng1 (.cst (.int 9))) [
      .cond (.ex (.cmp .ge (.var 4) (.var 1))) [
        .brk] [],
      .asg (.name 3) (.bin .add (.bin .mul (.var 3) (.cst (.int 2147483587))) (.call "_law_mix" [.ex (.bin .add (.bin .add (.sub (.var 0) (.cst (.int 4))) (.var 5)) (.cst (.int 1))), .ex (.sub (.var 0) (.cst (.int 3)))])),
      .asg (.name 4) (.bin .mul (.var 4) (.cst (.int 2147483587)))],
    .ret (.bin .mod (.int1 (.var 3)) (.var 1))]⟩
def f_law_pick : PI.Fn := ⟨["store", "row"], 2, [
    .cond (.ex (.cmp .eq (.len (.var 1)) (.cst (.int 0)))) [
      .ret (.cst .non)] [],
    .ret (.sub (.var 1) (.call "_law_take" [.nm 0, .ex (.len (.var 1))]))]⟩
def f_law_between : PI.Fn := ⟨["store", "low", "high"], 4, [
    .cond (.ex (.cmp .le (.var 2) (.var 1))) [
      .ret (.var 1)] [],
    .asg (.name 3) (.call "_law_take" [.nm 0, .ex (.cst (.int 9))]),
    .cond (.ex (.cmp .eq (.var 3) (.cst (.int 0)))) [
      .ret (.var 1)] [],
    .cond (.ex (.cmp .eq (.var 3) (.cst (.int 1)))) [
      .ret (.var 2)] [],
    .cond (.ex (.cmp .eq (.var 3) (.cst (.int 2)))) [
      .ret (.bin .add (.var 1) (.cst (.int 1)))] [],
    .ret (.bin .add (.var 1) (.call "_law_take" [.nm 0, .ex (.bin .add (.bin .sub (.var 2) (.var 1)) (.cst (.int 1)))]))]⟩
def f_law_great : PI.Fn := ⟨["store", "high"], 5, [
    .asg (.name 2) (.call "_law_take" [.nm 0, .ex (.cst (.int 10))]),
    .cond (.ex (.cmp .eq (.var 2) (.cst (.int 0)))) [
      .ret (.cst (.int 0))] [],
    .cond (.ex (.cmp .eq (.var 2) (.cst (.int 1)))) [
      .ret (.max2 (.cst (.int 0)) (.var 1))] [],
    .cond (.ex (.cmp .eq (.var 2) (.cst (.int 2)))) [
      .ret (.max2 (.cst (.int 0)) (.bin .sub (.bin .sub (.var 1) (.cst (.int 1))) (.call "_law_take" [.nm 0, .ex (.cst (.int 3))])))] [],
    .cond (.ex (.cmp .eq (.var 2) (.cst (.int 3)))) [
      .ret (.max2 (.cst (.int 0)) (.min2 (.var 1) (.bin .add (.cst (.int 1)) (.call "_law_take" [.nm 0, .ex (.cst (.int 3))]))))] [],
    .cond (.ex (.cmp .lt (.var 2) (.cst (.int 6)))) [
      .ret (.call "_law_take" [.nm 0, .ex (.bin .add (.var 1) (.cst (.int 1)))])] [],
    .asg (.name 3) (.cst (.int 10)),
    .for (.name 4) (.rng1 (.call "_law_take" [.nm 0, .ex (.cst (.int 12))])) [
      .asg (.name 3) (.bin .mul (.var 3) (.cst (.int 10)))],
    .ret (.call "_law_take" [.nm 0, .ex (.min2 (.var 3) (.bin .add (.var 1) (.cst (.int 1))))])]⟩
def f_law_signed : PI.Fn := ⟨["store", "high"], 3, [
    .asg (.name 2) (.call "_law_great" [.nm 0, .nm 1]),
    .cond (.ex (.cmp .eq (.call "_law_take" [.nm 0, .ex (.cst (.int 2))]) (.cst (.int 0)))) [
      .ret (.bin .sub (.cst (.int 0)) (.var 2))] [],
    .ret (.var 2)]⟩
def f_law_within : PI.Fn := ⟨["store", "top"], 3, [
    .ret (.tupOf (.comp (.call "_law_between" [.nm 0, .ex (.cst (.int 0)), .nm 2]) [2] (.name 2) (.of (.var 1)) none))]⟩
def f_law_greatbasket : PI.Fn := ⟨["store", "k"], 4, [
    .asg (.name 2) (.call "_law_take" [.nm 0, .ex (.cst (.int 9))]),
    .cond (.ex (.cmp .eq (.var 2) (.cst (.int 0)))) [
      .ret (.tupOf (.comp (.cst (.int 0)) [3] (.name 3) (.rng1 (.var 1)) none))] [],
    .cond (.ex (.cmp .eq (.var 2) (.cst (.int 1)))) [
      .ret (.tupOf (.comp (.bin .pow (.cst (.int 10)) (.cst (.int 12))) [3] (.name 3) (.rng1 (.var 1)) none))] [],
    .ret (.tupOf (.comp (.call "_law_great" [.nm 0, .ex (.bin .pow (.cst (.int 10)) (.cst (.int 12)))]) [3] (.name 3) (.rng1 (.var 1)) none))]⟩
def f_law_atom : PI.Fn := ⟨["store"], 2, [
    .asg (.name 1) (.call "_law_take" [.nm 0, .ex (.cst (.int 8))]),
    .cond (.ex (.cmp .lt (.var 1) (.cst (.int 3)))) [
      .ret (.call "_law_take" [.nm 0, .ex (.cst (.int 4))])] [],
    .cond (.ex (.cmp .eq (.var 1) (.cst (.int 3)))) [
      .ret (.call "_law_pick" [.nm 0, .ex (.new (.lst [(.neg (.cst (.int 1))), (.neg (.cst (.int 3))), (.bin .pow (.cst (.int 10)) (.cst (.int 12))), (.bin .add (.bin .pow (.cst (.int 10)) (.cst (.int 12))) (.cst (.int 1))), (.bin .mul (.bin .pow (.cst (.int 10)) (.cst (.int 60))) (.bin .pow (.cst (.int 10)) (.cst (.int 9)))), (.bin .sub (.cst (.int 0)) (.bin .mul (.bin .pow (.cst (.int 10)) (.cst (.int 60))) (.bin .pow (.cst (.int 10)) (.cst (.int 9))))), (.cst (.int 9))]))])] [],
    .cond (.ex (.cmp .eq (.var 1) (.cst (.int 4)))) [
      .ret (.cmp .eq (.call "_law_take" [.nm 0, .ex (.cst (.int 2))]) (.cst (.int 1)))] [],
    .cond (.ex (.cmp .eq (.var 1) (.cst (.int 5)))) [
      .ret (.call "_law_pick" [.nm 0, .ex (.new (.lst [(.cst .non), (.tup [])]))])] [],
    .cond (.ex (.cmp .eq (.var 1) (.cst (.int 6)))) [
      .ret (.call "_law_pick" [.nm 0, .ex (.new (.lst [(.cst (.str "")), (.cst (.str "1")), (.cst (.str "pin")), (.cst (.str " ")), (.cst (.str "yes"))]))])] [],
    .ret (.call "_law_signed" [.nm 0, .ex (.bin .pow (.cst (.int 10)) (.cst (.int 15)))])]⟩
def f_law_paper : PI.Fn := ⟨["store"], 5, [
    .asg (.name 1) (.new (.lst [])),
    .asg (.name 2) (.cst (.int 0)),
    .for (.name 3) (.rng1 (.call "_law_take" [.nm 0, .ex (.cst (.int 11))])) [
      .expr (.append (.var 1) (.call "_law_atom" [.nm 0])),
      .cond (.and (.ex (.cmp .lt (.var 2) (.cst (.int 6)))) (.ex (.cmp .eq (.call "_law_take" [.nm 0, .ex (.cst (.int 3))]) (.cst (.int 0))))) [
        .asg (.name 2) (.bin .add (.var 2) (.cst (.int 1))),
        .asg (.name 4) (.call "_law_take" [.nm 0, .ex (.len (.var 1))]),
        .asg (.name 1) (.new (.cat (.cut (.of (.var 1)) none (some (.var 4))) (.lst [(.tupOf (.cut (.of (.var 1)) (some (.var 4)) none))])))] []],
    .cond (.ex (.cmp .eq (.len (.var 1)) (.cst (.int 1)))) [
      .ret (.sub (.var 1) (.cst (.int 0)))] [],
    .ret (.tupOf (.of (.var 1)))]⟩
def f_law_badtuple : PI.Fn := ⟨["store", "good", "low", "high"], 7, [
    .asg (.name 4) (.call "_law_take" [.nm 0, .ex (.cst (.int 10))]),
    .cond (.ex (.cmp .eq (.var 4) (.cst (.int 0)))) [
      .ret (.new (.lst [(.listOf (.of (.var 1)))]))] [],
    .cond (.ex (.cmp .eq (.var 4) (.cst (.int 1)))) [
      .ret (.new (.lst [(.bin .add (.tupOf (.of (.var 1))) (.tup [(.max2 (.cst (.int 0)) (.var 2))]))]))] [],
    .cond (.ex (.cmp .eq (.var 4) (.cst (.int 2)))) [
      .ret (.new (.lst [(.slice (.tupOf (.of (.var 1))) none (some (.neg (.cst (.int 1)))))]))] [],
    .cond (.ex (.cmp .eq (.var 4) (.cst (.int 3)))) [
      .ret (.new (.lst [(.call "_law_pick" [.nm 0, .ex (.new (.lst [(.cst .non), (.cst (.int 0)), (.cst (.bl true)), (.cst (.str "")), (.cst (.str "1 0")), (.new (.lst [])), (.new (.lst [(.var 1)]))]))])]))] [],
    .asg (.name 5) (.listOf (.of (.var 1))),
    .asg (.name 6) (.call "_law_between" [.nm 0, .ex (.cst (.int 0)), .ex (.bin .sub (.len (.var 5)) (.cst (.int 1)))]),
    .cond (.ex (.cmp .lt (.var 4) (.cst (.int 6)))) [
      .setIx (.var 5) (.var 6) (.bin .sub (.bin .sub (.var 2) (.cst (.int 1))) (.bin .mul (.call "_law_take" [.nm 0, .ex (.cst (.int 2))]) (.call "_law_take" [.nm 0, .ex (.bin .pow (.cst (.int 10)) (.cst (.int 12)))])))] [
      .cond (.ex (.cmp .lt (.var 4) (.cst (.int 8)))) [
        .setIx (.var 5) (.var 6) (.bin .add (.bin .add (.var 3) (.cst (.int 1))) (.bin .mul (.call "_law_take" [.nm 0, .ex (.cst (.int 2))]) (.call "_law_take" [.nm 0, .ex (.bin .pow (.cst (.int 10)) (.cst (.int 12)))])))] [
        .cond (.ex (.cmp .eq (.var 4) (.cst (.int 8)))) [
          .setIx (.var 5) (.var 6) (.cmp .eq (.call "_law_take" [.nm 0, .ex (.cst (.int 2))]) (.cst (.int 1)))] [
          .setIx (.var 5) (.var 6) (.call "_law_pick" [.nm 0, .ex (.new (.lst [(.cst .non), (.cst (.str "1")), (.tup [(.cst (.int 0))]), (.new (.lst [(.cst (.int 0))])), (.cst (.str "")), (.tup [])]))])]]],
    .ret (.new (.lst [(.tupOf (.of (.var 5)))]))]⟩
def f_law_whole : PI.Fn := ⟨["thing"], 1, [
    .ret (.and (.isi (.var 0) .int) (.not (.isi (.var 0) .bool)))]⟩
def f_law_same : PI.Fn := ⟨["answer", "due"], 3, [
    .cond (.ex (.cmp .is (.var 1) (.cst .non))) [
      .ret (.cmp .is (.var 0) (.cst .non))] [],
    .cond (.ex (.isi (.var 1) .bool)) [
      .ret (.and (.isi (.var 0) .bool) (.cmp .eq (.var 0) (.var 1)))] [],
    .cond (.ex (.isi (.var 1) .int)) [
      .ret (.and (.call "_law_whole" [.nm 0]) (.cmp .eq (.var 0) (.var 1)))] [],
    .cond (.ex (.isi (.var 1) .str)) [
      .ret (.and (.isi (.var 0) .str) (.cmp .eq (.var 0) (.var 1)))] [],
    .cond (.and (.ex (.isi (.var 1) .tup)) (.not (.ex (.isi (.var 0) .tup)))) [
      .ret (.cst (.bl false))] [],
    .cond (.and (.ex (.isi (.var 1) .lst)) (.not (.ex (.isi (.var 0) .lst)))) [
      .ret (.cst (.bl false))] [],
    .cond (.ex (.cmp .ne (.len (.var 0)) (.len (.var 1)))) [
      .ret (.cst (.bl false))] [],
    .for (.name 2) (.rng1 (.len (.var 1))) [
      .cond (.not (.ex (.call "_law_same" [.ex (.sub (.var 0) (.var 2)), .ex (.sub (.var 1) (.var 2))]))) [
        .ret (.cst (.bl false))] []],
    .ret (.cst (.bl true))]⟩
def f_law_natural : PI.Fn := ⟨["thing", "n"], 3, [
    .cond (.or (.not (.ex (.isi (.var 0) .tup))) (.ex (.cmp .ne (.len (.var 0)) (.var 1)))) [
      .ret (.cst (.bl false))] [],
    .for (.name 2) (.of (.var 0)) [
      .cond (.or (.not (.ex (.call "_law_whole" [.nm 2]))) (.ex (.cmp .lt (.var 2) (.cst (.int 0))))) [
        .ret (.cst (.bl false))] []],
    .ret (.cst (.bl true))]⟩
def f_law_err : PI.Fn := ⟨["err"], 6, [
    .asg (.name 1) (.new (.lst [(.cst (.str "BadKinds")), (.cst (.str "NoSingle")), (.cst (.str "BadOffer")), (.cst (.str "BadBasket")), (.cst (.str "BadPlace")), (.cst (.str "BadOrder")), (.cst (.str "BadBill")), (.cst (.str "BadPrices"))])),
    .asg (.name 1) (.new (.cat (.of (.var 1)) (.lst [(.cst (.str "BadStock")), (.cst (.str "BadNumber")), (.cst (.str "BadText")), (.cst (.str "BadCoins")), (.cst (.str "Unlike")), (.cst (.str "NotOne")), (.cst (.str "NothingToUndo"))]))),
    .asg (.name 1) (.new (.cat (.of (.var 1)) (.lst [(.cst (.str "TooMany")), (.cst (.str "TooGreat"))]))),
    .asg (.name 2) (.new (.lst [(.exIs 0 "BadKinds"), (.exIs 0 "NoSingle"), (.exIs 0 "BadOffer")])),
    .asg (.name 2) (.new (.cat (.of (.var 2)) (.lst [(.exIs 0 "BadBasket"), (.exIs 0 "BadPlace"), (.exIs 0 "BadOrder")]))),
    .asg (.name 2) (.new (.cat (.of (.var 2)) (.lst [(.exIs 0 "BadBill"), (.exIs 0 "BadPrices"), (.exIs 0 "BadStock")]))),
    .asg (.name 2) (.new (.cat (.of (.var 2)) (.lst [(.exIs 0 "BadNumber"), (.exIs 0 "BadText"), (.exIs 0 "BadCoins")]))),
    .asg (.name 2) (.new (.cat (.of (.var 2)) (.lst [(.exIs 0 "Unlike"), (.exIs 0 "NotOne"), (.exIs 0 "NothingToUndo")]))),
    .asg (.name 2) (.new (.cat (.of (.var 2)) (.lst [(.exIs 0 "TooMany"), (.exIs 0 "TooGreat")]))),
    .asg (.name 3) (.new (.comp (.sub (.var 1) (.var 5)) [5] (.name 5) (.rng1 (.cst (.int 17))) (some (.ex (.sub (.var 2) (.var 5)))))),
    .cond (.or (.ex (.cmp .ne (.len (.var 3)) (.cst (.int 1)))) (.not (.ex (.exVE 0)))) [
      .ret (.tup [(.cst (.str "none"))])] [],
    .asg (.name 4) (.sub (.var 3) (.cst (.int 0))),
    .cond (.ex (.cmp .eq (.var 4) (.cst (.str "NoSingle")))) [
      .ret (.tup [(.var 4), (.exFld 0 "kind")])] [],
    .cond (.or (.ex (.cmp .eq (.var 4) (.cst (.str "BadOffer")))) (.ex (.cmp .eq (.var 4) (.cst (.str "BadStock"))))) [
      .ret (.tup [(.var 4), (.exFld 0 "place")])] [],
    .cond (.ex (.cmp .eq (.var 4) (.cst (.str "BadText")))) [
      .ret (.tup [(.var 4), (.exFld 0 "line")])] [],
    .cond (.or (.ex (.cmp .eq (.var 4) (.cst (.str "TooMany")))) (.ex (.cmp .eq (.var 4) (.cst (.str "TooGreat"))))) [
      .ret (.tup [(.var 4), (.exFld 0 "limit")])] [],
    .ret (.tup [(.var 4)])]⟩
def f_law_two : PI.Fn := ⟨["word", "x", "y"], 4, [
    .try [
      .cond (.ex (.cmp .eq (.var 0) (.cst (.str "fits")))) [
        .ret (.new (.lst [(.cst (.bl false)), (.call "fits" [.nm 1, .nm 2])]))] [],
      .cond (.ex (.cmp .eq (.var 0) (.cst (.str "shares_kind")))) [
        .ret (.new (.lst [(.cst (.bl false)), (.call "shares_kind" [.nm 1, .nm 2])]))] [],
      .cond (.ex (.cmp .eq (.var 0) (.cst (.str "plus")))) [
        .ret (.new (.lst [(.cst (.bl false)), (.call "plus" [.nm 1, .nm 2])]))] [],
      .cond (.ex (.cmp .eq (.var 0) (.cst (.str "minus")))) [
        .ret (.new (.lst [(.cst (.bl false)), (.call "minus" [.nm 1, .nm 2])]))] [],
      .cond (.ex (.cmp .eq (.var 0) (.cst (.str "floor_minus")))) [
        .ret (.new (.lst [(.cst (.bl false)), (.call "floor_minus" [.nm 1, .nm 2])]))] [],
      .cond (.ex (.cmp .eq (.var 0) (.cst (.str "highest")))) [
        .ret (.new (.lst [(.cst (.bl false)), (.call "highest" [.nm 1, .nm 2])]))] [],
      .ret (.new (.lst [(.cst (.bl false)), (.call "times_in" [.nm 1, .nm 2])]))] "TillError" 3 [
      .ret (.new (.lst [(.cst (.bl true)), (.call "_law_err" [.nm 3])]))]]⟩
def f_law_sumof : PI.Fn := ⟨["x"], 2, [
    .try [
      .ret (.new (.lst [(.cst (.bl false)), (.call "pieces" [.nm 0])]))] "TillError" 1 [
      .ret (.new (.lst [(.cst (.bl true)), (.call "_law_err" [.nm 1])]))]]⟩
def f_law_near : PI.Fn := ⟨["store", "x"], 8, [
    .asg (.name 2) (.call "_law_take" [.nm 0, .ex (.cst (.int 6))]),
    .asg (.name 3) (.listOf (.of (.var 1))),
    .cond (.ex (.cmp .eq (.var 2) (.cst (.int 0)))) [
      .ret (.tupOf (.of (.var 1)))] [],
    .cond (.ex (.cmp .eq (.var 2) (.cst (.int 1)))) [
      .ret (.call "_law_within" [.nm 0, .nm 1])] [],
    .cond (.ex (.cmp .eq (.var 2) (.cst (.int 2)))) [
      .asg (.name 4) (.call "_law_take" [.nm 0, .ex (.len (.var 1))]),
      .asg (.name 5) (.bin .sub (.cst (.int 1)) (.bin .mul (.cst (.int 2)) (.call "_law_take" [.nm 0, .ex (.cst (.int 2))]))),
      .setIx (.var 3) (.var 4) (.max2 (.cst (.int 0)) (.min2 (.bin .pow (.cst (.int 10)) (.cst (.int 12))) (.bin .add (.sub (.var 3) (.var 4)) (.var 5)))),
      .ret (.tupOf (.of (.var 3)))] [],
    .cond (.ex (.cmp .eq (.var 2) (.cst (.int 3)))) [
      .asg (.name 6) (.call "_law_take" [.nm 0, .ex (.cst (.int 15))]),
      .ret (.tupOf (.comp (.min2 (.bin .pow (.cst (.int 10)) (.cst (.int 12))) (.bin .add (.bin .mul (.var 6) (.var 7)) (.call "_law_take" [.nm 0, .ex (.cst (.int 3))]))) [7] (.name 7) (.of (.var 1)) none))] [],
    .cond (.ex (.cmp .eq (.var 2) (.cst (.int 4)))) [
      .ret (.tupOf (.comp (.call "_law_take" [.nm 0, .ex (.cst (.int 8))]) [7] (.name 7) (.of (.var 1)) none))] [],
    .ret (.call "_law_greatbasket" [.nm 0, .ex (.len (.var 1))])]⟩
def f_law_isbasket : PI.Fn := ⟨["thing"], 2, [
    .cond (.or (.not (.ex (.isi (.var 0) .tup))) (.or (.ex (.cmp .lt (.len (.var 0)) (.cst (.int 1)))) (.ex (.cmp .gt (.len (.var 0)) (.cst (.int 4)))))) [
      .ret (.cst (.bl false))] [],
    .ret (.cmp .eq (.lenQ (.comp (.var 1) [1] (.name 1) (.of (.var 0)) (some (.or (.not (.ex (.call "_law_whole" [.nm 1]))) (.or (.ex (.cmp .lt (.var 1) (.cst (.int 0)))) (.ex (.cmp .gt (.var 1) (.bin .pow (.cst (.int 10)) (.cst (.int 12)))))))))) (.cst (.int 0)))]⟩
def f_law_haslist : PI.Fn := ⟨["thing"], 2, [
    .cond (.ex (.isi (.var 0) .lst)) [
      .ret (.cst (.bl true))] [],
    .cond (.not (.ex (.isi (.var 0) .tup))) [
      .ret (.cst (.bl false))] [],
    .ret (.cmp .gt (.lenQ (.comp (.var 1) [1] (.name 1) (.of (.var 0)) (some (.ex (.isi (.var 1) .lst))))) (.cst (.int 0)))]⟩
def f_law_sound : PI.Fn := ⟨["x", "y"], 9, [
    .asg (.name 2) (.len (.var 0)),
    .asg (.name 3) (.cmp .eq (.lenQ (.comp (.var 8) [8] (.name 8) (.rng1 (.var 2)) (some (.ex (.cmp .gt (.sub (.var 1) (.var 8)) (.sub (.var 0) (.var 8))))))) (.cst (.int 0))),
    .asg (.name 4) (.cmp .eq (.lenQ (.comp (.var 8) [8] (.name 8) (.rng1 (.var 2)) (some (.ex (.cmp .gt (.sub (.var 0) (.var 8)) (.sub (.var 1) (.var 8))))))) (.cst (.int 0))),
    .asg (.name 5) (.cmp .gt (.lenQ (.comp (.var 8) [8] (.name 8) (.rng1 (.var 2)) (some (.and (.ex (.cmp .gt (.sub (.var 0) (.var 8)) (.cst (.int 0)))) (.ex (.cmp .gt (.sub (.var 1) (.var 8)) (.cst (.int 0)))))))) (.cst (.int 0))),
    .asg (.name 6) (.tupOf (.comp (.sub (.new (.sorted (.lst [(.sub (.var 0) (.var 8)), (.sub (.var 1) (.var 8))]))) (.cst (.int 1))) [8] (.name 8) (.rng1 (.var 2)) none)),
    .cond (.not (.ex (.call "_law_same" [.ex (.call "_law_two" [.ex (.cst (.str "fits")), .nm 0, .nm 1]), .ex (.new (.lst [(.cst (.bl false)), (.var 4)]))]))) [
      .ret (.cst (.bl false))] [],
    .cond (.not (.ex (.call "_law_same" [.ex (.call "_law_two" [.ex (.cst (.str "shares_kind")), .nm 0, .nm 1]), .ex (.new (.lst [(.cst (.bl false)), (.var 5)]))]))) [
      .ret (.cst (.bl false))] [],
    .cond (.not (.ex (.call "_law_same" [.ex (.call "_law_two" [.ex (.cst (.str "plus")), .nm 0, .nm 1]), .ex (.new (.lst [(.cst (.bl false)), (.tupOf (.comp (.bin .add (.sub (.var 0) (.var 8)) (.sub (.var 1) (.var 8))) [8] (.name 8) (.rng1 (.var 2)) none))]))]))) [
      .ret (.cst (.bl false))] [],
    .cond (.not (.ex (.call "_law_same" [.ex (.call "_law_two" [.ex (.cst (.str "highest")), .nm 0, .nm 1]), .ex (.new (.lst [(.cst (.bl false)), (.var 6)]))]))) [
      .ret (.cst (.bl false))] [],
    .asg (.name 7) (.call "_law_two" [.ex (.cst (.str "floor_minus")), .nm 0, .nm 1]),
    .cond (.or (.ex (.sub (.var 7) (.cst (.int 0)))) (.or (.not (.ex (.call "_law_natural" [.ex (.sub (.var 7) (.cst (.int 1))), .nm 2]))) (.ex (.cmp .ne (.tupOf (.comp (.bin .add (.sub (.sub (.var 7) (.cst (.int 1))) (.var 8)) (.sub (.var 1) (.var 8))) [8] (.name 8) (.rng1 (.var 2)) none)) (.var 6))))) [
      .ret (.cst (.bl false))] [],
    .asg (.name 7) (.call "_law_two" [.ex (.cst (.str "minus")), .nm 0, .nm 1]),
    .cond (.not (.ex (.var 3))) [
      .ret (.call "_law_same" [.nm 7, .ex (.new (.lst [(.cst (.bl true)), (.tup [(.cst (.str "BadBasket"))])]))])] [],
    .ret (.and (.not (.sub (.var 7) (.cst (.int 0)))) (.and (.call "_law_natural" [.ex (.sub (.var 7) (.cst (.int 1))), .nm 2]) (.cmp .eq (.tupOf (.comp (.bin .add (.sub (.sub (.var 7) (.cst (.int 1))) (.var 8)) (.sub (.var 1) (.var 8))) [8] (.name 8) (.rng1 (.var 2)) none)) (.var 0))))]⟩
def f_law_counted : PI.Fn := ⟨["x", "y"], 11, [
    .asg (.name 2) (.len (.var 0)),
    .asg (.name 3) (.call "_law_two" [.ex (.cst (.str "times_in")), .nm 0, .nm 1]),
    .cond (.ex (.cmp .eq (.sum (.of (.var 0))) (.cst (.int 0)))) [
      .ret (.call "_law_same" [.nm 3, .ex (.new (.lst [(.cst (.bl true)), (.tup [(.cst (.str "BadBasket"))])]))])] [],
    .cond (.or (.ex (.sub (.var 3) (.cst (.int 0)))) (.or (.not (.ex (.call "_law_whole" [.ex (.sub (.var 3) (.cst (.int 1)))]))) (.ex (.cmp .lt (.sub (.var 3) (.cst (.int 1))) (.cst (.int 0)))))) [
      .ret (.cst (.bl false))] [],
    .asg (.name 4) (.sub (.var 3) (.cst (.int 1))),
    .asg (.name 5) (.new (.comp (.var 10) [10] (.name 10) (.rng1 (.var 2)) (some (.ex (.cmp .gt (.bin .mul (.var 4) (.sub (.var 0) (.var 10))) (.sub (.var 1) (.var 10))))))),
    .asg (.name 6) (.new (.comp (.var 10) [10] (.name 10) (.rng1 (.var 2)) (some (.ex (.cmp .gt (.bin .mul (.bin .add (.var 4) (.cst (.int 1))) (.sub (.var 0) (.var 10))) (.sub (.var 1) (.var 10))))))),
    .cond (.or (.ex (.cmp .gt (.len (.var 5)) (.cst (.int 0)))) (.ex (.cmp .eq (.len (.var 6)) (.cst (.int 0))))) [
      .ret (.cst (.bl false))] [],
    .cond (.ex (.cmp .gt (.var 4) (.cst (.int 12)))) [
      .ret (.cst (.bl true))] [],
    .asg (.name 7) (.tupOf (.of (.var 1))),
    .for (.name 8) (.rng1 (.var 4)) [
      .asg (.name 9) (.tupOf (.comp (.bin .sub (.sub (.var 7) (.var 10)) (.sub (.var 0) (.var 10))) [10] (.name 10) (.rng1 (.var 2)) none)),
      .cond (.not (.ex (.call "_law_same" [.ex (.call "_law_two" [.ex (.cst (.str "fits")), .nm 0, .nm 7]), .ex (.new (.lst [(.cst (.bl false)), (.cst (.bl true))]))]))) [
        .ret (.cst (.bl false))] [],
      .cond (.not (.ex (.call "_law_same" [.ex (.call "_law_two" [.ex (.cst (.str "minus")), .nm 7, .nm 0]), .ex (.new (.lst [(.cst (.bl false)), (.var 9)]))]))) [
        .ret (.cst (.bl false))] [],
      .asg (.name 7) (.var 9)],
    .ret (.call "_law_same" [.ex (.call "_law_two" [.ex (.cst (.str "fits")), .nm 0, .nm 7]), .ex (.new (.lst [(.cst (.bl false)), (.cst (.bl false))]))])]⟩
def f_law_refused : PI.Fn := ⟨["x", "y", "bad"], 8, [
    .asg (.name 3) (.new (.lst [(.cst (.bl true)), (.tup [(.cst (.str "BadBasket"))])])),
    .asg (.name 4) (.new (.lst [(.var 2), (.bin .add (.tupOf (.of (.var 1))) (.tup [(.cst (.int 0))])), (.slice (.tupOf (.of (.var 1))) none (some (.neg (.cst (.int 1)))))])),
    .for (.name 5) (.seq (.lst [(.cst (.str "fits")), (.cst (.str "shares_kind")), (.cst (.str "plus")), (.cst (.str "minus")), (.cst (.str "floor_minus")), (.cst (.str "highest")), (.cst (.str "times_in"))])) [
      .for (.name 6) (.of (.var 4)) [
        .cond (.or (.not (.ex (.call "_law_same" [.ex (.call "_law_two" [.nm 5, .nm 6, .nm 0]), .nm 3]))) (.not (.ex (.call "_law_same" [.ex (.call "_law_two" [.nm 5, .nm 0, .nm 6]), .nm 3])))) [
          .ret (.cst (.bl false))] []]],
    .for (.name 7) (.seq (.cat (.of (.var 4)) (.lst [(.var 0), (.var 1), (.tup [])]))) [
      .asg (.name 3) (.new (.lst [(.cst (.bl true)), (.tup [(.cst (.str "BadBasket"))])])),
      .cond (.ex (.call "_law_isbasket" [.nm 7])) [
        .asg (.name 3) (.new (.lst [(.cst (.bl false)), (.sum (.of (.var 7)))]))] [],
      .cond (.not (.ex (.call "_law_same" [.ex (.call "_law_sumof" [.nm 7]), .nm 3]))) [
        .ret (.cst (.bl false))] []],
    .ret (.cst (.bl true))]⟩
def f_law_judged : PI.Fn := ⟨["papers"], 2, [
    .for (.name 1) (.of (.var 0)) [
      .cond (.and (.not (.ex (.call "_law_haslist" [.nm 1]))) (.not (.ex (.call "_law_same" [.ex (.call "is_basket" [.nm 1]), .ex (.call "_law_isbasket" [.nm 1])])))) [
        .ret (.cst (.bl false))] []],
    .ret (.cst (.bl true))]⟩
def f_law : PI.Fn := ⟨["script"], 11, [
    .asg (.name 1) (.call "_law_store" [.nm 0]),
    .asg (.name 2) (.bin .add (.cst (.int 1)) (.call "_law_take" [.nm 1, .ex (.cst (.int 4))])),
    .asg (.name 3) (.call "_law_greatbasket" [.nm 1, .nm 2]),
    .cond (.ex (.cmp .eq (.call "_law_take" [.nm 1, .ex (.cst (.int 2))]) (.cst (.int 0)))) [
      .asg (.name 3) (.tupOf (.comp (.call "_law_take" [.nm 1, .ex (.cst (.int 7))]) [10] (.name 10) (.of (.var 3)) none))] [],
    .asg (.name 4) (.call "_law_near" [.nm 1, .nm 3]),
    .asg (.name 5) (.sub (.call "_law_badtuple" [.nm 1, .nm 3, .ex (.cst (.int 0)), .ex (.bin .pow (.cst (.int 10)) (.cst (.int 12)))]) (.cst (.int 0))),
    .asg (.name 6) (.call "_law_paper" [.nm 1]),
    .asg (.name 7) (.new (.lst [(.var 3), (.var 4), (.var 5), (.var 6), (.tup []), (.bin .add (.var 3) (.var 4)), (.bin .add (.var 3) (.tup [(.cst (.int 0))])), (.slice (.var 3) none (some (.neg (.cst (.int 1))))), (.cst (.bl true)), (.cst (.int 0)), (.cst .non), (.cst (.str "1 0")), (.tup [(.var 3)]), (.bin .add (.var 3) (.tup [(.cst (.bl true))])), (.tup [(.cst (.bl false))])])),
    .for (.name 8) (.rng1 (.cst (.int 2))) [
      .for (.name 9) (.seq (.lst [(.tup [(.var 3), (.var 4)]), (.tup [(.var 4), (.var 3)]), (.tup [(.var 3), (.var 3)])])) [
        .cond (.or (.not (.ex (.call "_law_sound" [.ex (.sub (.var 9) (.cst (.int 0))), .ex (.sub (.var 9) (.cst (.int 1)))]))) (.not (.ex (.call "_law_counted" [.ex (.sub (.var 9) (.cst (.int 0))), .ex (.sub (.var 9) (.cst (.int 1)))])))) [
          .ret (.cst (.bl false))] []],
      .cond (.or (.not (.ex (.call "_law_refused" [.nm 3, .nm 4, .nm 5]))) (.not (.ex (.call "_law_judged" [.nm 7])))) [
        .ret (.cst (.bl false))] []],
    .ret (.cst (.bl true))]⟩
end TF

set_option linter.all false
namespace TF
open PySem (Str)
open PI
def f_cells : PI.Fn := ⟨["x"], 3, [
    .expr (.call "check_one" [.nm 0]),
    .asg (.name 1) (.cst (.int 1)),
    .for (.name 2) (.of (.var 0)) [
      .asg (.name 1) (.bin .mul (.var 1) (.bin .add (.var 2) (.cst (.int 1))))],
    .ret (.var 1)]⟩
def f_box : PI.Fn := ⟨["x"], 5, [
    .cond (.ex (.cmp .gt (.call "cells" [.nm 0]) (.glb "CELLS"))) [
      .raise "TooGreat" [(.glb "CELLS")]] [],
    .asg (.name 1) (.new (.lst [(.tup [])])),
    .for (.name 2) (.of (.var 0)) [
      .asg (.name 1) (.new (.comp2 (.bin .add (.var 3) (.tup [(.var 4)])) [3, 4] [4] (.name 3) (.of (.var 1)) none (.name 4) (.rng1 (.bin .add (.var 2) (.cst (.int 1)))) none))],
    .ret (.tupOf (.of (.var 1)))]⟩
def f_law_basket : PI.Fn := ⟨["store", "k", "room"], 10, [
    .asg (.name 3) (.new (.comp (.cst (.int 0)) [7] (.name 7) (.rng1 (.var 1)) none)),
    .asg (.name 4) (.call "_law_take" [.nm 0, .ex (.cst (.int 9))]),
    .asg (.name 5) (.call "_law_take" [.nm 0, .nm 1]),
    .cond (.ex (.cmp .eq (.var 4) (.cst (.int 0)))) [
      .ret (.tupOf (.of (.var 3)))] [],
    .cond (.ex (.cmp .eq (.var 4) (.cst (.int 1)))) [
      .setIx (.var 3) (.var 5) (.min2 (.cst (.int 1)) (.bin .sub (.var 2) (.cst (.int 1)))),
      .ret (.tupOf (.of (.var 3)))] [],
    .asg (.name 6) (.var 2),
    .for (.name 7) (.rng1 (.var 1)) [
      .asg (.name 8) (.bin .mod (.int1 (.bin .add (.var 5) (.var 7))) (.var 1)),
      .asg (.name 9) (.bin .sub (.var 6) (.cst (.int 1))),
      .cond (.ex (.cmp .gt (.var 4) (.cst (.int 2)))) [
        .asg (.name 9) (.min2 (.var 9) (.sub (.new (.lst [(.var 2), (.cst (.int 7)), (.cst (.int 3)), (.cst (.int 2))])) (.bin .sub (.var 1) (.cst (.int 1)))))] [],
      .setIx (.var 3) (.var 8) (.call "_law_between" [.nm 0, .ex (.cst (.int 0)), .nm 9]),
      .asg (.name 6) (.bin .fdiv (.var 6) (.bin .add (.sub (.var 3) (.var 8)) (.cst (.int 1))))],
    .ret (.tupOf (.of (.var 3)))]⟩
def f_law_edgebasket : PI.Fn := ⟨["store", "k", "limit"], 10, [
    .asg (.name 3) (.sub (.new (.lst [(.new (.lst [(.cst (.int 1499))])), (.new (.lst [(.cst (.int 29)), (.cst (.int 49))])), (.new (.lst [(.cst (.int 9)), (.cst (.int 9)), (.cst (.int 14))])), (.new (.lst [(.cst (.int 4)), (.cst (.int 4)), (.cst (.int 4)), (.cst (.int 11))]))])) (.bin .sub (.var 1) (.cst (.int 1)))),
    .asg (.name 4) (.sub (.new (.lst [(.new (.lst [(.cst (.int 1500))])), (.new (.lst [(.cst (.int 38)), (.cst (.int 38))])), (.new (.lst [(.cst (.int 10)), (.cst (.int 9)), (.cst (.int 14))])), (.new (.lst [(.cst (.int 4)), (.cst (.int 4)), (.cst (.int 4)), (.cst (.int 12))]))])) (.bin .sub (.var 1) (.cst (.int 1)))),
    .cond (.ex (.cmp .eq (.var 2) (.cst (.int 60)))) [
      .asg (.name 3) (.sub (.new (.lst [(.new (.lst [(.cst (.int 59))])), (.new (.lst [(.cst (.int 5)), (.cst (.int 9))])), (.new (.lst [(.cst (.int 2)), (.cst (.int 3)), (.cst (.int 4))])), (.new (.lst [(.cst (.int 1)), (.cst (.int 1)), (.cst (.int 2)), (.cst (.int 4))]))])) (.bin .sub (.var 1) (.cst (.int 1)))),
      .asg (.name 4) (.sub (.new (.lst [(.new (.lst [(.cst (.int 60))])), (.new (.lst [(.cst (.int 6)), (.cst (.int 8))])), (.new (.lst [(.cst (.int 3)), (.cst (.int 3)), (.cst (.int 3))])), (.new (.lst [(.cst (.int 1)), (.cst (.int 1)), (.cst (.int 2)), (.cst (.int 5))]))])) (.bin .sub (.var 1) (.cst (.int 1))))] [],
    .asg (.name 5) (.call "_law_order" [.nm 0, .nm 1]),
    .asg (.name 6) (.call "_law_take" [.nm 0, .ex (.cst (.int 3))]),
    .cond (.ex (.cmp .eq (.var 6) (.cst (.int 0)))) [
      .ret (.new (.lst [(.tupOf (.comp (.sub (.var 3) (.var 8)) [8] (.name 8) (.of (.var 5)) none)), (.cst (.bl false))]))] [],
    .cond (.ex (.cmp .eq (.var 6) (.cst (.int 1)))) [
      .ret (.new (.lst [(.tupOf (.comp (.sub (.var 4) (.var 8)) [8] (.name 8) (.of (.var 5)) none)), (.cst (.bl true))]))] [],
    .asg (.name 7) (.new (.comp (.cst (.int 0)) [9] (.name 9) (.rng1 (.var 1)) none)),
    .setIx (.var 7) (.sub (.var 5) (.cst (.int 0))) (.bin .add (.var 2) (.call "_law_take" [.nm 0, .ex (.bin .add (.bin .sub (.bin .pow (.cst (.int 10)) (.cst (.int 12))) (.var 2)) (.cst (.int 1)))])),
    .ret (.new (.lst [(.tupOf (.of (.var 7))), (.cst (.bl true))]))]⟩
def f_law_order : PI.Fn := ⟨["store", "n"], 8, [
    .asg (.name 2) (.call "_law_take" [.nm 0, .ex (.cst (.int 6))]),
    .asg (.name 3) (.new (.comp (.var 7) [7] (.name 7) (.rng1 (.var 1)) none)),
    .cond (.ex (.cmp .eq (.var 2) (.cst (.int 1)))) [
      .asg (.name 3) (.new (.comp (.bin .sub (.bin .sub (.var 1) (.cst (.int 1))) (.var 7)) [7] (.name 7) (.rng1 (.var 1)) none))] [],
    .cond (.and (.ex (.cmp .eq (.var 2) (.cst (.int 2)))) (.ex (.cmp .gt (.var 1) (.cst (.int 1))))) [
      .asg (.name 4) (.call "_law_take" [.nm 0, .ex (.bin .sub (.var 1) (.cst (.int 1)))]),
      .setIx (.var 3) (.var 4) (.bin .add (.var 4) (.cst (.int 1))),
      .setIx (.var 3) (.bin .add (.var 4) (.cst (.int 1))) (.var 4)] [],
    .cond (.ex (.cmp .gt (.var 2) (.cst (.int 2)))) [
      .asg (.name 5) (.listOf (.of (.var 3))),
      .asg (.name 3) (.new (.lst [])),
      .for (.name 6) (.rng1 (.var 1)) [
        .expr (.append (.var 3) (.popAt (.var 5) (.call "_law_take" [.nm 0, .ex (.len (.var 5))])))]] [],
    .ret (.tupOf (.of (.var 3)))]⟩
def f_law_fits : PI.Fn := ⟨["small", "great"], 3, [
    .for (.name 2) (.rng1 (.len (.var 0))) [
      .cond (.ex (.cmp .gt (.sub (.var 0) (.var 2)) (.sub (.var 1) (.var 2)))) [
        .ret (.cst (.bl false))] []],
    .ret (.cst (.bl true))]⟩
def f_law_boxof : PI.Fn := ⟨["x"], 2, [
    .try [
      .ret (.new (.lst [(.cst (.bl false)), (.call "box" [.nm 0])]))] "TillError" 1 [
      .ret (.new (.lst [(.cst (.bl true)), (.call "_law_err" [.nm 1])]))]]⟩
def f_law_cellsof : PI.Fn := ⟨["x"], 2, [
    .try [
      .ret (.new (.lst [(.cst (.bl false)), (.call "cells" [.nm 0])]))] "TillError" 1 [
      .ret (.new (.lst [(.cst (.bl true)), (.call "_law_err" [.nm 1])]))]]⟩
def f_law_product : PI.Fn := ⟨["x"], 3, [
    .asg (.name 1) (.cst (.int 1)),
    .for (.name 2) (.of (.var 0)) [
      .asg (.name 1) (.bin .mul (.var 1) (.bin .add (.var 2) (.cst (.int 1))))],
    .ret (.var 1)]⟩
def f_law_full : PI.Fn := ⟨["told", "x"], 3, [
    .cond (.or (.not (.ex (.isi (.var 0) .tup))) (.ex (.cmp .ne (.len (.var 0)) (.call "_law_product" [.nm 1])))) [
      .ret (.cst (.bl false))] [],
    .for (.name 2) (.rng1 (.len (.var 0))) [
      .cond (.or (.not (.ex (.call "_law_natural" [.ex (.sub (.var 0) (.var 2)), .ex (.len (.var 1))]))) (.not (.ex (.call "_law_fits" [.ex (.sub (.var 0) (.var 2)), .nm 1])))) [
        .ret (.cst (.bl false))] [],
      .cond (.and (.ex (.cmp .gt (.var 2) (.cst (.int 0)))) (.not (.ex (.cmp .lt (.sub (.var 0) (.bin .sub (.var 2) (.cst (.int 1)))) (.sub (.var 0) (.var 2)))))) [
        .ret (.cst (.bl false))] []],
    .ret (.cst (.bl true))]⟩
def f_law_right : PI.Fn := ⟨["x"], 4, [
    .cond (.not (.ex (.call "_law_isbasket" [.nm 0]))) [
      .asg (.name 1) (.new (.lst [(.cst (.bl true)), (.tup [(.cst (.str "BadBasket"))])])),
      .ret (.and (.call "_law_same" [.ex (.call "_law_boxof" [.nm 0]), .nm 1]) (.call "_law_same" [.ex (.call "_law_cellsof" [.nm 0]), .nm 1]))] [],
    .asg (.name 2) (.call "_law_product" [.nm 0]),
    .cond (.not (.ex (.call "_law_same" [.ex (.call "_law_cellsof" [.nm 0]), .ex (.new (.lst [(.cst (.bl false)), (.var 2)]))]))) [
      .ret (.cst (.bl false))] [],
    .asg (.name 3) (.call "_law_boxof" [.nm 0]),
    .cond (.ex (.cmp .gt (.var 2) (.cst (.int 1500)))) [
      .ret (.call "_law_same" [.nm 3, .ex (.new (.lst [(.cst (.bl true)), (.tup [(.cst (.str "TooGreat")), (.cst (.int 1500))])]))])] [],
    .ret (.and (.not (.sub (.var 3) (.cst (.int 0)))) (.call "_law_full" [.ex (.sub (.var 3) (.cst (.int 1))), .nm 0]))]⟩
def f_law_numbersof : PI.Fn := ⟨[], 1, [
    .asg (.name 0) (.new (.lst [(.glb "KINDS"), (.glb "OFFERS"), (.glb "PIECES"), (.glb "TOP"), (.glb "MANY"), (.glb "LINES"), (.glb "DEEDS"), (.glb "WORLD"), (.glb "WALK"), (.glb "LOG"), (.glb "BILLS"), (.glb "CELLS"), (.glb "SMALL")])),
    .ret (.call "_law_same" [.nm 0, .ex (.new (.lst [(.cst (.int 4)), (.cst (.int 10)), (.cst (.int 8)), (.bin .pow (.cst (.int 10)) (.cst (.int 12))), (.bin .pow (.cst (.int 10)) (.cst (.int 12))), (.cst (.int 80)), (.cst (.int 200)), (.cst (.int 400)), (.cst (.int 3000)), (.cst (.int 60)), (.cst (.int 200)), (.cst (.int 1500)), (.cst (.int 60))]))])]⟩
def f01_law : PI.Fn := ⟨["script"], 9, [
    .asg (.name 1) (.call "_law_store" [.nm 0]),
    .asg (.name 2) (.bin .add (.cst (.int 1)) (.call "_law_take" [.nm 1, .ex (.cst (.int 4))])),
    .asg (.name 3) (.call "_law_basket" [.nm 1, .nm 2, .ex (.cst (.int 100))]),
    .asg (.name 4) (.call "_law_edgebasket" [.nm 1, .nm 2, .ex (.cst (.int 1500))]),
    .asg (.name 5) (.call "_law_greatbasket" [.nm 1, .nm 2]),
    .asg (.name 6) (.sub (.call "_law_badtuple" [.nm 1, .nm 3, .ex (.cst (.int 0)), .ex (.bin .pow (.cst (.int 10)) (.cst (.int 12)))]) (.cst (.int 0))),
    .asg (.name 7) (.sub (.call "_law_badtuple" [.nm 1, .ex (.sub (.var 4) (.cst (.int 0))), .ex (.cst (.int 0)), .ex (.bin .pow (.cst (.int 10)) (.cst (.int 12)))]) (.cst (.int 0))),
    .cond (.not (.ex (.call "_law_numbersof" []))) [
      .ret (.cst (.bl false))] [],
    .for (.name 8) (.seq (.lst [(.var 3), (.var 6), (.sub (.var 4) (.cst (.int 0))), (.var 5), (.var 7), (.tup []), (.slice (.var 3) none (some (.neg (.cst (.int 1))))), (.tup [(.cst (.int 0)), (.cst (.int 0)), (.cst (.int 0)), (.cst (.int 0)), (.cst (.int 0))]), (.var 3)])) [
      .cond (.not (.ex (.call "_law_right" [.nm 8]))) [
        .ret (.cst (.bl false))] []],
    .ret (.cst (.bl true))]⟩
end TF

set_option linter.all false
namespace TF
open PySem (Str)
open PI
def f_is_whole : PI.Fn := ⟨["value"], 1, [
    .ret (.and (.isi (.var 0) .int) (.not (.isi (.var 0) .bool)))]⟩
def f_is_text : PI.Fn := ⟨["value"], 2, [
    .cond (.not (.ex (.isi (.var 0) .str))) [
      .ret (.cst (.bl false))] [],
    .for (.name 1) (.of (.var 0)) [
      .cond (.and (.ex (.cmp .ne (.var 1) (.cst (.str "\n")))) (.or (.ex (.cmp .lt (.var 1) (.cst (.str " ")))) (.ex (.cmp .gt (.var 1) (.cst (.str "~")))))) [
        .ret (.cst (.bl false))] []],
    .ret (.cst (.bl true))]⟩
def f_is_simple : PI.Fn := ⟨["value"], 3, [
    .asg (.name 1) (.new (.lst [(.var 0)])),
    .while (.ex (.var 1)) [
      .asg (.name 2) (.pop (.var 1)),
      .cond (.ex (.isi (.var 2) .tup)) [
        .expr (.extend (.var 1) (.of (.var 2)))] [
        .cond (.and (.not (.ex (.call "is_whole" [.nm 2]))) (.not (.ex (.call "is_text" [.nm 2])))) [
          .ret (.cst (.bl false))] []]],
    .ret (.cst (.bl true))]⟩
def f_check_baskets : PI.Fn := ⟨["baskets"], 2, [
    .cond (.not (.ex (.isTL (.var 0)))) [
      .raise "BadBasket" []] [],
    .for (.name 1) (.of (.var 0)) [
      .expr (.call "check_two" [.ex (.sub (.var 0) (.cst (.int 0))), .nm 1])]]⟩
def f_holds_some : PI.Fn := ⟨["x", "baskets"], 3, [
    .for (.name 2) (.of (.var 1)) [
      .cond (.ex (.call "lies_in" [.nm 2, .nm 0])) [
        .ret (.cst (.bl true))] []],
    .ret (.cst (.bl false))]⟩
def f_minimal : PI.Fn := ⟨["baskets"], 3, [
    .expr (.call "check_baskets" [.nm 0]),
    .asg (.name 1) (.new (.lst [])),
    .for (.name 2) (.seq (.sorted (.of (.var 0)))) [
      .cond (.not (.ex (.call "holds_some" [.nm 2, .nm 1]))) [
        .expr (.append (.var 1) (.var 2))] []],
    .ret (.tupOf (.of (.var 1)))]⟩
def f_law_parted : PI.Fn := ⟨["store", "total", "k"], 8, [
    .asg (.name 3) (.new (.comp (.cst (.int 0)) [6] (.name 6) (.rng1 (.var 2)) none)),
    .asg (.name 4) (.call "_law_take" [.nm 0, .nm 2]),
    .asg (.name 5) (.var 1),
    .for (.name 6) (.rng1 (.bin .sub (.var 2) (.cst (.int 1)))) [
      .asg (.name 7) (.bin .mod (.int1 (.bin .add (.var 4) (.var 6))) (.var 2)),
      .setIx (.var 3) (.var 7) (.call "_law_between" [.nm 0, .ex (.cst (.int 0)), .nm 5]),
      .asg (.name 5) (.bin .sub (.var 5) (.sub (.var 3) (.var 7)))],
    .setIx (.var 3) (.bin .mod (.int1 (.bin .sub (.bin .add (.var 4) (.var 2)) (.cst (.int 1)))) (.var 2)) (.var 5),
    .ret (.tupOf (.of (.var 3)))]⟩
def f_law_least : PI.Fn := ⟨["items"], 2, [
    .try [
      .ret (.new (.lst [(.cst (.bl false)), (.call "minimal" [.nm 0])]))] "TillError" 1 [
      .ret (.new (.lst [(.cst (.bl true)), (.call "_law_err" [.nm 1])]))]]⟩
def f_law_baskets : PI.Fn := ⟨["store", "k", "many"], 11, [
    .asg (.name 3) (.new (.lst [])),
    .asg (.name 4) (.cmp .eq (.call "_law_take" [.nm 0, .ex (.cst (.int 2))]) (.cst (.int 0))),
    .asg (.name 5) (.call "_law_take" [.nm 0, .ex (.cst (.int 10))]),
    .for (.name 6) (.rng1 (.var 2)) [
      .cond (.ex (.var 4)) [
        .expr (.append (.var 3) (.call "_law_parted" [.nm 0, .ex (.bin .add (.var 5) (.int1 (.cmp .eq (.call "_law_take" [.nm 0, .ex (.cst (.int 6))]) (.cst (.int 0))))), .nm 1])),
        .cont] [],
      .asg (.name 7) (.call "_law_take" [.nm 0, .ex (.cst (.int 8))]),
      .cond (.and (.ex (.cmp .lt (.var 7) (.cst (.int 2)))) (.ex (.cmp .gt (.len (.var 3)) (.cst (.int 0))))) [
        .asg (.name 8) (.listOf (.of (.call "_law_pick" [.nm 0, .nm 3]))),
        .asg (.name 9) (.call "_law_take" [.nm 0, .nm 1]),
        .setIx (.var 8) (.var 9) (.min2 (.bin .pow (.cst (.int 10)) (.cst (.int 12))) (.bin .add (.sub (.var 8) (.var 9)) (.var 7))),
        .expr (.append (.var 3) (.tupOf (.of (.var 8))))] [
        .cond (.ex (.cmp .eq (.var 7) (.cst (.int 2)))) [
          .expr (.append (.var 3) (.tupOf (.comp (.call "_law_great" [.nm 0, .ex (.bin .pow (.cst (.int 10)) (.cst (.int 12)))]) [10] (.name 10) (.rng1 (.var 1)) none)))] [
          .expr (.append (.var 3) (.tupOf (.comp (.call "_law_take" [.nm 0, .ex (.cst (.int 5))]) [10] (.name 10) (.rng1 (.var 1)) none)))]]],
    .ret (.var 3)]⟩
def f_law_found : PI.Fn := ⟨["told", "given"], 5, [
    .cond (.or (.not (.ex (.isi (.var 0) .tup))) (.ex (.cmp .gt (.len (.var 0)) (.len (.var 1))))) [
      .ret (.cst (.bl false))] [],
    .for (.name 2) (.rng1 (.len (.var 0))) [
      .cond (.or (.not (.ex (.call "_law_natural" [.ex (.sub (.var 0) (.var 2)), .ex (.len (.sub (.var 1) (.cst (.int 0))))]))) (.ex (.cmp .notin (.sub (.var 0) (.var 2)) (.var 1)))) [
        .ret (.cst (.bl false))] [],
      .cond (.and (.ex (.cmp .gt (.var 2) (.cst (.int 0)))) (.not (.ex (.cmp .lt (.sub (.var 0) (.bin .sub (.var 2) (.cst (.int 1)))) (.sub (.var 0) (.var 2)))))) [
        .ret (.cst (.bl false))] []],
    .for (.name 3) (.of (.var 0)) [
      .cond (.ex (.cmp .ne (.lenQ (.comp (.var 4) [4] (.name 4) (.of (.var 0)) (some (.ex (.call "_law_fits" [.nm 4, .nm 3]))))) (.cst (.int 1)))) [
        .ret (.cst (.bl false))] []],
    .for (.name 3) (.of (.var 1)) [
      .cond (.ex (.cmp .eq (.lenQ (.comp (.var 4) [4] (.name 4) (.of (.var 0)) (some (.ex (.call "_law_fits" [.nm 4, .nm 3]))))) (.cst (.int 0)))) [
        .ret (.cst (.bl false))] []],
    .ret (.cst (.bl true))]⟩
def f_law_good : PI.Fn := ⟨["items"], 2, [
    .cond (.ex (.cmp .gt (.lenQ (.comp (.var 1) [1] (.name 1) (.of (.var 0)) (some (.not (.ex (.call "_law_isbasket" [.nm 1])))))) (.cst (.int 0)))) [
      .ret (.cst (.bl false))] [],
    .ret (.cmp .eq (.lenQ (.comp (.var 1) [1] (.name 1) (.of (.var 0)) (some (.ex (.cmp .ne (.len (.var 1)) (.len (.sub (.var 0) (.cst (.int 0))))))))) (.cst (.int 0)))]⟩
def f02_law_right : PI.Fn := ⟨["items"], 2, [
    .asg (.name 1) (.call "_law_least" [.nm 0]),
    .cond (.not (.ex (.call "_law_good" [.nm 0]))) [
      .ret (.call "_law_same" [.nm 1, .ex (.new (.lst [(.cst (.bl true)), (.tup [(.cst (.str "BadBasket"))])]))])] [],
    .ret (.and (.not (.sub (.var 1) (.cst (.int 0)))) (.call "_law_found" [.ex (.sub (.var 1) (.cst (.int 1))), .nm 0]))]⟩
def f_law_thing : PI.Fn := ⟨["store"], 7, [
    .asg (.name 1) (.call "_law_take" [.nm 0, .ex (.cst (.int 3))]),
    .cond (.ex (.cmp .eq (.var 1) (.cst (.int 0)))) [
      .ret (.call "_law_paper" [.nm 0])] [],
    .cond (.ex (.cmp .eq (.var 1) (.cst (.int 1)))) [
      .asg (.name 2) (.call "_law_atom" [.nm 0]),
      .for (.name 3) (.rng1 (.call "_law_take" [.nm 0, .ex (.cst (.int 8))])) [
        .asg (.name 2) (.sub (.new (.lst [(.tup [(.var 2)]), (.tup [(.var 2), (.cst (.int 1))]), (.tup [(.cst (.str "a")), (.var 2)])])) (.call "_law_take" [.nm 0, .ex (.cst (.int 3))]))],
      .ret (.var 2)] [],
    .asg (.name 4) (.bin .add (.cst (.int 1)) (.call "_law_take" [.nm 0, .ex (.cst (.int 2900))])),
    .asg (.name 5) (.new (.comp (.var 3) [3] (.name 3) (.rng1 (.var 4)) none)),
    .asg (.name 6) (.call "_law_take" [.nm 0, .nm 4]),
    .setIx (.var 5) (.var 6) (.call "_law_pick" [.nm 0, .ex (.new (.lst [(.cst .non), (.cst (.bl true)), (.cst (.bl false)), (.neg (.cst (.int 7))), (.cst (.str "a\nb")), (.tup [])]))]),
    .ret (.tupOf (.of (.var 5)))]⟩
def f_law_simple : PI.Fn := ⟨["thing"], 4, [
    .asg (.name 1) (.new (.lst [(.var 0)])),
    .for (.name 2) (.rng1 (.cst (.int 3100))) [
      .cond (.ex (.cmp .eq (.len (.var 1)) (.cst (.int 0)))) [
        .brk] [],
      .asg (.name 3) (.pop (.var 1)),
      .cond (.or (.ex (.cmp .is (.var 3) (.cst .non))) (.ex (.isi (.var 3) .bool))) [
        .ret (.cst (.bl false))] [],
      .cond (.ex (.isi (.var 3) .tup)) [
        .asg (.name 1) (.bin .add (.var 1) (.listOf (.of (.var 3))))] []],
    .ret (.cst (.bl true))]⟩
def f02_law : PI.Fn := ⟨["script"], 15, [
    .asg (.name 1) (.call "_law_store" [.nm 0]),
    .asg (.name 2) (.bin .add (.cst (.int 1)) (.call "_law_take" [.nm 1, .ex (.cst (.int 4))])),
    .asg (.name 3) (.call "_law_take" [.nm 1, .ex (.cst (.int 24))]),
    .asg (.name 4) (.call "_law_take" [.nm 1, .ex (.cst (.int 15))]),
    .cond (.ex (.cmp .lt (.var 3) (.cst (.int 3)))) [
      .asg (.name 4) (.sub (.new (.lst [(.cst (.int 200)), (.cst (.int 60)), (.cst (.int 60))])) (.var 3))] [],
    .asg (.name 5) (.call "_law_baskets" [.nm 1, .nm 2, .nm 4]),
    .asg (.name 6) (.call "_law_thing" [.nm 1]),
    .asg (.name 7) (.sub (.call "_law_baskets" [.nm 1, .nm 2, .ex (.cst (.int 1))]) (.cst (.int 0))),
    .asg (.name 8) (.call "_law_take" [.nm 1, .ex (.bin .add (.len (.var 5)) (.cst (.int 1)))]),
    .asg (.name 9) (.sub (.call "_law_badtuple" [.nm 1, .nm 7, .ex (.cst (.int 0)), .ex (.bin .pow (.cst (.int 10)) (.cst (.int 12)))]) (.cst (.int 0))),
    .asg (.name 10) (.listOf (.of (.var 5))),
    .asg (.name 11) (.slice (.var 5) none (some (.cst (.int 14)))),
    .cond (.or (.not (.ex (.call "_law_right" [.nm 10]))) (.or (.not (.ex (.call "_law_same" [.nm 10, .nm 5]))) (.not (.ex (.call "_law_right" [.ex (.tupOf (.of (.var 11)))]))))) [
      .ret (.cst (.bl false))] [],
    .for (.name 12) (.seq (.lst [(.var 9), (.bin .add (.var 7) (.tup [(.cst (.int 0))])), (.slice (.var 7) none (some (.neg (.cst (.int 1)))))])) [
      .cond (.not (.ex (.call "_law_right" [.ex (.bin .add (.new (.cat (.cut (.of (.var 5)) none (some (.var 8))) (.lst [(.var 12)]))) (.slice (.var 5) (some (.var 8)) none))]))) [
        .ret (.cst (.bl false))] []],
    .for (.name 12) (.seq (.lst [(.cst .non), (.cst (.int 0)), (.cst (.bl true)), (.cst (.str "")), (.cst (.str "ab")), (.var 7)])) [
      .cond (.not (.ex (.call "_law_same" [.ex (.call "_law_least" [.nm 12]), .ex (.new (.lst [(.cst (.bl true)), (.tup [(.cst (.str "BadBasket"))])]))]))) [
        .ret (.cst (.bl false))] []],
    .expr (.append (.var 10) (.tupOf (.comp (.cst (.int 0)) [14] (.name 14) (.rng1 (.var 2)) none))),
    .cond (.or (.not (.ex (.call "_law_same" [.ex (.call "_law_least" [.nm 10]), .ex (.new (.lst [(.cst (.bl false)), (.tup [(.sub (.var 10) (.neg (.cst (.int 1))))])]))]))) (.not (.ex (.call "_law_right" [.nm 11])))) [
      .ret (.cst (.bl false))] [],
    .for (.name 13) (.seq (.lst [(.var 6), (.cst (.str "")), (.tup []), (.cst (.int 0)), (.neg (.cst (.int 1))), (.cst (.bl true)), (.cst .non), (.cst (.bl false)), (.tup [(.cst .non)]), (.tup [(.tup []), (.cst (.int 0))]), (.var 6)])) [
      .cond (.not (.ex (.call "_law_same" [.ex (.call "is_simple" [.nm 13]), .ex (.call "_law_simple" [.nm 13])]))) [
        .ret (.cst (.bl false))] []],
    .ret (.cst (.bl true))]⟩
end TF

set_option Elab.async false
set_option linter.all false
set_option maxRecDepth 100000
set_option maxHeartbeats 4000000
namespace K02
open PySem PySem.Spec PyProof.Rows L2 PSd TF
def metOf (s : Stmt) (m : Str) : Stmt := match s with
  | .ClassDef _ _ _ b _ _ _ _ _ _ _ => (b.find? fun t => match t with
    | .FunctionDef n _ _ _ _ _ _ _ _ _ => n == m
    | _ => false).getD (.Pass ⟨0, 0, 0, 0⟩)
  | _ => .Pass ⟨0, 0, 0, 0⟩
def top (i : Nat) : Stmt := PySem.Challenge.pw_tillsorder_k02_least_of_a_list.main.body.getD i (.Pass ⟨0, 0, 0, 0⟩)
def T : PSd.Tab := ⟨("is_whole", f_is_whole) :: ("is_whole_row", f_is_whole_row) :: ("is_text", f_is_text) :: ("is_basket", f_is_basket) :: ("is_simple", f_is_simple) :: ("check_one", f_check_one) :: ("check_two", f_check_two) :: ("lies_in", f_lies_in) :: ("check_baskets", f_check_baskets) :: ("holds_some", f_holds_some) :: ("minimal", f_minimal) :: ("_law_mix", f_law_mix) :: ("_law_store", f_law_store) :: ("_law_take", f_law_take) :: ("_law_pick", f_law_pick) :: ("_law_between", f_law_between) :: ("_law_great", f_law_great) :: ("_law_signed", f_law_signed) :: ("_law_parted", f_law_parted) :: ("_law_atom", f_law_atom) :: ("_law_paper", f_law_paper) :: ("_law_badtuple", f_law_badtuple) :: ("_law_whole", f_law_whole) :: ("_law_same", f_law_same) :: ("_law_natural", f_law_natural) :: ("_law_fits", f_law_fits) :: ("_law_err", f_law_err) :: ("_law_least", f_law_least) :: ("_law_isbasket", f_law_isbasket) :: ("_law_baskets", f_law_baskets) :: ("_law_found", f_law_found) :: ("_law_good", f_law_good) :: ("_law_right", f02_law_right) :: ("_law_thing", f_law_thing) :: ("_law_simple", f_law_simple) :: ("law", f02_law) :: [],
  ("KINDS", .int 4) :: ("MANY", .int 1000000000000) :: [],
  ("TillError", .plain) :: ("BadKinds", .plain) :: ("NoSingle", .fld "kind") :: ("BadOffer", .fld "place") :: ("BadBasket", .plain) :: ("BadPlace", .plain) :: ("BadOrder", .plain) :: ("BadBill", .plain) :: ("BadPrices", .plain) :: ("BadStock", .fld "place") :: ("BadNumber", .plain) :: ("BadText", .fld "line") :: ("BadCoins", .plain) :: ("Unlike", .plain) :: ("NotOne", .plain) :: ("NothingToUndo", .plain) :: ("TooMany", .fld "limit") :: ("TooGreat", .fld "limit") :: [],
  ("BadBasket", "TillError", true) :: ("BadBasket", "BadKinds", false) :: ("BadBasket", "NoSingle", false) :: ("BadBasket", "BadOffer", false) :: ("BadBasket", "BadBasket", true) :: ("BadBasket", "BadPlace", false) :: ("BadBasket", "BadOrder", false) :: ("BadBasket", "BadBill", false) :: ("BadBasket", "BadPrices", false) :: ("BadBasket", "BadStock", false) :: ("BadBasket", "BadNumber", false) :: ("BadBasket", "BadText", false) :: ("BadBasket", "BadCoins", false) :: ("BadBasket", "Unlike", false) :: ("BadBasket", "NotOne", false) :: ("BadBasket", "NothingToUndo", false) :: ("BadBasket", "TooMany", false) :: ("BadBasket", "TooGreat", false) :: [],
  ("NoSingle", ⟨"kind", "kind", defArgs (metOf (top 5) "__init__"), defBody (metOf (top 5) "__init__"), defScope (metOf (top 5) "__init__")⟩) :: ("BadOffer", ⟨"place", "place", defArgs (metOf (top 6) "__init__"), defBody (metOf (top 6) "__init__"), defScope (metOf (top 6) "__init__")⟩) :: ("BadStock", ⟨"place", "place", defArgs (metOf (top 12) "__init__"), defBody (metOf (top 12) "__init__"), defScope (metOf (top 12) "__init__")⟩) :: ("BadText", ⟨"line", "line", defArgs (metOf (top 14) "__init__"), defBody (metOf (top 14) "__init__"), defScope (metOf (top 14) "__init__")⟩) :: ("TooMany", ⟨"limit", "limit", defArgs (metOf (top 19) "__init__"), defBody (metOf (top 19) "__init__"), defScope (metOf (top 19) "__init__")⟩) :: ("TooGreat", ⟨"limit", "limit", defArgs (metOf (top 20) "__init__"), defBody (metOf (top 20) "__init__"), defScope (metOf (top 20) "__init__")⟩) :: [],
  PySem.Challenge.pw_tillsorder_k02_least_of_a_list.main.file⟩
def d_is_whole : He.DefD := ⟨("is_whole", none), "is_whole", "is_whole", defArgs (top 21), defBody (top 21), defScope (top 21), [], []⟩
def d_is_whole_row : He.DefD := ⟨("is_whole_row", none), "is_whole_row", "is_whole_row", defArgs (top 22), defBody (top 22), defScope (top 22), [], []⟩
def d_is_text : He.DefD := ⟨("is_text", none), "is_text", "is_text", defArgs (top 23), defBody (top 23), defScope (top 23), [], []⟩
def d_is_basket : He.DefD := ⟨("is_basket", none), "is_basket", "is_basket", defArgs (top 25), defBody (top 25), defScope (top 25), [], []⟩
def d_is_simple : He.DefD := ⟨("is_simple", none), "is_simple", "is_simple", defArgs (top 26), defBody (top 26), defScope (top 26), [], []⟩
def d_check_one : He.DefD := ⟨("check_one", none), "check_one", "check_one", defArgs (top 27), defBody (top 27), defScope (top 27), [], []⟩
def d_check_two : He.DefD := ⟨("check_two", none), "check_two", "check_two", defArgs (top 28), defBody (top 28), defScope (top 28), [], []⟩
def d_lies_in : He.DefD := ⟨("lies_in", none), "lies_in", "lies_in", defArgs (top 29), defBody (top 29), defScope (top 29), [], []⟩
def d_check_baskets : He.DefD := ⟨("check_baskets", none), "check_baskets", "check_baskets", defArgs (top 30), defBody (top 30), defScope (top 30), [], []⟩
def d_holds_some : He.DefD := ⟨("holds_some", none), "holds_some", "holds_some", defArgs (top 31), defBody (top 31), defScope (top 31), [], []⟩
def d_minimal : He.DefD := ⟨("minimal", none), "minimal", "minimal", defArgs (top 32), defBody (top 32), defScope (top 32), [], []⟩
def d_law_mix : He.DefD := ⟨("_law_mix", none), "_law_mix", "_law_mix", defArgs (top 34), defBody (top 34), defScope (top 34), [], []⟩
def d_law_store : He.DefD := ⟨("_law_store", none), "_law_store", "_law_store", defArgs (top 35), defBody (top 35), defScope (top 35), [], []⟩
def d_law_take : He.DefD := ⟨("_law_take", none), "_law_take", "_law_take", defArgs (top 36), defBody (top 36), defScope (top 36), [], []⟩
def d_law_pick : He.DefD := ⟨("_law_pick", none), "_law_pick", "_law_pick", defArgs (top 37), defBody (top 37), defScope (top 37), [], []⟩
def d_law_between : He.DefD := ⟨("_law_between", none), "_law_between", "_law_between", defArgs (top 38), defBody (top 38), defScope (top 38), [], []⟩
def d_law_great : He.DefD := ⟨("_law_great", none), "_law_great", "_law_great", defArgs (top 39), defBody (top 39), defScope (top 39), [], []⟩
def d_law_signed : He.DefD := ⟨("_law_signed", none), "_law_signed", "_law_signed", defArgs (top 40), defBody (top 40), defScope (top 40), [], []⟩
def d_law_parted : He.DefD := ⟨("_law_parted", none), "_law_parted", "_law_parted", defArgs (top 41), defBody (top 41), defScope (top 41), [], []⟩
def d_law_atom : He.DefD := ⟨("_law_atom", none), "_law_atom", "_law_atom", defArgs (top 42), defBody (top 42), defScope (top 42), [], []⟩
def d_law_paper : He.DefD := ⟨("_law_paper", none), "_law_paper", "_law_paper", defArgs (top 43), defBody (top 43), defScope (top 43), [], []⟩
def d_law_badtuple : He.DefD := ⟨("_law_badtuple", none), "_law_badtuple", "_law_badtuple", defArgs (top 44), defBody (top 44), defScope (top 44), [], []⟩
def d_law_whole : He.DefD := ⟨("_law_whole", none), "_law_whole", "_law_whole", defArgs (top 45), defBody (top 45), defScope (top 45), [], []⟩
def d_law_same : He.DefD := ⟨("_law_same", none), "_law_same", "_law_same", defArgs (top 46), defBody (top 46), defScope (top 46), [], []⟩
def d_law_natural : He.DefD := ⟨("_law_natural", none), "_law_natural", "_law_natural", defArgs (top 47), defBody (top 47), defScope (top 47), [], []⟩
def d_law_fits : He.DefD := ⟨("_law_fits", none), "_law_fits", "_law_fits", defArgs (top 48), defBody (top 48), defScope (top 48), [], []⟩
def d_law_err : He.DefD := ⟨("_law_err", none), "_law_err", "_law_err", defArgs (top 49), defBody (top 49), defScope (top 49), [], []⟩
def d_law_least : He.DefD := ⟨("_law_least", none), "_law_least", "_law_least", defArgs (top 50), defBody (top 50), defScope (top 50), [], []⟩
def d_law_isbasket : He.DefD := ⟨("_law_isbasket", none), "_law_isbasket", "_law_isbasket", defArgs (top 51), defBody (top 51), defScope (top 51), [], []⟩
def d_law_baskets : He.DefD := ⟨("_law_baskets", none), "_law_baskets", "_law_baskets", defArgs (top 52), defBody (top 52), defScope (top 52), [], []⟩
def d_law_found : He.DefD := ⟨("_law_found", none), "_law_found", "_law_found", defArgs (top 53), defBody (top 53), defScope (top 53), [], []⟩
def d_law_good : He.DefD := ⟨("_law_good", none), "_law_good", "_law_good", defArgs (top 54), defBody (top 54), defScope (top 54), [], []⟩
def d_law_right : He.DefD := ⟨("_law_right", none), "_law_right", "_law_right", defArgs (top 55), defBody (top 55), defScope (top 55), [], []⟩
def d_law_thing : He.DefD := ⟨("_law_thing", none), "_law_thing", "_law_thing", defArgs (top 56), defBody (top 56), defScope (top 56), [], []⟩
def d_law_simple : He.DefD := ⟨("_law_simple", none), "_law_simple", "_law_simple", defArgs (top 57), defBody (top 57), defScope (top 57), [], []⟩
def d_law : He.DefD := ⟨("law", none), "law", "law", defArgs (top 58), defBody (top 58), defScope (top 58), [], []⟩
def ds : List He.DefD := d_is_whole :: d_is_whole_row :: d_is_text :: d_is_basket :: d_is_simple :: d_check_one :: d_check_two :: d_lies_in :: d_check_baskets :: d_holds_some :: d_minimal :: d_law_mix :: d_law_store :: d_law_take :: d_law_pick :: d_law_between :: d_law_great :: d_law_signed :: d_law_parted :: d_law_atom :: d_law_paper :: d_law_badtuple :: d_law_whole :: d_law_same :: d_law_natural :: d_law_fits :: d_law_err :: d_law_least :: d_law_isbasket :: d_law_baskets :: d_law_found :: d_law_good :: d_law_right :: d_law_thing :: d_law_simple :: d_law :: []
theorem s_is_whole : DefS "is_whole" f_is_whole d_is_whole := ⟨rfl, ["value"], 200, fun _ _ _ _ _ _ us hl => match us, hl with | [_], _ => rfl,
  ⟨rfl, rfl, rfl, by decide +kernel, rfl, by decide +kernel, by decide +kernel⟩, by decide +kernel, rfl, by kernel_rfl⟩
theorem s_is_whole_row : DefS "is_whole_row" f_is_whole_row d_is_whole_row := ⟨rfl, ["value", "length", "high", "number"], 200, fun _ _ _ _ _ _ us hl => match us, hl with | [_, _, _], _ => rfl,
  ⟨rfl, rfl, rfl, by decide +kernel, rfl, by decide +kernel, by decide +kernel⟩, by decide +kernel, rfl, by kernel_rfl⟩
theorem s_is_text : DefS "is_text" f_is_text d_is_text := ⟨rfl, ["value", "sign"], 200, fun _ _ _ _ _ _ us hl => match us, hl with | [_], _ => rfl,
  ⟨rfl, rfl, rfl, by decide +kernel, rfl, by decide +kernel, by decide +kernel⟩, by decide +kernel, rfl, by kernel_rfl⟩
theorem s_is_basket : DefS "is_basket" f_is_basket d_is_basket := ⟨rfl, ["value"], 200, fun _ _ _ _ _ _ us hl => match us, hl with | [_], _ => rfl,
  ⟨rfl, rfl, rfl, by decide +kernel, rfl, by decide +kernel, by decide +kernel⟩, by decide +kernel, rfl, by kernel_rfl⟩
theorem s_is_simple : DefS "is_simple" f_is_simple d_is_simple := ⟨rfl, ["value", "waiting", "item"], 200, fun _ _ _ _ _ _ us hl => match us, hl with | [_], _ => rfl,
  ⟨rfl, rfl, rfl, by decide +kernel, rfl, by decide +kernel, by decide +kernel⟩, by decide +kernel, rfl, by kernel_rfl⟩
theorem s_check_one : DefS "check_one" f_check_one d_check_one := ⟨rfl, ["x"], 200, fun _ _ _ _ _ _ us hl => match us, hl with | [_], _ => rfl,
  ⟨rfl, rfl, rfl, by decide +kernel, rfl, by decide +kernel, by decide +kernel⟩, by decide +kernel, rfl, by kernel_rfl⟩
theorem s_check_two : DefS "check_two" f_check_two d_check_two := ⟨rfl, ["x", "y"], 200, fun _ _ _ _ _ _ us hl => match us, hl with | [_, _], _ => rfl,
  ⟨rfl, rfl, rfl, by decide +kernel, rfl, by decide +kernel, by decide +kernel⟩, by decide +kernel, rfl, by kernel_rfl⟩
theorem s_lies_in : DefS "lies_in" f_lies_in d_lies_in := ⟨rfl, ["x", "y", "at", "number"], 200, fun _ _ _ _ _ _ us hl => match us, hl with | [_, _], _ => rfl,
  ⟨rfl, rfl, rfl, by decide +kernel, rfl, by decide +kernel, by decide +kernel⟩, by decide +kernel, rfl, by kernel_rfl⟩
theorem s_check_baskets : DefS "check_baskets" f_check_baskets d_check_baskets := ⟨rfl, ["baskets", "x"], 200, fun _ _ _ _ _ _ us hl => match us, hl with | [_], _ => rfl,
  ⟨rfl, rfl, rfl, by decide +kernel, rfl, by decide +kernel, by decide +kernel⟩, by decide +kernel, rfl, by kernel_rfl⟩
theorem s_holds_some : DefS "holds_some" f_holds_some d_holds_some := ⟨rfl, ["x", "baskets", "y"], 200, fun _ _ _ _ _ _ us hl => match us, hl with | [_, _], _ => rfl,
  ⟨rfl, rfl, rfl, by decide +kernel, rfl, by decide +kernel, by decide +kernel⟩, by decide +kernel, rfl, by kernel_rfl⟩
theorem s_minimal : DefS "minimal" f_minimal d_minimal := ⟨rfl, ["baskets", "kept", "x"], 200, fun _ _ _ _ _ _ us hl => match us, hl with | [_], _ => rfl,
  ⟨rfl, rfl, rfl, by decide +kernel, rfl, by decide +kernel, by decide +kernel⟩, by decide +kernel, rfl, by kernel_rfl⟩
theorem s_law_mix : DefS "_law_mix" f_law_mix d_law_mix := ⟨rfl, ["number", "turn", "step", "first", "second"], 200, fun _ _ _ _ _ _ us hl => match us, hl with | [_, _], _ => rfl,
  ⟨rfl, rfl, rfl, by decide +kernel, rfl, by decide +kernel, by decide +kernel⟩, by decide +kernel, rfl, by kernel_rfl⟩
theorem s_law_store : DefS "_law_store" f_law_store d_law_store := ⟨rfl, ["script", "store", "cell"], 200, fun _ _ _ _ _ _ us hl => match us, hl with | [_], _ => rfl,
  ⟨rfl, rfl, rfl, by decide +kernel, rfl, by decide +kernel, by decide +kernel⟩, by decide +kernel, rfl, by kernel_rfl⟩
theorem s_law_take : DefS "_law_take" f_law_take d_law_take := ⟨rfl, ["store", "many", "cell", "drawn", "reach", "k"], 200, fun _ _ _ _ _ _ us hl => match us, hl with | [_, _], _ => rfl,
  ⟨rfl, rfl, rfl, by decide +kernel, rfl, by decide +kernel, by decide +kernel⟩, by decide +kernel, rfl, by kernel_rfl⟩
theorem s_law_pick : DefS "_law_pick" f_law_pick d_law_pick := ⟨rfl, ["store", "row"], 200, fun _ _ _ _ _ _ us hl => match us, hl with | [_, _], _ => rfl,
  ⟨rfl, rfl, rfl, by decide +kernel, rfl, by decide +kernel, by decide +kernel⟩, by decide +kernel, rfl, by kernel_rfl⟩
theorem s_law_between : DefS "_law_between" f_law_between d_law_between := ⟨rfl, ["store", "low", "high", "way"], 200, fun _ _ _ _ _ _ us hl => match us, hl with | [_, _, _], _ => rfl,
  ⟨rfl, rfl, rfl, by decide +kernel, rfl, by decide +kernel, by decide +kernel⟩, by decide +kernel, rfl, by kernel_rfl⟩
theorem s_law_great : DefS "_law_great" f_law_great d_law_great := ⟨rfl, ["store", "high", "way", "reach", "k"], 200, fun _ _ _ _ _ _ us hl => match us, hl with | [_, _], _ => rfl,
  ⟨rfl, rfl, rfl, by decide +kernel, rfl, by decide +kernel, by decide +kernel⟩, by decide +kernel, rfl, by kernel_rfl⟩
theorem s_law_signed : DefS "_law_signed" f_law_signed d_law_signed := ⟨rfl, ["store", "high", "number"], 200, fun _ _ _ _ _ _ us hl => match us, hl with | [_, _], _ => rfl,
  ⟨rfl, rfl, rfl, by decide +kernel, rfl, by decide +kernel, by decide +kernel⟩, by decide +kernel, rfl, by kernel_rfl⟩
theorem s_law_parted : DefS "_law_parted" f_law_parted d_law_parted := ⟨rfl, ["store", "total", "k", "row", "spot", "left", "j", "at"], 200, fun _ _ _ _ _ _ us hl => match us, hl with | [_, _, _], _ => rfl,
  ⟨rfl, rfl, rfl, by decide +kernel, rfl, by decide +kernel, by decide +kernel⟩, by decide +kernel, rfl, by kernel_rfl⟩
theorem s_law_atom : DefS "_law_atom" f_law_atom d_law_atom := ⟨rfl, ["store", "way"], 200, fun _ _ _ _ _ _ us hl => match us, hl with | [_], _ => rfl,
  ⟨rfl, rfl, rfl, by decide +kernel, rfl, by decide +kernel, by decide +kernel⟩, by decide +kernel, rfl, by kernel_rfl⟩
theorem s_law_paper : DefS "_law_paper" f_law_paper d_law_paper := ⟨rfl, ["store", "items", "deep", "k", "spot"], 200, fun _ _ _ _ _ _ us hl => match us, hl with | [_], _ => rfl,
  ⟨rfl, rfl, rfl, by decide +kernel, rfl, by decide +kernel, by decide +kernel⟩, by decide +kernel, rfl, by kernel_rfl⟩
theorem s_law_badtuple : DefS "_law_badtuple" f_law_badtuple d_law_badtuple := ⟨rfl, ["store", "good", "low", "high", "way", "row", "spot"], 200, fun _ _ _ _ _ _ us hl => match us, hl with | [_, _, _, _], _ => rfl,
  ⟨rfl, rfl, rfl, by decide +kernel, rfl, by decide +kernel, by decide +kernel⟩, by decide +kernel, rfl, by kernel_rfl⟩
theorem s_law_whole : DefS "_law_whole" f_law_whole d_law_whole := ⟨rfl, ["thing"], 200, fun _ _ _ _ _ _ us hl => match us, hl with | [_], _ => rfl,
  ⟨rfl, rfl, rfl, by decide +kernel, rfl, by decide +kernel, by decide +kernel⟩, by decide +kernel, rfl, by kernel_rfl⟩
theorem s_law_same : DefS "_law_same" f_law_same d_law_same := ⟨rfl, ["answer", "due", "k"], 200, fun _ _ _ _ _ _ us hl => match us, hl with | [_, _], _ => rfl,
  ⟨rfl, rfl, rfl, by decide +kernel, rfl, by decide +kernel, by decide +kernel⟩, by decide +kernel, rfl, by kernel_rfl⟩
theorem s_law_natural : DefS "_law_natural" f_law_natural d_law_natural := ⟨rfl, ["thing", "n", "number"], 200, fun _ _ _ _ _ _ us hl => match us, hl with | [_, _], _ => rfl,
  ⟨rfl, rfl, rfl, by decide +kernel, rfl, by decide +kernel, by decide +kernel⟩, by decide +kernel, rfl, by kernel_rfl⟩
theorem s_law_fits : DefS "_law_fits" f_law_fits d_law_fits := ⟨rfl, ["small", "great", "j"], 200, fun _ _ _ _ _ _ us hl => match us, hl with | [_, _], _ => rfl,
  ⟨rfl, rfl, rfl, by decide +kernel, rfl, by decide +kernel, by decide +kernel⟩, by decide +kernel, rfl, by kernel_rfl⟩
theorem s_law_err : DefS "_law_err" f_law_err d_law_err := ⟨rfl, ["err", "names", "hits", "found", "name", "k"], 200, fun _ _ _ _ _ _ us hl => match us, hl with | [_], _ => rfl,
  ⟨rfl, rfl, rfl, by decide +kernel, rfl, by decide +kernel, by decide +kernel⟩, by decide +kernel, rfl, by kernel_rfl⟩
theorem s_law_least : DefS "_law_least" f_law_least d_law_least := ⟨rfl, ["items", "e"], 200, fun _ _ _ _ _ _ us hl => match us, hl with | [_], _ => rfl,
  ⟨rfl, rfl, rfl, by decide +kernel, rfl, by decide +kernel, by decide +kernel⟩, by decide +kernel, rfl, by kernel_rfl⟩
theorem s_law_isbasket : DefS "_law_isbasket" f_law_isbasket d_law_isbasket := ⟨rfl, ["thing", "one"], 200, fun _ _ _ _ _ _ us hl => match us, hl with | [_], _ => rfl,
  ⟨rfl, rfl, rfl, by decide +kernel, rfl, by decide +kernel, by decide +kernel⟩, by decide +kernel, rfl, by kernel_rfl⟩
theorem s_law_baskets : DefS "_law_baskets" f_law_baskets d_law_baskets := ⟨rfl, ["store", "k", "many", "rows", "level", "total", "at", "way", "row", "spot", "j"], 200, fun _ _ _ _ _ _ us hl => match us, hl with | [_, _, _], _ => rfl,
  ⟨rfl, rfl, rfl, by decide +kernel, rfl, by decide +kernel, by decide +kernel⟩, by decide +kernel, rfl, by kernel_rfl⟩
theorem s_law_found : DefS "_law_found" f_law_found d_law_found := ⟨rfl, ["told", "given", "at", "basket", "one"], 200, fun _ _ _ _ _ _ us hl => match us, hl with | [_, _], _ => rfl,
  ⟨rfl, rfl, rfl, by decide +kernel, rfl, by decide +kernel, by decide +kernel⟩, by decide +kernel, rfl, by kernel_rfl⟩
theorem s_law_good : DefS "_law_good" f_law_good d_law_good := ⟨rfl, ["items", "one"], 200, fun _ _ _ _ _ _ us hl => match us, hl with | [_], _ => rfl,
  ⟨rfl, rfl, rfl, by decide +kernel, rfl, by decide +kernel, by decide +kernel⟩, by decide +kernel, rfl, by kernel_rfl⟩
theorem s_law_right : DefS "_law_right" f02_law_right d_law_right := ⟨rfl, ["items", "told"], 200, fun _ _ _ _ _ _ us hl => match us, hl with | [_], _ => rfl,
  ⟨rfl, rfl, rfl, by decide +kernel, rfl, by decide +kernel, by decide +kernel⟩, by decide +kernel, rfl, by kernel_rfl⟩
theorem s_law_thing : DefS "_law_thing" f_law_thing d_law_thing := ⟨rfl, ["store", "way", "thing", "k", "many", "items", "spot"], 200, fun _ _ _ _ _ _ us hl => match us, hl with | [_], _ => rfl,
  ⟨rfl, rfl, rfl, by decide +kernel, rfl, by decide +kernel, by decide +kernel⟩, by decide +kernel, rfl, by kernel_rfl⟩
theorem s_law_simple : DefS "_law_simple" f_law_simple d_law_simple := ⟨rfl, ["thing", "left", "k", "part"], 200, fun _ _ _ _ _ _ us hl => match us, hl with | [_], _ => rfl,
  ⟨rfl, rfl, rfl, by decide +kernel, rfl, by decide +kernel, by decide +kernel⟩, by decide +kernel, rfl, by kernel_rfl⟩
theorem s_law : DefS "law" f02_law d_law := ⟨rfl, ["script", "store", "k", "size", "many", "given", "thing", "fresh", "spot", "bad", "items", "short", "wrong", "one", "j"], 200, fun _ _ _ _ _ _ us hl => match us, hl with | [_], _ => rfl,
  ⟨rfl, rfl, rfl, by decide +kernel, rfl, by decide +kernel, by decide +kernel⟩, by decide +kernel, rfl, by kernel_rfl⟩
theorem stat : Paired (fun (q : Str × PI.Fn) d => DefS q.1 q.2 d) T.fns ds :=
  .cons s_is_whole (.cons s_is_whole_row (.cons s_is_text (.cons s_is_basket (.cons s_is_simple (.cons s_check_one (.cons s_check_two (.cons s_lies_in (.cons s_check_baskets (.cons s_holds_some (.cons s_minimal (.cons s_law_mix (.cons s_law_store (.cons s_law_take (.cons s_law_pick (.cons s_law_between (.cons s_law_great (.cons s_law_signed (.cons s_law_parted (.cons s_law_atom (.cons s_law_paper (.cons s_law_badtuple (.cons s_law_whole (.cons s_law_same (.cons s_law_natural (.cons s_law_fits (.cons s_law_err (.cons s_law_least (.cons s_law_isbasket (.cons s_law_baskets (.cons s_law_found (.cons s_law_good (.cons s_law_right (.cons s_law_thing (.cons s_law_simple (.cons s_law (.nil))))))))))))))))))))))))))))))))))))
theorem okT : T.Ok (PySem.Challenge.rw_tillsorder_k02_least_of_a_list).prog where
  file := rfl
  top := by decide +kernel
  sup := by
    intro q hq
    have hq : q ∈ T.inis := hq
    unfold T at hq
    simp only [List.mem_cons, List.not_mem_nil, or_false] at hq
    rcases hq with rfl | rfl | rfl | rfl | rfl | rfl
    all_goals exact ⟨⟨_, _, _, _, _, _, _, _, _, _, _, _, _, _, rfl, rfl, by decide +kernel, fun env => ⟨_, rfl⟩⟩, ⟨_, rfl, rfl⟩, fun _ _ _ _ _ _ _ _ _ _ => rfl, rfl, rfl, rfl, by decide +kernel, by decide +kernel, by decide +kernel, by decide +kernel, by decide +kernel, by decide +kernel, by decide +kernel, ⟨by decide +kernel, by decide +kernel⟩⟩
end K02

set_option Elab.async false
set_option linter.all false
set_option maxRecDepth 100000
set_option maxHeartbeats 0
namespace K02
open PySem PySem.Spec PyProof.Rows L2 PSd TF
abbrev R : PySem.W.OpenRow := PySem.W.OpenLaw.row PySem.Challenge.rw_tillsorder_k02_least_of_a_list
abbrev hk : PySem.W.Hook := T.hook 5 ds
def ob (s : PySem.W.SharedT) : AlI := T.obs 5 ds (HandSHeadRun.getT s)
theorem ob_eq (s : PySem.W.SharedT) : ob s = hk.obs s.abs := Tab.obs_eq s
def loose : List Str := "KINDS" :: "MANY" :: "TillError" :: "BadKinds" :: "NoSingle" :: "BadOffer" :: "BadBasket" :: "BadPlace" :: "BadOrder" :: "BadBill" :: "BadPrices" :: "BadStock" :: "BadNumber" :: "BadText" :: "BadCoins" :: "Unlike" :: "NotOne" :: "NothingToUndo" :: "TooMany" :: "TooGreat" :: "is_whole" :: "is_whole_row" :: "is_text" :: "is_basket" :: "is_simple" :: "check_one" :: "check_two" :: "lies_in" :: "check_baskets" :: "holds_some" :: "minimal" :: "_law_mix" :: "_law_store" :: "_law_take" :: "_law_pick" :: "_law_between" :: "_law_great" :: "_law_signed" :: "_law_parted" :: "_law_atom" :: "_law_paper" :: "_law_badtuple" :: "_law_whole" :: "_law_same" :: "_law_natural" :: "_law_fits" :: "_law_err" :: "_law_least" :: "_law_isbasket" :: "_law_baskets" :: "_law_found" :: "_law_good" :: "_law_right" :: "_law_thing" :: "_law_simple" :: []
theorem run (w : World) : HandSHeadRun.RunEq R (PySem.W.view R.prog [58]) hk ob 8000 loose w := by
  intro os
  kernel_rfl
end K02

set_option linter.all false
namespace TF
open PySem (Str)
open PI
section
variable {P : Prog} {n : Nat} {h : Bool} {s : S} {Q : K1} {E : KX}
/-- a call into its body -/
theorem call_go {fn : Fn} {f : Str} {as : List Sl} (hf : P.fn f = some fn) (hl : as.length = fn.ps.length) (hb : wpB ⟨P, wpCall P n, h⟩ fn.body (as ++ List.replicate (fn.ns - fn.ps.length) .no) s
    { nx := fun _ s1 => Q .non s1, rt := Q, bk := fun _ _ => False, ct := fun _ _ => False, ex := fun c fs _ s1 => E c fs s1 }) : wpCall P (n + 1) h f as s Q E := by
  unfold wpCall
  rw [hf]
  exact ⟨hl, hb⟩
end
theorem forW_inv {chk : S → Prop} {turn : D → Env → S → (Env → S → Prop) → Prop} {fin : Env → S → Prop} (I : List D → Env → S → Prop) (h1 : ∀ l ρ s, I l ρ s → chk s)
    (h2 : ∀ d l ρ s (nx : Env → S → Prop), I (d :: l) ρ s → (∀ ρ' s', I l ρ' s' → nx ρ' s') → turn d ρ s nx) (h3 : ∀ ρ s, I [] ρ s → fin ρ s) : ∀ (l : List D) (ρ : Env) (s : S), I l ρ s → forW chk turn fin l ρ s
  | [], ρ, s, h => ⟨h1 _ _ _ h, h3 _ _ h⟩
  | d :: l, ρ, s, h => ⟨h1 _ _ _ h, h2 d l ρ s _ h fun ρ' s' h' => forW_inv I h1 h2 h3 l ρ' s' h'⟩
theorem compW_inv {chk : S → Prop} {turn : D → S → (Option D → S → Prop) → Prop} {fin : List D → S → Prop} (I : List D → List D → S → Prop) (h1 : ∀ l acc s, I l acc s → chk s)
    (h2 : ∀ d l acc s (nx : Option D → S → Prop), I (d :: l) acc s → (∀ o s', I l (acc ++ o.toList) s' → nx o s') → turn d s nx) (h3 : ∀ acc s, I [] acc s → fin acc s) : ∀ (l acc : List D) (s : S), I l acc s → compW chk turn fin l acc s
  | [], acc, s, h => ⟨h1 _ _ _ h, h3 _ _ h⟩
  | d :: l, acc, s, h => ⟨h1 _ _ _ h, h2 d l acc s _ h fun o s' h' => compW_inv I h1 h2 h3 l (acc ++ o.toList) s' h'⟩
/-- one statement, then the rest from J -/
theorem cut_go {C : Cx} (M : Mono C) {P : Prog} {cl h} (hC : C = ⟨P, cl, h⟩) {t : PI.St} {r : List PI.St} {ρ : Env} {s : S} {D : Pst} (J : Env → S → Prop) (h1 : wpS C t ρ s { D with nx := J }) (h2 : ∀ ρ' s', J ρ' s' → wpB C r ρ' s' D) : wpB C (t :: r) ρ s D := by
  subst hC
  unfold wpB
  have le : Pst.Le { D with nx := J } { D with nx := fun ρ1 s1 => wpB ⟨P, cl, h⟩ r ρ1 s1 D } := ⟨h2, fun _ _ h => h, fun _ _ h => h, fun _ _ h => h, fun _ _ _ _ h => h⟩
  exact wpS_mono cl P (fun _ => ⟨M.call⟩) t le h1
theorem cutP {P : Prog} {n : Nat} {h : Bool} {t : PI.St} {r : List PI.St} {ρ : Env} {s : S} {D : Pst} (J : Env → S → Prop) (h1 : wpS ⟨P, wpCall P n, h⟩ t ρ s { D with nx := J }) (h2 : ∀ ρ' s', J ρ' s' → wpB ⟨P, wpCall P n, h⟩ r ρ' s' D) : wpB ⟨P, wpCall P n, h⟩ (t :: r) ρ s D :=
  cut_go (mono_call P n h) rfl J h1 h2
theorem ix5 (n : Nat) : ixN (n + 1 + 1 + 1 + 1 + 1) 0 = some 0 ∧ ixN (n + 1 + 1 + 1 + 1 + 1) 1 = some 1 ∧ ixN (n + 1 + 1 + 1 + 1 + 1) 2 = some 2 ∧ ixN (n + 1 + 1 + 1 + 1 + 1) 3 = some 3 ∧ ixN (n + 1 + 1 + 1 + 1 + 1) 4 = some 4 := by
  unfold ixN
  refine ⟨?_, ?_, ?_, ?_, ?_⟩ <;> (rw [if_pos (by decide), if_pos (by omega)]; rfl)
theorem ints_get (ns : List Int) {a : Int} (h : 0 ≤ a) (hl : a < (ns.length : Int)) : ∃ v : Int, (ixN (ns.map D.int).length a).bind (fun j => (ns.map D.int)[j]?) = some (.int v) := by
  have hn : a.toNat < ns.length := by omega
  refine ⟨ns[a.toNat], ?_⟩
  unfold ixN
  rw [if_pos h, if_pos (by simpa using hl)]
  simp [hn]
/-! ### side conditions -/
theorem mul_r {a b : Int} (h : b.natAbs < 2 ^ 64) : MulOk a b := .inr h
theorem mul_l {a b : Int} (h : a.natAbs < 2 ^ 64) : MulOk a b := .inl h
theorem mul_mod {x c y : Int} (h : 0 < c) (h2 : c < 2 ^ 63) : MulOk (x % c) y := .inl (by
  have := Int.emod_nonneg x (by omega : c ≠ 0)
  have := Int.emod_lt_of_pos x h
  omega)
theorem div_k {b : Int} (h : 0 < b) (h2 : b < 2 ^ 200) : DivOk b := ⟨h, by
  have e : b.natAbs < 2 ^ 200 := by omega
  exact Nat.lt_of_lt_of_le e (Nat.pow_le_pow_right (by decide) (by decide))⟩
theorem pow_k {a b : Int} (h : 0 ≤ b ∧ b ≤ 1000) (h2 : a.natAbs < 2 ^ 256) : PowOk a b := ⟨h.1, h.2, h2⟩
/-! ### the store of draws -/
/-- a list of draws: at least five ints -/
def StOk (l : List D) : Prop := ∃ (a b c d e : Int) (t : List Int), l = (a :: b :: c :: d :: e :: t).map .int ∧ 5 ≤ a ∧ 0 ≤ b ∧ t.length ≤ 63
mutual
/-- all lists that the value names are below m -/
def okD (m : Nat) : D → Prop
  | .ref k => k < m
  | .tup l => okDs m l
  | .fls l => okDs m l
  | _ => True
def okDs (m : Nat) : List D → Prop
  | [] => True
  | d :: r => okD m d ∧ okDs m r
end
def obL : Ob → List D
  | .lst l => l
/-- the store s: the draws stand at k -/
structure St (k : Nat) (s : S) : Prop where
  st : ∃ l, lstAt s k = some l ∧ StOk l
  ok : ∀ o ∈ s, okDs s.length (obL o)
/-- s' comes behind s: nothing but the draws at k is changed -/
structure Le (k : Nat) (s s' : S) : Prop where
  len : s.length ≤ s'.length
  at_ : ∀ j, j < s.length → j ≠ k → s'[j]? = s[j]?
theorem Le.refl (k : Nat) (s : S) : Le k s s := ⟨Nat.le_refl _, fun _ _ _ => rfl⟩
theorem Le.trans {k : Nat} {s t u : S} (a : Le k s t) (b : Le k t u) : Le k s u := ⟨Nat.le_trans a.len b.len, fun j h1 h2 => (b.at_ j (Nat.lt_of_lt_of_le h1 a.len) h2).trans (a.at_ j h1 h2)⟩
theorem lstAt_lt {s : S} {k : Nat} {l : List D} (h : lstAt s k = some l) : k < s.length := by
  unfold lstAt at h
  cases q : s[k]? with
  | none => rw [q] at h; cases h
  | some o => exact (List.getElem?_eq_some_iff.mp q).1
theorem lstAt_some {s : S} {k : Nat} (h : k < s.length) : ∃ l, lstAt s k = some l := by
  unfold lstAt
  rw [List.getElem?_eq_getElem h]
  cases s[k] with
  | lst l => exact ⟨l, rfl⟩
theorem lstAt_set {s : S} {k : Nat} {l : List D} (h : k < s.length) : lstAt (s.set k (.lst l)) k = some l := by
  unfold lstAt
  rw [List.getElem?_set_self h]
theorem lstAt_set_ne {s : S} {k j : Nat} {l : List D} (h : k ≠ j) : lstAt (s.set k (.lst l)) j = lstAt s j := by
  unfold lstAt
  rw [List.getElem?_set_ne h]
theorem lstAt_new {s : S} {l : List D} : lstAt (s ++ [.lst l]) s.length = some l := by
  unfold lstAt
  rw [List.getElem?_append_right (Nat.le_refl _)]
  simp
theorem lstAt_app {s : S} {l : List D} {k : Nat} (h : k < s.length) : lstAt (s ++ [.lst l]) k = lstAt s k := by
  unfold lstAt
  rw [List.getElem?_append_left h]
theorem Le.lst {k : Nat} {s t : S} (h : Le k s t) {j : Nat} {l : List D} (e : lstAt s j = some l) (n : j ≠ k) : lstAt t j = some l := by
  unfold lstAt at e ⊢
  rw [h.at_ j (lstAt_lt (by unfold lstAt; exact e)) n]
  exact e
mutual
theorem okD.mono {m m' : Nat} (h : m ≤ m') : ∀ (d : D), okD m d → okD m' d
  | .non, _ => trivial
  | .bl _, _ => trivial
  | .int _, _ => trivial
  | .str _, _ => trivial
  | .ref k, q => Nat.lt_of_lt_of_le q h
  | .tup l, q => okDs.mono h l q
  | .fls l, q => okDs.mono h l q
theorem okDs.mono {m m' : Nat} (h : m ≤ m') : ∀ (l : List D), okDs m l → okDs m' l
  | [], _ => trivial
  | d :: r, q => ⟨okD.mono h d q.1, okDs.mono h r q.2⟩
end
theorem okDs_ints (m : Nat) : ∀ (l : List Int), okDs m (l.map .int)
  | [] => trivial
  | _ :: r => ⟨trivial, okDs_ints m r⟩
theorem okDs_app {m : Nat} : ∀ {l r : List D}, okDs m l → okDs m r → okDs m (l ++ r)
  | [], _, _, h => h
  | _ :: _, _, h, g => ⟨h.1, okDs_app h.2 g⟩
theorem okDs_mem {m : Nat} : ∀ {l : List D} {d : D}, okDs m l → d ∈ l → okD m d
  | _ :: _, d, h, q => by
    rcases List.mem_cons.mp q with e | e
    · rw [e]; exact h.1
    · exact okDs_mem h.2 e
theorem okDs_all {m : Nat} : ∀ {l : List D}, (∀ d ∈ l, okD m d) → okDs m l
  | [], _ => trivial
  | d :: r, h => ⟨h d (by simp), okDs_all fun d' q => h d' (by simp [q])⟩
theorem StOk.ok {l : List D} (h : StOk l) (m : Nat) : okDs m l := by
  obtain ⟨a, b, c, d, e, t, rfl, _⟩ := h
  exact okDs_ints m _
theorem St.lt {k : Nat} {s : S} (h : St k s) : k < s.length := by
  obtain ⟨l, e, _⟩ := h.st
  exact lstAt_lt e
/-- the draws are written -/
theorem St.put {k : Nat} {s : S} {l : List D} (h : St k s) (q : StOk l) : St k (s.set k (.lst l)) ∧ Le k s (s.set k (.lst l)) := by
  refine ⟨⟨⟨l, lstAt_set h.lt, q⟩, fun o ho => ?_⟩, ⟨by simp, fun j h1 h2 => List.getElem?_set_ne (Ne.symm h2)⟩⟩
  rw [List.length_set]
  rcases List.mem_or_eq_of_mem_set ho with z | z
  · exact h.ok o z
  · rw [z]; exact q.ok _
/-- a new list -/
theorem St.new {k : Nat} {s : S} {l : List D} (h : St k s) (q : okDs s.length l) : St k (s ++ [.lst l]) ∧ Le k s (s ++ [.lst l]) := by
  obtain ⟨l0, e, q0⟩ := h.st
  refine ⟨⟨⟨l0, (lstAt_app h.lt).trans e, q0⟩, fun o ho => ?_⟩, ⟨by simp, fun j h1 _ => List.getElem?_append_left h1⟩⟩
  have hm : s.length ≤ (s ++ [Ob.lst l]).length := by simp
  rcases List.mem_append.mp ho with z | z
  · exact okDs.mono hm _ (h.ok o z)
  · obtain rfl : o = .lst l := by simpa using z
    exact okDs.mono hm _ q
theorem St.ofOk {k : Nat} {s : S} {j : Nat} {l : List D} (h : St k s) (e : lstAt s j = some l) : okDs s.length l := by
  unfold lstAt at e
  cases q : s[j]? with
  | none => rw [q] at e; cases e
  | some o =>
    cases o with
    | lst m =>
      rw [q] at e
      obtain rfl : m = l := Option.some.inj e
      exact h.ok _ (List.mem_of_getElem? q)
end TF

set_option linter.all false
set_option maxRecDepth 10000
namespace TF
open PySem (Str)
open PI
variable {P : Prog} {n : Nat} {h : Bool} {s : S} {Q : K1} {E : KX} {k : Nat}
theorem law_mix (hf : P.fn "_law_mix" = some f_law_mix) (a b : Int) (q : ∀ r : Int, 0 ≤ r → r < 2147483587 → Q (.int r) s) : wpCall P (n + 1) h "_law_mix" [.val (.int a), .val (.int b)] s Q E := by
  refine call_go hf rfl ?_
  show wpB _ _ [.val (.int a), .val (.int b), .no, .no, .no] _ _
  simp only [f_law_mix, wpB, wpS, wpE, cstD, binD, intD, addD, asgT, Tg.one, List.getElem?_cons_zero, List.getElem?_cons_succ, List.set_cons_zero, List.set_cons_succ, implies_true, true_and]
  exact ⟨by decide, by decide, mul_r (by decide), mul_r (by decide), by decide, mul_mod (by decide) (by decide), div_k (by decide) (by decide), mul_r (by decide), mul_r (by decide), by decide, mul_mod (by decide) (by decide), div_k (by decide) (by decide), mul_r (by decide), by decide,
    q _ (Int.emod_nonneg _ (by decide)) (Int.emod_lt_of_pos _ (by decide))⟩
theorem cut_take (xs : List D) (m : Nat) : cutL xs none (some (m : Int)) = xs.take m := by
  unfold cutL sIx
  simp only [List.drop_zero, Nat.sub_zero]
  rw [if_neg (by omega)]
  by_cases h : m ≤ xs.length
  · rw [Nat.min_eq_left (by simpa using h)]; rfl
  · rw [Nat.min_eq_right (by simp; omega), List.take_length, List.take_of_length_le (by omega)]
theorem law_store (hf : P.fn "_law_store" = some f_law_store) (ns : List Int) (q : ∀ s' k, St k s' → Q (.ref k) s') : wpCall P (n + 1) false "_law_store" [.val (.fls (ns.map .int))] [] Q E := by
  refine call_go hf rfl ?_
  show wpB _ _ [.val (.fls (ns.map .int)), .no, .no] _ _
  simp only [f_law_store, wpB, wpS, wpE, wpQ, wpI, wpL, wpO, srcD, cstD, binD, intD, addD, asgT, Tg.one, List.getElem?_cons_zero, List.getElem?_cons_succ, List.set_cons_zero, List.set_cons_succ, implies_true, true_and]
  refine ⟨by decide, fun h => absurd h (by decide), trivial, ?_⟩
  refine forW_inv (fun l ρ s => ∃ (x : Sl) (t ns' : List Int), ρ = [Sl.val (.fls (ns.map .int)), .val (.ref 0), x] ∧ s = [Ob.lst ((5 :: 0 :: 0 :: 0 :: 314159 :: t).map .int)] ∧ l = ns'.map D.int ∧ t.length + ns'.length ≤ 63) (fun _ _ _ _ => trivial) ?_ ?_ _ _ _ ?_
  · rintro d l ρ s nx ⟨x, t, ns', rfl, rfl, e, hl⟩ hn
    cases ns' with
    | nil => cases e
    | cons m ns' =>
      cases e
      have key : ∀ y : Int, nx [Sl.val (.fls (ns.map .int)), .val (.ref 0), .val (.int m)] [Ob.lst ((5 :: 0 :: 0 :: 0 :: 314159 :: t).map .int ++ [.int y])] := fun y => by
        refine hn _ _ ⟨_, t ++ [y], ns', rfl, ?_, rfl, ?_⟩
        · simp
        · simp at hl ⊢; omega
      have ln : ((5 :: 0 :: 0 :: 0 :: 314159 :: t).map D.int).length < line := by simp at hl ⊢; unfold line; omega
      simp only [wpT, wpE, cstD, binD, intD, addD, cmpD, ordD, ltD, gtD, truD, lstAt, List.getElem?_cons_zero, List.getElem?_cons_succ, List.set_cons_zero, List.set_cons_succ]
      refine ⟨pow_k (by decide) (by decide), ?_⟩
      split
      · exact ⟨pow_k (by decide) (by decide), pow_k (by decide) (by decide), pow_k (by decide) (by decide), pow_k (by decide) (by decide), by decide, ln, key _⟩
      · exact ⟨by decide, ln, key _⟩
  · rintro ρ s ⟨x, t, ns', rfl, rfl, e, hl⟩
    refine q _ 0 ⟨⟨_, rfl, 5, 0, 0, 0, 314159, t, rfl, by decide, by decide, by omega⟩, fun o ho => ?_⟩
    obtain rfl : o = Ob.lst ((5 :: 0 :: 0 :: 0 :: 314159 :: t).map .int) := by simpa using ho
    exact okDs_ints _ _
  · refine ⟨.no, [], ns.take 63, rfl, rfl, ?_, by simp; omega⟩
    show cutL (ns.map D.int) none (some 63) = _
    exact (cut_take (ns.map D.int) 63).trans (by rw [List.map_take])
/-- what a draw leaves: a value, the draws written -/
def Dr (k : Nat) (s : S) (Q : K1) (R : Int → Prop) : Prop := ∀ r s', St k s' → Le k s s' → R r → Q (.int r) s'
theorem law_take (hm : P.fn "_law_mix" = some f_law_mix) (hf : P.fn "_law_take" = some f_law_take) (st : St k s) {m : Int} (hb : m < 2 ^ 200) (q : ∀ r s', St k s' → Le k s s' → 0 ≤ r → (m < 2 → r = 0) → (2 ≤ m → r < m) → Q (.int r) s') : wpCall P (n + 2) h "_law_take" [.val (.ref k), .val (.int m)] s Q E := by
  refine call_go hf rfl ?_
  show wpB _ _ [.val (.ref k), .val (.int m), .no, .no, .no, .no] _ _
  obtain ⟨l, hl, a, b, c, d, e, t, rfl, ha, hb0, ht⟩ := st.st
  have hk := st.lt
  unfold f_law_take
  refine cutP (fun ρ' s' => 2 ≤ m ∧ ρ' = [.val (.ref k), .val (.int m), .no, .no, .no, .no] ∧ s' = s) ?_ ?_
  · simp only [wpB, wpS, wpE, wpT, cstD, cmpD, ordD, ltD, gtD, truD, List.getElem?_cons_zero, List.getElem?_cons_succ, decide_eq_true_eq]
    split
    · rename_i h2
      exact q 0 s st (Le.refl _ _) (by omega) (fun _ => rfl) (fun z => by omega)
    · rename_i h2
      exact ⟨by omega, trivial, trivial⟩
  rintro _ s0 ⟨h2, rfl, e0⟩
  subst e0
  have L : ∀ l : List D, lstAt (s0.set k (.lst l)) k = some l := fun l => lstAt_set hk
  refine cutP (fun ρ' s' => ρ' = [.val (.ref k), .val (.int m), .no, .no, .no, .no] ∧ s' = s0.set k (.lst ((a :: b :: c :: (d + 1) :: e :: t).map .int))) ?_ ?_
  · simp only [wpB, wpS, wpE, cstD, binD, addD, subD, itemsD, List.getElem?_cons_zero, List.getElem?_cons_succ, List.set_cons_zero, List.set_cons_succ, hl, List.map_cons, List.length_cons, ix5, Option.bind_some, and_self]
  rintro _ _ ⟨rfl, rfl⟩
  refine cutP (fun ρ' s' => ∃ x a' b' c' e', 5 ≤ a' ∧ 0 ≤ b' ∧ ρ' = [.val (.ref k), .val (.int m), x, .no, .no, .no] ∧ s' = s0.set k (.lst ((a' :: b' :: c' :: (d + 1) :: e' :: t).map .int))) ?_ ?_
  · simp only [wpB, wpS, wpE, wpT, cstD, binD, addD, subD, itemsD, lenD, cmpD, eqqD, ordD, ltD, gtD, truD, List.getElem?_cons_zero, List.getElem?_cons_succ, L, List.map_cons, List.length_cons, ix5, Option.bind_some, Option.map_some, decide_eq_true_eq]
    have stay : ∃ x a' b' c' e', 5 ≤ a' ∧ 0 ≤ b' ∧ [Sl.val (.ref k), .val (.int m), .no, .no, .no, .no] = [.val (.ref k), .val (.int m), x, .no, .no, .no] ∧ s0.set k (.lst ((a :: b :: c :: (d + 1) :: e :: t).map D.int)) = s0.set k (.lst ((a' :: b' :: c' :: (d + 1) :: e' :: t).map .int)) := ⟨_, a, b, c, e, ha, hb0, rfl, rfl⟩
    simp only [List.map_cons] at stay
    split
    · split
      · split
        · rename_i h1 h2' h3
          obtain ⟨v, hv⟩ := ints_get (a :: b :: c :: (d + 1) :: e :: t) (a := a) (by omega) (by simpa using h3)
          simp only [List.map_cons, List.length_cons] at hv
          simp only [hv, asgT, Tg.one, implies_true, true_and, wpA, wpX, wpE, cstD, binD, addD, intD, subD, itemsD, List.getElem?_cons_zero, List.getElem?_cons_succ, List.set_cons_zero, List.set_cons_succ, L, List.length_cons, ix5, Option.bind_some, hm, Option.isSome_some, List.set_set]
          refine law_mix hm _ _ fun r _ _ => ?_
          simp only [L, List.length_cons, ix5, List.set_cons_zero, List.set_cons_succ, List.set_set]
          refine ⟨pow_k (by decide) (by decide), ?_⟩
          split
          · rename_i hv18
            exact ⟨_, a + 1, v, _, _, by omega, Int.le_trans (by decide) hv18, rfl, rfl⟩
          · exact ⟨_, a + 1, _, _, _, by omega, hb0, rfl, rfl⟩
        · exact stay
      · exact stay
    · exact stay
  rintro _ _ ⟨x, a', b', c', e', ha', hb', rfl, rfl⟩
  refine cutP (fun ρ' s' => ρ' = [.val (.ref k), .val (.int m), x, .no, .no, .no] ∧ s' = s0.set k (.lst ((a' :: b' :: c' :: (d + 1) :: e' :: t).map .int))) ?_ ?_
  · simp only [wpB, wpS, wpE, wpT, cstD, binD, intD, subD, itemsD, cmpD, ordD, ltD, gtD, truD, asgT, Tg.one, List.getElem?_cons_zero, List.getElem?_cons_succ, List.set_cons_zero, List.set_cons_succ, L, List.map_cons, List.length_cons, ix5, Option.bind_some, decide_eq_true_eq, implies_true, true_and, and_self, List.set_set]
    split
    · refine ⟨by omega, div_k (by omega) hb, ?_⟩
      have := st.put (l := (a' :: b' / m :: c' :: (d + 1) :: e' :: t).map .int) ⟨_, _, _, _, _, t, rfl, ha', Int.ediv_nonneg hb' (by omega), ht⟩
      exact q _ _ this.1 this.2 (Int.emod_nonneg _ (by omega)) (fun z => by omega) (fun z => Int.emod_lt_of_pos _ (by omega))
    · trivial
  rintro _ _ ⟨rfl, rfl⟩
  refine cutP (fun ρ' s' => ∃ c', ρ' = [.val (.ref k), .val (.int m), x, .no, .no, .no] ∧ s' = s0.set k (.lst ((a' :: b' :: c' :: (d + 1) :: e' :: t).map .int))) ?_ ?_
  · simp only [wpB, wpS, wpE, wpT, cstD, binD, intD, subD, itemsD, cmpD, ordD, ltD, gtD, truD, asgT, Tg.one, List.getElem?_cons_zero, List.getElem?_cons_succ, List.set_cons_zero, List.set_cons_succ, L, List.map_cons, List.length_cons, ix5, Option.bind_some, decide_eq_true_eq, implies_true, true_and, and_self, List.set_set]
    split
    · exact ⟨_, rfl⟩
    · exact ⟨_, rfl⟩
  rintro _ _ ⟨c2, rfl, rfl⟩
  refine cutP (fun ρ' s' => ∃ y : Int, ρ' = [.val (.ref k), .val (.int m), x, .val (.int y), .no, .no] ∧ s' = s0.set k (.lst ((a' :: b' :: c2 :: (d + 1) :: e' :: t).map .int))) ?_ ?_
  · simp only [wpB, wpS, wpE, wpA, wpX, cstD, subD, itemsD, asgT, Tg.one, List.getElem?_cons_zero, List.getElem?_cons_succ, List.set_cons_zero, List.set_cons_succ, L, List.map_cons, List.length_cons, ix5, Option.bind_some, implies_true, true_and, hm, Option.isSome_some]
    exact law_mix hm _ _ fun r _ _ => ⟨r, rfl, rfl⟩
  rintro _ _ ⟨y, rfl, rfl⟩
  refine cutP (fun ρ' s' => ρ' = [.val (.ref k), .val (.int m), x, .val (.int y), .val (.int 2147483587), .no] ∧ s' = s0.set k (.lst ((a' :: b' :: c2 :: (d + 1) :: e' :: t).map .int))) ?_ ?_
  · simp only [wpS, wpE, cstD, asgT, Tg.one, List.set_cons_zero, List.set_cons_succ, implies_true, true_and, and_self]
  rintro _ _ ⟨rfl, rfl⟩
  refine cutP (fun ρ' s' => ∃ (y z : Int) (x5 : Sl), ρ' = [.val (.ref k), .val (.int m), x, .val (.int y), .val (.int z), x5] ∧ s' = s0.set k (.lst ((a' :: b' :: c2 :: (d + 1) :: e' :: t).map .int))) ?_ ?_
  · simp only [wpS, wpE, wpI, cstD]
    refine ⟨fun _ => ⟨rfl, rfl⟩, by decide, by decide, ?_⟩
    refine forW_inv (fun l ρ' s' => (∃ ns : List Int, l = ns.map .int) ∧ ∃ (y z : Int) (x5 : Sl), ρ' = [.val (.ref k), .val (.int m), x, .val (.int y), .val (.int z), x5] ∧ s' = s0.set k (.lst ((a' :: b' :: c2 :: (d + 1) :: e' :: t).map .int))) (fun _ _ _ _ => trivial) ?_ ?_ _ _ _ ?_
    · rintro dd l ρ s nx ⟨⟨ns, e1⟩, y, z, x5, rfl, rfl⟩ hn
      cases ns with
      | nil => cases e1
      | cons j ns =>
        cases e1
        simp only [wpB, wpS, wpE, wpT, wpA, wpX, cstD, binD, intD, addD, subD, itemsD, cmpD, ordD, ltD, gtD, truD, asgT, Tg.one, List.getElem?_cons_zero, List.getElem?_cons_succ, List.set_cons_zero, List.set_cons_succ, L, List.map_cons, List.length_cons, ix5, Option.bind_some, decide_eq_true_eq, implies_true, true_and, hm, Option.isSome_some]
        split
        · exact ⟨y, z, _, rfl, trivial⟩
        · refine ⟨mul_r (by decide), law_mix hm _ _ fun r _ _ => ⟨mul_r (by decide), hn _ _ ⟨⟨ns, rfl⟩, _, _, _, rfl, rfl⟩⟩⟩
    · rintro ρ s ⟨_, h⟩
      exact h
    · exact ⟨⟨(List.range 9).map fun i : Nat => (0 + (i : Int)), by unfold rangeD; rw [List.map_map]; rfl⟩, y, 2147483587, .no, rfl, rfl⟩
  rintro _ _ ⟨y, z, x5, rfl, rfl⟩
  simp only [wpB, wpS, wpE, binD, intD, List.getElem?_cons_zero, List.getElem?_cons_succ]
  have := st.put (l := (a' :: b' :: c2 :: (d + 1) :: e' :: t).map .int) ⟨_, _, _, _, _, t, rfl, ha', hb', ht⟩
  exact ⟨by omega, q _ _ this.1 this.2 (Int.emod_nonneg _ (by omega)) (fun z => by omega) (fun z => Int.emod_lt_of_pos _ (by omega))⟩
end TF

set_option linter.all false
set_option maxRecDepth 10000
namespace TF
open PySem (Str)
open PI
variable {P : Prog} {n : Nat} {h : Bool} {s : S} {Q : K1} {E : KX} {k : Nat}
structure Draw (P : Prog) : Prop where
  mix : P.fn "_law_mix" = some f_law_mix
  take : P.fn "_law_take" = some f_law_take
theorem take (W : Draw P) (st : St k s) {m : Int} (hb : m < 2 ^ 200) (q : ∀ r s', St k s' → Le k s s' → 0 ≤ r → (m < 2 → r = 0) → (2 ≤ m → r < m) → Q (.int r) s') : wpCall P (n + 2) h "_law_take" [.val (.ref k), .val (.int m)] s Q E := law_take W.mix W.take st hb q
theorem itemsD_le {s t : S} (h : Le k s t) {d : D} {l : List D} (e : itemsD d s = some l) (n : d ≠ .ref k) : itemsD d t = some l := by
  cases d with
  | ref j => exact h.lst e (fun z => n (by rw [z]))
  | tup l => exact e
  | fls l => exact e
  | non => cases e
  | bl b => cases e
  | int i => cases e
  | str x => cases e
theorem lenD_of {d : D} {s : S} {l : List D} (e : itemsD d s = some l) : lenD d s = some l.length := by
  cases d with
  | ref j => exact congrArg (Option.map List.length) e
  | tup l => cases e; rfl
  | fls l => cases e; rfl
  | non => cases e
  | bl b => cases e
  | int i => cases e
  | str x => cases e
/-- an item by its place -/
theorem sub_go {x : D} {s : S} {l : List D} {i : Int} (e : itemsD x s = some l) (h0 : 0 ≤ i) (h1 : i < l.length) (q : ∀ d, l[i.toNat]? = some d → d ∈ l → Q d s) : subD x (.int i) s Q := by
  have hn : i.toNat < l.length := by omega
  unfold subD
  dsimp only
  rw [e]
  dsimp only
  have : (ixN l.length i).bind (fun j => l[j]?) = some l[i.toNat] := by
    unfold ixN
    rw [if_pos h0, if_pos h1]
    simp [hn]
  rw [this]
  exact q _ (List.getElem?_eq_getElem hn) (List.getElem_mem hn)
theorem pick (W : Draw P) (hf : P.fn "_law_pick" = some f_law_pick) (st : St k s) {row : D} {l : List D} (e : itemsD row s = some l) (hr : row ≠ .ref k) (hl : l.length ≤ 1000) (q : ∀ d s', St k s' → Le k s s' → (d ∈ l ∨ l = [] ∧ d = .non) → Q d s') :
    wpCall P (n + 3) h "_law_pick" [.val (.ref k), .val row] s Q E := by
  refine call_go hf rfl ?_
  show wpB _ _ [.val (.ref k), .val row] _ _
  have hz := lenD_of e
  unfold f_law_pick
  refine cutP (fun ρ' s' => l ≠ [] ∧ ρ' = [.val (.ref k), .val row] ∧ s' = s) ?_ ?_
  · simp only [wpB, wpS, wpE, wpT, cstD, cmpD, eqqD, truD, List.getElem?_cons_zero, List.getElem?_cons_succ, hz, decide_eq_true_eq]
    split
    · rename_i h0
      exact q _ s st (Le.refl _ _) (.inr ⟨List.length_eq_zero_iff.mp (by omega), rfl⟩)
    · rename_i h0
      exact ⟨fun z => h0 (by rw [z]; rfl), trivial, trivial⟩
  rintro _ s0 ⟨hne, rfl, e0⟩
  subst e0
  simp only [wpB, wpS, wpE, wpA, wpX, List.getElem?_cons_zero, List.getElem?_cons_succ, hz, W.take, Option.isSome_some, true_and]
  have hp : 0 < l.length := List.length_pos_iff.mpr hne
  refine take W st (Int.lt_of_le_of_lt (show (l.length : Int) ≤ 1000 by omega) (by decide)) fun r s' st' le h0 h1 h2 => ?_
  refine sub_go (itemsD_le le e hr) h0 ?_ fun d _ hd => q d s' st' le (.inl hd)
  by_cases z : (2 : Int) ≤ l.length
  · exact h2 z
  · have := h1 (by omega); omega
theorem between (W : Draw P) (hf : P.fn "_law_between" = some f_law_between) (st : St k s) {lo hi : Int} (hb : hi - lo + 1 < 2 ^ 200) (q : ∀ r s', St k s' → Le k s s' → (hi ≤ lo → r = lo) → (lo < hi → lo ≤ r ∧ r ≤ hi) → Q (.int r) s') :
    wpCall P (n + 3) h "_law_between" [.val (.ref k), .val (.int lo), .val (.int hi)] s Q E := by
  refine call_go hf rfl ?_
  show wpB _ _ [.val (.ref k), .val (.int lo), .val (.int hi), .no] _ _
  unfold f_law_between
  refine cutP (fun ρ' s' => lo < hi ∧ ρ' = [.val (.ref k), .val (.int lo), .val (.int hi), .no] ∧ s' = s) ?_ ?_
  · simp only [wpB, wpS, wpE, wpT, cmpD, ordD, ltD, gtD, truD, List.getElem?_cons_zero, List.getElem?_cons_succ, decide_eq_true_eq]
    split
    · exact q _ s st (Le.refl _ _) (fun _ => rfl) (fun z => by omega)
    · exact ⟨by omega, trivial, trivial⟩
  rintro _ s0 ⟨hlt, rfl, e0⟩
  subst e0
  simp only [wpB, wpS, wpE, wpT, wpA, wpX, cstD, binD, addD, intD, cmpD, eqqD, truD, asgT, Tg.one, List.getElem?_cons_zero, List.getElem?_cons_succ, List.set_cons_zero, List.set_cons_succ, implies_true, true_and, W.take, Option.isSome_some, decide_eq_true_eq]
  refine take W st (by decide) fun r s' st' le h0 _ _ => ?_
  dsimp only
  split
  · exact q _ s' st' le (fun z => by omega) (fun z => by omega)
  split
  · exact q _ s' st' le (fun z => by omega) (fun z => by omega)
  split
  · exact q _ s' st' le (fun z => by omega) (fun z => by omega)
  · exact take W st' hb fun r2 s2 st2 le2 g0 g1 g2 => q _ s2 st2 (le.trans le2) (fun z => by omega) (fun z => by have := g2 (by omega); omega)
theorem great (W : Draw P) (hf : P.fn "_law_great" = some f_law_great) (st : St k s) {hi : Int} (hb : hi < 2 ^ 199) (q : ∀ r s', St k s' → Le k s s' → 0 ≤ r → (r ≤ hi ∨ r = 0) → Q (.int r) s') :
    wpCall P (n + 3) false "_law_great" [.val (.ref k), .val (.int hi)] s Q E := by
  have h1b : hi + 1 < 2 ^ 200 := by omega
  refine call_go hf rfl ?_
  show wpB _ _ [.val (.ref k), .val (.int hi), .no, .no, .no] _ _
  unfold f_law_great
  refine cutP (fun ρ' s' => ∃ w : Int, ρ' = [.val (.ref k), .val (.int hi), .val (.int w), .no, .no] ∧ St k s' ∧ Le k s s') ?_ ?_
  · simp only [wpS, wpE, wpA, wpX, cstD, asgT, Tg.one, List.getElem?_cons_zero, List.getElem?_cons_succ, List.set_cons_zero, List.set_cons_succ, implies_true, true_and, W.take, Option.isSome_some]
    exact take W st (by decide) fun r s' st' le h0 _ _ => ⟨r, rfl, st', le⟩
  rintro _ s1 ⟨w, rfl, st1, le1⟩
  have ret : ∀ (x : Int) (t : S), St k t → Le k s1 t → 0 ≤ x → (x ≤ hi ∨ x = 0) → Q (.int x) t := fun x t a b => q x t a (le1.trans b)
  refine cutP (fun ρ' s' => ρ' = [.val (.ref k), .val (.int hi), .val (.int w), .no, .no] ∧ s' = s1) ?_ ?_
  · simp only [wpB, wpS, wpE, wpT, cstD, cmpD, eqqD, truD, List.getElem?_cons_zero, List.getElem?_cons_succ, decide_eq_true_eq]
    split
    · exact ret _ s1 st1 (Le.refl _ _) (by omega) (.inr rfl)
    · trivial
  rintro _ s2 ⟨rfl, e2⟩
  subst e2
  refine cutP (fun ρ' s' => ρ' = [.val (.ref k), .val (.int hi), .val (.int w), .no, .no] ∧ s' = s2) ?_ ?_
  · simp only [wpB, wpS, wpE, wpT, cstD, cmpD, eqqD, truD, List.getElem?_cons_zero, List.getElem?_cons_succ, decide_eq_true_eq, true_and]
    split
    · exact ret _ s2 st1 (Le.refl _ _) (by split <;> omega) (by split <;> omega)
    · trivial
  rintro _ s3 ⟨rfl, e2⟩
  subst e2
  refine cutP (fun ρ' s' => ρ' = [.val (.ref k), .val (.int hi), .val (.int w), .no, .no] ∧ s' = s3) ?_ ?_
  · simp only [wpB, wpS, wpE, wpT, wpA, wpX, cstD, binD, intD, cmpD, eqqD, truD, List.getElem?_cons_zero, List.getElem?_cons_succ, decide_eq_true_eq, true_and, W.take, Option.isSome_some]
    split
    · refine take W st1 (by decide) fun r s' st' le h0 _ h2 => ?_
      have := h2 (by decide)
      exact ret _ s' st' le (by split <;> omega) (by split <;> omega)
    · trivial
  rintro _ s4 ⟨rfl, e2⟩
  subst e2
  refine cutP (fun ρ' s' => ρ' = [.val (.ref k), .val (.int hi), .val (.int w), .no, .no] ∧ s' = s4) ?_ ?_
  · simp only [wpB, wpS, wpE, wpT, wpA, wpX, cstD, binD, intD, addD, cmpD, eqqD, truD, List.getElem?_cons_zero, List.getElem?_cons_succ, decide_eq_true_eq, true_and, W.take, Option.isSome_some]
    split
    · refine take W st1 (by decide) fun r s' st' le h0 _ h2 => ?_
      have := h2 (by decide)
      exact ret _ s' st' le (by split <;> split <;> omega) (by split <;> split <;> omega)
    · trivial
  rintro _ s5 ⟨rfl, e2⟩
  subst e2
  refine cutP (fun ρ' s' => ρ' = [.val (.ref k), .val (.int hi), .val (.int w), .no, .no] ∧ s' = s5) ?_ ?_
  · simp only [wpB, wpS, wpE, wpT, wpA, wpX, cstD, binD, addD, cmpD, ordD, ltD, gtD, truD, List.getElem?_cons_zero, List.getElem?_cons_succ, decide_eq_true_eq, true_and, W.take, Option.isSome_some]
    split
    · refine take W st1 h1b fun r s' st' le h0 h1 h2 => ret _ s' st' le h0 ?_
      by_cases z : hi + 1 < 2
      · exact .inr (h1 z)
      · have := h2 (by omega); omega
    · trivial
  rintro _ s6 ⟨rfl, e2⟩
  subst e2
  refine cutP (fun ρ' s' => ρ' = [.val (.ref k), .val (.int hi), .val (.int w), .val (.int 10), .no] ∧ s' = s6) ?_ ?_
  · simp only [wpS, wpE, cstD, asgT, Tg.one, List.set_cons_zero, List.set_cons_succ, implies_true, true_and, and_self]
  rintro _ s7 ⟨rfl, e2⟩
  subst e2
  refine cutP (fun ρ' s' => ∃ (y : Int) (x : Sl), ρ' = [.val (.ref k), .val (.int hi), .val (.int w), .val (.int y), x] ∧ St k s' ∧ Le k s7 s') ?_ ?_
  · simp only [wpS, wpI, wpE, wpA, wpX, cstD, List.getElem?_cons_zero, List.getElem?_cons_succ, W.take, Option.isSome_some, true_and]
    refine ⟨(fun z => by cases z), ?_⟩
    refine take W st1 (by decide) fun r s' st' le h0 h1 h2 => ?_
    have := h2 (by decide)
    refine ⟨Int.lt_trans this (by decide), Int.le_trans (by decide) h0, ?_⟩
    refine forW_inv (fun l ρ' s'' => ∃ (y : Int) (x : Sl), ρ' = [.val (.ref k), .val (.int hi), .val (.int w), .val (.int y), x] ∧ s'' = s') (fun _ _ _ _ => trivial) ?_ ?_ _ _ _ ?_
    · rintro d l ρ t nx ⟨y, x, rfl, rfl⟩ hn
      simp only [wpB, wpS, wpE, cstD, binD, intD, asgT, Tg.one, List.getElem?_cons_zero, List.getElem?_cons_succ, List.set_cons_zero, List.set_cons_succ, implies_true, true_and]
      exact ⟨mul_r (by decide), hn _ _ ⟨_, _, rfl, rfl⟩⟩
    · rintro ρ t ⟨y, x, rfl, rfl⟩
      exact ⟨y, x, rfl, st', le⟩
    · exact ⟨10, .no, rfl, rfl⟩
  rintro _ s8 ⟨y, x, rfl, st8, le8⟩
  simp only [wpB, wpS, wpE, wpA, wpX, cstD, binD, addD, List.getElem?_cons_zero, List.getElem?_cons_succ, true_and, W.take, Option.isSome_some]
  refine take W st8 (by split <;> omega) fun r s' st' le h0 h1 h2 => ret _ s' st' (le8.trans le) h0 ?_
  by_cases z : (if hi + 1 < y then hi + 1 else y) < 2
  · exact .inr (h1 z)
  · have := h2 (by omega)
    revert this
    split <;> omega
end TF

set_option linter.all false
set_option maxRecDepth 10000
namespace TF
open PySem (Str)
open PI
variable {P : Prog} {n : Nat} {h : Bool} {s : S} {Q : K1} {E : KX} {k : Nat}
/-! ### what a value is -/
theorem isT_ok {d : D} {s : S} (h : okD s.length d) (t : Ty) : ∃ b, isT d s t = some b := by
  cases d with
  | ref j =>
    obtain ⟨l, e⟩ := lstAt_some (show j < s.length from h)
    exact ⟨_, by simp only [isT, e, Option.map_some]; rfl⟩
  | _ => exact ⟨_, rfl⟩
def isTup : D → Bool
  | .tup _ => true
  | _ => false
def isInt : D → Bool
  | .int _ => true
  | _ => false
theorem isT_tup {d : D} {s : S} (h : okD s.length d) : isT d s .tup = some (isTup d) := by
  cases d with
  | ref j =>
    obtain ⟨l, e⟩ := lstAt_some (show j < s.length from h)
    simp only [isT, e, Option.map_some]; rfl
  | _ => rfl
/-- a number from 0 to hi -/
def wn (hi : Int) : D → Bool
  | .int i => decide (0 ≤ i) && decide (i ≤ hi)
  | _ => false
def tupOk (len : Int) (hi : Int) : D → Bool
  | .tup l => decide ((l.length : Int) = len) && l.all (wn hi)
  | _ => false
/-- the tests of one number -/
theorem whole_step {C : Cx} {ρ : Env} {s : S} {i j : Nat} {d : D} {hi : Int} {Q : Bool → S → Prop} {E : KX} (h1 : ρ[i]? = some (.val d)) (h2 : ρ[j]? = some (.val (.int hi))) (ok : okD s.length d) (q : Q (!wn hi d) s) :
    wpT C (.or (.not (.ex (.isi (.var i) .int))) (.or (.ex (.isi (.var i) .bool)) (.or (.ex (.cmp .lt (.var i) (.cst (.int 0)))) (.ex (.cmp .gt (.var i) (.var j)))))) ρ s Q E := by
  simp only [wpT, wpE, h1, h2]
  cases d with
  | int x =>
    simp only [isT, truD, cmpD, ordD, ltD, gtD, cstD, Bool.not_true, Bool.false_eq_true, if_false, decide_eq_true_eq]
    simp only [wn] at q
    split
    · rename_i hx
      rw [decide_eq_false (by omega : ¬ 0 ≤ x)] at q
      exact q
    · rename_i hx
      rw [decide_eq_true (by omega : 0 ≤ x)] at q
      by_cases hh : hi < x
      · rw [decide_eq_true hh]
        rw [decide_eq_false (by omega : ¬ x ≤ hi)] at q
        exact q
      · rw [decide_eq_false hh]
        rw [decide_eq_true (by omega : x ≤ hi)] at q
        exact q
  | bl b => exact q
  | non => exact q
  | str x => exact q
  | tup l => exact q
  | fls l => exact q
  | ref k =>
    obtain ⟨l, e⟩ := lstAt_some (show k < s.length from ok)
    simp only [isT, e, Option.map_some, truD, Bool.not_false, if_true]
    exact q
theorem whole_row (hf : P.fn "is_whole_row" = some f_is_whole_row) {v : D} {len hi : Int} (ok : okD s.length v) (q : Q (.bl (tupOk len hi v)) s) : wpCall P (n + 1) false "is_whole_row" [.val v, .val (.int len), .val (.int hi)] s Q E := by
  refine call_go hf rfl ?_
  show wpB _ _ [.val v, .val (.int len), .val (.int hi), .no] _ _
  unfold f_is_whole_row
  refine cutP (fun ρ' s' => (∃ l, v = .tup l ∧ (l.length : Int) = len) ∧ ρ' = [.val v, .val (.int len), .val (.int hi), .no] ∧ s' = s) ?_ ?_
  · simp only [wpB, wpS, wpE, wpT, List.getElem?_cons_zero, List.getElem?_cons_succ, isT_tup ok, truD]
    cases v with
    | tup l =>
      simp only [isTup, Bool.not_true, Bool.false_eq_true, if_false, lenD, itemsD, Option.map_some, cmpD, neqD, truD]
      by_cases e : (l.length : Int) = len
      · rw [decide_eq_true e]
        exact ⟨⟨l, rfl, e⟩, trivial, trivial⟩
      · rw [decide_eq_false e]
        simp only [tupOk, decide_eq_false e, Bool.false_and] at q
        exact q
    | _ => exact q
  rintro _ s0 ⟨⟨l, rfl, hl⟩, rfl, e0⟩
  subst e0
  have q : Q (.bl (l.all (wn hi))) s0 := by
    simp only [tupOk, decide_eq_true hl, Bool.true_and] at q
    exact q
  refine cutP (fun ρ' s' => l.all (wn hi) = true ∧ s' = s0) ?_ ?_
  · simp only [wpS, wpI, wpE, List.getElem?_cons_zero]
    refine ⟨(fun z => by cases z), ?_⟩
    refine forW_inv (fun r ρ' s' => (∃ x, ρ' = [.val (.tup l), .val (.int len), .val (.int hi), x]) ∧ s' = s0 ∧ (∃ r0, l = r0 ++ r ∧ r0.all (wn hi) = true)) (fun _ _ _ _ => trivial) ?_ ?_ _ _ _ ?_
    · rintro d r ρ t nx ⟨⟨x, rfl⟩, rfl, r0, e, a⟩ hn
      have okd : okD t.length d := okDs_mem (show okDs t.length l from ok) (by rw [e]; simp)
      simp only [wpB, wpS, asgT, List.set_cons_succ, List.set_cons_zero]
      refine whole_step rfl rfl okd ?_
      cases w : wn hi d with
      | true =>
        exact hn _ _ ⟨⟨_, rfl⟩, rfl, r0 ++ [d], by rw [e]; simp, by rw [List.all_append, a]; simp [w]⟩
      | false =>
        have : l.all (wn hi) = false := by rw [e]; simp [w]
        rw [this] at q
        exact q
    · rintro ρ t ⟨_, rfl, r0, e, a⟩
      rw [List.append_nil] at e
      rw [e]
      exact ⟨a, rfl⟩
    · exact ⟨⟨_, rfl⟩, rfl, [], rfl, rfl⟩
  rintro ρ _ ⟨a, rfl⟩
  rw [a] at q
  exact q
/-- a basket -/
def isB : D → Bool
  | .tup l => decide (1 ≤ l.length) && decide (l.length ≤ 4) && l.all (wn 1000000000000)
  | _ => false
structure Goods (P : Prog) : Prop where
  row : P.fn "is_whole_row" = some f_is_whole_row
  bas : P.fn "is_basket" = some f_is_basket
  one : P.fn "check_one" = some f_check_one
  kinds : P.cst "KINDS" = some (.int 4)
  many : P.cst "MANY" = some (.int 1000000000000)
  bad : P.exc "BadBasket" = some .plain
theorem is_basket (G : Goods P) {v : D} (ok : okD s.length v) (q : Q (.bl (isB v)) s) : wpCall P (n + 2) false "is_basket" [.val v] s Q E := by
  refine call_go G.bas rfl ?_
  show wpB _ _ [.val v] _ _
  unfold f_is_basket
  simp only [wpB, wpS, wpE, wpT, wpA, wpX, cstD, List.getElem?_cons_zero, isT_tup ok, truD, G.kinds, G.many, G.row, Option.isSome_some, true_and]
  cases v with
  | tup l =>
    simp only [isTup, Bool.not_true, Bool.false_eq_true, if_false, lenD, itemsD, Option.map_some, cmpD, ordD, ltD, gtD, truD, decide_eq_true_eq]
    split
    · rename_i h1
      simp only [isB, decide_eq_false (by omega : ¬ 1 ≤ l.length), Bool.false_and] at q
      exact q
    · split
      · rename_i h1 h2
        simp only [isB, decide_eq_false (by omega : ¬ l.length ≤ 4), Bool.and_false, Bool.false_and] at q
        exact q
      · rename_i h1 h2
        refine whole_row G.row ok ?_
        simp only [isB, decide_eq_true (by omega : l.length ≤ 4), decide_eq_true (by omega : 1 ≤ l.length), Bool.true_and] at q
        simpa only [tupOk, decide_true, Bool.true_and] using q
  | _ => exact q
theorem check_one (G : Goods P) {v : D} (ok : okD s.length v) (q : isB v = true → Q .non s) (e : isB v = false → E "BadBasket" [] s) : wpCall P (n + 3) false "check_one" [.val v] s Q E := by
  refine call_go G.one rfl ?_
  show wpB _ _ [.val v] _ _
  unfold f_check_one
  simp only [wpB, wpS, wpT, wpE, wpA, wpX, List.getElem?_cons_zero, G.bas, Option.isSome_some, true_and, G.bad]
  refine is_basket G ok ?_
  cases hb : isB v with
  | true => exact q hb
  | false => exact e hb
theorem isB_tup {v : D} (h : isB v = true) : ∃ l, v = .tup l := by
  cases v with
  | tup l => exact ⟨l, rfl⟩
  | _ => cases h
end TF

set_option linter.all false
set_option maxRecDepth 10000
namespace TF
open PySem (Str)
open PI
variable {P : Prog} {n : Nat} {h : Bool} {s : S} {Q : K1} {E : KX} {k : Nat}
/-! ### comprehensions and loops without an effect -/
theorem compW_pure {chk : S → Prop} {turn : D → S → (Option D → S → Prop) → Prop} {fin : List D → S → Prop} {items : List D} (f : D → Option D) (hc : chk s) (h : ∀ d ∈ items, ∀ nx : Option D → S → Prop, nx (f d) s → turn d s nx)
    (q : fin (items.filterMap f) s) : compW chk turn fin items [] s := by
  refine compW_inv (fun r acc s' => s' = s ∧ ∃ r0, items = r0 ++ r ∧ acc = r0.filterMap f) (fun _ _ _ z => z.1 ▸ hc) ?_ ?_ _ _ _ ⟨rfl, [], rfl, rfl⟩
  · rintro d r acc s' nx ⟨rfl, r0, e, rfl⟩ hn
    refine h d (by rw [e]; simp) nx (hn _ _ ⟨rfl, r0 ++ [d], by rw [e]; simp, ?_⟩)
    cases q : f d <;> simp [q]
  · rintro acc s' ⟨rfl, r0, e, rfl⟩
    rw [List.append_nil] at e
    rw [← e]
    exact q
/-- a loop that answers at once where a test t holds -/
theorem forW_test {chk : S → Prop} {turn : D → Env → S → (Env → S → Prop) → Prop} {fin : Env → S → Prop} {items : List D} {ρ0 : Env} (t : D → Bool) (sh : Env → Prop) (hc : chk s) (h0 : sh ρ0) (hit : ∀ d ∈ items, t d = true → ∀ ρ, sh ρ → ∀ nx, turn d ρ s nx) (mis : ∀ d ∈ items, t d = false → ∀ ρ, sh ρ → ∀ nx : Env → S → Prop, (∀ ρ', sh ρ' → nx ρ' s) → turn d ρ s nx)
    (q : items.any t = false → ∀ ρ, sh ρ → fin ρ s) : forW chk turn fin items ρ0 s := by
  refine forW_inv (fun r ρ s' => s' = s ∧ sh ρ ∧ ∃ r0, items = r0 ++ r ∧ r0.any t = false) (fun _ _ _ z => z.1 ▸ hc) ?_ ?_ _ _ _ ⟨rfl, h0, [], rfl, rfl⟩
  · rintro d r ρ s' nx ⟨rfl, hs, r0, e, a⟩ hn
    have hd : d ∈ items := by rw [e]; simp
    cases w : t d with
    | true => exact hit d hd w ρ hs nx
    | false => exact mis d hd w ρ hs nx fun ρ' hs' => hn _ _ ⟨rfl, hs', r0 ++ [d], by rw [e]; simp, by simp [a, w]⟩
  · rintro ρ s' ⟨rfl, hs, r0, e, a⟩
    rw [List.append_nil] at e
    exact q (by rw [e]; exact a) ρ hs
/-! ### tuples of ints -/
def tI (xs : List Int) : D := .tup (xs.map .int)
def mapJ (f : Int → Int → Int) (xs ys : List Int) : List Int := (List.range xs.length).map fun j => f (xs.getD j 0) (ys.getD j 0)
def anyJ (p : Int → Int → Bool) (xs ys : List Int) : Bool := (List.range xs.length).any fun j => p (xs.getD j 0) (ys.getD j 0)
theorem enumD_ints (xs : List Int) : enumD (xs.map .int) = (List.range xs.length).map fun j : Nat => D.tup [.int (j : Int), .int (xs.getD j 0)] := by
  unfold enumD
  refine List.ext_getElem (by simp) fun i h1 h2 => ?_
  have hi : i < xs.length := by simpa using h2
  simp [hi]
theorem isB_ints {v : D} (h : isB v = true) : ∃ xs : List Int, v = tI xs ∧ 1 ≤ xs.length ∧ xs.length ≤ 4 ∧ ∀ x ∈ xs, 0 ≤ x ∧ x ≤ 1000000000000 := by
  obtain ⟨l, rfl⟩ := isB_tup h
  simp only [isB, Bool.and_eq_true, decide_eq_true_eq] at h
  obtain ⟨⟨h1, h2⟩, h3⟩ := h
  have key : ∀ l : List D, l.all (wn 1000000000000) = true → ∃ xs : List Int, l = xs.map .int ∧ ∀ x ∈ xs, 0 ≤ x ∧ x ≤ 1000000000000 := by
    intro l
    induction l with
    | nil => exact fun _ => ⟨[], rfl, fun _ z => by cases z⟩
    | cons d r ih =>
      intro hh
      rw [List.all_cons, Bool.and_eq_true] at hh
      obtain ⟨xs, rfl, b⟩ := ih hh.2
      cases d with
      | int i =>
        have hw := hh.1
        simp only [wn, Bool.and_eq_true, decide_eq_true_eq] at hw
        refine ⟨i :: xs, rfl, fun x hx => ?_⟩
        rcases List.mem_cons.mp hx with e | e
        · rw [e]; exact hw
        · exact b x e
      | _ => cases hh.1
  obtain ⟨xs, rfl, b⟩ := key l h3
  exact ⟨xs, rfl, by simpa using h1, by simpa using h2, b⟩
/-- two baskets of one length -/
structure Two (xs ys : List Int) : Prop where
  one : 1 ≤ xs.length
  four : xs.length ≤ 4
  len : ys.length = xs.length
  bx : ∀ x ∈ xs, 0 ≤ x ∧ x ≤ 1000000000000
  by_ : ∀ x ∈ ys, 0 ≤ x ∧ x ≤ 1000000000000
theorem Two.swap {xs ys : List Int} (t : Two xs ys) : Two ys xs := ⟨by rw [t.len]; exact t.one, by rw [t.len]; exact t.four, t.len.symm, t.by_, t.bx⟩
theorem isB_tI {xs : List Int} (h1 : 1 ≤ xs.length) (h2 : xs.length ≤ 4) (b : ∀ x ∈ xs, 0 ≤ x ∧ x ≤ 1000000000000) : isB (tI xs) = true := by
  simp only [tI, isB, List.length_map, Bool.and_eq_true, decide_eq_true_eq]
  refine ⟨⟨h1, h2⟩, List.all_eq_true.mpr fun d hd => ?_⟩
  obtain ⟨x, hx, rfl⟩ := List.mem_map.mp hd
  simp only [wn, Bool.and_eq_true, decide_eq_true_eq]
  exact b x hx
theorem okD_tI (m : Nat) (xs : List Int) : okD m (tI xs) := okDs_ints m xs
/-- y[at] -/
theorem sub_tI {ys : List Int} {j : Nat} {Q : K1} (hj : j < ys.length) (q : Q (.int (ys.getD j 0)) s) : subD (tI ys) (.int (j : Int)) s Q := by
  refine sub_go (l := ys.map .int) rfl (by omega) (by simpa using hj) fun d e _ => ?_
  have : d = .int (ys.getD j 0) := by
    have e2 : (ys.map D.int)[j]? = some d := e
    rw [List.getElem?_map, List.getElem?_eq_getElem hj] at e2
    rw [List.getD_eq_getElem?_getD, List.getElem?_eq_getElem hj]
    exact (Option.some.inj e2).symm
  rw [this]; exact q
/-- the items of an enumeration -/
theorem enum_mem {xs : List Int} {d : D} (h : d ∈ enumD (xs.map .int)) : ∃ j : Nat, j < xs.length ∧ d = .tup [.int (j : Int), .int (xs.getD j 0)] := by
  rw [enumD_ints] at h
  obtain ⟨j, hj, rfl⟩ := List.mem_map.mp h
  exact ⟨j, List.mem_range.mp hj, rfl⟩
def pairT (t : Nat → Int → Bool) : D → Bool
  | .tup [.int i, .int x] => t i.toNat x
  | _ => false
def pairF (f : Nat → Int → Option D) : D → Option D
  | .tup [.int i, .int x] => f i.toNat x
  | _ => none
theorem enum_any (xs : List Int) (t : Nat → Int → Bool) : (enumD (xs.map .int)).any (pairT t) = (List.range xs.length).any fun j => t j (xs.getD j 0) := by
  rw [enumD_ints, List.any_map]
  rfl
theorem enum_map (xs : List Int) (f : Nat → Int → Option D) : (enumD (xs.map .int)).filterMap (pairF f) = (List.range xs.length).filterMap fun j => f j (xs.getD j 0) := by
  rw [enumD_ints, List.filterMap_map]
  rfl
end TF

set_option linter.all false
set_option maxRecDepth 10000
namespace TF
open PySem (Str)
open PI
variable {P : Prog} {n : Nat} {h : Bool} {s s' s'' : S} {Q : K1} {E : KX} {k : Nat}
/-! ### the store grows -/
structure Gr (s s' : S) : Prop where
  pre : ∃ t, s' = s ++ t ∧ ∀ o ∈ t, okDs s'.length (obL o)
theorem Gr.refl (s : S) : Gr s s := ⟨[], by simp, fun o z => by cases z⟩
theorem Gr.len (g : Gr s s') : s.length ≤ s'.length := by
  obtain ⟨t, rfl, _⟩ := g.pre
  simp
theorem Gr.trans (a : Gr s s') (b : Gr s' s'') : Gr s s'' := by
  have hl := b.len
  obtain ⟨t, e1, h1⟩ := a.pre
  obtain ⟨u, e2, h2⟩ := b.pre
  refine ⟨t ++ u, by rw [e2, e1, List.append_assoc], fun o ho => ?_⟩
  rcases List.mem_append.mp ho with z | z
  · exact okDs.mono hl _ (h1 o z)
  · exact h2 o z
theorem Gr.new (g : Gr s s') {l : List D} (ok : okDs s'.length l) : Gr s (s' ++ [.lst l]) :=
  g.trans ⟨[.lst l], rfl, fun o ho => by
    obtain rfl : o = .lst l := by simpa using ho
    exact okDs.mono (by simp) _ ok⟩
theorem Gr.one (ok : ∃ l, s' = s ++ [.lst l] ∧ okDs s.length l) : Gr s s' := by
  obtain ⟨l, rfl, h⟩ := ok
  exact (Gr.refl s).new h
theorem Gr.lst (g : Gr s s') {j : Nat} {l : List D} (e : lstAt s j = some l) : lstAt s' j = some l := by
  obtain ⟨t, rfl, _⟩ := g.pre
  have hj := lstAt_lt e
  unfold lstAt at e ⊢
  rw [List.getElem?_append_left hj]
  exact e
theorem Gr.ok (g : Gr s s') {d : D} (h : okD s.length d) : okD s'.length d := okD.mono g.len d h
theorem St.gr (st : St k s) (g : Gr s s') : St k s' ∧ Le k s s' := by
  obtain ⟨l, e, q⟩ := st.st
  have hl := g.len
  obtain ⟨t, e1, h1⟩ := g.pre
  refine ⟨⟨⟨l, g.lst e, q⟩, fun o ho => ?_⟩, ⟨hl, fun j hj _ => by rw [e1, List.getElem?_append_left hj]⟩⟩
  rw [e1] at ho
  rcases List.mem_append.mp ho with z | z
  · exact okDs.mono hl _ (st.ok o z)
  · exact h1 o z
/-! ### is it a number -/
theorem whole (hf : P.fn "_law_whole" = some f_law_whole) {v : D} (ok : okD s.length v) (q : Q (.bl (isInt v)) s) : wpCall P (n + 1) h "_law_whole" [.val v] s Q E := by
  refine call_go hf rfl ?_
  show wpB _ _ [.val v] _ _
  unfold f_law_whole
  simp only [wpB, wpS, wpE, List.getElem?_cons_zero]
  cases v with
  | ref j =>
    obtain ⟨l, e⟩ := lstAt_some (show j < s.length from ok)
    simp only [isT, e, Option.map_some, truD]
    exact q
  | _ => exact q
/-! ### the same -/
def Sm (s : S) : Nat → D → D → Prop
  | _, a, .non => a = .non
  | _, a, .bl b => a = .bl b
  | _, a, .int i => a = .int i
  | _, a, .str x => a = .str x
  | n + 1, a, .tup ds => ∃ as : List D, a = .tup as ∧ ds.length ≤ 1000 ∧ as.length = ds.length ∧ ∀ (i : Nat) x y, as[i]? = some x → ds[i]? = some y → Sm s n x y
  | n + 1, a, .ref k => ∃ (j : Nat) (as ds : List D), a = .ref j ∧ lstAt s j = some as ∧ lstAt s k = some ds ∧ ds.length ≤ 1000 ∧ as.length = ds.length ∧ ∀ (i : Nat) x y, as[i]? = some x → ds[i]? = some y → Sm s n x y
  | _, _, _ => False
structure Sam (P : Prog) : Prop where
  who : P.fn "_law_whole" = some f_law_whole
  sam : P.fn "_law_same" = some f_law_same
theorem same_loop {C : Cx} {a d : D} {as ds : List D} {x : Sl} {Dd : Pst} (ha : itemsD a s = some as) (hd : itemsD d s = some ds) (hl : as.length = ds.length) (hC : C.hot = false) (hS : (C.P.fn "_law_same").isSome = true)
    (hc : ∀ (i : Nat) x y, as[i]? = some x → ds[i]? = some y → ∀ Q E, Q (.bl true) s → C.call false "_law_same" [.val x, .val y] s Q E) (hz : ds.length ≤ 1000) (q : ∀ ρ, Dd.nx ρ s) :
    wpS C (.for (.name 2) (.rng1 (.len (.var 1))) [.cond (.not (.ex (.call "_law_same" [.ex (.sub (.var 0) (.var 2)), .ex (.sub (.var 1) (.var 2))]))) [.ret (.cst (.bl false))] []]) [.val a, .val d, x] s Dd := by
  simp only [wpS, wpI, wpE, List.getElem?_cons_zero, List.getElem?_cons_succ, lenD_of hd]
  refine ⟨(fun z => by rw [hC] at z; cases z), by omega, by omega, ?_⟩
  refine forW_test (fun _ => false) (fun ρ => ∃ x, ρ = [.val a, .val d, x]) trivial ⟨_, rfl⟩ (fun _ _ z => by cases z) ?_ (fun _ ρ _ => q ρ)
  rintro y hy _ ρ ⟨x, rfl⟩ nx hn
  unfold rangeD at hy
  obtain ⟨i, hi, rfl⟩ := List.mem_map.mp hy
  have hi : i < ds.length := by simpa using hi
  simp only [wpB, wpS, wpT, wpE, wpA, wpX, asgT, List.set_cons_succ, List.set_cons_zero, List.getElem?_cons_zero, List.getElem?_cons_succ, hS, true_and, hC]
  refine sub_go ha (by omega) (by omega) fun u eu _ => sub_go hd (by omega) (by omega) fun v ev _ => ?_
  refine hc i u v (by simpa using eu) (by simpa using ev) _ _ ?_
  exact hn _ ⟨_, rfl⟩
theorem same (W : Sam P) : ∀ (N : Nat) (a d : D), Sm s N a d → ∀ (n : Nat) (Q : K1) (E : KX), Q (.bl true) s → wpCall P (n + N + 2) false "_law_same" [.val a, .val d] s Q E := by
  intro N
  induction N with
  | zero =>
    intro a d hm n Q E q
    refine call_go W.sam rfl ?_
    show wpB _ _ [.val a, .val d, .no] _ _
    unfold f_law_same
    simp only [wpB, wpS, wpT, wpE, wpA, wpX, cstD, List.getElem?_cons_zero, List.getElem?_cons_succ, cmpD, isD]
    cases d with
    | non =>
      obtain rfl : a = .non := by simpa [Sm] using hm
      exact q
    | bl b =>
      obtain rfl : a = .bl b := by simpa [Sm] using hm
      simp only [isNon, truD, isT, eqqD, flatN, eqD, Bool.false_eq_true, if_false, if_true]
      refine ⟨trivial, trivial, ?_⟩
      rw [show (b == b) = true by simp]
      exact q
    | int i =>
      obtain rfl : a = .int i := by simpa [Sm] using hm
      simp only [isNon, truD, isT, Bool.false_eq_true, if_false, if_true, W.who, Option.isSome_some, true_and]
      refine whole (s := s) W.who trivial ?_
      simp only [isInt, truD, eqqD, decide_true]
      exact q
    | str x =>
      obtain rfl : a = .str x := by simpa [Sm] using hm
      simp only [isNon, truD, isT, Bool.false_eq_true, if_false, if_true, eqqD, decide_true]
      exact q
    | tup l => exact (show False from hm).elim
    | fls l => cases hm
    | ref j => exact (show False from hm).elim
  | succ N ih =>
    intro a d hm n Q E q
    refine call_go W.sam rfl ?_
    show wpB _ _ [.val a, .val d, .no] _ _
    unfold f_law_same
    cases d with
    | non =>
      obtain rfl : a = .non := by simpa [Sm] using hm
      simp only [wpB, wpS, wpT, wpE, wpA, wpX, cstD, List.getElem?_cons_zero, List.getElem?_cons_succ, cmpD, isD]
      exact q
    | bl b =>
      obtain rfl : a = .bl b := by simpa [Sm] using hm
      simp only [wpB, wpS, wpT, wpE, wpA, wpX, cstD, List.getElem?_cons_zero, List.getElem?_cons_succ, cmpD, isD, isNon, truD, isT, eqqD, flatN, eqD, Bool.false_eq_true, if_false, if_true]
      refine ⟨trivial, trivial, ?_⟩
      rw [show (b == b) = true by simp]
      exact q
    | int i =>
      obtain rfl : a = .int i := by simpa [Sm] using hm
      simp only [wpB, wpS, wpT, wpE, wpA, wpX, cstD, List.getElem?_cons_zero, List.getElem?_cons_succ, cmpD, isD, isNon, truD, isT, Bool.false_eq_true, if_false, if_true, W.who, Option.isSome_some, true_and]
      refine whole (s := s) W.who trivial ?_
      simp only [isInt, truD, eqqD, decide_true]
      exact q
    | str x =>
      obtain rfl : a = .str x := by simpa [Sm] using hm
      simp only [wpB, wpS, wpT, wpE, wpA, wpX, cstD, List.getElem?_cons_zero, List.getElem?_cons_succ, cmpD, isD, isNon, truD, isT, Bool.false_eq_true, if_false, if_true, eqqD, decide_true]
      exact q
    | fls l => cases hm
    | tup ds =>
      obtain ⟨as, rfl, hz, hl, hi⟩ := hm
      refine cutP (fun ρ' s' => ρ' = [.val (.tup as), .val (.tup ds), .no] ∧ s' = s) (by simp only [wpB, wpS, wpT, wpE, cstD, List.getElem?_cons_zero, List.getElem?_cons_succ, cmpD, isD, isNon, truD, Bool.false_eq_true, if_false, and_self]) ?_
      rintro _ s1 ⟨rfl, e1⟩; subst e1
      refine cutP (fun ρ' s' => ρ' = [.val (.tup as), .val (.tup ds), .no] ∧ s' = s1) (by simp only [wpB, wpS, wpT, wpE, List.getElem?_cons_zero, List.getElem?_cons_succ, isT, truD, Bool.false_eq_true, if_false, and_self]) ?_
      rintro _ s2 ⟨rfl, e1⟩; subst e1
      refine cutP (fun ρ' s' => ρ' = [.val (.tup as), .val (.tup ds), .no] ∧ s' = s2) (by simp only [wpB, wpS, wpT, wpE, List.getElem?_cons_zero, List.getElem?_cons_succ, isT, truD, Bool.false_eq_true, if_false, and_self]) ?_
      rintro _ s3 ⟨rfl, e1⟩; subst e1
      refine cutP (fun ρ' s' => ρ' = [.val (.tup as), .val (.tup ds), .no] ∧ s' = s3) (by simp only [wpB, wpS, wpT, wpE, List.getElem?_cons_zero, List.getElem?_cons_succ, isT, truD, Bool.false_eq_true, if_false, and_self]) ?_
      rintro _ s4 ⟨rfl, e1⟩; subst e1
      refine cutP (fun ρ' s' => ρ' = [.val (.tup as), .val (.tup ds), .no] ∧ s' = s4) (by simp only [wpB, wpS, wpT, wpE, List.getElem?_cons_zero, List.getElem?_cons_succ, isT, truD, Bool.not_true, Bool.false_eq_true, if_false, if_true, and_self]) ?_
      rintro _ s5 ⟨rfl, e1⟩; subst e1
      refine cutP (fun ρ' s' => ρ' = [.val (.tup as), .val (.tup ds), .no] ∧ s' = s5) (by simp only [wpB, wpS, wpT, wpE, List.getElem?_cons_zero, List.getElem?_cons_succ, isT, truD, Bool.false_eq_true, if_false, and_self]) ?_
      rintro _ s6 ⟨rfl, e1⟩; subst e1
      refine cutP (fun ρ' s' => ρ' = [.val (.tup as), .val (.tup ds), .no] ∧ s' = s6) (by simp only [wpB, wpS, wpT, wpE, List.getElem?_cons_zero, List.getElem?_cons_succ, lenD, itemsD, Option.map_some, hl, cmpD, neqD, decide_true, Bool.not_true, truD, Bool.false_eq_true, if_false, and_self]) ?_
      rintro _ s7 ⟨rfl, e1⟩; subst e1
      refine cutP (fun ρ' s' => s' = s7) (same_loop (a := .tup as) (d := .tup ds) rfl rfl hl rfl (by show (P.fn "_law_same").isSome = true; rw [W.sam]; rfl) (fun i x y ex ey Q E z => ?_) hz fun _ => rfl) ?_
      · exact ih x y (hi i x y ex ey) n Q E z
      · rintro ρ _ rfl
        exact q
    | ref kd =>
      obtain ⟨ja, as, ds, rfl, ea, ed, hz, hl, hi⟩ := hm
      refine cutP (fun ρ' s' => ρ' = [.val (.ref ja), .val (.ref kd), .no] ∧ s' = s) (by simp only [wpB, wpS, wpT, wpE, cstD, List.getElem?_cons_zero, List.getElem?_cons_succ, cmpD, isD, isNon, truD, Bool.false_eq_true, if_false, and_self]) ?_
      rintro _ s1 ⟨rfl, e1⟩; subst e1
      refine cutP (fun ρ' s' => ρ' = [.val (.ref ja), .val (.ref kd), .no] ∧ s' = s1) (by simp only [wpB, wpS, wpT, wpE, List.getElem?_cons_zero, List.getElem?_cons_succ, isT, ed, ea, Option.map_some, truD, Bool.false_eq_true, if_false, and_self]) ?_
      rintro _ s2 ⟨rfl, e1⟩; subst e1
      refine cutP (fun ρ' s' => ρ' = [.val (.ref ja), .val (.ref kd), .no] ∧ s' = s2) (by simp only [wpB, wpS, wpT, wpE, List.getElem?_cons_zero, List.getElem?_cons_succ, isT, ed, ea, Option.map_some, truD, Bool.false_eq_true, if_false, and_self]) ?_
      rintro _ s3 ⟨rfl, e1⟩; subst e1
      refine cutP (fun ρ' s' => ρ' = [.val (.ref ja), .val (.ref kd), .no] ∧ s' = s3) (by simp only [wpB, wpS, wpT, wpE, List.getElem?_cons_zero, List.getElem?_cons_succ, isT, ed, ea, Option.map_some, truD, Bool.false_eq_true, if_false, and_self]) ?_
      rintro _ s4 ⟨rfl, e1⟩; subst e1
      refine cutP (fun ρ' s' => ρ' = [.val (.ref ja), .val (.ref kd), .no] ∧ s' = s4) (by simp only [wpB, wpS, wpT, wpE, List.getElem?_cons_zero, List.getElem?_cons_succ, isT, ed, ea, Option.map_some, truD, Bool.false_eq_true, if_false, and_self]) ?_
      rintro _ s5 ⟨rfl, e1⟩; subst e1
      refine cutP (fun ρ' s' => ρ' = [.val (.ref ja), .val (.ref kd), .no] ∧ s' = s5) (by simp only [wpB, wpS, wpT, wpE, List.getElem?_cons_zero, List.getElem?_cons_succ, isT, ed, ea, Option.map_some, truD, Bool.not_true, Bool.false_eq_true, if_false, if_true, and_self]) ?_
      rintro _ s6 ⟨rfl, e1⟩; subst e1
      refine cutP (fun ρ' s' => ρ' = [.val (.ref ja), .val (.ref kd), .no] ∧ s' = s6) (by simp only [wpB, wpS, wpT, wpE, List.getElem?_cons_zero, List.getElem?_cons_succ, lenD, itemsD, ed, ea, Option.map_some, hl, cmpD, neqD, decide_true, Bool.not_true, truD, Bool.false_eq_true, if_false, and_self]) ?_
      rintro _ s7 ⟨rfl, e1⟩; subst e1
      refine cutP (fun ρ' s' => s' = s7) (same_loop (a := .ref ja) (d := .ref kd) ea ed hl rfl (by show (P.fn "_law_same").isSome = true; rw [W.sam]; rfl) (fun i x y ex ey Q E z => ?_) hz fun _ => rfl) ?_
      · exact ih x y (hi i x y ex ey) n Q E z
      · rintro ρ _ rfl
        exact q
end TF

set_option linter.all false
set_option maxRecDepth 10000
namespace TF
open PySem (Str)
open PI
variable {P : Prog} {n : Nat} {h : Bool} {s s' s'' : S} {Q : K1} {E : KX} {k : Nat}
/-! ### the error's name -/
def nmL : List D := [.str "BadKinds", .str "NoSingle", .str "BadOffer", .str "BadBasket", .str "BadPlace", .str "BadOrder", .str "BadBill", .str "BadPrices", .str "BadStock", .str "BadNumber", .str "BadText", .str "BadCoins", .str "Unlike", .str "NotOne", .str "NothingToUndo", .str "TooMany", .str "TooGreat"]
structure Err1 (P : Prog) (c : Str) (b1 b2 b3 b4 b5 b6 b7 b8 b9 b10 b11 b12 b13 b14 b15 b16 b17 : Bool) : Prop where
  e1 : P.below c "BadKinds" = some b1
  e2 : P.below c "NoSingle" = some b2
  e3 : P.below c "BadOffer" = some b3
  e4 : P.below c "BadBasket" = some b4
  e5 : P.below c "BadPlace" = some b5
  e6 : P.below c "BadOrder" = some b6
  e7 : P.below c "BadBill" = some b7
  e8 : P.below c "BadPrices" = some b8
  e9 : P.below c "BadStock" = some b9
  e10 : P.below c "BadNumber" = some b10
  e11 : P.below c "BadText" = some b11
  e12 : P.below c "BadCoins" = some b12
  e13 : P.below c "Unlike" = some b13
  e14 : P.below c "NotOne" = some b14
  e15 : P.below c "NothingToUndo" = some b15
  e16 : P.below c "TooMany" = some b16
  e17 : P.below c "TooGreat" = some b17
def htL (b1 b2 b3 b4 b5 b6 b7 b8 b9 b10 b11 b12 b13 b14 b15 b16 b17 : Bool) : List D := [.bl b1, .bl b2, .bl b3, .bl b4, .bl b5, .bl b6, .bl b7, .bl b8, .bl b9, .bl b10, .bl b11, .bl b12, .bl b13, .bl b14, .bl b15, .bl b16, .bl b17]
def hitF (l : List D) : D → Option D := fun d => match d with
  | .int i => (match l[i.toNat]? with
    | some (.bl true) => nmL[i.toNat]?
    | _ => none)
  | _ => none
theorem okDs_flat {m : Nat} {l : List D} (h : okDs 0 l) : okDs m l := okDs.mono (Nat.zero_le _) l h
theorem errPre {c : Str} {fs : Fs} {b1 b2 b3 b4 b5 b6 b7 b8 b9 b10 b11 b12 b13 b14 b15 b16 b17 : Bool} {kd : Exc} (he : P.fn "_law_err" = some f_law_err) (hx : P.exc c = some kd) (B : Err1 P c b1 b2 b3 b4 b5 b6 b7 b8 b9 b10 b11 b12 b13 b14 b15 b16 b17) (hf : (rangeD 0 17).filterMap (hitF (htL b1 b2 b3 b4 b5 b6 b7 b8 b9 b10 b11 b12 b13 b14 b15 b16 b17)) = [.str c])
    (q : ∀ s' jn jh jf, Gr s s' → wpB ⟨P, wpCall P n, true⟩ (f_law_err.body.drop 12) [.exn c fs, .val (.ref jn), .val (.ref jh), .val (.ref jf), .val (.str c), .no] s' { nx := fun _ s1 => Q .non s1, rt := Q, bk := fun _ _ => False, ct := fun _ _ => False, ex := fun c fs _ s1 => E c fs s1 }) :
    wpCall P (n + 1) true "_law_err" [.exn c fs] s Q E := by
  refine call_go he rfl ?_
  show wpB _ _ [.exn c fs, .no, .no, .no, .no, .no] _ _
  unfold f_law_err
  refine cutP (fun ρ' s' => ∃ j, ρ' = [.exn c fs, .val (.ref j), .no, .no, .no, .no] ∧ Gr s s' ∧ lstAt s' j = some (nmL.take 8)) ?_ ?_
  · simp only [wpS, wpE, wpQ, wpL, cstD, asgT, Tg.one, List.set_cons_succ, List.set_cons_zero, implies_true, true_and]
    exact ⟨by decide, s.length, rfl, (Gr.refl s).new (by exact ⟨trivial, trivial, trivial, trivial, trivial, trivial, trivial, trivial, trivial⟩), lstAt_new⟩
  rintro _ s1 ⟨j1, rfl, g1, e1⟩
  refine cutP (fun ρ' s' => ∃ j, ρ' = [.exn c fs, .val (.ref j), .no, .no, .no, .no] ∧ Gr s s' ∧ lstAt s' j = some (nmL.take 15)) ?_ ?_
  · simp only [wpS, wpE, wpQ, wpL, cstD, srcD, e1, Option.map_some, asgT, Tg.one, Src.ok, Src.items, Src.notFl, Src.isList, List.getElem?_cons_zero, List.getElem?_cons_succ, List.set_cons_succ, List.set_cons_zero, implies_true, true_and]
    exact ⟨by decide, by decide, _, rfl, g1.new (by exact ⟨trivial, trivial, trivial, trivial, trivial, trivial, trivial, trivial, trivial, trivial, trivial, trivial, trivial, trivial, trivial, trivial⟩), lstAt_new⟩
  rintro _ s2 ⟨j2, rfl, g2, e2⟩
  refine cutP (fun ρ' s' => ∃ j, ρ' = [.exn c fs, .val (.ref j), .no, .no, .no, .no] ∧ Gr s s' ∧ lstAt s' j = some nmL) ?_ ?_
  · simp only [wpS, wpE, wpQ, wpL, cstD, srcD, e2, Option.map_some, asgT, Tg.one, Src.ok, Src.items, Src.notFl, Src.isList, List.getElem?_cons_zero, List.getElem?_cons_succ, List.set_cons_succ, List.set_cons_zero, implies_true, true_and]
    exact ⟨by decide, by decide, _, rfl, g2.new (by exact ⟨trivial, trivial, trivial, trivial, trivial, trivial, trivial, trivial, trivial, trivial, trivial, trivial, trivial, trivial, trivial, trivial, trivial, trivial⟩), lstAt_new⟩
  rintro _ s3 ⟨jn, rfl, g3, en⟩
  obtain ⟨c1, c2, c3, c4, c5, c6, c7, c8, c9, c10, c11, c12, c13, c14, c15, c16, c17⟩ := B
  refine cutP (fun ρ' s' => ∃ j, ρ' = [.exn c fs, .val (.ref jn), .val (.ref j), .no, .no, .no] ∧ Gr s3 s' ∧ lstAt s' j = some ((htL b1 b2 b3 b4 b5 b6 b7 b8 b9 b10 b11 b12 b13 b14 b15 b16 b17).take 3)) ?_ ?_
  · simp only [wpS, wpE, wpQ, wpL, c1, c2, c3, asgT, Tg.one, List.getElem?_cons_zero, List.set_cons_succ, List.set_cons_zero, implies_true, true_and]
    exact ⟨(by simp [htL, line]), _, rfl, (Gr.refl s3).new (by exact ⟨trivial, trivial, trivial, trivial⟩), lstAt_new⟩
  rintro _ s4 ⟨j4, rfl, g4, e4⟩
  refine cutP (fun ρ' s' => ∃ j, ρ' = [.exn c fs, .val (.ref jn), .val (.ref j), .no, .no, .no] ∧ Gr s3 s' ∧ lstAt s' j = some ((htL b1 b2 b3 b4 b5 b6 b7 b8 b9 b10 b11 b12 b13 b14 b15 b16 b17).take 6)) ?_ ?_
  · simp only [wpS, wpE, wpQ, wpL, c4, c5, c6, srcD, e4, Option.map_some, asgT, Tg.one, Src.ok, Src.items, Src.notFl, Src.isList, List.getElem?_cons_zero, List.getElem?_cons_succ, List.set_cons_succ, List.set_cons_zero, implies_true, true_and]
    exact ⟨(by simp [htL, line]), (by simp [htL, line]), _, rfl, g4.new (by exact ⟨trivial, trivial, trivial, trivial, trivial, trivial, trivial⟩), lstAt_new⟩
  rintro _ s5 ⟨j5, rfl, g5, e5⟩
  refine cutP (fun ρ' s' => ∃ j, ρ' = [.exn c fs, .val (.ref jn), .val (.ref j), .no, .no, .no] ∧ Gr s3 s' ∧ lstAt s' j = some ((htL b1 b2 b3 b4 b5 b6 b7 b8 b9 b10 b11 b12 b13 b14 b15 b16 b17).take 9)) ?_ ?_
  · simp only [wpS, wpE, wpQ, wpL, c7, c8, c9, srcD, e5, Option.map_some, asgT, Tg.one, Src.ok, Src.items, Src.notFl, Src.isList, List.getElem?_cons_zero, List.getElem?_cons_succ, List.set_cons_succ, List.set_cons_zero, implies_true, true_and]
    exact ⟨(by simp [htL, line]), (by simp [htL, line]), _, rfl, g5.new (by exact ⟨trivial, trivial, trivial, trivial, trivial, trivial, trivial, trivial, trivial, trivial⟩), lstAt_new⟩
  rintro _ s6 ⟨j6, rfl, g6, e6⟩
  refine cutP (fun ρ' s' => ∃ j, ρ' = [.exn c fs, .val (.ref jn), .val (.ref j), .no, .no, .no] ∧ Gr s3 s' ∧ lstAt s' j = some ((htL b1 b2 b3 b4 b5 b6 b7 b8 b9 b10 b11 b12 b13 b14 b15 b16 b17).take 12)) ?_ ?_
  · simp only [wpS, wpE, wpQ, wpL, c10, c11, c12, srcD, e6, Option.map_some, asgT, Tg.one, Src.ok, Src.items, Src.notFl, Src.isList, List.getElem?_cons_zero, List.getElem?_cons_succ, List.set_cons_succ, List.set_cons_zero, implies_true, true_and]
    exact ⟨(by simp [htL, line]), (by simp [htL, line]), _, rfl, g6.new (by exact ⟨trivial, trivial, trivial, trivial, trivial, trivial, trivial, trivial, trivial, trivial, trivial, trivial, trivial⟩), lstAt_new⟩
  rintro _ s7 ⟨j7, rfl, g7, e7⟩
  refine cutP (fun ρ' s' => ∃ j, ρ' = [.exn c fs, .val (.ref jn), .val (.ref j), .no, .no, .no] ∧ Gr s3 s' ∧ lstAt s' j = some ((htL b1 b2 b3 b4 b5 b6 b7 b8 b9 b10 b11 b12 b13 b14 b15 b16 b17).take 15)) ?_ ?_
  · simp only [wpS, wpE, wpQ, wpL, c13, c14, c15, srcD, e7, Option.map_some, asgT, Tg.one, Src.ok, Src.items, Src.notFl, Src.isList, List.getElem?_cons_zero, List.getElem?_cons_succ, List.set_cons_succ, List.set_cons_zero, implies_true, true_and]
    exact ⟨(by simp [htL, line]), (by simp [htL, line]), _, rfl, g7.new (by exact ⟨trivial, trivial, trivial, trivial, trivial, trivial, trivial, trivial, trivial, trivial, trivial, trivial, trivial, trivial, trivial, trivial⟩), lstAt_new⟩
  rintro _ s8 ⟨j8, rfl, g8, e8⟩
  refine cutP (fun ρ' s' => ∃ j, ρ' = [.exn c fs, .val (.ref jn), .val (.ref j), .no, .no, .no] ∧ Gr s3 s' ∧ lstAt s' j = some (htL b1 b2 b3 b4 b5 b6 b7 b8 b9 b10 b11 b12 b13 b14 b15 b16 b17)) ?_ ?_
  · simp only [wpS, wpE, wpQ, wpL, c16, c17, srcD, e8, Option.map_some, asgT, Tg.one, Src.ok, Src.items, Src.notFl, Src.isList, List.getElem?_cons_zero, List.getElem?_cons_succ, List.set_cons_succ, List.set_cons_zero, implies_true, true_and]
    exact ⟨(by simp [htL, line]), (by simp [htL, line]), _, rfl, g8.new (by exact ⟨trivial, trivial, trivial, trivial, trivial, trivial, trivial, trivial, trivial, trivial, trivial, trivial, trivial, trivial, trivial, trivial, trivial, trivial⟩), lstAt_new⟩
  rintro _ s9 ⟨jh, rfl, g9, eh⟩
  have en9 := g9.lst en
  have gs9 := g3.trans g9
  refine cutP (fun ρ' s' => ∃ j, ρ' = [.exn c fs, .val (.ref jn), .val (.ref jh), .val (.ref j), .no, .no] ∧ Gr s s' ∧ lstAt s' j = some [.str c]) ?_ ?_
  · simp only [wpS, wpE, wpQ, wpI, cstD]
    refine ⟨fun _ => rfl, fun _ => ⟨rfl, rfl⟩, by decide, by decide, by decide, compW_pure (hitF (htL b1 b2 b3 b4 b5 b6 b7 b8 b9 b10 b11 b12 b13 b14 b15 b16 b17)) trivial ?_ ?_⟩
    · intro d hd nx hn
      unfold rangeD at hd
      obtain ⟨i, hi, rfl⟩ := List.mem_map.mp hd
      have hi : i < 17 := by simpa using hi
      simp only [wipe, asgT, wpC, wpT, wpE, List.map_cons, List.map_nil, List.foldl_cons, List.foldl_nil, List.set_cons_succ, List.set_cons_zero, List.getElem?_cons_zero, List.getElem?_cons_succ]
      refine sub_go (l := htL b1 b2 b3 b4 b5 b6 b7 b8 b9 b10 b11 b12 b13 b14 b15 b16 b17) eh (by omega) (by simpa [htL] using (by omega : (0 : Int) + i < 17)) fun u eu mu => ?_
      have ei : ((0 : Int) + (i : Int)).toNat = i := by omega
      rw [ei] at eu
      simp only [hitF, ei, eu] at hn
      have bu : u = .bl true ∨ u = .bl false := by
        revert mu
        simp only [htL, List.mem_cons, List.not_mem_nil, or_false]
        rintro (rfl | rfl | rfl | rfl | rfl | rfl | rfl | rfl | rfl | rfl | rfl | rfl | rfl | rfl | rfl | rfl | rfl) <;> simp
      rcases bu with rfl | rfl
      · refine sub_go (l := nmL) en9 (by omega) (by simpa [nmL] using (by omega : (0 : Int) + i < 17)) fun v ev _ => ?_
        rw [ei] at ev
        rw [ev] at hn
        exact hn
      · exact hn
    · rw [show (rangeD 0 (Int.toNat 17)).filterMap (hitF (htL b1 b2 b3 b4 b5 b6 b7 b8 b9 b10 b11 b12 b13 b14 b15 b16 b17)) = [.str c] from hf]
      exact ⟨_, rfl, gs9.new (by exact ⟨trivial, trivial⟩), lstAt_new⟩
  rintro _ s10 ⟨jf, rfl, g10, ef⟩
  refine cutP (fun ρ' s' => ρ' = [.exn c fs, .val (.ref jn), .val (.ref jh), .val (.ref jf), .no, .no] ∧ s' = s10) ?_ ?_
  · simp only [wpB, wpS, wpT, wpE, lenD, itemsD, ef, Option.map_some, cstD, cmpD, neqD, hx, truD, List.getElem?_cons_zero, List.getElem?_cons_succ, List.length_cons, List.length_nil]
    exact ⟨trivial, trivial⟩
  rintro _ s11 ⟨rfl, e11⟩
  subst e11
  refine cutP (fun ρ' s' => ρ' = [.exn c fs, .val (.ref jn), .val (.ref jh), .val (.ref jf), .val (.str c), .no] ∧ s' = s11) ?_ ?_
  · simp only [wpS, wpE, cstD, List.getElem?_cons_zero, List.getElem?_cons_succ]
    refine ⟨fun _ => rfl, sub_go (l := [.str c]) ef (by decide) (by show (0 : Int) < 1; decide) fun d ed _ => ?_⟩
    obtain rfl : D.str c = d := by simpa using ed
    exact ⟨rfl, rfl⟩
  rintro _ s12 ⟨rfl, e12⟩
  subst e12
  exact q _ _ _ _ g10
theorem errB (he : P.fn "_law_err" = some f_law_err) (hx : P.exc "BadBasket" = some .plain) (B : Err1 P "BadBasket" false false false true false false false false false false false false false false false false false) (q : ∀ s', Gr s s' → Q (.tup [.str "BadBasket"]) s') : wpCall P (n + 1) true "_law_err" [.exn "BadBasket" []] s Q E := by
  refine errPre he hx B rfl fun s' jn jh jf g => ?_
  have n0 : decide (("BadBasket" : Str) = "NoSingle") = false := by decide +kernel
  have n1 : decide (("BadBasket" : Str) = "BadOffer") = false := by decide +kernel
  have n2 : decide (("BadBasket" : Str) = "BadStock") = false := by decide +kernel
  have n3 : decide (("BadBasket" : Str) = "BadText") = false := by decide +kernel
  have n4 : decide (("BadBasket" : Str) = "TooMany") = false := by decide +kernel
  have n5 : decide (("BadBasket" : Str) = "TooGreat") = false := by decide +kernel
  show wpB _ [_, _, _, _, _] _ _ _
  simp only [wpB, wpS, wpT, wpE, wpL, cstD, cmpD, eqqD, truD, n0, n1, n2, n3, n4, n5, List.getElem?_cons_zero, List.getElem?_cons_succ, Bool.false_eq_true, if_false, List.length_cons, List.length_nil]
  exact ⟨by decide, q _ g⟩
theorem errG {x : D} (he : P.fn "_law_err" = some f_law_err) (hx : P.exc "TooGreat" = some (.fld "limit")) (B : Err1 P "TooGreat" false false false false false false false false false false false false false false false false true) (q : ∀ s', Gr s s' → Q (.tup [.str "TooGreat", x]) s') : wpCall P (n + 1) true "_law_err" [.exn "TooGreat" [("limit", x)]] s Q E := by
  refine errPre he hx B rfl fun s' jn jh jf g => ?_
  have n0 : decide (("TooGreat" : Str) = "NoSingle") = false := by decide +kernel
  have n1 : decide (("TooGreat" : Str) = "BadOffer") = false := by decide +kernel
  have n2 : decide (("TooGreat" : Str) = "BadStock") = false := by decide +kernel
  have n3 : decide (("TooGreat" : Str) = "BadText") = false := by decide +kernel
  have n4 : decide (("TooGreat" : Str) = "TooMany") = false := by decide +kernel
  have n5 : decide (("TooGreat" : Str) = "TooGreat") = true := by decide +kernel
  have lk : List.lookup ("limit" : Str) [(("limit" : Str), x)] = some x := by rw [List.lookup_cons, beq_self_eq_true]
  show wpB _ [_, _, _, _, _] _ _ _
  simp only [wpB, wpS, wpT, wpE, wpL, cstD, cmpD, eqqD, truD, n0, n1, n2, n3, n4, n5, hx, lk, List.getElem?_cons_zero, List.getElem?_cons_succ, Bool.false_eq_true, if_false, if_true, List.length_cons, List.length_nil]
  exact ⟨trivial, by decide, q _ g⟩
end TF

set_option linter.all false
set_option maxRecDepth 10000
namespace TF
open PySem (Str)
open PI
variable {P : Prog} {n : Nat} {h : Bool} {s s' s'' : S} {Q : K1} {E : KX} {k : Nat}
structure DrawsA (P : Prog) : Prop extends Draw P where
  pick : P.fn "_law_pick" = some f_law_pick
  betw : P.fn "_law_between" = some f_law_between
  great : P.fn "_law_great" = some f_law_great
theorem signed (W : DrawsA P) (hsg : P.fn "_law_signed" = some f_law_signed) (st : St k s) {hi : Int} (hb : hi < 2 ^ 199) (q : ∀ r s', St k s' → Le k s s' → Q (.int r) s') : wpCall P (n + 4) false "_law_signed" [.val (.ref k), .val (.int hi)] s Q E := by
  refine call_go hsg rfl ?_
  show wpB _ _ [.val (.ref k), .val (.int hi), .no] _ _
  unfold f_law_signed
  simp only [wpB, wpS, wpE, wpT, wpA, wpX, cstD, binD, intD, cmpD, eqqD, truD, asgT, Tg.one, List.getElem?_cons_zero, List.getElem?_cons_succ, List.set_cons_zero, List.set_cons_succ, implies_true, true_and, W.take, W.great, Option.isSome_some, decide_eq_true_eq]
  refine TF.great W.toDraw W.great st hb fun r s1 st1 le1 _ _ => ?_
  refine TF.take W.toDraw st1 (by decide) fun r2 s2 st2 le2 _ _ _ => ?_
  dsimp only
  split
  · exact q _ _ st2 (le1.trans le2)
  · exact q _ _ st2 (le1.trans le2)
/-- a comprehension of drawn numbers -/
theorem compW_draw {chk : S → Prop} {turn : D → S → (Option D → S → Prop) → Prop} {fin : List D → S → Prop} {items : List D} (R : Int → Prop) (st : St k s) (hc : ∀ s', Le k s s' → chk s')
    (h : ∀ d ∈ items, ∀ s', St k s' → Le k s s' → ∀ nx : Option D → S → Prop, (∀ r s2, St k s2 → Le k s' s2 → R r → nx (some (.int r)) s2) → turn d s' nx)
    (q : ∀ (rs : List Int) s', rs.length = items.length → (∀ r ∈ rs, R r) → St k s' → Le k s s' → fin (rs.map .int) s') : compW chk turn fin items [] s := by
  refine compW_inv (fun r acc s' => St k s' ∧ Le k s s' ∧ ∃ r0 rs, items = r0 ++ r ∧ acc = rs.map .int ∧ rs.length = r0.length ∧ ∀ x ∈ rs, R x) (fun _ _ _ z => hc _ z.2.1) ?_ ?_ _ _ _ ⟨st, Le.refl _ _, [], [], rfl, rfl, rfl, fun _ z => by cases z⟩
  · rintro d r acc t nx ⟨stt, le, r0, rs, e, rfl, hl, hR⟩ hn
    refine h d (by rw [e]; simp) t stt le nx fun x t2 st2 le2 hx => hn _ _ ⟨st2, le.trans le2, r0 ++ [d], rs ++ [x], by rw [e]; simp, by simp, by simp [hl], fun y hy => ?_⟩
    rcases List.mem_append.mp hy with z | z
    · exact hR y z
    · obtain rfl : y = x := by simpa using z
      exact hx
  · rintro acc t ⟨stt, le, r0, rs, e, rfl, hl, hR⟩
    rw [List.append_nil] at e
    exact q rs t (by rw [hl, e]) hR stt le
/-- a basket's numbers -/
def Bnd (x : Int) : Prop := 0 ≤ x ∧ x ≤ 1000000000000
theorem within (W : DrawsA P) (hwi : P.fn "_law_within" = some f_law_within) (st : St k s) {xs : List Int} (hl : xs.length ≤ 1000) (hb : ∀ x ∈ xs, Bnd x) (q : ∀ (rs : List Int) s', rs.length = xs.length → (∀ r ∈ rs, Bnd r) → St k s' → Le k s s' → Q (tI rs) s') :
    wpCall P (n + 4) false "_law_within" [.val (.ref k), .val (tI xs)] s Q E := by
  refine call_go hwi rfl ?_
  show wpB _ _ [.val (.ref k), .val (tI xs), .no] _ _
  unfold f_law_within
  simp only [wpB, wpS, wpE, wpQ, wpI, tI, walkD, srcD, Option.map_some, Src.items, List.getElem?_cons_zero, List.getElem?_cons_succ, Bool.false_eq_true, false_implies, true_and]
  refine ⟨by simp [line]; omega, compW_draw Bnd st (fun _ _ => trivial) ?_ ?_⟩
  · intro d hd s1 st1 le1 nx hn
    obtain ⟨x, hx, rfl⟩ := List.mem_map.mp hd
    have := hb x hx
    unfold Bnd at this
    simp only [wipe, asgT, wpC, wpE, wpA, wpX, cstD, List.map_cons, List.map_nil, List.foldl_cons, List.foldl_nil, List.set_cons_succ, List.set_cons_zero, List.getElem?_cons_zero, List.getElem?_cons_succ, W.betw, Option.isSome_some, true_and, if_true]
    refine TF.between W.toDraw W.betw st1 (Int.lt_of_le_of_lt (show x - 0 + 1 ≤ 1000000000001 by omega) (by decide)) fun r s2 st2 le2 h1 h2 => hn r s2 st2 le2 ?_
    unfold Bnd
    by_cases z : 0 < x
    · have := h2 z; omega
    · have := h1 (by omega); omega
  · intro rs s1 hl hR st1 le1
    exact q rs s1 (by simpa using hl) hR st1 le1
theorem gbasket (W : DrawsA P) (hgb : P.fn "_law_greatbasket" = some f_law_greatbasket) (st : St k s) {m : Int} (hm : 0 ≤ m) (hm2 : m ≤ 1000) (q : ∀ (rs : List Int) s', rs.length = m.toNat → (∀ r ∈ rs, Bnd r) → St k s' → Le k s s' → Q (tI rs) s') :
    wpCall P (n + 4) false "_law_greatbasket" [.val (.ref k), .val (.int m)] s Q E := by
  refine call_go hgb rfl ?_
  show wpB _ _ [.val (.ref k), .val (.int m), .no, .no] _ _
  unfold f_law_greatbasket
  have hlen : (rangeD 0 m.toNat).length ≤ line := by unfold rangeD line; simp; omega
  have m1 : m < 2 ^ 62 := by omega
  have m2 : -(2 ^ 62) ≤ m := by omega
  refine cutP (fun ρ' s' => ∃ w : Int, ρ' = [.val (.ref k), .val (.int m), .val (.int w), .no] ∧ St k s' ∧ Le k s s') ?_ ?_
  · simp only [wpS, wpE, wpA, wpX, cstD, asgT, Tg.one, List.getElem?_cons_zero, List.getElem?_cons_succ, List.set_cons_zero, List.set_cons_succ, implies_true, true_and, W.take, Option.isSome_some]
    exact TF.take W.toDraw st (by decide) fun r s' st' le h0 _ _ => ⟨r, rfl, st', le⟩
  rintro _ s1 ⟨w, rfl, st1, le1⟩
  refine cutP (fun ρ' s' => ρ' = [.val (.ref k), .val (.int m), .val (.int w), .no] ∧ s' = s1) ?_ ?_
  · simp only [wpB, wpS, wpE, wpT, wpQ, wpI, cstD, cmpD, eqqD, truD, List.getElem?_cons_zero, List.getElem?_cons_succ, decide_eq_true_eq, Bool.false_eq_true, false_implies, true_and]
    split
    · refine ⟨m1, m2, hlen, compW_draw Bnd st1 (fun _ _ => trivial) (fun d hd s2 st2 le2 nx hn => ?_) fun rs s2 hl hR st2 le2 => q rs s2 (by simpa [rangeD] using hl) hR st2 (le1.trans le2)⟩
      simp only [wipe, asgT, wpC, if_true]
      exact hn 0 s2 st2 (Le.refl _ _) ⟨by decide, by decide⟩
    · trivial
  rintro _ s2 ⟨rfl, e2⟩
  subst e2
  refine cutP (fun ρ' s' => ρ' = [.val (.ref k), .val (.int m), .val (.int w), .no] ∧ s' = s2) ?_ ?_
  · simp only [wpB, wpS, wpE, wpT, wpQ, wpI, cstD, cmpD, eqqD, truD, List.getElem?_cons_zero, List.getElem?_cons_succ, decide_eq_true_eq, Bool.false_eq_true, false_implies, true_and]
    split
    · refine ⟨m1, m2, hlen, compW_draw Bnd st1 (fun _ _ => trivial) (fun d hd s3 st3 le3 nx hn => ?_) fun rs s3 hl hR st3 le3 => q rs s3 (by simpa [rangeD] using hl) hR st3 (le1.trans le3)⟩
      simp only [wipe, asgT, wpC, if_true, binD, intD]
      exact ⟨pow_k (by decide) (by decide), hn _ s3 st3 (Le.refl _ _) ⟨by decide, by decide⟩⟩
    · trivial
  rintro _ s3 ⟨rfl, e2⟩
  subst e2
  simp only [wpB, wpS, wpE, wpQ, wpI, List.getElem?_cons_zero, List.getElem?_cons_succ, Bool.false_eq_true, false_implies, true_and]
  refine ⟨m1, m2, hlen, compW_draw Bnd st1 (fun _ _ => trivial) (fun d hd s4 st4 le4 nx hn => ?_) fun rs s4 hl hR st4 le4 => q rs s4 (by simpa [rangeD] using hl) hR st4 (le1.trans le4)⟩
  simp only [wipe, asgT, wpC, wpE, wpA, wpX, cstD, binD, intD, List.map_cons, List.map_nil, List.foldl_cons, List.foldl_nil, List.set_cons_succ, List.set_cons_zero, List.getElem?_cons_zero, List.getElem?_cons_succ, W.great, Option.isSome_some, true_and, if_true]
  refine ⟨pow_k (by decide) (by decide), TF.great W.toDraw W.great st4 (by decide) fun r s5 st5 le5 h1 h2 => hn r s5 st5 le5 ?_⟩
  have e10 : (10 : Int) ^ Int.toNat 12 = 1000000000000 := by decide
  rw [e10] at h2
  unfold Bnd
  omega
end TF

set_option linter.all false
set_option maxRecDepth 10000
namespace TF
open PySem (Str)
open PI
variable {P : Prog} {n : Nat} {h : Bool} {s s' s'' : S} {Q : K1} {E : KX} {k : Nat}
/-- a draw from a new list -/
theorem pick_new (W : DrawsA P) (st : St k s) {l : List D} (ok : okDs s.length l) (hl : l.length ≤ 1000) (q : ∀ d s', St k s' → Le k s s' → (d ∈ l ∨ l = [] ∧ d = .non) → Q d s') :
    wpCall P (n + 3) h "_law_pick" [.val (.ref k), .val (.ref s.length)] (s ++ [.lst l]) Q E := by
  have st1 := st.new ok
  refine TF.pick W.toDraw W.pick st1.1 (row := .ref s.length) lstAt_new (fun z => ?_) hl fun d s2 st2 le2 hd => q d s2 st2 (st1.2.trans le2) hd
  have := st.lt
  cases z
  omega
/-- tuples are short -/
def Sh (d : D) : Prop := ∀ l, d = .tup l → l.length ≤ 1000
theorem okD_mem0 {m : Nat} {l : List D} (h : okDs 0 l) {d : D} (hd : d ∈ l) : okD m d := okD.mono (Nat.zero_le _) d (okDs_mem h hd)
theorem atom (W : DrawsA P) (hat : P.fn "_law_atom" = some f_law_atom) (hsg : P.fn "_law_signed" = some f_law_signed) (st : St k s) (q : ∀ d s', St k s' → Le k s s' → okD 0 d → Sh d → Q d s') : wpCall P (n + 5) false "_law_atom" [.val (.ref k)] s Q E := by
  refine call_go hat rfl ?_
  show wpB _ _ [.val (.ref k), .no] _ _
  unfold f_law_atom
  have fin : ∀ (l : List D) s1, (∀ d ∈ l, Sh d) → okDs 0 l → l ≠ [] → St k s1 → Le k s s1 → l.length ≤ 1000 → wpCall P (n + 4) false "_law_pick" [.val (.ref k), .val (.ref s1.length)] (s1 ++ [.lst l]) Q (fun c fs s1 => E c fs s1) := fun l s1 sh ok ne st1 le1 hl =>
    pick_new W st1 (okDs_flat ok) hl fun d s2 st2 le2 hd => q d s2 st2 (le1.trans le2) (hd.elim (fun z => okDs_mem ok z) fun z => absurd z.1 ne) (hd.elim (fun z => sh d z) fun z => absurd z.1 ne)
  refine cutP (fun ρ' s' => ∃ w : Int, ρ' = [.val (.ref k), .val (.int w)] ∧ St k s' ∧ Le k s s') ?_ ?_
  · simp only [wpS, wpE, wpA, wpX, cstD, asgT, Tg.one, List.getElem?_cons_zero, List.getElem?_cons_succ, List.set_cons_zero, List.set_cons_succ, implies_true, true_and, W.take, Option.isSome_some]
    exact TF.take W.toDraw st (by decide) fun r s' st' le h0 _ _ => ⟨r, rfl, st', le⟩
  rintro _ s1 ⟨w, rfl, st1, le1⟩
  refine cutP (fun ρ' s' => ρ' = [.val (.ref k), .val (.int w)] ∧ s' = s1) ?_ ?_
  · simp only [wpB, wpS, wpE, wpT, wpA, wpX, cstD, cmpD, ordD, ltD, gtD, truD, List.getElem?_cons_zero, List.getElem?_cons_succ, decide_eq_true_eq, W.take, Option.isSome_some, true_and]
    split
    · exact TF.take W.toDraw st1 (by decide) fun r s' st' le h0 _ _ => q _ s' st' (le1.trans le) trivial (fun l e => by cases e)
    · trivial
  rintro _ s2 ⟨rfl, e2⟩
  subst e2
  refine cutP (fun ρ' s' => ρ' = [.val (.ref k), .val (.int w)] ∧ s' = s2) ?_ ?_
  · simp only [wpB, wpS, wpE, wpT, wpA, wpX, wpQ, wpL, cstD, binD, intD, addD, cmpD, eqqD, truD, List.getElem?_cons_zero, List.getElem?_cons_succ, decide_eq_true_eq, W.pick, Option.isSome_some, true_and]
    split
    · refine ⟨pow_k (by decide) (by decide), pow_k (by decide) (by decide), pow_k (by decide) (by decide), pow_k (by decide) (by decide), mul_r (by decide), pow_k (by decide) (by decide), pow_k (by decide) (by decide), mul_r (by decide), (by show 7 ≤ line; decide), ?_⟩
      refine fin _ s2 (fun d hd l e => by subst e; simp at hd; try (subst hd; decide)) ⟨trivial, trivial, trivial, trivial, trivial, trivial, trivial, trivial⟩ (by simp) st1 le1 (by show 7 ≤ 1000; decide)
    · trivial
  rintro _ s3 ⟨rfl, e2⟩
  subst e2
  refine cutP (fun ρ' s' => ρ' = [.val (.ref k), .val (.int w)] ∧ s' = s3) ?_ ?_
  · simp only [wpB, wpS, wpE, wpT, wpA, wpX, cstD, cmpD, eqqD, truD, List.getElem?_cons_zero, List.getElem?_cons_succ, decide_eq_true_eq, W.take, Option.isSome_some, true_and]
    split
    · exact TF.take W.toDraw st1 (by decide) fun r s' st' le h0 _ _ => q _ s' st' (le1.trans le) trivial (fun l e => by cases e)
    · trivial
  rintro _ s4 ⟨rfl, e2⟩
  subst e2
  refine cutP (fun ρ' s' => ρ' = [.val (.ref k), .val (.int w)] ∧ s' = s4) ?_ ?_
  · simp only [wpB, wpS, wpE, wpT, wpA, wpX, wpQ, wpL, cstD, cmpD, eqqD, truD, List.getElem?_cons_zero, List.getElem?_cons_succ, decide_eq_true_eq, W.pick, Option.isSome_some, true_and]
    split
    · refine ⟨(by show 0 ≤ line; decide), (by show 2 ≤ line; decide), ?_⟩
      refine fin _ s4 (fun d hd l e => by subst e; simp at hd; try (subst hd; decide)) ⟨trivial, trivial, trivial⟩ (by simp) st1 le1 (by show 2 ≤ 1000; decide)
    · trivial
  rintro _ s5 ⟨rfl, e2⟩
  subst e2
  refine cutP (fun ρ' s' => ρ' = [.val (.ref k), .val (.int w)] ∧ s' = s5) ?_ ?_
  · simp only [wpB, wpS, wpE, wpT, wpA, wpX, wpQ, wpL, cstD, cmpD, eqqD, truD, List.getElem?_cons_zero, List.getElem?_cons_succ, decide_eq_true_eq, W.pick, Option.isSome_some, true_and]
    split
    · refine ⟨(by show 5 ≤ line; decide), ?_⟩
      refine fin _ s5 (fun d hd l e => by subst e; simp at hd; try (subst hd; decide)) ⟨trivial, trivial, trivial, trivial, trivial, trivial⟩ (by simp) st1 le1 (by show 5 ≤ 1000; decide)
    · trivial
  rintro _ s6 ⟨rfl, e2⟩
  subst e2
  simp only [wpB, wpS, wpE, wpA, wpX, cstD, binD, intD, List.getElem?_cons_zero, hsg, Option.isSome_some, true_and]
  exact ⟨pow_k (by decide) (by decide), signed W hsg st1 (by decide) fun r s' st' le => q _ s' st' (le1.trans le) trivial (fun l e => by cases e)⟩
/-- a list of our own is written -/
theorem St.own {j : Nat} {l : List D} (st : St k s) (hj : j ≠ k) (ok : okDs s.length l) : St k (s.set j (.lst l)) := by
  obtain ⟨l0, e, q0⟩ := st.st
  refine ⟨⟨l0, (lstAt_set_ne hj).trans e, q0⟩, fun o ho => ?_⟩
  rw [List.length_set]
  rcases List.mem_or_eq_of_mem_set ho with z | z
  · exact st.ok o z
  · rw [z]; exact ok
theorem Le.own {j : Nat} {l : List D} (le : Le k s s') (hj : s.length ≤ j) : Le k s (s'.set j (.lst l)) :=
  ⟨by rw [List.length_set]; exact le.len, fun i h1 h2 => by rw [List.getElem?_set_ne (by omega)]; exact le.at_ i h1 h2⟩
theorem cutL_mem {l : List D} {a b : Option Int} {d : D} (h : d ∈ cutL l a b) : d ∈ l := by
  unfold cutL at h
  exact List.mem_of_mem_drop (List.mem_of_mem_take h)
theorem okDs_cut {m : Nat} {l : List D} (h : okDs m l) (a b : Option Int) : okDs m (cutL l a b) := okDs_all fun d hd => okDs_mem h (cutL_mem hd)
theorem paper (W : DrawsA P) (hpa : P.fn "_law_paper" = some f_law_paper) (hat : P.fn "_law_atom" = some f_law_atom) (hsg : P.fn "_law_signed" = some f_law_signed) (st : St k s) (q : ∀ d s', St k s' → Le k s s' → okD s'.length d → Sh d → Q d s') : wpCall P (n + 6) false "_law_paper" [.val (.ref k)] s Q E := by
  refine call_go hpa rfl ?_
  show wpB _ _ [.val (.ref k), .no, .no, .no, .no] _ _
  unfold f_law_paper
  refine cutP (fun ρ' s' => ρ' = [.val (.ref k), .val (.ref s.length), .no, .no, .no] ∧ s' = s ++ [.lst []]) ?_ ?_
  · simp only [wpS, wpE, wpQ, wpL, asgT, Tg.one, List.set_cons_zero, List.set_cons_succ, implies_true, true_and, and_self, and_true]
    decide
  rintro _ _ ⟨rfl, rfl⟩
  refine cutP (fun ρ' s' => ρ' = [.val (.ref k), .val (.ref s.length), .val (.int 0), .no, .no] ∧ s' = s ++ [.lst []]) ?_ ?_
  · simp only [wpS, wpE, cstD, asgT, Tg.one, List.set_cons_zero, List.set_cons_succ, implies_true, true_and, and_self]
  rintro _ _ ⟨rfl, rfl⟩
  have hk := st.lt
  have st1 := st.new (l := []) trivial
  refine cutP (fun ρ' s' => ∃ (j : Nat) (l : List D) (x2 x3 x4 : Sl), ρ' = [.val (.ref k), .val (.ref j), x2, x3, x4] ∧ St k s' ∧ Le k s s' ∧ s.length ≤ j ∧ lstAt s' j = some l ∧ l.length ≤ 1000 ∧ ∀ d ∈ l, Sh d) ?_ ?_
  · simp only [wpS, wpI, wpE, wpA, wpX, cstD, List.getElem?_cons_zero, W.take, Option.isSome_some, true_and]
    refine ⟨(fun z => by cases z), ?_⟩
    refine TF.take W.toDraw st1.1 (by decide) fun r s2 st2 le2 h0 _ h2 => ?_
    have hr := h2 (by decide)
    refine ⟨by omega, by omega, ?_⟩
    refine forW_inv (fun rest ρ' s' => ∃ (j : Nat) (l : List D) (c : Int) (x3 x4 : Sl), ρ' = [.val (.ref k), .val (.ref j), .val (.int c), x3, x4] ∧ St k s' ∧ Le k s s' ∧ s.length ≤ j ∧ lstAt s' j = some l ∧ l.length + rest.length ≤ 100 ∧ ∀ d ∈ l, Sh d) (fun _ _ _ _ => trivial) ?_ ?_ _ _ _ ?_
    · rintro d rest ρ s3 nx ⟨j, l, c, x3, x4, rfl, st3, le3, hj, hl, hlen, shl⟩ hn
      simp only [List.length_cons] at hlen
      have jk : j ≠ k := by omega
      simp only [wpB, wpS, wpE, wpT, wpA, wpX, asgT, List.set_cons_zero, List.set_cons_succ, List.getElem?_cons_zero, List.getElem?_cons_succ, hl, hat, Option.isSome_some, true_and]
      refine atom W hat hsg st3 fun d4 s4 st4 le4 ok4 sh4 => ?_
      have hl4 := le4.lst hl jk
      simp only [hl4]
      refine ⟨by unfold line; omega, ?_⟩
      have shn : ∀ d ∈ l ++ [d4], Sh d := fun d hd => (List.mem_append.mp hd).elim (shl d) fun z => by
        obtain rfl : d = d4 := by simpa using z
        exact sh4
      have okl : okDs s4.length (l ++ [d4]) := okDs_app (st4.ofOk hl4) ⟨okD.mono (Nat.zero_le _) _ ok4, trivial⟩
      have st5 := st4.own jk okl
      have le5 : Le k s (s4.set j (.lst (l ++ [d4]))) := (le3.trans le4).own hj
      have hl5 : lstAt (s4.set j (.lst (l ++ [d4]))) j = some (l ++ [d4]) := lstAt_set (lstAt_lt hl4)
      generalize hs5 : s4.set j (.lst (l ++ [d4])) = s5 at st5 le5 hl5
      simp only [cstD, cmpD, ordD, ltD, gtD, eqqD, truD, decide_eq_true_eq, W.take, Option.isSome_some, true_and]
      have stay : ∀ s6, St k s6 → Le k s5 s6 → nx [.val (.ref k), .val (.ref j), .val (.int c), .val d, x4] s6 := fun s6 st6 le6 =>
        hn _ _ ⟨j, l ++ [d4], c, _, _, rfl, st6, le5.trans le6, hj, le6.lst hl5 jk, by simp; omega, shn⟩
      split
      · refine TF.take W.toDraw st5 (by decide) fun r6 s6 st6 le6 _ _ _ => ?_
        dsimp only
        split
        · simp only [binD, addD, List.getElem?_cons_zero, List.getElem?_cons_succ, lenD, itemsD, le6.lst hl5 jk, Option.map_some, asgT, Tg.one, List.set_cons_zero, List.set_cons_succ, implies_true, true_and]
          have hl6 := le6.lst hl5 jk
          refine TF.take W.toDraw st6 (Int.lt_of_le_of_lt (show (((l ++ [d4]).length : Nat) : Int) ≤ 101 by simp; omega) (by decide)) fun r7 s7 st7 le7 g0 g1 g2 => ?_
          have hl7 := le7.lst hl6 jk
          simp only [wpQ, wpO, wpE, wpL, srcD, hl7, Option.map_some, Src.ok, Src.items, Src.notFl, Src.isList, List.getElem?_cons_zero, List.getElem?_cons_succ, true_and]
          have ok7 := st7.ofOk hl7
          have okn : okDs s7.length (cutL (l ++ [d4]) none (some r7) ++ [.tup (cutL (l ++ [d4]) (some r7) none)]) := okDs_app (okDs_cut ok7 _ _) ⟨okDs_cut ok7 _ _, trivial⟩
          have len7 : (cutL (l ++ [d4]) none (some r7)).length ≤ l.length := by
            have hr7 : r7 ≤ l.length := by
              by_cases z : (2 : Int) ≤ ((l ++ [d4]).length : Nat)
              · have := g2 z; simp at this; omega
              · have := g1 (by omega); omega
            unfold cutL sIx
            simp only [List.drop_zero, Nat.sub_zero, List.length_take]
            rw [if_neg (by omega)]
            omega
          refine ⟨(by show 1 ≤ line; decide), (by simp [line]; omega), ?_⟩
          have st8 := st7.new okn
          refine hn _ _ ⟨s7.length, _, _, _, _, rfl, st8.1, (((le5.trans le6).trans le7).trans st8.2), by have := ((le5.trans le6).trans le7).len; omega, lstAt_new, by simp; omega, fun d hd => ?_⟩
          rcases List.mem_append.mp hd with z | z
          · exact shn d (cutL_mem z)
          · obtain rfl : d = .tup (cutL (l ++ [d4]) (some r7) none) := by simpa using z
            intro m e
            cases e
            unfold cutL
            simp only [List.length_take, List.length_drop, List.length_append, List.length_cons, List.length_nil]
            omega
        · exact stay s6 st6 le6
      · exact stay s5 st5 (Le.refl _ _)
    · rintro ρ s3 ⟨j, l, c, x3, x4, rfl, st3, le3, hj, hl, hlen, shl⟩
      exact ⟨j, l, _, _, _, rfl, st3, le3, hj, hl, by omega, shl⟩
    · refine ⟨s.length, [], 0, .no, .no, rfl, st2, st1.2.trans le2, Nat.le_refl _, le2.lst lstAt_new (by omega), ?_, fun d hd => by cases hd⟩
      simp [rangeD]; omega
  rintro _ s3 ⟨j, l, x2, x3, x4, rfl, st3, le3, hj, hl, hlen, shl⟩
  have okl := st3.ofOk hl
  simp only [wpB, wpS, wpT, wpE, wpQ, cstD, lenD, itemsD, srcD, hl, Option.map_some, cmpD, eqqD, truD, List.getElem?_cons_zero, List.getElem?_cons_succ, decide_eq_true_eq, Src.items]
  split
  · refine sub_go (l := l) hl (by decide) (by omega) fun d _ hd => q d s3 st3 le3 (okDs_mem okl hd) (shl d hd)
  · exact q _ s3 st3 le3 okl fun m e => by cases e; exact hlen
end TF

set_option linter.all false
set_option maxRecDepth 10000
namespace TF
open PySem (Str)
open PI
variable {P : Prog} {n : Nat} {h : Bool} {s s' s'' : S} {Q : K1} {E : KX} {k : Nat}
/-- no basket of m kinds -/
def BadM (m : Nat) (d : D) : Prop := ∀ l, d = .tup l → l.length = m → isB d = false
theorem bad_set {l : List D} {i : Nat} {v : D} (hi : i < l.length) (hv : wn 1000000000000 v = false) : isB (.tup (l.set i v)) = false := by
  simp only [isB]
  have : (l.set i v).all (wn 1000000000000) = false := by
    rw [List.all_eq_false]
    exact ⟨v, by rw [List.mem_iff_getElem]; exact ⟨i, by simpa using hi, by simp⟩, by simp [hv]⟩
  rw [this, Bool.and_false]
theorem badtuple (W : DrawsA P) (hbt : P.fn "_law_badtuple" = some f_law_badtuple) (st : St k s) {xs : List Int} (h1 : 1 ≤ xs.length) (h4 : xs.length ≤ 4) (q : ∀ j d s', St k s' → Le k s s' → lstAt s' j = some [d] → okD s'.length d → BadM xs.length d → Sh d → Q (.ref j) s') :
    wpCall P (n + 5) false "_law_badtuple" [.val (.ref k), .val (tI xs), .val (.int 0), .val (.int 1000000000000)] s Q E := by
  refine call_go hbt rfl ?_
  show wpB _ _ [.val (.ref k), .val (tI xs), .val (.int 0), .val (.int 1000000000000), .no, .no, .no] _ _
  unfold f_law_badtuple
  refine cutP (fun ρ' s' => ∃ w : Int, ρ' = [.val (.ref k), .val (tI xs), .val (.int 0), .val (.int 1000000000000), .val (.int w), .no, .no] ∧ St k s' ∧ Le k s s') ?_ ?_
  · simp only [wpS, wpE, wpA, wpX, cstD, asgT, Tg.one, List.getElem?_cons_zero, List.getElem?_cons_succ, List.set_cons_zero, List.set_cons_succ, implies_true, true_and, W.take, Option.isSome_some]
    exact TF.take W.toDraw st (by decide) fun r s' st' le h0 _ _ => ⟨r, rfl, st', le⟩
  rintro _ s1 ⟨w, rfl, st1, le1⟩
  have one : ∀ (d : D) s2, St k s2 → Le k s1 s2 → okD s2.length d → BadM xs.length d → Sh d → Q (.ref s2.length) (s2 ++ [.lst [d]]) := fun d s2 st2 le2 ok hb sh =>
    have z := st2.new (l := [d]) ⟨ok, trivial⟩
    q _ d _ z.1 ((le1.trans le2).trans z.2) lstAt_new (okD.mono (by simp) _ ok) hb sh
  refine cutP (fun ρ' s' => ρ' = [.val (.ref k), .val (tI xs), .val (.int 0), .val (.int 1000000000000), .val (.int w), .no, .no] ∧ s' = s1) ?_ ?_
  · simp only [wpB, wpS, wpE, wpT, wpQ, wpL, cstD, cmpD, eqqD, truD, List.getElem?_cons_zero, List.getElem?_cons_succ, decide_eq_true_eq]
    split
    · simp only [tI, srcD, Src.items]
      have z := st1.new (l := xs.map D.int) (okDs_ints _ _)
      exact ⟨(by show 1 ≤ line; decide), one _ _ z.1 z.2 (by show s1.length < _; simp) (fun l e => by cases e) (fun l e => by cases e)⟩
    · trivial
  rintro _ s2 ⟨rfl, e2⟩
  subst e2
  refine cutP (fun ρ' s' => ρ' = [.val (.ref k), .val (tI xs), .val (.int 0), .val (.int 1000000000000), .val (.int w), .no, .no] ∧ s' = s2) ?_ ?_
  · simp only [wpB, wpS, wpE, wpT, wpQ, wpL, cstD, cmpD, eqqD, truD, List.getElem?_cons_zero, List.getElem?_cons_succ, decide_eq_true_eq, true_and]
    split
    · simp only [tI, srcD, Src.items, binD, addD]
      refine ⟨(by show 1 ≤ line; decide), by simp [line]; omega, (by show 1 ≤ line; decide), one _ _ st1 (Le.refl _ _) (okDs_app (okDs_ints _ _) ⟨trivial, trivial⟩) (fun l e hl => ?_) fun l e => ?_⟩
      · cases e
        simp at hl
      · cases e
        simp; omega
    · trivial
  rintro _ s3 ⟨rfl, e2⟩
  subst e2
  refine cutP (fun ρ' s' => ρ' = [.val (.ref k), .val (tI xs), .val (.int 0), .val (.int 1000000000000), .val (.int w), .no, .no] ∧ s' = s3) ?_ ?_
  · simp only [wpB, wpS, wpE, wpT, wpQ, wpL, wpO, cstD, cmpD, eqqD, truD, List.getElem?_cons_zero, List.getElem?_cons_succ, decide_eq_true_eq]
    split
    · simp only [tI, srcD, Src.items]
      refine ⟨(by show 1 ≤ line; decide), one _ _ st1 (Le.refl _ _) (okDs_cut (okDs_ints _ _) _ _) (fun l e hl => ?_) fun l e => ?_⟩
      · cases e
        unfold cutL sIx at hl
        simp only [List.drop_zero, Nat.sub_zero, List.length_take, List.length_map] at hl
        rw [if_pos (by omega)] at hl
        omega
      · cases e
        unfold cutL
        simp only [List.length_take, List.length_drop, List.length_map]
        omega
    · trivial
  rintro _ s4 ⟨rfl, e2⟩
  subst e2
  have okx : okD s4.length (tI xs) := okD_tI _ _
  refine cutP (fun ρ' s' => ρ' = [.val (.ref k), .val (tI xs), .val (.int 0), .val (.int 1000000000000), .val (.int w), .no, .no] ∧ s' = s4) ?_ ?_
  · simp only [wpB, wpS, wpE, wpT, wpQ, wpL, wpA, wpX, cstD, cmpD, eqqD, truD, List.getElem?_cons_zero, List.getElem?_cons_succ, decide_eq_true_eq, W.pick, Option.isSome_some, true_and]
    split
    · refine ⟨(by show 0 ≤ line; decide), (by show 1 ≤ line; decide), (by show 7 ≤ line; decide), ?_⟩
      have z1 := st1.new (l := []) trivial
      have z2 := z1.1.new (l := [tI xs]) ⟨okD_tI _ _, trivial⟩
      have okl : okDs (s4 ++ [Ob.lst []] ++ [Ob.lst [tI xs]]).length [D.non, .int 0, .bl true, .str "", .str "1 0", .ref s4.length, .ref (s4 ++ [Ob.lst []]).length] := ⟨trivial, trivial, trivial, trivial, trivial, (by show s4.length < _; simp), (by show _ < _; simp), trivial⟩
      refine pick_new W z2.1 okl (by show 7 ≤ 1000; decide) fun d s5 st5 le5 hd => ?_
      have hd := hd.resolve_right fun z => by simp at z
      have okd : okD s5.length d := okD.mono le5.len _ (okDs_mem okl hd)
      refine ⟨(by show 1 ≤ line; decide), one _ _ st5 (z1.2.trans (z2.2.trans le5)) okd (fun l e _ => by subst e; simp at hd) (fun l e => by subst e; simp at hd)⟩
    · trivial
  rintro _ s5 ⟨rfl, e2⟩
  subst e2
  refine cutP (fun ρ' s' => ρ' = [.val (.ref k), .val (tI xs), .val (.int 0), .val (.int 1000000000000), .val (.int w), .val (.ref s5.length), .no] ∧ s' = s5 ++ [.lst (xs.map .int)]) ?_ ?_
  · simp only [wpS, wpE, wpQ, tI, srcD, Src.items, asgT, Tg.one, List.getElem?_cons_zero, List.getElem?_cons_succ, List.set_cons_zero, List.set_cons_succ, implies_true, true_and, and_self]
  rintro _ _ ⟨rfl, rfl⟩
  have z5 := st1.new (l := xs.map D.int) (okDs_ints _ _)
  have jk : s5.length ≠ k := by have := st1.lt; omega
  refine cutP (fun ρ' s' => ∃ p : Nat, p < xs.length ∧ ρ' = [.val (.ref k), .val (tI xs), .val (.int 0), .val (.int 1000000000000), .val (.int w), .val (.ref s5.length), .val (.int p)] ∧ St k s' ∧ Le k (s5 ++ [.lst (xs.map .int)]) s') ?_ ?_
  · simp only [wpS, wpE, wpA, wpX, cstD, lenD, itemsD, lstAt_new, Option.map_some, binD, intD, asgT, Tg.one, List.getElem?_cons_zero, List.getElem?_cons_succ, List.set_cons_zero, List.set_cons_succ, implies_true, true_and, W.betw, Option.isSome_some, List.length_map]
    refine TF.between W.toDraw W.betw z5.1 (Int.lt_of_le_of_lt (show (xs.length : Int) - 1 - 0 + 1 ≤ 4 by omega) (by decide)) fun r s6 st6 le6 g1 g2 => ⟨r.toNat, ?_, ?_, st6, le6⟩
    · by_cases z : (0 : Int) < xs.length - 1
      · have := g2 z; omega
      · have := g1 (by omega); omega
    · have : ((r.toNat : Nat) : Int) = r := by
        by_cases z : (0 : Int) < xs.length - 1
        · have := g2 z; omega
        · have := g1 (by omega); omega
      rw [this]
  rintro _ s6 ⟨p, hp, rfl, st6, le6⟩
  have ixp : ∀ (l : List D), l.length = xs.length → ixN l.length (p : Int) = some p := fun l hl => by
    unfold ixN
    rw [if_pos (by omega), if_pos (by omega)]
    rfl
  have lx : (xs.map D.int).length = xs.length := by simp
  -- the written place
  refine cutP (fun ρ' s' => ρ' = [.val (.ref k), .val (tI xs), .val (.int 0), .val (.int 1000000000000), .val (.int w), .val (.ref s5.length), .val (.int p)] ∧ ∃ v, wn 1000000000000 v = false ∧ okD s'.length v ∧ St k s' ∧ Le k s5 s' ∧ lstAt s' s5.length = some ((xs.map .int).set p v)) ?_ ?_
  · have wr : ∀ (v : D) s7, wn 1000000000000 v = false → okD s7.length v → St k s7 → Le k s6 s7 →
        ∃ v', wn 1000000000000 v' = false ∧ okD (s7.set s5.length (.lst ((xs.map D.int).set p v))).length v' ∧ St k (s7.set s5.length (.lst ((xs.map D.int).set p v))) ∧ Le k s5 (s7.set s5.length (.lst ((xs.map D.int).set p v))) ∧ lstAt (s7.set s5.length (.lst ((xs.map D.int).set p v))) s5.length = some ((xs.map .int).set p v') := fun v s7 hv ok st7 le7 => by
      have le := (z5.2.trans le6).trans le7
      have hl : s5.length < s7.length := by have := (le6.trans le7).len; simp at this; omega
      refine ⟨v, hv, by rw [List.length_set]; exact ok, st7.own jk ?_, le.own (Nat.le_refl _), lstAt_set hl⟩
      refine okDs_all fun d hd => ?_
      rcases List.mem_or_eq_of_mem_set hd with z | z
      · exact okDs_mem (okDs_ints _ xs) z
      · rw [z]; exact ok
    have at7 : ∀ s7, Le k s6 s7 → lstAt s7 s5.length = some (xs.map D.int) := fun s7 le7 => (le6.trans le7).lst lstAt_new jk
    have e10 : (10 : Int) ^ Int.toNat 12 = 1000000000000 := by decide
    simp only [wpB, wpS, wpE, wpT, wpA, wpX, wpQ, wpL, cstD, binD, intD, addD, cmpD, ordD, ltD, gtD, eqqD, truD, List.getElem?_cons_zero, List.getElem?_cons_succ, decide_eq_true_eq, W.take, W.pick, Option.isSome_some, true_and, e10]
    split
    · refine TF.take W.toDraw st6 (by decide) fun r7 s7 st7 le7 a0 _ a2 => ⟨pow_k (by decide) (by decide), TF.take W.toDraw st7 (by decide) fun r8 s8 st8 le8 b0 _ b2 => ?_⟩
      have c2 := a2 (by decide)
      have hm : 0 ≤ r7 * r8 := Int.mul_nonneg a0 b0
      refine ⟨mul_l (by omega), ?_⟩
      simp only [at7 s8 (le7.trans le8), ixp _ lx]
      refine wr (.int (0 - 1 - r7 * r8)) s8 ?_ trivial st8 (le7.trans le8)
      simp only [wn]
      rw [decide_eq_false (by omega), Bool.false_and]
    · split
      · refine TF.take W.toDraw st6 (by decide) fun r7 s7 st7 le7 a0 _ a2 => ⟨pow_k (by decide) (by decide), TF.take W.toDraw st7 (by decide) fun r8 s8 st8 le8 b0 _ b2 => ?_⟩
        have c2 := a2 (by decide)
        have hm : 0 ≤ r7 * r8 := Int.mul_nonneg a0 b0
        refine ⟨mul_l (by omega), ?_⟩
        simp only [at7 s8 (le7.trans le8), ixp _ lx]
        refine wr (.int (1000000000000 + 1 + r7 * r8)) s8 ?_ trivial st8 (le7.trans le8)
        simp only [wn]
        rw [decide_eq_false (by omega : ¬ 1000000000000 + 1 + r7 * r8 ≤ 1000000000000), Bool.and_false]
      · split
        · refine TF.take W.toDraw st6 (by decide) fun r7 s7 st7 le7 a0 _ a2 => ?_
          simp only [at7 s7 le7, ixp _ lx]
          exact wr (.bl _) s7 rfl trivial st7 le7
        · refine ⟨(by show 1 ≤ line; decide), (by show 1 ≤ line; decide), (by show 0 ≤ line; decide), (by show 6 ≤ line; decide), ?_⟩
          have z6 := st6.new (l := [.int 0]) ⟨trivial, trivial⟩
          have okl : okDs (s6 ++ [Ob.lst [D.int 0]]).length [D.non, .str "1", .tup [.int 0], .ref s6.length, .str "", .tup []] := ⟨trivial, trivial, ⟨trivial, trivial⟩, (by show _ < _; simp), trivial, trivial, trivial⟩
          refine pick_new W z6.1 okl (by show 6 ≤ 1000; decide) fun d s7 st7 le7 hd => ?_
          have hd := hd.resolve_right fun z => by simp at z
          have le67 := z6.2.trans le7
          simp only [at7 s7 le67, ixp _ lx]
          refine wr _ s7 ?_ (okD.mono le7.len _ (okDs_mem okl hd)) st7 le67
          simp only [List.mem_cons, List.not_mem_nil, or_false] at hd
          rcases hd with rfl | rfl | rfl | rfl | rfl | rfl <;> rfl
  rintro _ s7 ⟨rfl, v, hv, okv, st7, le7, e7⟩
  simp only [wpB, wpS, wpE, wpQ, wpL, srcD, e7, Option.map_some, Src.items, List.getElem?_cons_zero, List.getElem?_cons_succ]
  exact ⟨(by show 1 ≤ line; decide), one _ _ st7 le7 (st7.ofOk e7) (fun l e _ => by cases e; exact bad_set (by simpa using hp) hv) (fun l e => by cases e; simp; omega)⟩
end TF

set_option linter.all false
set_option maxRecDepth 10000
namespace TF
open PySem (Str)
open PI
variable {P : Prog} {n : Nat} {h : Bool} {s s' s'' : S} {Q : K1} {E : KX} {k : Nat}
structure LawS (P : Prog) : Prop extends Sam P where
  nat_ : P.fn "_law_natural" = some f_law_natural
  isb : P.fn "_law_isbasket" = some f_law_isbasket
theorem e1012 : (10 : Int) ^ Int.toNat 12 = 1000000000000 := by decide
theorem isbasket (W : LawS P) {v : D} (ok : okD s.length v) (q : Q (.bl (isB v)) s) : wpCall P (n + 2) false "_law_isbasket" [.val v] s Q E := by
  refine call_go W.isb rfl ?_
  show wpB _ _ [.val v, .no] _ _
  unfold f_law_isbasket
  refine cutP (fun ρ' s' => (∃ l, v = .tup l ∧ 1 ≤ l.length ∧ l.length ≤ 4) ∧ ρ' = [.val v, .no] ∧ s' = s) ?_ ?_
  · simp only [wpB, wpS, wpE, wpT, cstD, List.getElem?_cons_zero, isT_tup ok, truD]
    cases v with
    | tup l =>
      simp only [isTup, Bool.not_true, Bool.false_eq_true, if_false, lenD, itemsD, Option.map_some, cmpD, ordD, ltD, gtD, truD, decide_eq_true_eq]
      split
      · rename_i z
        simp only [isB, decide_eq_false (by omega : ¬ 1 ≤ l.length), Bool.false_and] at q
        exact q
      · split
        · rename_i z1 z2
          simp only [isB, decide_eq_false (by omega : ¬ l.length ≤ 4), Bool.and_false, Bool.false_and] at q
          exact q
        · rename_i z1 z2
          exact ⟨⟨l, rfl, by omega, by omega⟩, trivial, trivial⟩
    | _ => exact q
  rintro _ s0 ⟨⟨l, rfl, h1, h4⟩, rfl, e0⟩
  subst e0
  have q : Q (.bl (l.all (wn 1000000000000))) s0 := by
    simp only [isB, decide_eq_true h1, decide_eq_true h4, Bool.true_and] at q
    exact q
  simp only [wpB, wpS, wpE, wpQ, wpI, walkD, srcD, Option.map_some, Src.items, List.getElem?_cons_zero, Bool.false_eq_true, false_implies, true_and, cstD]
  refine ⟨by simp [line]; omega, compW_pure (fun d => if wn 1000000000000 d then none else some d) trivial ?_ ?_⟩
  · intro d hd nx hn
    have okd : okD s0.length d := okDs_mem (show okDs s0.length l from ok) hd
    simp only [wipe, asgT, wpC, wpT, wpE, wpA, wpX, cstD, binD, intD, List.map_cons, List.map_nil, List.foldl_cons, List.foldl_nil, List.set_cons_succ, List.set_cons_zero, List.getElem?_cons_zero, List.getElem?_cons_succ, W.who, Option.isSome_some, true_and]
    refine whole W.who okd ?_
    cases d with
    | int x =>
      simp only [isInt, truD, Bool.not_true, Bool.false_eq_true, if_false, cmpD, ordD, ltD, gtD, decide_eq_true_eq, e1012]
      split
      · rename_i hx
        have w : ¬ wn 1000000000000 (.int x) = true := by simp only [wn, Bool.and_eq_true, decide_eq_true_eq]; omega
        rw [if_neg w] at hn
        exact hn
      · rename_i hx
        refine ⟨pow_k (by decide) (by decide), ?_⟩
        by_cases hh : 1000000000000 < x
        · have w : ¬ wn 1000000000000 (.int x) = true := by simp only [wn, Bool.and_eq_true, decide_eq_true_eq]; omega
          rw [if_neg w] at hn
          rw [if_pos hh]
          exact hn
        · have w : wn 1000000000000 (.int x) = true := by simp only [wn, Bool.and_eq_true, decide_eq_true_eq]; omega
          rw [if_pos w] at hn
          rw [if_neg hh]
          exact hn
    | _ => exact hn
  · simp only [cmpD, eqqD]
    have e : decide ((((l.filterMap fun d => if wn 1000000000000 d then none else some d).length : Nat) : Int) = 0) = l.all (wn 1000000000000) := by
      cases ha : l.all (wn 1000000000000) with
      | true =>
        have : l.filterMap (fun d => if wn 1000000000000 d then none else some d) = [] := List.filterMap_eq_nil_iff.mpr fun d hd => by rw [if_pos (List.all_eq_true.mp ha d hd)]
        rw [this]; rfl
      | false =>
        obtain ⟨d, hd, w⟩ := List.all_eq_false.mp ha
        have : d ∈ l.filterMap (fun d => if wn 1000000000000 d then none else some d) := List.mem_filterMap.mpr ⟨d, hd, by rw [if_neg w]⟩
        have := List.length_pos_of_mem this
        rw [decide_eq_false (by omega)]
    rw [e]
    exact q
theorem natural (W : LawS P) {xs : List Int} {m : Int} (hm : (xs.length : Int) = m) (hp : ∀ x ∈ xs, 0 ≤ x) (q : Q (.bl true) s) : wpCall P (n + 2) false "_law_natural" [.val (tI xs), .val (.int m)] s Q E := by
  refine call_go W.nat_ rfl ?_
  show wpB _ _ [.val (tI xs), .val (.int m), .no] _ _
  unfold f_law_natural
  refine cutP (fun ρ' s' => ρ' = [.val (tI xs), .val (.int m), .no] ∧ s' = s) ?_ ?_
  · simp only [wpB, wpS, wpE, wpT, tI, isT, truD, lenD, itemsD, Option.map_some, cmpD, neqD, List.getElem?_cons_zero, List.getElem?_cons_succ, List.length_map, hm, decide_true, Bool.not_true, Bool.false_eq_true, if_false, and_self]
  rintro _ s0 ⟨rfl, e0⟩
  subst e0
  refine cutP (fun ρ' s' => s' = s0) ?_ (fun ρ s1 e => by subst e; exact q)
  simp only [wpS, wpI, wpE, tI, walkD, srcD, Option.map_some, Src.items, List.getElem?_cons_zero]
  refine ⟨(fun z => by cases z), ?_⟩
  refine forW_test (fun _ => false) (fun ρ => ∃ a, ρ = [.val (tI xs), .val (.int m), a]) trivial ⟨_, rfl⟩ (fun _ _ z => by cases z) ?_ (fun _ _ _ => rfl)
  rintro d hd _ ρ ⟨a, rfl⟩ nx hn
  obtain ⟨x, hx, rfl⟩ := List.mem_map.mp hd
  simp only [wpB, wpS, wpT, wpE, wpA, wpX, cstD, asgT, List.set_cons_succ, List.set_cons_zero, List.getElem?_cons_zero, List.getElem?_cons_succ, W.who, Option.isSome_some, true_and]
  refine whole (s := s0) W.who trivial ?_
  simp only [isInt, truD, Bool.not_true, Bool.false_eq_true, if_false, cmpD, ordD, ltD, gtD, decide_eq_true_eq]
  rw [if_neg (by have := hp x hx; omega)]
  exact hn _ ⟨_, rfl⟩
end TF

set_option linter.all false
set_option maxRecDepth 10000
namespace TF
open PySem (Str)
open PI
variable {P : Prog} {n : Nat} {h : Bool} {s s' s'' : S} {Q : K1} {E : KX} {k : Nat}
/-! ### the number of cells -/
def prodF (p : Int) (xs : List Int) : Int := xs.foldl (fun p x => p * (x + 1)) p
def prodI (xs : List Int) : Int := prodF 1 xs
theorem prodF_mul : ∀ (xs : List Int) (p : Int), prodF p xs = p * prodF 1 xs
  | [], p => by simp [prodF]
  | x :: r, p => by
    show prodF (p * (x + 1)) r = p * prodF (1 * (x + 1)) r
    rw [prodF_mul r (p * (x + 1)), prodF_mul r (1 * (x + 1)), Int.one_mul, Int.mul_assoc]
theorem prodF_pos : ∀ (xs : List Int) (p : Int), 1 ≤ p → (∀ x ∈ xs, 0 ≤ x) → p ≤ prodF p xs
  | [], p, _, _ => Int.le_refl _
  | x :: r, p, hp, h => by
    show p ≤ prodF (p * (x + 1)) r
    have hx := h x (by simp)
    have h1 : p ≤ p * (x + 1) := by
      have := Int.mul_le_mul_of_nonneg_left (show (1 : Int) ≤ x + 1 by omega) (show (0 : Int) ≤ p by omega)
      omega
    exact Int.le_trans h1 (prodF_pos r _ (by omega) fun y hy => h y (by simp [hy]))
theorem bnd64 {x : Int} (h : 0 ≤ x ∧ x ≤ 1000000000000) : (x + 1).natAbs < 2 ^ 64 := by omega
structure Box (P : Prog) : Prop extends Goods P where
  cel : P.fn "cells" = some f_cells
  box : P.fn "box" = some f_box
  cells_ : P.cst "CELLS" = some (.int 1500)
  great_ : P.exc "TooGreat" = some (.fld "limit")
theorem cells (W : Box P) {v : D} (ok : okD s.length v) (q : ∀ xs, v = tI xs → isB v = true → Q (.int (prodI xs)) s) (e : isB v = false → E "BadBasket" [] s) : wpCall P (n + 4) false "cells" [.val v] s Q E := by
  refine call_go W.cel rfl ?_
  show wpB _ _ [.val v, .no, .no] _ _
  unfold f_cells
  refine cutP (fun ρ' s' => isB v = true ∧ ρ' = [.val v, .no, .no] ∧ s' = s) ?_ ?_
  · simp only [wpS, wpE, wpA, wpX, List.getElem?_cons_zero, W.one, Option.isSome_some, true_and]
    exact check_one W.toGoods ok (fun hb => ⟨hb, rfl⟩) e
  rintro _ s0 ⟨hb, rfl, e0⟩
  subst e0
  obtain ⟨xs, rfl, h1, h4, hx⟩ := isB_ints hb
  refine cutP (fun ρ' s' => ρ' = [.val (tI xs), .val (.int 1), .no] ∧ s' = s0) ?_ ?_
  · simp only [wpS, wpE, cstD, asgT, Tg.one, List.set_cons_succ, List.set_cons_zero, implies_true, true_and, and_self]
  rintro _ s1 ⟨rfl, e0⟩
  subst e0
  refine cutP (fun ρ' s' => (∃ a, ρ' = [.val (tI xs), .val (.int (prodI xs)), a]) ∧ s' = s1) ?_ ?_
  · simp only [wpS, wpI, wpE, tI, walkD, srcD, Option.map_some, Src.items, List.getElem?_cons_zero]
    refine ⟨(fun z => by cases z), ?_⟩
    refine forW_inv (fun r ρ s => s = s1 ∧ ∃ (p : Int) (ys : List Int) (a : Sl), r = ys.map .int ∧ (∀ y ∈ ys, 0 ≤ y ∧ y ≤ 1000000000000) ∧ ρ = [.val (tI xs), .val (.int p), a] ∧ prodF p ys = prodI xs) (fun _ _ _ _ => trivial) ?_ ?_ _ _ _ ⟨rfl, 1, xs, _, rfl, hx, rfl, rfl⟩
    · rintro d r ρ s nx ⟨rfl, p, ys, a, er, hy, rfl, hp⟩ hn
      cases ys with
      | nil => cases er
      | cons y ys =>
        cases er
        simp only [wpB, wpS, wpE, cstD, binD, intD, addD, asgT, Tg.one, List.getElem?_cons_zero, List.getElem?_cons_succ, List.set_cons_succ, List.set_cons_zero, implies_true, true_and]
        exact ⟨mul_r (bnd64 (hy y (by simp))), hn _ _ ⟨rfl, p * (y + 1), ys, _, rfl, fun z hz => hy z (by simp [hz]), rfl, hp⟩⟩
    · rintro ρ s ⟨rfl, p, ys, a, er, hy, rfl, hp⟩
      cases ys with
      | cons y ys => cases er
      | nil => exact ⟨⟨a, by rw [← hp]; rfl⟩, rfl⟩
  rintro _ s2 ⟨⟨a, rfl⟩, e0⟩
  subst e0
  simp only [wpB, wpS, wpE, List.getElem?_cons_zero, List.getElem?_cons_succ]
  exact q xs rfl hb
theorem law_product (hf : P.fn "_law_product" = some f_law_product) {xs : List Int} (hx : ∀ x ∈ xs, 0 ≤ x ∧ x ≤ 1000000000000) (q : Q (.int (prodI xs)) s) : wpCall P (n + 1) false "_law_product" [.val (tI xs)] s Q E := by
  refine call_go hf rfl ?_
  show wpB _ _ [.val (tI xs), .no, .no] _ _
  unfold f_law_product
  refine cutP (fun ρ' s' => ρ' = [.val (tI xs), .val (.int 1), .no] ∧ s' = s) ?_ ?_
  · simp only [wpS, wpE, cstD, asgT, Tg.one, List.set_cons_succ, List.set_cons_zero, implies_true, true_and, and_self]
  rintro _ s1 ⟨rfl, e0⟩
  subst e0
  refine cutP (fun ρ' s' => (∃ a, ρ' = [.val (tI xs), .val (.int (prodI xs)), a]) ∧ s' = s1) ?_ ?_
  · simp only [wpS, wpI, wpE, tI, walkD, srcD, Option.map_some, Src.items, List.getElem?_cons_zero]
    refine ⟨(fun z => by cases z), ?_⟩
    refine forW_inv (fun r ρ s => s = s1 ∧ ∃ (p : Int) (ys : List Int) (a : Sl), r = ys.map .int ∧ (∀ y ∈ ys, 0 ≤ y ∧ y ≤ 1000000000000) ∧ ρ = [.val (tI xs), .val (.int p), a] ∧ prodF p ys = prodI xs) (fun _ _ _ _ => trivial) ?_ ?_ _ _ _ ⟨rfl, 1, xs, _, rfl, hx, rfl, rfl⟩
    · rintro d r ρ s nx ⟨rfl, p, ys, a, er, hy, rfl, hp⟩ hn
      cases ys with
      | nil => cases er
      | cons y ys =>
        cases er
        simp only [wpB, wpS, wpE, cstD, binD, intD, addD, asgT, Tg.one, List.getElem?_cons_zero, List.getElem?_cons_succ, List.set_cons_succ, List.set_cons_zero, implies_true, true_and]
        exact ⟨mul_r (bnd64 (hy y (by simp))), hn _ _ ⟨rfl, p * (y + 1), ys, _, rfl, fun z hz => hy z (by simp [hz]), rfl, hp⟩⟩
    · rintro ρ s ⟨rfl, p, ys, a, er, hy, rfl, hp⟩
      cases ys with
      | cons y ys => cases er
      | nil => exact ⟨⟨a, by rw [← hp]; rfl⟩, rfl⟩
  rintro _ s2 ⟨⟨a, rfl⟩, e0⟩
  subst e0
  simp only [wpB, wpS, wpE, List.getElem?_cons_zero, List.getElem?_cons_succ]
  exact q
/-! ### the box -/
def stepB (rows : List (List Int)) (x : Int) : List (List Int) := rows.flatMap fun r => (List.range (x + 1).toNat).map fun j : Nat => r ++ [(j : Int)]
def boxF (rows : List (List Int)) (xs : List Int) : List (List Int) := xs.foldl stepB rows
def boxI (xs : List Int) : List (List Int) := boxF [[]] xs
theorem stepB_len (rows : List (List Int)) {x : Int} (hx : 0 ≤ x) : ((stepB rows x).length : Int) = rows.length * (x + 1) := by
  unfold stepB
  rw [List.length_flatMap]
  have e : (rows.map fun r => ((List.range (x + 1).toNat).map fun j : Nat => r ++ [(j : Int)]).length) = rows.map fun _ => (x + 1).toNat := by
    refine List.map_congr_left fun r _ => ?_
    simp
  rw [e]
  have : ∀ l : List (List Int), (l.map fun _ => (x + 1).toNat).sum = l.length * (x + 1).toNat := by
    intro l
    induction l with
    | nil => simp
    | cons a r ih => rw [List.map_cons, List.sum_cons, ih, List.length_cons, Nat.add_mul, Nat.one_mul, Nat.add_comm]
  rw [this, Int.natCast_mul]
  congr 1
  omega
/-- a comprehension of two clauses without an effect -/
theorem compA_pure {chk : S → Prop} {turn : D → List D → S → (List D → S → Prop) → Prop} {fin : List D → S → Prop} (f : D → List D) (hc : chk s) : ∀ (items acc : List D), (∀ d ∈ items, ∀ (a : List D) (nx : List D → S → Prop), (a ++ f d).length ≤ (acc ++ items.flatMap f).length → nx (a ++ f d) s → turn d a s nx) →
    fin (acc ++ items.flatMap f) s → compA chk turn fin items acc s
  | [], acc, _, q => ⟨hc, by simpa using q⟩
  | d :: r, acc, h, q => by
    refine ⟨hc, h d (by simp) acc _ ?_ ?_⟩
    · simp
    · refine compA_pure f hc r (acc ++ f d) (fun d' hd' a nx hl hn => h d' (by simp [hd']) a nx ?_ hn) (by simpa using q)
      simpa using hl
theorem flat_rng (r : List D) (m : Nat) : (rangeD 0 m).flatMap (fun d => match d with | .int i => [D.tup (r ++ [.int i])] | _ => []) = (List.range m).map (fun i : Nat => D.tup (r ++ [.int (i : Int)])) := by
  unfold rangeD
  rw [List.flatMap_map]
  show (List.range m).flatMap (fun i : Nat => [D.tup (r ++ [.int (0 + (i : Int))])]) = _
  induction List.range m with
  | nil => rfl
  | cons a l ih => rw [List.flatMap_cons, ih, List.map_cons, Int.zero_add]; rfl
theorem box_step {C : Cx} {j : Nat} {rows : List (List Int)} {x : Int} {xs : List Int} {a b : Sl} {Q : Src → S → Prop} {E : KX} (hC : C.hot = false) (e : lstAt s j = some (rows.map tI)) (hx : 0 ≤ x ∧ x ≤ 1000000000000) (hr : ∀ r ∈ rows, r.length ≤ 10) (hl : (stepB rows x).length ≤ 100000)
    (q : Q (.ls ((stepB rows x).map tI)) s) :
    wpQ C (.comp2 (.bin .add (.var 3) (.tup [(.var 4)])) [3, 4] [4] (.name 3) (.of (.var 1)) none (.name 4) (.rng1 (.bin .add (.var 2) (.cst (.int 1)))) none) [.val (tI xs), .val (.ref j), .val (.int x), a, b] s Q E := by
  have fm : (rows.map tI).flatMap (fun d => match d with | .tup l => (List.range (x + 1).toNat).map (fun i : Nat => D.tup (l ++ [.int (i : Int)])) | _ => []) = (stepB rows x).map tI := by
    unfold stepB
    rw [List.flatMap_map, List.map_flatMap]
    refine congrArg (fun g => List.flatMap g rows) (funext fun r => ?_)
    simp [tI, List.map_map, Function.comp_def]
  simp only [wpQ, wpI, wpE, walkD, srcD, e, Option.map_some, List.getElem?_cons_zero, List.getElem?_cons_succ, Src.items]
  refine ⟨⟨hC, rfl⟩, compA_pure (s := s) (fun d => match d with | .tup l => (List.range (x + 1).toNat).map (fun i : Nat => D.tup (l ++ [.int (i : Int)])) | _ => []) e _ _ ?_ (by rw [List.nil_append, fm]; exact q)⟩
  intro d hd acc nx hlen hn
  rw [List.nil_append, fm, List.length_map] at hlen
  obtain ⟨r, hrm, rfl⟩ := List.mem_map.mp hd
  have hr10 := hr r hrm
  have w0 : wipe [Sl.val (tI xs), .val (.ref j), .val (.int x), a, b] [3, 4] = [.val (tI xs), .val (.ref j), .val (.int x), .no, .no] := rfl
  simp only [w0, asgT, wpC, wpI, wpE, cstD, binD, addD, List.set_cons_succ, List.set_cons_zero, List.getElem?_cons_zero, List.getElem?_cons_succ, if_true]
  refine ⟨by omega, by omega, ?_⟩
  refine compA_pure (s := s) (fun d => match d with | .int i => [.tup (r.map .int ++ [.int i])] | _ => []) trivial _ _ ?_ ?_
  · intro d hd acc1 nx1 hlen1 hn1
    unfold rangeD at hd
    obtain ⟨i, hi, rfl⟩ := List.mem_map.mp hd
    have w1 : wipe [Sl.val (tI xs), .val (.ref j), .val (.int x), .val (tI r), .no] [4] = [.val (tI xs), .val (.ref j), .val (.int x), .val (tI r), .no] := rfl
    have fm2 : (rangeD 0 (x + 1).toNat).flatMap (fun d => match d with | .int i => [D.tup (r.map .int ++ [.int i])] | _ => []) = (List.range (x + 1).toNat).map (fun i : Nat => D.tup (r.map .int ++ [.int (i : Int)])) := by
      exact flat_rng _ _
    rw [fm2] at hlen1
    simp only [w1, asgT, wpC, wpE, wpL, tI, binD, addD, List.set_cons_succ, List.set_cons_zero, List.getElem?_cons_zero, List.getElem?_cons_succ, if_true]
    refine ⟨by show 1 ≤ 16777216; decide, by simp [line]; omega, ?_, hn1⟩
    simp only [tI, List.length_append, List.length_map, List.length_cons, List.length_nil] at hlen hlen1
    unfold line
    simp at hlen hlen1
    omega
  · have fm2 : (rangeD 0 (x + 1).toNat).flatMap (fun d => match d with | .int i => [D.tup (r.map .int ++ [.int i])] | _ => []) = (List.range (x + 1).toNat).map (fun i : Nat => D.tup (r.map .int ++ [.int (i : Int)])) := by
      exact flat_rng _ _
    rw [fm2]
    exact hn
end TF

set_option linter.all false
set_option maxRecDepth 10000
namespace TF
open PySem (Str)
open PI
variable {P : Prog} {n : Nat} {h : Bool} {s s' s'' : S} {Q : K1} {E : KX} {k : Nat}
theorem boxF_len : ∀ (xs : List Int) (rows : List (List Int)), (∀ x ∈ xs, 0 ≤ x) → ((boxF rows xs).length : Int) = prodF rows.length xs
  | [], rows, _ => rfl
  | x :: r, rows, h => by
    show ((boxF (stepB rows x) r).length : Int) = prodF ((rows.length : Int) * (x + 1)) r
    rw [boxF_len r _ (fun y hy => h y (by simp [hy])), stepB_len rows (h x (by simp))]
theorem step_items {rows : List (List Int)} {x : Int} {m : Nat} (h : ∀ r ∈ rows, r.length = m) : ∀ r ∈ stepB rows x, r.length = m + 1 := by
  intro r hr
  unfold stepB at hr
  obtain ⟨r0, h0, h1⟩ := List.mem_flatMap.mp hr
  obtain ⟨j, _, rfl⟩ := List.mem_map.mp h1
  simp [h r0 h0]
theorem box (W : Box P) {v : D} (ok : okD s.length v) (q : ∀ xs s', v = tI xs → isB v = true → prodI xs ≤ 1500 → Gr s s' → Q (.tup ((boxI xs).map tI)) s') (g : ∀ xs, v = tI xs → isB v = true → 1500 < prodI xs → E "TooGreat" [("limit", .int 1500)] s) (e : isB v = false → E "BadBasket" [] s) :
    wpCall P (n + 5) false "box" [.val v] s Q E := by
  refine call_go W.box rfl ?_
  show wpB _ _ [.val v, .no, .no, .no, .no] _ _
  unfold f_box
  refine cutP (fun ρ' s' => (∃ xs, v = tI xs ∧ isB v = true ∧ prodI xs ≤ 1500) ∧ ρ' = [.val v, .no, .no, .no, .no] ∧ s' = s) ?_ ?_
  · simp only [wpB, wpS, wpE, wpT, wpA, wpX, cstD, List.getElem?_cons_zero, W.cel, W.cells_, W.great_, Option.isSome_some, true_and]
    refine cells W ok (fun xs hv hb => ?_) e
    simp only [cmpD, gtD, truD, decide_eq_true_eq]
    split
    · rename_i hp
      refine ⟨?_, g xs hv hb hp⟩
      exact ⟨by decide, by decide +kernel⟩
    · rename_i hp
      exact ⟨⟨xs, hv, hb, by omega⟩, trivial⟩
  rintro _ s0 ⟨⟨xs, rfl, hb, hp⟩, rfl, e0⟩
  subst e0
  have hx : ∀ x ∈ xs, 0 ≤ x ∧ x ≤ 1000000000000 := by
    obtain ⟨ys, ey, _, _, hy⟩ := isB_ints hb
    have : xs = ys := by
      have e1 : xs.map D.int = ys.map D.int := by simpa [tI] using ey
      have inj : ∀ (a b : List Int), a.map D.int = b.map D.int → a = b := by
        intro a
        induction a with
        | nil => intro b hb; cases b with | nil => rfl | cons _ _ => cases hb
        | cons x r ih => intro b hb; cases b with
          | nil => cases hb
          | cons y t =>
            rw [List.map_cons, List.map_cons] at hb
            injection hb with h1 h2
            injection h1 with h1
            rw [h1, ih t h2]
      exact inj _ _ e1
    rw [this]; exact hy
  have h4 : xs.length ≤ 4 := by
    obtain ⟨ys, ey, _, h4, _⟩ := isB_ints hb
    have e1 : xs.map D.int = ys.map D.int := by simpa [tI] using ey
    have := congrArg List.length e1
    simp at this
    omega
  refine cutP (fun ρ' s' => ρ' = [.val (tI xs), .val (.ref s0.length), .no, .no, .no] ∧ s' = s0 ++ [.lst [tI []]]) ?_ ?_
  · simp only [wpS, wpE, wpQ, wpL, asgT, Tg.one, List.set_cons_succ, List.set_cons_zero, implies_true, true_and]
    exact ⟨by decide, by decide, rfl⟩
  rintro _ _ ⟨rfl, rfl⟩
  refine cutP (fun ρ' s' => ∃ j a b c, ρ' = [.val (tI xs), .val (.ref j), a, b, c] ∧ Gr s0 s' ∧ lstAt s' j = some ((boxI xs).map tI)) ?_ ?_
  · simp only [wpS, wpI, wpE, tI, walkD, srcD, Option.map_some, Src.items, List.getElem?_cons_zero]
    refine ⟨(fun z => by cases z), ?_⟩
    refine forW_inv (fun r ρ s => ∃ (ys zs : List Int) (rows : List (List Int)) (j : Nat) (a b c : Sl), r = ys.map .int ∧ xs = zs ++ ys ∧ rows = boxF [[]] zs ∧ (∀ r ∈ rows, r.length = zs.length) ∧ ρ = [.val (tI xs), .val (.ref j), a, b, c] ∧ Gr s0 s ∧ lstAt s j = some (rows.map tI)) (fun _ _ _ _ => trivial) ?_ ?_ _ _ _
      ⟨xs, [], [[]], s0.length, .no, .no, .no, rfl, rfl, rfl, (fun r hr => by obtain rfl : r = [] := by simpa using hr
                                                                              rfl), rfl, (Gr.refl s0).new ⟨trivial, trivial⟩, lstAt_new⟩
    · rintro d r ρ s1 nx ⟨ys, zs, rows, j, a, b, c, er, hxs, hrows, hlen, rfl, gr, el⟩ hn
      cases ys with
      | nil => cases er
      | cons y ys =>
        cases er
        have hy := hx y (by rw [hxs]; simp)
        have hz : ∀ z ∈ zs, 0 ≤ z := fun z hz => (hx z (by rw [hxs]; simp [hz])).1
        have hlz : zs.length < 4 := by rw [hxs] at h4; simp at h4; omega
        have hb1 : ((stepB rows y).length : Int) ≤ 1500 := by
          have e1 : stepB rows y = boxF [[]] (zs ++ [y]) := by rw [hrows]; unfold boxF; rw [List.foldl_append]; rfl
          have e2 := boxF_len (zs ++ [y]) [[]] (fun z hz' => by
            rcases List.mem_append.mp hz' with q | q
            · exact hz z q
            · obtain rfl : z = y := by simpa using q
              exact hy.1)
          have e3 : prodI xs = prodF (prodF 1 (zs ++ [y])) ys := by
            rw [hxs]
            unfold prodI prodF
            rw [← List.foldl_append]; simp
          have e4 := prodF_pos ys (prodF 1 (zs ++ [y])) (prodF_pos _ 1 (by decide) fun z hz' => by
            rcases List.mem_append.mp hz' with q | q
            · exact hz z q
            · obtain rfl : z = y := by simpa using q
              exact hy.1) fun z hz' => (hx z (by rw [hxs]; simp [hz'])).1
          rw [e1, e2]
          have : prodF (([[]] : List (List Int)).length : Int) (zs ++ [y]) = prodF 1 (zs ++ [y]) := rfl
          rw [this]
          omega
        simp only [wpB, wpS, asgT, Tg.one, implies_true, true_and, wpE, List.set_cons_succ, List.set_cons_zero]
        refine box_step (xs := xs) rfl el hy (fun r hr => by have := hlen r hr; omega) (by omega) ?_
        refine hn _ _ ⟨ys, zs ++ [y], stepB rows y, s1.length, _, _, _, rfl, by rw [hxs]; simp, by rw [hrows]; unfold boxF; rw [List.foldl_append]; rfl, fun r hr => ?_, rfl, gr.new ?_, lstAt_new⟩
        · rw [step_items hlen r hr]; simp
        · refine okDs_all fun d hd => ?_
          obtain ⟨r, _, rfl⟩ := List.mem_map.mp hd
          exact okD_tI _ _
    · rintro ρ s1 ⟨ys, zs, rows, j, a, b, c, er, hxs, hrows, hlen, rfl, gr, el⟩
      cases ys with
      | cons y ys => cases er
      | nil =>
        rw [List.append_nil] at hxs
        subst hxs
        exact ⟨j, a, b, c, rfl, gr, by rw [hrows] at el; exact el⟩
  rintro _ s2 ⟨j, a, b, c, rfl, gr, el⟩
  simp only [wpB, wpS, wpE, wpQ, srcD, el, Option.map_some, Src.items, List.getElem?_cons_zero, List.getElem?_cons_succ]
  exact q xs s2 rfl hb hp gr
/-! ### the box's order -/
theorem lexI_irr : ∀ a : List Int, lexI a a = false
  | [] => rfl
  | x :: r => by unfold lexI; rw [if_pos rfl]; exact lexI_irr r
theorem lexI_app : ∀ {a b : List Int} (c d : List Int), a.length = b.length → lexI a b = true → lexI (a ++ c) (b ++ d) = true
  | [], [], _, _, _, h => by cases h
  | x :: a, y :: b, c, d, hl, h => by
    unfold lexI at h
    show (if x = y then lexI (a ++ c) (b ++ d) else decide (x < y)) = true
    by_cases e : x = y
    · rw [if_pos e] at h ⊢
      exact lexI_app c d (by simpa using hl) h
    · rw [if_neg e] at h ⊢
      exact h
  | [], _ :: _, _, _, hl, _ => by cases hl
  | _ :: _, [], _, _, hl, _ => by cases hl
theorem lexI_same : ∀ (a : List Int) {i j : Int}, i < j → lexI (a ++ [i]) (a ++ [j]) = true
  | [], i, j, h => by
    show (if i = j then lexI [] [] else decide (i < j)) = true
    rw [if_neg (by omega)]; simp [h]
  | x :: a, i, j, h => by
    show (if x = x then lexI (a ++ [i]) (a ++ [j]) else decide (x < x)) = true
    rw [if_pos rfl]
    exact lexI_same a h
theorem step_sorted {rows : List (List Int)} {x : Int} {m : Nat} (hl : ∀ r ∈ rows, r.length = m) (h : rows.Pairwise fun a b => lexI a b = true) : (stepB rows x).Pairwise fun a b => lexI a b = true := by
  unfold stepB
  rw [List.pairwise_flatMap]
  refine ⟨fun r hr => ?_, ?_⟩
  · rw [List.pairwise_map]
    refine List.Pairwise.imp (fun {i j} hij => lexI_same r (by omega)) List.pairwise_lt_range
  · refine List.Pairwise.imp_of_mem (fun {a b} ha hb hab x hx y hy => ?_) h
    obtain ⟨i, _, rfl⟩ := List.mem_map.mp hx
    obtain ⟨j, _, rfl⟩ := List.mem_map.mp hy
    exact lexI_app _ _ (by rw [hl a ha, hl b hb]) hab
/-- what is so of the rows behind the kinds zs -/
structure RowsOk (rows : List (List Int)) (zs : List Int) : Prop where
  len : ∀ r ∈ rows, r.length = zs.length
  srt : rows.Pairwise fun a b => lexI a b = true
  fit : ∀ r ∈ rows, ∀ j : Nat, j < zs.length → 0 ≤ r.getD j 0 ∧ r.getD j 0 ≤ zs.getD j 0
theorem RowsOk.step {rows : List (List Int)} {zs : List Int} {x : Int} (hx : 0 ≤ x) (R : RowsOk rows zs) : RowsOk (stepB rows x) (zs ++ [x]) := by
  refine ⟨fun r hr => by rw [step_items R.len r hr]; simp, step_sorted R.len R.srt, fun r hr j hj => ?_⟩
  unfold stepB at hr
  obtain ⟨r0, h0, h1⟩ := List.mem_flatMap.mp hr
  obtain ⟨i, hi, rfl⟩ := List.mem_map.mp h1
  have hi : i < (x + 1).toNat := List.mem_range.mp hi
  have l0 := R.len r0 h0
  simp only [List.getD_eq_getElem?_getD]
  simp at hj
  by_cases hj2 : j < zs.length
  · rw [List.getElem?_append_left (by omega), List.getElem?_append_left hj2]
    have := R.fit r0 h0 j hj2
    simpa only [List.getD_eq_getElem?_getD] using this
  · have ej : j = zs.length := by omega
    subst ej
    rw [List.getElem?_append_right (by omega), List.getElem?_append_right (by omega)]
    simp [l0]
    omega
theorem box_ok : ∀ (xs : List Int), (∀ x ∈ xs, 0 ≤ x) → RowsOk (boxI xs) xs := by
  have key : ∀ (xs : List Int) (rows : List (List Int)) (zs : List Int), (∀ x ∈ xs, 0 ≤ x) → RowsOk rows zs → RowsOk (boxF rows xs) (zs ++ xs) := by
    intro xs
    induction xs with
    | nil => intro rows zs _ R; simpa [boxF] using R
    | cons x r ih =>
      intro rows zs h R
      have := ih (stepB rows x) (zs ++ [x]) (fun y hy => h y (by simp [hy])) (R.step (h x (by simp)))
      simpa [boxF] using this
  intro xs h
  have := key xs [[]] [] h ⟨fun r hr => by obtain rfl : r = [] := by simpa using hr
                                           rfl, List.pairwise_singleton _ _, fun r hr j hj => by simp at hj⟩
  simpa [boxI] using this
theorem box_len (xs : List Int) (h : ∀ x ∈ xs, 0 ≤ x) : ((boxI xs).length : Int) = prodI xs := boxF_len xs [[]] h
end TF

set_option linter.all false
set_option maxRecDepth 10000
namespace TF
open PySem (Str)
open PI
variable {P : Prog} {n : Nat} {h : Bool} {s s' s'' : S} {Q : K1} {E : KX} {k : Nat}
structure L01 (P : Prog) : Prop extends Box P, LawS P where
  till : P.exc "TillError" = some .plain
  err : P.fn "_law_err" = some f_law_err
  upB : P.below "BadBasket" "TillError" = some true
  upG : P.below "TooGreat" "TillError" = some true
  EB : Err1 P "BadBasket" false false false true false false false false false false false false false false false false false
  EG : Err1 P "TooGreat" false false false false false false false false false false false false false false false false true
  bof : P.fn "_law_boxof" = some f_law_boxof
  cof : P.fn "_law_cellsof" = some f_law_cellsof
  prod : P.fn "_law_product" = some f_law_product
  fits : P.fn "_law_fits" = some f_law_fits
  full : P.fn "_law_full" = some f_law_full
  right : P.fn "_law_right" = some f_law_right
def LB : List D := [.bl true, .tup [.str "BadBasket"]]
def LG : List D := [.bl true, .tup [.str "TooGreat", .int 1500]]
theorem boxof (W : L01 P) {v : D} (ok : okD s.length v) (q : ∀ xs s' j, v = tI xs → isB v = true → prodI xs ≤ 1500 → Gr s s' → lstAt s' j = some [.bl false, .tup ((boxI xs).map tI)] → Q (.ref j) s')
    (g : ∀ xs s' j, v = tI xs → isB v = true → 1500 < prodI xs → Gr s s' → lstAt s' j = some LG → Q (.ref j) s') (e : ∀ s' j, isB v = false → Gr s s' → lstAt s' j = some LB → Q (.ref j) s') :
    wpCall P (n + 6) false "_law_boxof" [.val v] s Q E := by
  refine call_go W.bof rfl ?_
  show wpB _ _ [.val v, .no] _ _
  unfold f_law_boxof
  simp only [wpB, wpS, wpT, wpE, wpQ, wpL, wpA, wpX, cstD, List.getElem?_cons_zero, List.getElem?_cons_succ, W.box, W.till, Option.isSome_some, true_and]
  refine box W.toBox ok (fun xs s1 hv hb hp gr => ⟨(by show 2 ≤ line; decide), q xs _ _ hv hb hp (gr.new ⟨trivial, okDs_all fun d hd => ?_, trivial⟩) lstAt_new⟩) (fun xs hv hb hp => ?_) (fun hb => ?_)
  · obtain ⟨r, _, rfl⟩ := List.mem_map.mp hd
    exact okD_tI _ _
  · simp only [W.upG, W.err, Option.isSome_some, true_and, List.set_cons_succ, List.set_cons_zero, List.getElem?_cons_succ, List.getElem?_cons_zero]
    exact errG W.err W.great_ W.EG fun s2 g2 => ⟨(by show 2 ≤ line; decide), g xs _ _ hv hb hp (g2.new ⟨trivial, ⟨trivial, trivial, trivial⟩, trivial⟩) lstAt_new⟩
  · simp only [W.upB, W.err, Option.isSome_some, true_and, List.set_cons_succ, List.set_cons_zero, List.getElem?_cons_succ, List.getElem?_cons_zero]
    exact errB W.err W.bad W.EB fun s2 g2 => ⟨(by show 2 ≤ line; decide), e _ _ hb (g2.new ⟨trivial, ⟨trivial, trivial⟩, trivial⟩) lstAt_new⟩
theorem cellsof (W : L01 P) {v : D} (ok : okD s.length v) (q : ∀ xs s' j, v = tI xs → isB v = true → Gr s s' → lstAt s' j = some [.bl false, .int (prodI xs)] → Q (.ref j) s')
    (e : ∀ s' j, isB v = false → Gr s s' → lstAt s' j = some LB → Q (.ref j) s') :
    wpCall P (n + 5) false "_law_cellsof" [.val v] s Q E := by
  refine call_go W.cof rfl ?_
  show wpB _ _ [.val v, .no] _ _
  unfold f_law_cellsof
  simp only [wpB, wpS, wpT, wpE, wpQ, wpL, wpA, wpX, cstD, List.getElem?_cons_zero, List.getElem?_cons_succ, W.cel, W.till, Option.isSome_some, true_and]
  refine cells W.toBox ok (fun xs hv hb => ⟨(by show 2 ≤ line; decide), q xs _ _ hv hb ((Gr.refl s).new ⟨trivial, trivial, trivial⟩) lstAt_new⟩) (fun hb => ?_)
  simp only [W.upB, W.err, Option.isSome_some, true_and, List.set_cons_succ, List.set_cons_zero, List.getElem?_cons_succ, List.getElem?_cons_zero]
  exact errB W.err W.bad W.EB fun s2 g2 => ⟨(by show 2 ≤ line; decide), e _ _ hb (g2.new ⟨trivial, ⟨trivial, trivial⟩, trivial⟩) lstAt_new⟩
theorem law_fits (hf : P.fn "_law_fits" = some f_law_fits) {rs xs : List Int} (hl : rs.length = xs.length) (h4 : rs.length ≤ 1000) (hr : ∀ j : Nat, j < rs.length → rs.getD j 0 ≤ xs.getD j 0) (q : Q (.bl true) s) : wpCall P (n + 1) false "_law_fits" [.val (tI rs), .val (tI xs)] s Q E := by
  refine call_go hf rfl ?_
  show wpB _ _ [.val (tI rs), .val (tI xs), .no] _ _
  unfold f_law_fits
  refine cutP (fun ρ' s' => s' = s) ?_ (fun ρ s1 e => by subst e; exact q)
  simp only [wpS, wpI, wpE, List.getElem?_cons_zero, lenD_of (s := s) (d := tI rs) (l := rs.map .int) rfl, List.length_map]
  refine ⟨(fun z => by cases z), by omega, by omega, ?_⟩
  refine forW_test (fun _ => false) (fun ρ => ∃ a, ρ = [.val (tI rs), .val (tI xs), a]) trivial ⟨_, rfl⟩ (fun _ _ z => by cases z) ?_ (fun _ _ _ => rfl)
  rintro d hd _ ρ ⟨a, rfl⟩ nx hn
  unfold rangeD at hd
  obtain ⟨j, hj, rfl⟩ := List.mem_map.mp hd
  have hj : j < rs.length := by simpa using hj
  simp only [wpB, wpS, wpT, wpE, asgT, List.set_cons_succ, List.set_cons_zero, List.getElem?_cons_zero, List.getElem?_cons_succ, Int.zero_add]
  refine sub_tI hj (sub_tI (by omega) ?_)
  simp only [cmpD, gtD, truD, decide_eq_true_eq]
  rw [if_neg (by have := hr j hj; omega)]
  exact hn _ ⟨_, rfl⟩
theorem intsD_map : ∀ (ns : List Int), intsD (ns.map .int) = some ns
  | [] => rfl
  | n :: r => by
    show (intsD (r.map .int)).map (n :: ·) = _
    rw [intsD_map r]; rfl
theorem lt_tI {a b : List Int} {Q : K1} (q : Q (.bl (lexI a b)) s) : ltD (tI a) (tI b) s Q := by
  unfold ltD tI
  simp only [intsD_map]
  exact q
/-- the j-th row -/
theorem sub_rows {rows : List (List Int)} {j : Nat} {Q : K1} (hj : j < rows.length) (q : Q (tI (rows.getD j [])) s) : subD (.tup (rows.map tI)) (.int (j : Int)) s Q := by
  refine sub_go (l := rows.map tI) rfl (by omega) (by simpa using hj) fun d e _ => ?_
  have : d = tI (rows.getD j []) := by
    have e2 : (rows.map tI)[j]? = some d := e
    rw [List.getElem?_map, List.getElem?_eq_getElem hj] at e2
    rw [List.getD_eq_getElem?_getD, List.getElem?_eq_getElem hj]
    exact (Option.some.inj e2).symm
  rw [this]; exact q
theorem full (W : L01 P) {rows : List (List Int)} {xs : List Int} (R : RowsOk rows xs) (hx : ∀ x ∈ xs, 0 ≤ x ∧ x ≤ 1000000000000) (h4 : xs.length ≤ 4) (hl : (rows.length : Int) = prodI xs) (hm : rows.length ≤ 1500) (q : Q (.bl true) s) :
    wpCall P (n + 4) false "_law_full" [.val (.tup (rows.map tI)), .val (tI xs)] s Q E := by
  refine call_go W.full rfl ?_
  show wpB _ _ [.val (.tup (rows.map tI)), .val (tI xs), .no] _ _
  unfold f_law_full
  refine cutP (fun ρ' s' => ρ' = [.val (.tup (rows.map tI)), .val (tI xs), .no] ∧ s' = s) ?_ ?_
  · simp only [wpB, wpS, wpT, wpE, wpA, wpX, isT, truD, lenD, itemsD, Option.map_some, List.getElem?_cons_zero, List.getElem?_cons_succ, Bool.not_true, Bool.false_eq_true, if_false, W.prod, Option.isSome_some, true_and]
    refine law_product W.prod hx ?_
    simp only [cmpD, neqD, List.length_map, hl, decide_true, Bool.not_true, truD, Bool.false_eq_true, if_false, and_self]
  rintro _ s1 ⟨rfl, e0⟩
  subst e0
  refine cutP (fun ρ' s' => s' = s1) ?_ (fun ρ s2 e => by subst e; exact q)
  simp only [wpS, wpI, wpE, List.getElem?_cons_zero, lenD, itemsD, Option.map_some, List.length_map]
  refine ⟨(fun z => by cases z), by omega, by omega, ?_⟩
  refine forW_test (fun _ => false) (fun ρ => ∃ a, ρ = [.val (.tup (rows.map tI)), .val (tI xs), a]) trivial ⟨_, rfl⟩ (fun _ _ z => by cases z) ?_ (fun _ _ _ => rfl)
  rintro d hd _ ρ ⟨a, rfl⟩ nx hn
  unfold rangeD at hd
  obtain ⟨j, hj, rfl⟩ := List.mem_map.mp hd
  have hj : j < rows.length := by simpa using hj
  have hrm : rows.getD j [] ∈ rows := by
    rw [List.getD_eq_getElem?_getD, List.getElem?_eq_getElem hj]
    exact List.getElem_mem hj
  have hrl := R.len _ hrm
  have hrf := R.fit _ hrm
  have hpos : ∀ x ∈ rows.getD j [], 0 ≤ x := fun x hx' => by
    obtain ⟨i, hi, e⟩ := List.mem_iff_getElem.mp hx'
    have := (hrf i (by omega)).1
    rw [List.getD_eq_getElem?_getD, List.getElem?_eq_getElem hi, e] at this
    exact this
  have nxt := hn [.val (.tup (rows.map tI)), .val (tI xs), .val (.int (0 + (j : Int)))] ⟨_, rfl⟩
  simp only [Int.zero_add] at nxt ⊢
  simp only [asgT, List.set_cons_succ, List.set_cons_zero]
  refine cutP (fun ρ' s' => ρ' = [.val (.tup (rows.map tI)), .val (tI xs), .val (.int (j : Int))] ∧ s' = s1) ?_ ?_
  · simp only [wpB, wpS, wpT, wpE, wpA, wpX, List.getElem?_cons_zero, List.getElem?_cons_succ, W.nat_, W.fits, Option.isSome_some, true_and, lenD_of (s := s1) (d := tI xs) (l := xs.map .int) rfl, List.length_map]
    refine sub_rows hj (natural W.toLawS (by rw [hrl]; simp) hpos ?_)
    simp only [truD, Bool.not_true, Bool.false_eq_true, if_false]
    refine sub_rows hj (law_fits W.fits hrl (by omega) (fun i hi => (hrf i (by omega)).2) ?_)
    simp only [truD, Bool.not_true, Bool.false_eq_true, if_false, and_self]
  rintro _ s2 ⟨rfl, e0⟩
  subst e0
  simp only [wpB, wpS, wpT, wpE, cstD, cmpD, gtD, truD, binD, intD, List.getElem?_cons_zero, List.getElem?_cons_succ, decide_eq_true_eq, true_and]
  by_cases h0 : (0 : Int) < (j : Int)
  · rw [if_pos h0]
    have ej : (j : Int) - 1 = ((j - 1 : Nat) : Int) := by omega
    rw [ej]
    refine sub_rows (by omega) (sub_rows hj (lt_tI ?_))
    have hlt : lexI (rows.getD (j - 1) []) (rows.getD j []) = true := by
      have hp := List.pairwise_iff_getElem.mp R.srt (j - 1) j (by omega) hj (by omega)
      rw [List.getD_eq_getElem?_getD, List.getD_eq_getElem?_getD, List.getElem?_eq_getElem (by omega : j - 1 < rows.length), List.getElem?_eq_getElem hj]
      exact hp
    rw [hlt]
    simp only [truD, Bool.not_true, Bool.false_eq_true, if_false]
    exact nxt
  · rw [if_neg h0]
    simp only [Bool.false_eq_true, if_false]
    exact nxt
/-! ### right -/
theorem sm_LB (s : S) {a b : Nat} (ha : lstAt s a = some LB) (hb : lstAt s b = some LB) (N : Nat) : Sm s (N + 2) (.ref a) (.ref b) := by
  refine ⟨a, LB, LB, rfl, ha, hb, by decide, rfl, fun i x y ex ey => ?_⟩
  match i, ex, ey with
  | 0, ex, ey => cases ex; cases ey; exact rfl
  | 1, ex, ey =>
    cases ex; cases ey
    refine ⟨_, rfl, by decide, rfl, fun i x y ex ey => ?_⟩
    match i, ex, ey with
    | 0, ex, ey => cases ex; cases ey; cases N <;> exact rfl
    | i + 1, ex, ey => simp at ex
  | i + 2, ex, ey => simp [LB] at ex
theorem sm_LG (s : S) {a b : Nat} (ha : lstAt s a = some LG) (hb : lstAt s b = some LG) (N : Nat) : Sm s (N + 2) (.ref a) (.ref b) := by
  refine ⟨a, LG, LG, rfl, ha, hb, by decide, rfl, fun i x y ex ey => ?_⟩
  match i, ex, ey with
  | 0, ex, ey => cases ex; cases ey; exact rfl
  | 1, ex, ey =>
    cases ex; cases ey
    refine ⟨_, rfl, by decide, rfl, fun i x y ex ey => ?_⟩
    match i, ex, ey with
    | 0, ex, ey => cases ex; cases ey; cases N <;> exact rfl
    | 1, ex, ey => cases ex; cases ey; cases N <;> exact rfl
    | i + 2, ex, ey => simp at ex
  | i + 2, ex, ey => simp [LG] at ex
theorem sm_ci (s : S) {a b : Nat} {i : Int} (ha : lstAt s a = some [.bl false, .int i]) (hb : lstAt s b = some [.bl false, .int i]) (N : Nat) : Sm s (N + 1) (.ref a) (.ref b) := by
  refine ⟨a, _, _, rfl, ha, hb, by simp, rfl, fun i x y ex ey => ?_⟩
  match i, ex, ey with
  | 0, ex, ey => cases ex; cases ey; cases N <;> exact rfl
  | 1, ex, ey => cases ex; cases ey; cases N <;> exact rfl
  | i + 2, ex, ey => simp at ex
theorem right (W : L01 P) {v : D} (ok : okD s.length v) (q : ∀ s', Gr s s' → Q (.bl true) s') : wpCall P (n + 8) false "_law_right" [.val v] s Q E := by
  refine call_go W.right rfl ?_
  show wpB _ _ [.val v, .no, .no, .no] _ _
  unfold f_law_right
  refine cutP (fun ρ' s' => isB v = true ∧ ρ' = [.val v, .no, .no, .no] ∧ s' = s) ?_ ?_
  · simp only [wpB, wpS, wpT, wpE, wpQ, wpL, wpA, wpX, cstD, asgT, Tg.one, List.getElem?_cons_zero, List.getElem?_cons_succ, List.set_cons_succ, List.set_cons_zero, W.isb, W.sam, W.bof, W.cof, Option.isSome_some, implies_true, true_and]
    refine isbasket W.toLawS ok ?_
    simp only [truD]
    cases hb : isB v with
    | true => exact ⟨rfl, trivial⟩
    | false =>
      simp only [Bool.not_false, if_true]
      refine ⟨by decide, by decide, ?_⟩
      have g0 : Gr s (s ++ [.lst LB]) := (Gr.refl s).new ⟨trivial, ⟨trivial, trivial⟩, trivial⟩
      have e0 : lstAt (s ++ [.lst LB]) s.length = some LB := lstAt_new
      refine boxof W (g0.ok ok) (fun xs s' j _ z => by rw [hb] at z; cases z) (fun xs s' j _ z => by rw [hb] at z; cases z) fun s1 j1 _ g1 e1 => ?_
      refine same (s := s1) W.toSam 2 (.ref j1) (.ref s.length) (sm_LB s1 e1 (g1.lst e0) 0) (n + 3) _ _ ?_
      simp only [truD]
      refine cellsof W ((g0.trans g1).ok ok) (fun xs s' j _ z => by rw [hb] at z; cases z) fun s2 j2 _ g2 e2 => ?_
      refine same (s := s2) W.toSam 2 (.ref j2) (.ref s.length) (sm_LB s2 e2 ((g1.trans g2).lst e0) 0) (n + 3) _ _ ?_
      exact q _ (g0.trans (g1.trans g2))
  rintro _ s0 ⟨hb, rfl, e0⟩
  subst e0
  obtain ⟨xs, rfl, h1, h4, hx⟩ := isB_ints hb
  have inj : ∀ ys, tI xs = tI ys → xs = ys := fun ys e => by
    have e1 : xs.map D.int = ys.map D.int := by simpa [tI] using e
    have e2 := intsD_map xs
    rw [e1, intsD_map ys] at e2
    exact (Option.some.inj e2).symm
  refine cutP (fun ρ' s' => ρ' = [.val (tI xs), .no, .val (.int (prodI xs)), .no] ∧ s' = s0) ?_ ?_
  · simp only [wpS, wpE, wpA, wpX, asgT, Tg.one, List.getElem?_cons_zero, List.set_cons_succ, List.set_cons_zero, W.prod, Option.isSome_some, implies_true, true_and]
    exact law_product W.prod hx ⟨rfl, rfl⟩
  rintro _ s1 ⟨rfl, e0⟩
  subst e0
  refine cutP (fun ρ' s' => ρ' = [.val (tI xs), .no, .val (.int (prodI xs)), .no] ∧ Gr s1 s') ?_ ?_
  · simp only [wpB, wpS, wpT, wpE, wpQ, wpL, wpA, wpX, cstD, List.getElem?_cons_zero, List.getElem?_cons_succ, W.cof, W.sam, Option.isSome_some, true_and]
    refine cellsof W ok (fun ys s2 j hv _ g2 e2 => ?_) fun s' j z => by rw [hb] at z; cases z
    have := inj ys hv
    subst this
    refine ⟨by show 2 ≤ line; decide, ?_⟩
    have g3 : Gr s2 (s2 ++ [.lst [.bl false, .int (prodI xs)]]) := (Gr.refl s2).new ⟨trivial, trivial, trivial⟩
    refine same (s := s2 ++ [.lst [.bl false, .int (prodI xs)]]) W.toSam 1 (.ref j) (.ref s2.length) (sm_ci _ (g3.lst e2) lstAt_new 0) (n + 4) _ _ ?_
    simp only [truD, Bool.not_true, Bool.false_eq_true, if_false]
    exact g2.trans g3
  rintro _ s2 ⟨rfl, g2⟩
  refine cutP (fun ρ' s' => ∃ j, ρ' = [.val (tI xs), .no, .val (.int (prodI xs)), .val (.ref j)] ∧ Gr s1 s' ∧ ((prodI xs ≤ 1500 ∧ lstAt s' j = some [.bl false, .tup ((boxI xs).map tI)]) ∨ (1500 < prodI xs ∧ lstAt s' j = some LG))) ?_ ?_
  · simp only [wpS, wpE, wpA, wpX, asgT, Tg.one, List.getElem?_cons_zero, List.set_cons_succ, List.set_cons_zero, W.bof, Option.isSome_some, implies_true, true_and]
    refine boxof W (g2.ok ok) (fun ys s3 j hv _ hp g3 e3 => ?_) (fun ys s3 j hv _ hp g3 e3 => ?_) fun s' j z => by rw [hb] at z; cases z
    · have := inj ys hv
      subst this
      exact ⟨j, rfl, g2.trans g3, .inl ⟨hp, e3⟩⟩
    · have := inj ys hv
      subst this
      exact ⟨j, rfl, g2.trans g3, .inr ⟨hp, e3⟩⟩
  rintro _ s3 ⟨j, rfl, g3, hj⟩
  refine cutP (fun ρ' s' => prodI xs ≤ 1500 ∧ lstAt s' j = some [.bl false, .tup ((boxI xs).map tI)] ∧ ρ' = [.val (tI xs), .no, .val (.int (prodI xs)), .val (.ref j)] ∧ Gr s1 s') ?_ ?_
  · simp only [wpB, wpS, wpT, wpE, wpQ, wpL, wpA, wpX, cstD, cmpD, gtD, truD, List.getElem?_cons_zero, List.getElem?_cons_succ, W.sam, Option.isSome_some, true_and, decide_eq_true_eq]
    rcases hj with ⟨hp, ej⟩ | ⟨hp, ej⟩
    · rw [if_neg (by omega)]
      exact ⟨hp, ej, g3⟩
    · rw [if_pos hp]
      refine ⟨by decide, by decide, ?_⟩
      have g4 : Gr s3 (s3 ++ [.lst LG]) := (Gr.refl s3).new ⟨trivial, ⟨trivial, trivial, trivial⟩, trivial⟩
      refine same (s := s3 ++ [.lst LG]) W.toSam 2 (.ref j) (.ref s3.length) (sm_LG _ (g4.lst ej) lstAt_new 0) (n + 3) _ _ ?_
      exact q _ (g3.trans g4)
  rintro _ s4 ⟨hp, ej, rfl, g4⟩
  simp only [wpB, wpS, wpE, wpA, wpX, cstD, List.getElem?_cons_zero, List.getElem?_cons_succ, W.full, Option.isSome_some, true_and]
  refine sub_go (l := [.bl false, .tup ((boxI xs).map tI)]) ej (by decide) (by show (0 : Int) < 2; decide) fun d e _ => ?_
  obtain rfl : D.bl false = d := by simpa using e
  simp only [truD, Bool.not_false]
  refine sub_go (l := [.bl false, .tup ((boxI xs).map tI)]) ej (by decide) (by show (1 : Int) < 2; decide) fun d e _ => ?_
  obtain rfl : D.tup ((boxI xs).map tI) = d := by simpa using e
  have hl := box_len xs fun x h => (hx x h).1
  exact full W (box_ok xs fun x h => (hx x h).1) hx h4 hl (by omega) (q _ g4)
end TF

set_option linter.all false
set_option maxRecDepth 10000
namespace TF
open PySem (Str)
open PI
variable {P : Prog} {n : Nat} {h : Bool} {s s' s'' : S} {Q : K1} {E : KX} {k : Nat}
theorem ixN_nat {m j : Nat} (h : j < m) : ixN m (j : Int) = some j := by
  unfold ixN
  rw [if_pos (by omega), if_pos (by omega)]; rfl
theorem ixN_int {m : Nat} {i : Int} (h0 : 0 ≤ i) (h : i < m) : ixN m i = some i.toNat := by
  unfold ixN
  rw [if_pos h0, if_pos h]
theorem map_erase : ∀ (ls : List Int) (i : Nat), (ls.map D.int).eraseIdx i = (ls.eraseIdx i).map .int
  | [], _ => rfl
  | _ :: _, 0 => rfl
  | x :: r, i + 1 => by
    show D.int x :: (r.map D.int).eraseIdx i = _
    rw [map_erase r i]; rfl
/-- ints of our own list, each below m -/
def Low (m : Int) (rs : List Int) : Prop := ∀ r ∈ rs, 0 ≤ r ∧ r < m
theorem Low.set {m : Int} {rs : List Int} (h : Low m rs) {j : Nat} {v : Int} (hv : 0 ≤ v ∧ v < m) : Low m (rs.set j v) := fun r hr => (List.mem_or_eq_of_mem_set hr).elim (h r) fun e => e ▸ hv
theorem okL (m : Nat) (rs : List Int) : okDs m (rs.map .int) := okDs_ints m rs
theorem order (W : DrawsA P) (ho : P.fn "_law_order" = some f_law_order) (st : St k s) {m : Nat} (h1 : 1 ≤ m) (h4 : m ≤ 1000) (q : ∀ (rs : List Int) s', rs.length = m → Low m rs → St k s' → Le k s s' → Q (tI rs) s') :
    wpCall P (n + 3) false "_law_order" [.val (.ref k), .val (.int (m : Int))] s Q E := by
  refine call_go ho rfl ?_
  show wpB _ _ [.val (.ref k), .val (.int (m : Int)), .no, .no, .no, .no, .no, .no] _ _
  unfold f_law_order
  have m1 : (m : Int) < 2 ^ 62 := by omega
  have m2 : -(2 ^ 62) ≤ (m : Int) := by omega
  have hlen : (rangeD 0 (Int.toNat m)).length ≤ line := by unfold rangeD line; simp; omega
  have hk := st.lt
  have hrg : ∀ d ∈ rangeD 0 (Int.toNat m), ∃ i : Nat, i < m ∧ d = .int (i : Int) := fun d hd => by
    unfold rangeD at hd
    obtain ⟨i, hi, rfl⟩ := List.mem_map.mp hd
    exact ⟨i, by simpa using hi, by rw [Int.zero_add]⟩
  refine cutP (fun ρ' s' => ∃ w : Int, ρ' = [.val (.ref k), .val (.int (m : Int)), .val (.int w), .no, .no, .no, .no, .no] ∧ St k s' ∧ Le k s s') ?_ ?_
  · simp only [wpS, wpE, wpA, wpX, cstD, asgT, Tg.one, List.getElem?_cons_zero, List.getElem?_cons_succ, List.set_cons_zero, List.set_cons_succ, implies_true, true_and, W.take, Option.isSome_some]
    exact TF.take W.toDraw st (by decide) fun r s' st' le h0 _ _ => ⟨r, rfl, st', le⟩
  rintro _ s1 ⟨w, rfl, st1, le1⟩
  refine cutP (fun ρ' s' => ∃ (j : Nat) (rs : List Int), ρ' = [.val (.ref k), .val (.int (m : Int)), .val (.int w), .val (.ref j), .no, .no, .no, .no] ∧ St k s' ∧ Le k s s' ∧ s.length ≤ j ∧ lstAt s' j = some (rs.map .int) ∧ rs.length = m ∧ Low m rs) ?_ ?_
  · simp only [wpS, wpE, wpQ, wpI, cstD, asgT, Tg.one, List.getElem?_cons_zero, List.getElem?_cons_succ, Bool.false_eq_true, false_implies, implies_true, true_and]
    refine ⟨m1, m2, hlen, compW_draw (fun r => 0 ≤ r ∧ r < (m : Int)) st1 (fun _ _ => trivial) (fun d hd s2 st2 le2 nx hn => ?_) fun rs s2 hl hR st2 le2 => ?_⟩
    · obtain ⟨i, hi, rfl⟩ := hrg d hd
      simp only [wipe, asgT, wpC, wpE, List.map_cons, List.map_nil, List.foldl_cons, List.foldl_nil, List.set_cons_succ, List.set_cons_zero, List.getElem?_cons_zero, List.getElem?_cons_succ, if_true]
      exact hn _ s2 st2 (Le.refl _ _) ⟨by omega, by omega⟩
    · have st3 := st2.new (okL s2.length rs)
      exact ⟨s2.length, rs, rfl, st3.1, (le1.trans le2).trans st3.2, by have := (le1.trans le2).len; omega, lstAt_new, by simpa [rangeD] using hl, hR⟩
  rintro _ s2 ⟨j, rs, rfl, st2, le2, hj, hl, hrl, hR⟩
  refine cutP (fun ρ' s' => ∃ (j : Nat) (rs : List Int), ρ' = [.val (.ref k), .val (.int (m : Int)), .val (.int w), .val (.ref j), .no, .no, .no, .no] ∧ St k s' ∧ Le k s s' ∧ s.length ≤ j ∧ lstAt s' j = some (rs.map .int) ∧ rs.length = m ∧ Low m rs) ?_ ?_
  · simp only [wpB, wpS, wpT, wpE, wpQ, wpI, cstD, cmpD, eqqD, truD, asgT, Tg.one, List.getElem?_cons_zero, List.getElem?_cons_succ, Bool.false_eq_true, false_implies, implies_true, true_and, decide_eq_true_eq]
    split
    · refine ⟨m1, m2, hlen, compW_draw (fun r => 0 ≤ r ∧ r < (m : Int)) st2 (fun _ _ => trivial) (fun d hd s3 st3 le3 nx hn => ?_) fun rs s3 hl hR st3 le3 => ?_⟩
      · obtain ⟨i, hi, rfl⟩ := hrg d hd
        simp only [wipe, asgT, wpC, wpE, cstD, binD, intD, List.map_cons, List.map_nil, List.foldl_cons, List.foldl_nil, List.set_cons_succ, List.set_cons_zero, List.getElem?_cons_zero, List.getElem?_cons_succ, if_true, true_and]
        exact hn _ s3 st3 (Le.refl _ _) ⟨by omega, by omega⟩
      · have st4 := st3.new (okL s3.length rs)
        exact ⟨s3.length, rs, rfl, st4.1, (le2.trans le3).trans st4.2, by have := (le2.trans le3).len; omega, lstAt_new, by simpa [rangeD] using hl, hR⟩
    · exact ⟨j, rs, rfl, st2, le2, hj, hl, hrl, hR⟩
  clear hj hl hrl hR le2 st2
  clear s2 rs j
  rintro _ s2 ⟨j, rs, rfl, st2, le2, hj, hl, hrl, hR⟩
  refine cutP (fun ρ' s' => ∃ (j : Nat) (rs : List Int) (x4 : Sl), ρ' = [.val (.ref k), .val (.int (m : Int)), .val (.int w), .val (.ref j), x4, .no, .no, .no] ∧ St k s' ∧ Le k s s' ∧ s.length ≤ j ∧ lstAt s' j = some (rs.map .int) ∧ rs.length = m ∧ Low m rs) ?_ ?_
  · simp only [wpB, wpS, wpT, wpE, wpQ, wpI, cstD, cmpD, eqqD, gtD, truD, List.getElem?_cons_zero, List.getElem?_cons_succ, decide_eq_true_eq]
    split
    · split
      next hn1 =>
        simp only [wpA, wpX, wpE, cstD, binD, intD, asgT, Tg.one, List.getElem?_cons_zero, List.getElem?_cons_succ, List.set_cons_zero, List.set_cons_succ, implies_true, true_and, W.take, Option.isSome_some]
        refine TF.take W.toDraw st2 (Int.lt_of_le_of_lt (show (m : Int) - 1 ≤ 1000 by omega) (by decide)) fun r s3 st3 le3 g0 g1 g2 => ?_
        have hjk : j ≠ k := by omega
        have hl3 := le3.lst hl hjk
        have hr : r + 1 < (m : Int) := by
          by_cases z : (2 : Int) ≤ (m : Int) - 1
          · have := g2 z; omega
          · have := g1 (by omega); omega
        have ix1 : ixN (rs.map D.int).length r = some r.toNat := ixN_int g0 (by simp; omega)
        have st4 := st3.own hjk (l := (rs.set r.toNat (r + 1)).map .int) (okL _ _)
        have hl4 : lstAt (s3.set j (.lst ((rs.set r.toNat (r + 1)).map .int))) j = some ((rs.set r.toNat (r + 1)).map .int) := lstAt_set (lstAt_lt hl3)
        have ix2 : ixN ((rs.set r.toNat (r + 1)).map D.int).length (r + 1) = some (r + 1).toNat := ixN_int (by omega) (by simp; omega)
        simp only [addD, hl3, ix1]
        rw [show (rs.map D.int).set r.toNat (.int (r + 1)) = (rs.set r.toNat (r + 1)).map .int from List.map_set.symm]
        simp only [hl4, ix2]
        rw [show ((rs.set r.toNat (r + 1)).map D.int).set (r + 1).toNat (.int r) = ((rs.set r.toNat (r + 1)).set (r + 1).toNat r).map .int from List.map_set.symm]
        exact ⟨j, _, _, rfl, st4.own hjk (okL _ _), ((le2.trans le3).own hj).own hj, hj, lstAt_set (lstAt_lt hl4), by simp [hrl], (hR.set ⟨by omega, by omega⟩).set ⟨by omega, by omega⟩⟩
      · exact ⟨j, rs, _, rfl, st2, le2, hj, hl, hrl, hR⟩
    · exact ⟨j, rs, _, rfl, st2, le2, hj, hl, hrl, hR⟩
  clear hj hl hrl hR le2 st2
  clear s2 rs j
  rintro _ s2 ⟨j, rs, x4, rfl, st2, le2, hj, hl, hrl, hR⟩
  refine cutP (fun ρ' s' => ∃ (j : Nat) (rs : List Int) (x5 x6 : Sl), ρ' = [.val (.ref k), .val (.int (m : Int)), .val (.int w), .val (.ref j), x4, x5, x6, .no] ∧ St k s' ∧ Le k s s' ∧ s.length ≤ j ∧ lstAt s' j = some (rs.map .int) ∧ rs.length = m ∧ Low m rs) ?_ ?_
  · simp only [wpB, wpS, wpT, wpE, wpQ, wpL, wpI, srcD, hl, Option.map_some, Src.items, cstD, cmpD, gtD, truD, asgT, Tg.one, List.getElem?_cons_zero, List.getElem?_cons_succ, List.set_cons_zero, List.set_cons_succ, Bool.false_eq_true, false_implies, implies_true, decide_eq_true_eq, true_and]
    split
    · have st3 := st2.new (okL s2.length rs)
      have st4 := st3.1.new (l := []) trivial
      refine ⟨by show 0 ≤ line; decide, m1, m2, ?_⟩
      refine forW_inv (fun rest ρ' s' => ∃ (jl jr : Nat) (ls rs : List Int) (x6 : Sl), ρ' = [.val (.ref k), .val (.int (m : Int)), .val (.int w), .val (.ref jr), x4, .val (.ref jl), x6, .no] ∧ St k s' ∧ Le k s s' ∧ s.length ≤ jl ∧ s.length ≤ jr ∧ jl ≠ jr ∧ lstAt s' jl = some (ls.map .int) ∧ lstAt s' jr = some (rs.map .int) ∧ ls.length = rest.length ∧ rs.length + rest.length = m ∧ Low m ls ∧ Low m rs) (fun _ _ _ _ => trivial) ?_ ?_ _ _ _ ?_
      · rintro d rest ρ s5 nx ⟨jl, jr, ls, rs, x6, rfl, st5, le5, hjl, hjr, hne, hll, hlr, e1, e2, Ll, Lr⟩ hn
        simp only [List.length_cons] at e1 e2
        have kl : jl ≠ k := by omega
        have kr : jr ≠ k := by omega
        simp only [wpB, wpS, wpE, wpA, wpX, asgT, List.set_cons_zero, List.set_cons_succ, List.getElem?_cons_zero, List.getElem?_cons_succ, hll, hlr, lenD, itemsD, Option.map_some, List.length_map, W.take, Option.isSome_some, true_and]
        refine TF.take W.toDraw st5 (Int.lt_of_le_of_lt (show (ls.length : Int) ≤ 1000 by omega) (by decide)) fun r s6 st6 le6 g0 g1 g2 => ?_
        have hll6 := le6.lst hll kl
        have hlr6 := le6.lst hlr kr
        have hr : r < (ls.length : Int) := by
          by_cases z : (2 : Int) ≤ (ls.length : Int)
          · exact g2 z
          · have := g1 (by omega); omega
        have hrn : r.toNat < ls.length := by omega
        have ixr : ixN ls.length r = some r.toNat := ixN_int g0 hr
        have gt : (ls.map D.int)[r.toNat]? = some (.int ls[r.toNat]) := by simp [List.getElem?_eq_getElem hrn]
        have er : (ls.map D.int).eraseIdx r.toNat = (ls.eraseIdx r.toNat).map .int := (map_erase ls _)
        have hlr7 : lstAt (s6.set jl (.lst ((ls.eraseIdx r.toNat).map .int))) jr = some (rs.map .int) := (lstAt_set_ne (by omega)).trans hlr6
        simp only [hll6, List.length_map, ixr, gt, er, hlr7]
        have st7 := st6.own kl (l := (ls.eraseIdx r.toNat).map .int) (okL _ _)
        have b0 := Ll _ (List.getElem_mem hrn)
        refine ⟨⟨by omega, by omega⟩, by unfold line; omega, ?_⟩
        rw [show rs.map D.int ++ [.int ls[r.toNat]] = (rs ++ [ls[r.toNat]]).map .int by simp]
        refine hn _ _ ⟨jl, jr, ls.eraseIdx r.toNat, rs ++ [ls[r.toNat]], _, rfl, st7.own kr (okL _ _), ((le5.trans le6).own hjl).own hjr, hjl, hjr, hne, ?_, lstAt_set (lstAt_lt hlr7), ?_, by simp; omega, fun x hx => Ll x (List.mem_of_mem_eraseIdx hx), fun x hx => ?_⟩
        · exact (lstAt_set_ne (by omega)).trans (lstAt_set (lstAt_lt hll6))
        · rw [List.length_eraseIdx_of_lt hrn]; omega
        · rcases List.mem_append.mp hx with z | z
          · exact Lr x z
          · obtain rfl : x = ls[r.toNat] := by simpa using z
            exact b0
      · rintro ρ s5 ⟨jl, jr, ls, rs, x6, rfl, st5, le5, hjl, hjr, hne, hll, hlr, e1, e2, Ll, Lr⟩
        exact ⟨jr, rs, _, _, rfl, st5, le5, hjr, hlr, by simpa using e2, Lr⟩
      · have l3 := le2.len
        refine ⟨s2.length, (s2 ++ [Ob.lst (rs.map .int)]).length, rs, [], _, rfl, st4.1, (le2.trans st3.2).trans st4.2, by omega, by simp; omega, by simp, ?_, lstAt_new, by simp [rangeD, hrl], by simp [rangeD], hR, fun x hx => by cases hx⟩
        exact (lstAt_app (by simp)).trans lstAt_new
    · exact ⟨j, rs, _, _, rfl, st2, le2, hj, hl, hrl, hR⟩
  clear hj hl hrl hR le2 st2
  clear s2 rs j
  rintro _ s2 ⟨j, rs, x5, x6, rfl, st2, le2, hj, hl, hrl, hR⟩
  simp only [wpB, wpS, wpE, wpQ, srcD, hl, Option.map_some, Src.items, List.getElem?_cons_zero, List.getElem?_cons_succ]
  exact q rs s2 hrl hR st2 le2
end TF

set_option linter.all false
set_option maxRecDepth 10000
namespace TF
open PySem (Str)
open PI
variable {P : Prog} {n : Nat} {h : Bool} {s s' s'' : S} {Q : K1} {E : KX} {k : Nat}
/-- one of four lists of 1, 2, 3, 4 ints -/
theorem four (st : St k s) {a b c d : List Int} {m : Nat} (h1 : 1 ≤ m) (h4 : m ≤ 4) (la : a.length = 1) (lb : b.length = 2) (lc : c.length = 3) (ld : d.length = 4) (hB : ∀ x ∈ a ++ b ++ c ++ d, Bnd x)
    (q : ∀ j (rs : List Int) s', St k s' → Le k s s' → s.length ≤ j → lstAt s' j = some (rs.map .int) → rs.length = m → (∀ x ∈ rs, Bnd x) → Q (.ref j) s') :
    subD (.ref (s ++ [Ob.lst (a.map .int)] ++ [Ob.lst (b.map .int)] ++ [Ob.lst (c.map .int)] ++ [Ob.lst (d.map .int)]).length) (.int ((m : Int) - 1))
      (s ++ [Ob.lst (a.map .int)] ++ [Ob.lst (b.map .int)] ++ [Ob.lst (c.map .int)] ++ [Ob.lst (d.map .int)] ++ [Ob.lst [.ref s.length, .ref (s ++ [Ob.lst (a.map .int)]).length, .ref (s ++ [Ob.lst (a.map .int)] ++ [Ob.lst (b.map .int)]).length, .ref (s ++ [Ob.lst (a.map .int)] ++ [Ob.lst (b.map .int)] ++ [Ob.lst (c.map .int)]).length]]) Q := by
  have z1 := st.new (okL s.length a)
  have e1 : lstAt (s ++ [Ob.lst (a.map .int)]) s.length = some (a.map .int) := lstAt_new
  generalize hs1 : s ++ [Ob.lst (a.map .int)] = s1 at z1 e1 ⊢
  have z2 := z1.1.new (okL s1.length b)
  have e2 : lstAt (s1 ++ [Ob.lst (b.map .int)]) s1.length = some (b.map .int) := lstAt_new
  generalize hs2 : s1 ++ [Ob.lst (b.map .int)] = s2 at z2 e2 ⊢
  have z3 := z2.1.new (okL s2.length c)
  have e3 : lstAt (s2 ++ [Ob.lst (c.map .int)]) s2.length = some (c.map .int) := lstAt_new
  generalize hs3 : s2 ++ [Ob.lst (c.map .int)] = s3 at z3 e3 ⊢
  have z4 := z3.1.new (okL s3.length d)
  have e4 : lstAt (s3 ++ [Ob.lst (d.map .int)]) s3.length = some (d.map .int) := lstAt_new
  generalize hs4 : s3 ++ [Ob.lst (d.map .int)] = s4 at z4 e4 ⊢
  have l1 : s.length < s1.length := by rw [← hs1]; simp
  have l2 : s1.length < s2.length := by rw [← hs2]; simp
  have l3 : s2.length < s3.length := by rw [← hs3]; simp
  have l4 : s3.length < s4.length := by rw [← hs4]; simp
  have hk := st.lt
  have z5 := z4.1.new (l := [.ref s.length, .ref s1.length, .ref s2.length, .ref s3.length]) ⟨(by show s.length < _; omega), (by show s1.length < _; omega), (by show s2.length < _; omega), (by show s3.length < _; omega), trivial⟩
  have LE := (((z1.2.trans z2.2).trans z3.2).trans z4.2).trans z5.2
  refine sub_go (l := [.ref s.length, .ref s1.length, .ref s2.length, .ref s3.length]) lstAt_new (by omega) (by show _ < (4 : Int); omega) fun v ev _ => ?_
  have : m = 1 ∨ m = 2 ∨ m = 3 ∨ m = 4 := by omega
  rcases this with rfl | rfl | rfl | rfl
  · obtain rfl : D.ref s.length = v := by simpa using ev
    exact q _ a _ z5.1 LE (by omega) (((z2.2.trans z3.2).trans z4.2).trans z5.2 |>.lst e1 (by omega)) la fun x hx => hB x (by simp [hx])
  · obtain rfl : D.ref s1.length = v := by simpa using ev
    exact q _ b _ z5.1 LE (by omega) ((z3.2.trans z4.2).trans z5.2 |>.lst e2 (by omega)) lb fun x hx => hB x (by simp [hx])
  · obtain rfl : D.ref s2.length = v := by simpa using ev
    exact q _ c _ z5.1 LE (by omega) (z4.2.trans z5.2 |>.lst e3 (by omega)) lc fun x hx => hB x (by simp [hx])
  · obtain rfl : D.ref s3.length = v := by simpa using ev
    exact q _ d _ z5.1 LE (by omega) (z5.2.lst e4 (by omega)) ld fun x hx => hB x (by simp [hx])
theorem bndl {l : List Int} (h : (l.all fun x => decide (0 ≤ x) && decide (x ≤ 1000000000000)) = true) : ∀ x ∈ l, Bnd x := fun x hx => by
  have := List.all_eq_true.mp h x hx
  simpa [Bnd] using this
theorem edge (W : DrawsA P) (ho : P.fn "_law_order" = some f_law_order) (he : P.fn "_law_edgebasket" = some f_law_edgebasket) (st : St k s) {m : Nat} (h1 : 1 ≤ m) (h4 : m ≤ 4)
    (q : ∀ (rs : List Int) b j s', rs.length = m → (∀ r ∈ rs, Bnd r) → St k s' → Le k s s' → s.length ≤ j → lstAt s' j = some [tI rs, .bl b] → Q (.ref j) s') :
    wpCall P (n + 4) false "_law_edgebasket" [.val (.ref k), .val (.int (m : Int)), .val (.int 1500)] s Q E := by
  refine call_go he rfl ?_
  show wpB _ _ [.val (.ref k), .val (.int (m : Int)), .val (.int 1500), .no, .no, .no, .no, .no, .no, .no] _ _
  unfold f_law_edgebasket
  have hk := st.lt
  refine cutP (fun ρ' s' => ∃ (j : Nat) (rs : List Int), ρ' = [.val (.ref k), .val (.int (m : Int)), .val (.int 1500), .val (.ref j), .no, .no, .no, .no, .no, .no] ∧ St k s' ∧ Le k s s' ∧ s.length ≤ j ∧ lstAt s' j = some (rs.map .int) ∧ rs.length = m ∧ ∀ r ∈ rs, Bnd r) ?_ ?_
  · simp only [wpS, wpE, wpQ, wpL, cstD, binD, intD, asgT, Tg.one, List.getElem?_cons_zero, List.getElem?_cons_succ, List.set_cons_zero, List.set_cons_succ, implies_true, true_and]
    refine ⟨by show 1 ≤ line; decide, by show 2 ≤ line; decide, by show 3 ≤ line; decide, by show 4 ≤ line; decide, by show 4 ≤ line; decide, ?_⟩
    exact four (a := [1499]) (b := [29, 49]) (c := [9, 9, 14]) (d := [4, 4, 4, 11]) st h1 h4 rfl rfl rfl rfl (bndl (by decide)) fun j rs s' st' le' hj e hl hb => ⟨j, rs, rfl, st', le', hj, e, hl, hb⟩
  rintro _ s1 ⟨j1, ra, rfl, st1, le1, hj1, e1, la, ba⟩
  refine cutP (fun ρ' s' => ∃ (j : Nat) (rs : List Int), ρ' = [.val (.ref k), .val (.int (m : Int)), .val (.int 1500), .val (.ref j1), .val (.ref j), .no, .no, .no, .no, .no] ∧ St k s' ∧ Le k s1 s' ∧ s1.length ≤ j ∧ lstAt s' j = some (rs.map .int) ∧ rs.length = m ∧ ∀ r ∈ rs, Bnd r) ?_ ?_
  · simp only [wpS, wpE, wpQ, wpL, cstD, binD, intD, asgT, Tg.one, List.getElem?_cons_zero, List.getElem?_cons_succ, List.set_cons_zero, List.set_cons_succ, implies_true, true_and]
    refine ⟨by show 1 ≤ line; decide, by show 2 ≤ line; decide, by show 3 ≤ line; decide, by show 4 ≤ line; decide, by show 4 ≤ line; decide, ?_⟩
    exact four (a := [1500]) (b := [38, 38]) (c := [10, 9, 14]) (d := [4, 4, 4, 12]) st1 h1 h4 rfl rfl rfl rfl (bndl (by decide)) fun j rs s' st' le' hj e hl hb => ⟨j, rs, rfl, st', le', hj, e, hl, hb⟩
  rintro _ s2 ⟨j2, rb, rfl, st2, le2, hj2, e2, lb, bb⟩
  have e1 := le2.lst e1 (by omega)
  have l1 := le1.len
  refine cutP (fun ρ' s' => ρ' = [.val (.ref k), .val (.int (m : Int)), .val (.int 1500), .val (.ref j1), .val (.ref j2), .no, .no, .no, .no, .no] ∧ s2 = s') ?_ ?_
  · simp only [wpB, wpS, wpT, wpE, cstD, cmpD, eqqD, truD, List.getElem?_cons_zero, List.getElem?_cons_succ, decide_eq_true_eq]
    rw [if_neg (by decide)]
    trivial
  rintro _ _ ⟨rfl, rfl⟩
  refine cutP (fun ρ' s' => ∃ os : List Int, ρ' = [.val (.ref k), .val (.int (m : Int)), .val (.int 1500), .val (.ref j1), .val (.ref j2), .val (tI os), .no, .no, .no, .no] ∧ St k s' ∧ Le k s2 s' ∧ os.length = m ∧ Low m os) ?_ ?_
  · simp only [wpS, wpE, wpA, wpX, asgT, Tg.one, List.getElem?_cons_zero, List.getElem?_cons_succ, List.set_cons_zero, List.set_cons_succ, implies_true, true_and, ho, Option.isSome_some]
    exact order W ho st2 h1 (by omega) fun os s3 hl hL st3 le3 => ⟨os, rfl, st3, le3, hl, hL⟩
  rintro _ s3 ⟨os, rfl, st3, le3, lo, Lo⟩
  have e1 := le3.lst e1 (by omega)
  have e2 := le3.lst e2 (by omega)
  refine cutP (fun ρ' s' => ∃ w : Int, ρ' = [.val (.ref k), .val (.int (m : Int)), .val (.int 1500), .val (.ref j1), .val (.ref j2), .val (tI os), .val (.int w), .no, .no, .no] ∧ St k s' ∧ Le k s3 s') ?_ ?_
  · simp only [wpS, wpE, wpA, wpX, cstD, asgT, Tg.one, List.getElem?_cons_zero, List.getElem?_cons_succ, List.set_cons_zero, List.set_cons_succ, implies_true, true_and, W.take, Option.isSome_some]
    exact TF.take W.toDraw st3 (by decide) fun r s' st' le _ _ _ => ⟨r, rfl, st', le⟩
  rintro _ s4 ⟨w, rfl, st4, le4⟩
  have e1 := le4.lst e1 (by omega)
  have e2 := le4.lst e2 (by omega)
  have LE := ((le1.trans le2).trans le3).trans le4
  have fin : ∀ (rs : List Int) b s5, rs.length = m → (∀ r ∈ rs, Bnd r) → St k s5 → Le k s4 s5 → Q (.ref s5.length) (s5 ++ [.lst [tI rs, .bl b]]) := fun rs b s5 hl hb st5 le5 => by
    have z := st5.new (l := [tI rs, .bl b]) ⟨okD_tI _ _, trivial, trivial⟩
    have := (LE.trans le5).len
    exact q rs b _ _ hl hb z.1 ((LE.trans le5).trans z.2) this lstAt_new
  have via : ∀ (j : Nat) (ra : List Int) (ρ : Env), lstAt s4 j = some (ra.map .int) → j ≠ k → ra.length = m → (∀ r ∈ ra, Bnd r) → ∀ (turn : D → S → (Option D → S → Prop) → Prop), (∀ r s5 nx, subD (.ref j) (.int r) s5 (fun y s4 => nx (some y) s4) → turn (.int r) s5 nx) → ∀ b, compW (Src.tp (os.map .int)).ok turn (fun l s2 => 2 ≤ line ∧ Q (.ref s2.length) (s2 ++ [.lst [.tup l, .bl b]])) (os.map .int) [] s4 := fun j ra ρ ej jk lra bra turn ht b => by
    refine compW_draw Bnd st4 (fun _ _ => trivial) (fun d hd s5 st5 le5 nx hn => ?_) fun rs s5 hl hR st5 le5 => ⟨by decide, fin rs b s5 (by simpa [lo] using hl) hR st5 le5⟩
    obtain ⟨r, hr, rfl⟩ := List.mem_map.mp hd
    have := Lo r hr
    refine ht r s5 nx (sub_go (l := ra.map .int) (le5.lst ej jk) this.1 (by simp [lra]; exact this.2) fun v _ hv => ?_)
    obtain ⟨x, hx, rfl⟩ := List.mem_map.mp hv
    exact hn x s5 st5 (Le.refl _ _) (bra x hx)
  refine cutP (fun ρ' s' => ρ' = [.val (.ref k), .val (.int (m : Int)), .val (.int 1500), .val (.ref j1), .val (.ref j2), .val (tI os), .val (.int w), .no, .no, .no] ∧ s4 = s') ?_ ?_
  · simp only [wpB, wpS, wpT, wpE, wpQ, wpL, wpI, tI, walkD, srcD, Option.map_some, Src.items, cstD, cmpD, eqqD, truD, List.getElem?_cons_zero, List.getElem?_cons_succ, Bool.false_eq_true, false_implies, true_and, decide_eq_true_eq]
    split
    · refine ⟨by simp [line]; omega, via j1 ra [] e1 (by omega) la ba _ (fun r s5 nx z => ?_) false⟩
      simp only [wipe, asgT, wpC, List.map_cons, List.map_nil, List.foldl_cons, List.foldl_nil, List.set_cons_succ, List.set_cons_zero, List.getElem?_cons_zero, List.getElem?_cons_succ, if_true]
      exact z
    · trivial
  rintro _ _ ⟨rfl, rfl⟩
  refine cutP (fun ρ' s' => ρ' = [.val (.ref k), .val (.int (m : Int)), .val (.int 1500), .val (.ref j1), .val (.ref j2), .val (tI os), .val (.int w), .no, .no, .no] ∧ s4 = s') ?_ ?_
  · simp only [wpB, wpS, wpT, wpE, wpQ, wpL, wpI, tI, walkD, srcD, Option.map_some, Src.items, cstD, cmpD, eqqD, truD, List.getElem?_cons_zero, List.getElem?_cons_succ, Bool.false_eq_true, false_implies, true_and, decide_eq_true_eq]
    split
    · refine ⟨by simp [line]; omega, via j2 rb [] e2 (by omega) lb bb _ (fun r s5 nx z => ?_) true⟩
      simp only [wipe, asgT, wpC, List.map_cons, List.map_nil, List.foldl_cons, List.foldl_nil, List.set_cons_succ, List.set_cons_zero, List.getElem?_cons_zero, List.getElem?_cons_succ, if_true]
      exact z
    · trivial
  rintro _ _ ⟨rfl, rfl⟩
  have m1 : (m : Int) < 2 ^ 62 := by omega
  have m2 : -(2 ^ 62) ≤ (m : Int) := by omega
  have hlen : (rangeD 0 (Int.toNat m)).length ≤ line := by unfold rangeD line; simp; omega
  refine cutP (fun ρ' s' => ∃ (j : Nat) (rs : List Int), ρ' = [.val (.ref k), .val (.int (m : Int)), .val (.int 1500), .val (.ref j1), .val (.ref j2), .val (tI os), .val (.int w), .val (.ref j), .no, .no] ∧ St k s' ∧ Le k s4 s' ∧ s4.length ≤ j ∧ lstAt s' j = some (rs.map .int) ∧ rs.length = m ∧ ∀ r ∈ rs, Bnd r) ?_ ?_
  · simp only [wpS, wpE, wpQ, wpI, cstD, asgT, Tg.one, List.getElem?_cons_zero, List.getElem?_cons_succ, Bool.false_eq_true, false_implies, implies_true, true_and]
    refine ⟨m1, m2, hlen, compW_draw Bnd st4 (fun _ _ => trivial) (fun d hd s5 st5 le5 nx hn => ?_) fun rs s5 hl hR st5 le5 => ?_⟩
    · simp only [wipe, asgT, wpC, if_true]
      exact hn 0 s5 st5 (Le.refl _ _) ⟨by decide, by decide⟩
    · have z := st5.new (okL s5.length rs)
      exact ⟨s5.length, rs, rfl, z.1, le5.trans z.2, le5.len, lstAt_new, by simpa [rangeD] using hl, hR⟩
  rintro _ s5 ⟨j5, rs, rfl, st5, le5, hj5, e5, l5, b5⟩
  have hj5k : j5 ≠ k := by have := st4.lt; omega
  refine cutP (fun ρ' s' => ∃ (rs : List Int), ρ' = [.val (.ref k), .val (.int (m : Int)), .val (.int 1500), .val (.ref j1), .val (.ref j2), .val (tI os), .val (.int w), .val (.ref j5), .no, .no] ∧ St k s' ∧ Le k s4 s' ∧ lstAt s' j5 = some (rs.map .int) ∧ rs.length = m ∧ ∀ r ∈ rs, Bnd r) ?_ ?_
  · simp only [wpS, wpE, wpA, wpX, cstD, binD, intD, addD, List.getElem?_cons_zero, List.getElem?_cons_succ, true_and, W.take, Option.isSome_some, e1012]
    refine ⟨pow_k (by decide) (by decide), TF.take W.toDraw st5 (by decide) fun r s6 st6 le6 g0 _ g2 => ?_⟩
    have g2 := g2 (by decide)
    have e6 := le6.lst e5 hj5k
    refine sub_go (l := os.map .int) rfl (by decide) (by simp [lo]; omega) fun v _ hv => ?_
    obtain ⟨o, ho', rfl⟩ := List.mem_map.mp hv
    have := Lo o ho'
    have ix : ixN (rs.map D.int).length o = some o.toNat := ixN_int this.1 (by simp [l5]; exact this.2)
    simp only [e6, ix]
    rw [show (rs.map D.int).set o.toNat (.int (1500 + r)) = (rs.set o.toNat (1500 + r)).map .int from List.map_set.symm]
    refine ⟨_, st6.own hj5k (okL _ _), (le5.trans le6).own hj5, lstAt_set (lstAt_lt e6), by simp [l5], fun x hx => (List.mem_or_eq_of_mem_set hx).elim (b5 x) fun z => ?_⟩
    subst z
    exact ⟨by omega, by omega⟩
  rintro _ s6 ⟨rs6, rfl, st6, le6, e6, l6, b6⟩
  simp only [wpB, wpS, wpE, wpQ, wpL, cstD, srcD, e6, Option.map_some, Src.items, List.getElem?_cons_zero, List.getElem?_cons_succ]
  exact ⟨by show 2 ≤ line; decide, fin rs6 true s6 l6 b6 st6 le6⟩
end TF

set_option linter.all false
set_option maxRecDepth 10000
namespace TF
open PySem (Str)
open PI
variable {P : Prog} {n : Nat} {h : Bool} {s s' s'' : S} {Q : K1} {E : KX} {k : Nat}
theorem basket (W : DrawsA P) (hb : P.fn "_law_basket" = some f_law_basket) (st : St k s) {m : Nat} (h1 : 1 ≤ m) (h4 : m ≤ 4) {room : Int} (r1 : 2 ≤ room) (r2 : room ≤ 1000)
    (q : ∀ (rs : List Int) s', rs.length = m → (∀ r ∈ rs, Bnd r) → St k s' → Le k s s' → Q (tI rs) s') :
    wpCall P (n + 4) false "_law_basket" [.val (.ref k), .val (.int (m : Int)), .val (.int room)] s Q E := by
  refine call_go hb rfl ?_
  show wpB _ _ [.val (.ref k), .val (.int (m : Int)), .val (.int room), .no, .no, .no, .no, .no, .no, .no] _ _
  unfold f_law_basket
  have hk := st.lt
  have m1 : (m : Int) < 2 ^ 62 := by omega
  have m2 : -(2 ^ 62) ≤ (m : Int) := by omega
  have hlen : (rangeD 0 (Int.toNat m)).length ≤ line := by unfold rangeD line; simp; omega
  refine cutP (fun ρ' s' => ∃ (j : Nat) (rs : List Int), ρ' = [.val (.ref k), .val (.int (m : Int)), .val (.int room), .val (.ref j), .no, .no, .no, .no, .no, .no] ∧ St k s' ∧ Le k s s' ∧ s.length ≤ j ∧ lstAt s' j = some (rs.map .int) ∧ rs.length = m ∧ ∀ r ∈ rs, Bnd r) ?_ ?_
  · simp only [wpS, wpE, wpQ, wpI, cstD, asgT, Tg.one, List.getElem?_cons_zero, List.getElem?_cons_succ, Bool.false_eq_true, false_implies, implies_true, true_and]
    refine ⟨m1, m2, hlen, compW_draw Bnd st (fun _ _ => trivial) (fun d hd s5 st5 le5 nx hn => ?_) fun rs s5 hl hR st5 le5 => ?_⟩
    · simp only [wipe, asgT, wpC, if_true]
      exact hn 0 s5 st5 (Le.refl _ _) ⟨by decide, by decide⟩
    · have z := st5.new (okL s5.length rs)
      exact ⟨s5.length, rs, rfl, z.1, le5.trans z.2, le5.len, lstAt_new, by simpa [rangeD] using hl, hR⟩
  rintro _ s1 ⟨j, ra, rfl, st1, le1, hj, e1, la, ba⟩
  have hjk : j ≠ k := by omega
  refine cutP (fun ρ' s' => ∃ w : Int, ρ' = [.val (.ref k), .val (.int (m : Int)), .val (.int room), .val (.ref j), .val (.int w), .no, .no, .no, .no, .no] ∧ St k s' ∧ Le k s s' ∧ lstAt s' j = some (ra.map .int)) ?_ ?_
  · simp only [wpS, wpE, wpA, wpX, cstD, asgT, Tg.one, List.getElem?_cons_zero, List.getElem?_cons_succ, List.set_cons_zero, List.set_cons_succ, implies_true, true_and, W.take, Option.isSome_some]
    exact TF.take W.toDraw st1 (by decide) fun r s' st' le _ _ _ => ⟨r, rfl, st', le1.trans le, le.lst e1 hjk⟩
  clear e1 le1 st1
  clear s1
  rintro _ s1 ⟨w, rfl, st1, le1, e1⟩
  refine cutP (fun ρ' s' => ∃ u : Int, 0 ≤ u ∧ u < m ∧ ρ' = [.val (.ref k), .val (.int (m : Int)), .val (.int room), .val (.ref j), .val (.int w), .val (.int u), .no, .no, .no, .no] ∧ St k s' ∧ Le k s s' ∧ lstAt s' j = some (ra.map .int)) ?_ ?_
  · simp only [wpS, wpE, wpA, wpX, cstD, asgT, Tg.one, List.getElem?_cons_zero, List.getElem?_cons_succ, List.set_cons_zero, List.set_cons_succ, implies_true, true_and, W.take, Option.isSome_some]
    refine TF.take W.toDraw st1 (Int.lt_of_le_of_lt (show (m : Int) ≤ 4 by omega) (by decide)) fun r s' st' le g0 g1 g2 => ⟨r, g0, ?_, rfl, st', le1.trans le, le.lst e1 hjk⟩
    by_cases z : (2 : Int) ≤ (m : Int)
    · exact g2 z
    · have := g1 (by omega); omega
  clear e1 le1 st1
  clear s1
  rintro _ s1 ⟨u, u0, um, rfl, st1, le1, e1⟩
  refine cutP (fun ρ' s' => ρ' = [.val (.ref k), .val (.int (m : Int)), .val (.int room), .val (.ref j), .val (.int w), .val (.int u), .no, .no, .no, .no] ∧ s1 = s') ?_ ?_
  · simp only [wpB, wpS, wpT, wpE, wpQ, srcD, e1, Option.map_some, Src.items, cstD, cmpD, eqqD, truD, List.getElem?_cons_zero, List.getElem?_cons_succ, decide_eq_true_eq]
    split
    · exact q ra s1 la ba st1 le1
    · trivial
  rintro _ _ ⟨rfl, rfl⟩
  refine cutP (fun ρ' s' => ρ' = [.val (.ref k), .val (.int (m : Int)), .val (.int room), .val (.ref j), .val (.int w), .val (.int u), .no, .no, .no, .no] ∧ s1 = s') ?_ ?_
  · have ix : ixN (ra.map D.int).length u = some u.toNat := ixN_int u0 (by simp [la]; exact um)
    have e2 : lstAt (s1.set j (.lst ((ra.set u.toNat 1).map .int))) j = some ((ra.set u.toNat 1).map .int) := lstAt_set (lstAt_lt e1)
    simp only [wpB, wpS, wpT, wpE, wpQ, srcD, e1, ix, Option.map_some, Src.items, cstD, binD, intD, cmpD, eqqD, truD, List.getElem?_cons_zero, List.getElem?_cons_succ, decide_eq_true_eq, true_and]
    split
    · rw [if_neg (by omega), show (ra.map D.int).set u.toNat (.int 1) = (ra.set u.toNat 1).map .int from List.map_set.symm]
      simp only [e2]
      exact q _ _ (by simp [la]) (fun x hx => (List.mem_or_eq_of_mem_set hx).elim (ba x) fun z => z ▸ ⟨by decide, by decide⟩) (st1.own hjk (okL _ _)) (le1.own hj)
    · trivial
  rintro _ _ ⟨rfl, rfl⟩
  refine cutP (fun ρ' s' => ρ' = [.val (.ref k), .val (.int (m : Int)), .val (.int room), .val (.ref j), .val (.int w), .val (.int u), .val (.int room), .no, .no, .no] ∧ s1 = s') ?_ ?_
  · simp only [wpS, wpE, asgT, Tg.one, List.getElem?_cons_zero, List.getElem?_cons_succ, List.set_cons_zero, List.set_cons_succ, implies_true, true_and]
  rintro _ _ ⟨rfl, rfl⟩
  refine cutP (fun ρ' s' => ∃ (rs : List Int) (x6 x7 x8 x9 : Sl), ρ' = [.val (.ref k), .val (.int (m : Int)), .val (.int room), .val (.ref j), .val (.int w), .val (.int u), x6, x7, x8, x9] ∧ St k s' ∧ Le k s s' ∧ lstAt s' j = some (rs.map .int) ∧ rs.length = m ∧ ∀ r ∈ rs, Bnd r) ?_ ?_
  · simp only [wpS, wpI, wpE, List.getElem?_cons_zero, List.getElem?_cons_succ]
    refine ⟨(fun z => by cases z), m1, m2, ?_⟩
    refine forW_inv (fun rest ρ' s' => (∀ d ∈ rest, ∃ i : Nat, d = .int (i : Int)) ∧ ∃ (rs : List Int) (left : Int) (x7 x8 x9 : Sl), ρ' = [.val (.ref k), .val (.int (m : Int)), .val (.int room), .val (.ref j), .val (.int w), .val (.int u), .val (.int left), x7, x8, x9] ∧ 0 ≤ left ∧ left ≤ room ∧ St k s' ∧ Le k s s' ∧ lstAt s' j = some (rs.map .int) ∧ rs.length = m ∧ ∀ r ∈ rs, Bnd r) (fun _ _ _ _ => trivial) ?_ ?_ _ _ _ ?_
    · rintro d rest ρ s2 nx ⟨hd, rs, left, x7, x8, x9, rfl, l0, lr, st2, le2, e2, lrs, brs⟩ hn
      obtain ⟨i, rfl⟩ := hd d (by simp)
      have hn := fun ρ s z => hn ρ s ⟨fun d hd' => hd d (by simp [hd']), z⟩
      have av0 : 0 ≤ (u + (i : Int)) % (m : Int) := Int.emod_nonneg _ (by omega)
      have avm : (u + (i : Int)) % (m : Int) < m := Int.emod_lt_of_pos _ (by omega)
      generalize hat : (u + (i : Int)) % (m : Int) = av at av0 avm
      simp only [asgT, List.set_cons_zero, List.set_cons_succ]
      refine cutP (fun ρ' s' => ρ' = [.val (.ref k), .val (.int (m : Int)), .val (.int room), .val (.ref j), .val (.int w), .val (.int u), .val (.int left), .val (.int (i : Int)), .val (.int av), x9] ∧ s2 = s') ?_ ?_
      · simp only [wpS, wpE, binD, addD, intD, asgT, Tg.one, hat, List.getElem?_cons_zero, List.getElem?_cons_succ, List.set_cons_zero, List.set_cons_succ, implies_true, true_and, and_true, and_self]
        omega
      rintro _ _ ⟨rfl, rfl⟩
      refine cutP (fun ρ' s' => ρ' = [.val (.ref k), .val (.int (m : Int)), .val (.int room), .val (.ref j), .val (.int w), .val (.int u), .val (.int left), .val (.int (i : Int)), .val (.int av), .val (.int (left - 1))] ∧ s2 = s') ?_ ?_
      · simp only [wpS, wpE, cstD, binD, addD, intD, asgT, Tg.one, List.getElem?_cons_zero, List.getElem?_cons_succ, List.set_cons_zero, List.set_cons_succ, implies_true, true_and, and_true, and_self]
      rintro _ _ ⟨rfl, rfl⟩
      refine cutP (fun ρ' s' => ∃ hi : Int, hi ≤ left - 1 ∧ ρ' = [.val (.ref k), .val (.int (m : Int)), .val (.int room), .val (.ref j), .val (.int w), .val (.int u), .val (.int left), .val (.int (i : Int)), .val (.int av), .val (.int hi)] ∧ St k s' ∧ Le k s2 s') ?_ ?_
      · simp only [wpB, wpS, wpT, wpE, wpQ, wpL, cstD, binD, addD, intD, cmpD, gtD, truD, asgT, Tg.one, List.getElem?_cons_zero, List.getElem?_cons_succ, List.set_cons_zero, List.set_cons_succ, implies_true, true_and, and_true, and_self, decide_eq_true_eq]
        split
        · have z := st2.new (l := [.int room, .int 7, .int 3, .int 2]) ⟨trivial, trivial, trivial, trivial, trivial⟩
          refine ⟨by show 4 ≤ line; decide, sub_go (l := [.int room, .int 7, .int 3, .int 2]) lstAt_new (by omega) (by show _ < (4 : Int); omega) fun v _ hv => ?_⟩
          have : ∃ x : Int, v = .int x := by
            simp only [List.mem_cons, List.not_mem_nil, or_false] at hv
            rcases hv with e | e | e | e <;> exact ⟨_, e⟩
          obtain ⟨x, rfl⟩ := this
          refine ⟨_, ?_, rfl, z.1, z.2⟩
          split <;> omega
        · exact ⟨_, by omega, rfl, st2, Le.refl _ _⟩
      rintro _ s3 ⟨hi, hhi, rfl, st3, le3⟩
      refine cutP (fun ρ' s' => ∃ r : Int, 0 ≤ r ∧ r ≤ 1000 ∧ ρ' = [.val (.ref k), .val (.int (m : Int)), .val (.int room), .val (.ref j), .val (.int w), .val (.int u), .val (.int left), .val (.int (i : Int)), .val (.int av), .val (.int hi)] ∧ St k s' ∧ Le k s s' ∧ lstAt s' j = some ((rs.set av.toNat r).map .int)) ?_ ?_
      · simp only [wpS, wpE, wpA, wpX, cstD, List.getElem?_cons_zero, List.getElem?_cons_succ, true_and, W.betw, Option.isSome_some]
        refine TF.between W.toDraw W.betw st3 (Int.lt_of_le_of_lt (show hi - 0 + 1 ≤ 1001 by omega) (by decide)) fun r s4 st4 le4 g1 g2 => ?_
        have b0 : 0 ≤ r ∧ r ≤ 1000 := by
          by_cases z : 0 < hi
          · have := g2 z; omega
          · have := g1 (by omega); omega
        have e4 := (le3.trans le4).lst e2 hjk
        have ix : ixN (rs.map D.int).length av = some av.toNat := ixN_int av0 (by simp [lrs]; exact avm)
        simp only [e4, ix]
        rw [show (rs.map D.int).set av.toNat (.int r) = (rs.set av.toNat r).map .int from List.map_set.symm]
        exact ⟨r, b0.1, b0.2, st4.own hjk (okL _ _), ((le2.trans le3).trans le4).own hj, lstAt_set (lstAt_lt e4)⟩
      rintro _ s4 ⟨r, r0, r9, rfl, st4, le4, e4⟩
      simp only [wpB, wpS, wpE, cstD, binD, List.getElem?_cons_zero, List.getElem?_cons_succ]
      refine ⟨fun _ => rfl, sub_go (l := (rs.set av.toNat r).map .int) e4 av0 (by simp [lrs]; exact avm) fun v ev _ => ?_⟩
      have hv : v = .int r := by
        rw [List.getElem?_map, List.getElem?_set_self (by omega)] at ev
        exact (Option.some.inj ev).symm
      subst hv
      simp only [addD, intD, asgT, List.set_cons_zero, List.set_cons_succ]
      refine ⟨div_k (by omega) (Int.lt_of_le_of_lt (show r + 1 ≤ 1001 by omega) (by decide)), hn _ _ ⟨rs.set av.toNat r, left / (r + 1), _, _, _, rfl, Int.ediv_nonneg l0 (by omega), Int.le_trans (Int.ediv_le_self _ l0) lr, st4, le4, e4, by simp [lrs], fun x hx => (List.mem_or_eq_of_mem_set hx).elim (brs x) fun z => z ▸ ⟨r0, by omega⟩⟩⟩
    · rintro ρ s2 ⟨_, rs, left, x7, x8, x9, rfl, l0, lr, st2, le2, e2, lrs, brs⟩
      exact ⟨rs, _, _, _, _, rfl, st2, le2, e2, lrs, brs⟩
    · refine ⟨fun d hd => ?_, ra, room, _, _, _, rfl, by omega, by omega, st1, le1, e1, la, ba⟩
      unfold rangeD at hd
      obtain ⟨i, _, rfl⟩ := List.mem_map.mp hd
      exact ⟨i, by rw [Int.zero_add]⟩
  rintro _ s2 ⟨rs, x6, x7, x8, x9, rfl, st2, le2, e2, lrs, brs⟩
  simp only [wpB, wpS, wpE, wpQ, srcD, e2, Option.map_some, Src.items, List.getElem?_cons_zero, List.getElem?_cons_succ]
  exact q rs s2 lrs brs st2 le2
end TF

set_option linter.all false
set_option maxRecDepth 10000
namespace TF
open PySem (Str)
open PI
variable {P : Prog} {n : Nat} {h : Bool} {s s' s'' : S} {Q : K1} {E : KX} {k : Nat}
def isB2 : D → D → Bool
  | .tup l, .tup m => isB (.tup l) && isB (.tup m) && decide (l.length = m.length)
  | _, _ => false
theorem check_two (G : Goods P) (htwo : P.fn "check_two" = some f_check_two) {v w : D} (ok : okD s.length v) (ok' : okD s.length w) (q : isB2 v w = true → Q .non s) (e : isB2 v w = false → E "BadBasket" [] s) : wpCall P (n + 4) false "check_two" [.val v, .val w] s Q E := by
  refine call_go htwo rfl ?_
  show wpB _ _ [.val v, .val w] _ _
  unfold f_check_two
  simp only [wpB, wpS, wpT, wpE, wpA, wpX, List.getElem?_cons_zero, List.getElem?_cons_succ, G.one, Option.isSome_some, true_and, G.bad]
  have bad1 : isB v = false → isB2 v w = false := fun z => by cases v <;> cases w <;> simp_all [isB2]
  have bad2 : isB w = false → isB2 v w = false := fun z => by cases v <;> cases w <;> simp_all [isB2]
  refine check_one G ok (fun h1 => ?_) (fun h1 => e (bad1 h1))
  refine check_one G ok' (fun h2 => ?_) (fun h2 => e (bad2 h2))
  obtain ⟨l, rfl⟩ := isB_tup h1
  obtain ⟨m, rfl⟩ := isB_tup h2
  simp only [lenD, itemsD, Option.map_some, cmpD, neqD, truD]
  by_cases hl : l.length = m.length
  · have hi : (l.length : Int) = m.length := by omega
    rw [decide_eq_true hi]
    refine q ?_
    simp only [isB2, h1, h2, decide_eq_true hl, Bool.and_self]
  · have hi : ¬ (l.length : Int) = m.length := by omega
    rw [decide_eq_false hi]
    refine e ?_
    simp only [isB2, decide_eq_false hl, Bool.and_false]
theorem Two.isB2 {xs ys : List Int} (t : Two xs ys) : TF.isB2 (tI xs) (tI ys) = true := by
  have h1 := isB_tI t.one t.four t.bx
  have h2 := isB_tI t.swap.one t.swap.four t.by_
  simp only [tI] at h1 h2 ⊢
  simp only [TF.isB2, h1, h2, Bool.true_and, decide_eq_true_eq]
  simp [t.len]
theorem lies_in (hli : P.fn "lies_in" = some f_lies_in) {xs ys : List Int} (t : Two xs ys) (q : Q (.bl (!anyJ (fun a b => decide (b < a)) xs ys)) s) : wpCall P (n + 1) false "lies_in" [.val (tI xs), .val (tI ys)] s Q E := by
  refine call_go hli rfl ?_
  show wpB _ _ [.val (tI xs), .val (tI ys), .no, .no] _ _
  unfold f_lies_in
  unfold anyJ at q
  refine cutP (fun ρ' s' => (List.range xs.length).any (fun j => decide (ys.getD j 0 < xs.getD j 0)) = false ∧ s' = s) ?_ ?_
  · simp only [wpS, wpI, wpQ, wpE, List.getElem?_cons_zero, tI, srcD, Src.items]
    refine ⟨(fun z => by cases z), ?_⟩
    refine forW_test (pairT fun j x => decide (ys.getD j 0 < x)) (fun ρ => ∃ a b, ρ = [.val (tI xs), .val (tI ys), a, b]) trivial ⟨_, _, rfl⟩ ?_ ?_ ?_
    · rintro d hd w ρ ⟨a, b, rfl⟩ nx
      obtain ⟨j, hj, rfl⟩ := enum_mem hd
      simp only [asgT, List.zip_cons_cons, List.zip_nil_right, List.foldl_cons, List.foldl_nil, List.length_cons, List.length_nil, if_true, List.set_cons_succ, List.set_cons_zero, wpB, wpS, wpT, wpE, List.getElem?_cons_succ, List.getElem?_cons_zero]
      refine sub_tI (by rw [t.len]; exact hj) ?_
      simp only [cmpD, ordD, ltD, gtD, truD]
      have w : decide (ys.getD j 0 < xs.getD j 0) = true := w
      rw [w]
      have ha : (List.range xs.length).any (fun j => decide (ys.getD j 0 < xs.getD j 0)) = true := List.any_eq_true.mpr ⟨j, List.mem_range.mpr hj, w⟩
      rw [ha] at q
      exact q
    · rintro d hd w ρ ⟨a, b, rfl⟩ nx hn
      obtain ⟨j, hj, rfl⟩ := enum_mem hd
      simp only [asgT, List.zip_cons_cons, List.zip_nil_right, List.foldl_cons, List.foldl_nil, List.length_cons, List.length_nil, if_true, List.set_cons_succ, List.set_cons_zero, wpB, wpS, wpT, wpE, List.getElem?_cons_succ, List.getElem?_cons_zero]
      refine sub_tI (by rw [t.len]; exact hj) ?_
      simp only [cmpD, ordD, ltD, gtD, truD]
      have w : decide (ys.getD j 0 < xs.getD j 0) = false := w
      rw [w]
      exact hn _ ⟨_, _, rfl⟩
    · intro ha ρ _
      rw [enum_any] at ha
      exact ⟨ha, rfl⟩
  rintro ρ _ ⟨ha, rfl⟩
  rw [ha] at q
  exact q

end TF

set_option linter.all false
set_option maxRecDepth 10000
namespace TF
open PySem (Str)
open PI
variable {P : Prog} {n : Nat} {h : Bool} {s s' s'' : S} {Q : K1} {E : KX} {k : Nat}
/-! ### rows: order and fitting -/
def fitB (xs ys : List Int) : Bool := !anyJ (fun a b => decide (b < a)) xs ys
def fitL : List Int → List Int → Bool
  | x :: xs, y :: ys => decide (x ≤ y) && fitL xs ys
  | _, _ => true
theorem fitB_iff {xs ys : List Int} : fitB xs ys = true ↔ ∀ j : Nat, j < xs.length → xs.getD j 0 ≤ ys.getD j 0 := by
  unfold fitB anyJ
  rw [Bool.not_eq_true', List.any_eq_false]
  constructor
  · intro hh j hj
    have := hh j (List.mem_range.mpr hj)
    simp only [decide_eq_true_eq] at this
    omega
  · intro hh j hj
    have := hh j (List.mem_range.mp hj)
    simp only [decide_eq_true_eq]
    omega
theorem fitL_iff : ∀ {xs ys : List Int}, xs.length = ys.length → (fitL xs ys = true ↔ ∀ j : Nat, j < xs.length → xs.getD j 0 ≤ ys.getD j 0)
  | [], [], _ => by simp [fitL]
  | x :: xs, y :: ys, hl => by
    have ih := fitL_iff (xs := xs) (ys := ys) (by simpa using hl)
    simp only [fitL, Bool.and_eq_true, decide_eq_true_eq, ih]
    constructor
    · rintro ⟨h0, h1⟩ j hj
      cases j with
      | zero => simpa using h0
      | succ j => simpa using h1 j (by simpa using hj)
    · intro hh
      refine ⟨by simpa using hh 0 (by simp), fun j hj => by simpa using hh (j + 1) (by simpa using hj)⟩
theorem fit_eq {xs ys : List Int} (hl : xs.length = ys.length) : fitB xs ys = fitL xs ys := by
  rw [Bool.eq_iff_iff, fitB_iff, fitL_iff hl]
theorem fit_refl (xs : List Int) : fitB xs xs = true := fitB_iff.mpr fun _ _ => Int.le_refl _
theorem fit_lex : ∀ {b a : List Int}, b.length = a.length → fitL b a = true → b = a ∨ lexI b a = true
  | [], [], _, _ => .inl rfl
  | x :: b, y :: a, hl, hf => by
    simp only [fitL, Bool.and_eq_true, decide_eq_true_eq] at hf
    simp only [lexI]
    by_cases e : x = y
    · subst e
      rw [if_pos rfl]
      rcases fit_lex (by simpa using hl) hf.2 with z | z
      · exact .inl (by rw [z])
      · exact .inr z
    · rw [if_neg e]
      exact .inr (by simp; omega)
theorem lex_tot : ∀ {a b : List Int}, a.length = b.length → lexI b a = false → a = b ∨ lexI a b = true
  | [], [], _, _ => .inl rfl
  | x :: a, y :: b, hl, hf => by
    simp only [lexI] at hf ⊢
    by_cases e : x = y
    · subst e
      rw [if_pos rfl] at hf ⊢
      rcases lex_tot (by simpa using hl) hf with z | z
      · exact .inl (by rw [z])
      · exact .inr z
    · rw [if_neg (fun z => e z.symm)] at hf
      rw [if_neg e]
      exact .inr (by simp at hf ⊢; omega)
/-- what minimal tells -/
structure MinOf (rss K : List (List Int)) : Prop where
  mem : ∀ a ∈ K, a ∈ rss
  len : K.length ≤ rss.length
  srt : K.Pairwise fun a b => lexI b a = false ∧ fitB a b = false
  cov : ∀ p ∈ rss, ∃ a ∈ K, fitB a p = true
/-- rows of m kinds -/
def RowsM (m : Nat) (rss : List (List Int)) : Prop := ∀ r ∈ rss, r.length = m ∧ ∀ x ∈ r, Bnd x
theorem MinOf.anti {m : Nat} {rss K : List (List Int)} (M : MinOf rss K) (R : RowsM m rss) : K.Pairwise fun a b => lexI a b = true ∧ fitB a b = false ∧ fitB b a = false := by
  refine M.srt.imp_of_mem fun {a b} ha hb hh => ?_
  obtain ⟨h1, h2⟩ := hh
  have la := (R a (M.mem a ha)).1
  have lb := (R b (M.mem b hb)).1
  refine ⟨(lex_tot (by omega) h1).resolve_left fun e => (by rw [e, fit_refl] at h2; cases h2), h2, ?_⟩
  by_cases z : fitB b a = true
  · rw [fit_eq (by omega)] at z
    rcases fit_lex (by omega) z with e | e
    · rw [e, fit_refl] at h2; cases h2
    · rw [e] at h1; cases h1
  · simpa using z
theorem anti_one : ∀ {K : List (List Int)}, (K.Pairwise fun a b => lexI a b = true ∧ fitB a b = false ∧ fitB b a = false) → ∀ b ∈ K, (K.filter fun a => fitB a b).length = 1
  | a :: r, hp, b, hb => by
    have hp' := List.pairwise_cons.mp hp
    rcases List.mem_cons.mp hb with e | e
    · subst e
      rw [List.filter_cons_of_pos (by simpa using fit_refl b)]
      have : r.filter (fun a => fitB a b) = [] := List.filter_eq_nil_iff.mpr fun c hc => by
        have := (hp'.1 c hc).2.2
        simp [this]
      rw [this]; rfl
    · rw [List.filter_cons_of_neg (by have := (hp'.1 b e).2.1; simp [this])]
      exact anti_one hp'.2 b e
/-! ### the program -/
def allB (l : List D) : Bool := match l with
  | [] => true
  | x :: r => (x :: r).all fun d => isB2 x d
theorem src_go {v : D} {l : List D} (ok : okD s.length v) (e : itemsD v s = some l) : ∃ r, srcD v s = some r ∧ walkD v s = some (r, l) ∧ r.items = l ∧ r.ok s := by
  cases v with
  | tup l' => cases e; exact ⟨_, rfl, rfl, rfl, trivial⟩
  | fls l' => cases e; exact ⟨_, rfl, rfl, rfl, trivial⟩
  | ref j =>
    have e : lstAt s j = some l := e
    exact ⟨.at j l, by simp only [srcD, e, Option.map_some], by simp only [walkD, srcD, e, Option.map_some]; rfl, rfl, e⟩
  | _ => cases e
theorem isTL_seq {v : D} {l : List D} (ok : okD s.length v) (e : itemsD v s = some l) : ∃ b c, isT v s .tup = some b ∧ isT v s .lst = some c ∧ (b || c) = true := by
  cases v with
  | tup l' => exact ⟨_, _, rfl, rfl, rfl⟩
  | fls l' => exact ⟨_, _, rfl, rfl, rfl⟩
  | ref j =>
    have e : lstAt s j = some l := e
    exact ⟨false, true, by simp only [isT, e, Option.map_some], by simp only [isT, e, Option.map_some], rfl⟩
  | _ => cases e
theorem isTL_no {v : D} (ok : okD s.length v) (e : itemsD v s = none) : ∃ b c, isT v s .tup = some b ∧ isT v s .lst = some c ∧ (b || c) = false := by
  cases v with
  | tup l' => cases e
  | fls l' => cases e
  | ref j =>
    have e : lstAt s j = none := e
    obtain ⟨l, z⟩ := lstAt_some (s := s) (k := j) ok
    rw [z] at e; cases e
  | _ => exact ⟨_, _, rfl, rfl, rfl⟩
structure Mini (P : Prog) : Prop extends Goods P where
  two : P.fn "check_two" = some f_check_two
  lies : P.fn "lies_in" = some f_lies_in
  chk : P.fn "check_baskets" = some f_check_baskets
  hol : P.fn "holds_some" = some f_holds_some
  mini : P.fn "minimal" = some f_minimal
theorem check_baskets (W : Mini P) {v : D} (ok : okD s.length v) (okl : ∀ l, itemsD v s = some l → okDs s.length l) (q : ∀ l, itemsD v s = some l → allB l = true → Q .non s) (e : (∀ l, itemsD v s = some l → allB l = false) → E "BadBasket" [] s) :
    wpCall P (n + 5) false "check_baskets" [.val v] s Q E := by
  refine call_go W.chk rfl ?_
  show wpB _ _ [.val v, .no] _ _
  unfold f_check_baskets
  simp only [wpB, wpS, wpT, wpE, wpI, wpA, wpX, cstD, W.bad, List.getElem?_cons_zero, List.getElem?_cons_succ]
  cases hi : itemsD v s with
  | none =>
    obtain ⟨b, c, h1, h2, h3⟩ := isTL_no ok hi
    simp only [h1, h2, h3, truD, Bool.not_false, if_true, true_and]
    exact e fun l z => by rw [hi] at z; cases z
  | some l =>
    obtain ⟨b, c, h1, h2, h3⟩ := isTL_seq ok hi
    obtain ⟨r, _, hw, _, hr⟩ := src_go ok hi
    simp only [h1, h2, h3, hw, truD, Bool.not_true, Bool.false_eq_true, if_false, W.two, Option.isSome_some, true_and]
    refine ⟨(fun z => by cases z), ?_⟩
    refine forW_inv (fun rest ρ' s' => s' = s ∧ (∃ a, ρ' = [.val v, a]) ∧ ∃ pre, l = pre ++ rest ∧ ∀ d ∈ pre, isB2 (l.headD .non) d = true) (fun _ _ _ z => z.1 ▸ hr) ?_ ?_ _ _ _ ⟨rfl, ⟨_, rfl⟩, [], rfl, fun _ z => by cases z⟩
    · rintro d rest ρ s1 nx ⟨e1, ⟨a, rfl⟩, pre, hp, hpre⟩ hn
      subst e1
      simp only [asgT, List.set_cons_zero, List.set_cons_succ, List.getElem?_cons_zero, List.getElem?_cons_succ]
      have hpos : 0 < l.length := by rw [hp]; simp only [List.length_append, List.length_cons]; omega
      refine sub_go (l := l) hi (by decide) (by omega) fun x ex hx => ?_
      have hx0 : l.headD .non = x := by
        cases l with
        | nil => cases hpos
        | cons y r => simpa using ex
      have okx := okDs_mem (okl l hi) hx
      have okd := okDs_mem (okl l hi) (show d ∈ l by rw [hp]; simp)
      refine check_two W.toGoods W.two okx okd (fun hb => hn _ _ ⟨rfl, ⟨_, rfl⟩, pre ++ [d], by simp [hp], fun y hy => ?_⟩) fun hb => e fun l' el => ?_
      · rcases List.mem_append.mp hy with z | z
        · exact hpre y z
        · obtain rfl : y = d := by simpa using z
          rw [hx0]; exact hb
      · rw [hi] at el
        obtain rfl := Option.some.inj el
        cases l with
        | nil => cases hpos
        | cons y r =>
          have hx0 : y = x := hx0
          unfold allB
          rw [List.all_eq_false]
          exact ⟨d, by rw [hp]; simp, by rw [hx0, hb]; decide⟩
    · rintro ρ s1 ⟨e1, _, pre, hp, hpre⟩
      subst e1
      refine q l hi ?_
      rw [List.append_nil] at hp
      subst hp
      cases l with
      | nil => rfl
      | cons y r =>
        unfold allB
        rw [List.all_eq_true]
        exact fun d hd => hpre d hd
theorem allB_rows {l : List D} (h : allB l = true) : ∃ m rss, l = rss.map tI ∧ RowsM m rss ∧ (l ≠ [] → 1 ≤ m ∧ m ≤ 4) := by
  cases l with
  | nil => exact ⟨0, [], rfl, (fun _ z => by cases z), fun z => absurd rfl z⟩
  | cons x r =>
    unfold allB at h
    have hx := List.all_eq_true.mp h
    have two : ∀ d, isB2 x d = true → isB x = true ∧ isB d = true := fun d z => by cases x <;> cases d <;> simp_all [isB2]
    obtain ⟨xs, rfl, x1, x4, xb⟩ := isB_ints (two _ (hx x (by simp))).1
    refine ⟨xs.length, (tI xs :: r).map fun d => match d with
      | .tup l => (intsD l).getD []
      | _ => [], ?_, ?_, fun _ => ⟨x1, x4⟩⟩
    · rw [List.map_map]
      refine (List.map_id' _).symm.trans (List.map_congr_left fun d hd => ?_)
      obtain ⟨ys, rfl, _⟩ := isB_ints (two _ (hx d hd)).2
      show tI ys = tI ((intsD (ys.map .int)).getD [])
      rw [intsD_map]; rfl
    · intro row hrow
      obtain ⟨d, hd, rfl⟩ := List.mem_map.mp hrow
      have h2 := hx d hd
      obtain ⟨ys, rfl, _, _, yb⟩ := isB_ints (two _ h2).2
      have : (match tI ys with
        | .tup l => (intsD l).getD []
        | _ => ([] : List Int)) = ys := by
        show (intsD (ys.map .int)).getD [] = ys
        rw [intsD_map]; rfl
      rw [this]
      simp only [tI, isB2, Bool.and_eq_true, decide_eq_true_eq, List.length_map] at h2
      exact ⟨h2.2.symm, yb⟩
theorem holds_some (W : Mini P) {xs : List Int} {K : List (List Int)} {j : Nat} (e : lstAt s j = some (K.map tI)) (ht : ∀ a ∈ K, Two a xs) (q : Q (.bl (K.any fun a => fitB a xs)) s) :
    wpCall P (n + 2) false "holds_some" [.val (tI xs), .val (.ref j)] s Q E := by
  refine call_go W.hol rfl ?_
  show wpB _ _ [.val (tI xs), .val (.ref j), .no] _ _
  unfold f_holds_some
  refine cutP (fun ρ' s' => (K.any fun a => fitB a xs) = false ∧ s' = s) ?_ ?_
  · simp only [wpS, wpI, wpE, List.getElem?_cons_zero, List.getElem?_cons_succ, walkD, srcD, e, Option.map_some]
    refine ⟨(fun z => by cases z), ?_⟩
    refine forW_inv (fun rest ρ' s' => s' = s ∧ (∃ a, ρ' = [.val (tI xs), .val (.ref j), a]) ∧ ∃ pre post, K = pre ++ post ∧ rest = post.map tI ∧ ∀ a ∈ pre, fitB a xs = false) (fun _ _ _ z => z.1 ▸ e) ?_ ?_ _ _ _ ⟨rfl, ⟨_, rfl⟩, [], K, rfl, rfl, fun _ z => by cases z⟩
    · rintro d rest ρ s1 nx ⟨e1, ⟨a, rfl⟩, pre, post, hp, hr, hpre⟩ hn
      subst e1
      cases post with
      | nil => cases hr
      | cons b post =>
        obtain ⟨rfl, rfl⟩ : d = tI b ∧ rest = post.map tI := by simpa using hr
        have hb : b ∈ K := by rw [hp]; simp
        simp only [asgT, List.set_cons_zero, List.set_cons_succ, wpB, wpS, wpT, wpE, wpA, wpX, List.getElem?_cons_zero, List.getElem?_cons_succ, W.lies, Option.isSome_some, true_and]
        refine lies_in W.lies (ht b hb) ?_
        simp only [truD]
        by_cases z : fitB b xs = true
        · have : (K.any fun a => fitB a xs) = true := List.any_eq_true.mpr ⟨b, hb, z⟩
          rw [this] at q
          unfold fitB at z
          rw [z]
          simp only [if_true, cstD]
          exact q
        · have z' : fitB b xs = false := by simpa using z
          have z2 := z'
          unfold fitB at z2
          rw [z2]
          simp only [Bool.false_eq_true, if_false]
          refine hn _ _ ⟨rfl, ⟨_, rfl⟩, pre ++ [b], post, by simp [hp], rfl, fun a ha => ?_⟩
          rcases List.mem_append.mp ha with y | y
          · exact hpre a y
          · obtain rfl : a = b := by simpa using y
            exact z'
    · rintro ρ s1 ⟨e1, _, pre, post, hp, hr, hpre⟩
      subst e1
      obtain rfl : post = [] := by simpa using hr.symm
      rw [List.append_nil] at hp
      subst hp
      exact ⟨List.any_eq_false.mpr fun a ha => by simp [hpre a ha], rfl⟩
  · rintro ρ s1 ⟨h0, rfl⟩
    simp only [wpB, wpS, wpE, cstD]
    rw [h0] at q
    exact q
theorem tupsD_map : ∀ (rss : List (List Int)), tupsD (rss.map tI) = some rss
  | [] => rfl
  | r :: t => by
    show (intsD (r.map .int)).bind (fun ns => (tupsD (t.map tI)).map (ns :: ·)) = _
    rw [intsD_map, tupsD_map t]; rfl
theorem minimal (W : Mini P) {v : D} (ok : okD s.length v) (okl : ∀ l, itemsD v s = some l → okDs s.length l) (q : ∀ m rss K s', itemsD v s = some (rss.map tI) → RowsM m rss → (rss ≠ [] → 1 ≤ m ∧ m ≤ 4) → rss.length ≤ 100000 → MinOf rss K → Gr s s' → Q (.tup (K.map tI)) s') (hl : ∀ l, itemsD v s = some l → l.length ≤ 100000)
    (e : (∀ l, itemsD v s = some l → allB l = false) → E "BadBasket" [] s) : wpCall P (n + 6) false "minimal" [.val v] s Q E := by
  refine call_go W.mini rfl ?_
  show wpB _ _ [.val v, .no, .no] _ _
  unfold f_minimal
  refine cutP (fun ρ' s' => ρ' = [.val v, .no, .no] ∧ s = s' ∧ ∃ m rss, itemsD v s = some (rss.map tI) ∧ RowsM m rss ∧ (rss ≠ [] → 1 ≤ m ∧ m ≤ 4)) ?_ ?_
  · simp only [wpS, wpE, wpA, wpX, List.getElem?_cons_zero, W.chk, Option.isSome_some, true_and]
    refine check_baskets W ok okl (fun l hi hb => ?_) e
    obtain ⟨m, rss, rfl, R, h14⟩ := allB_rows hb
    exact ⟨rfl, m, rss, hi, R, fun z => h14 (by simpa using z)⟩
  rintro _ _ ⟨rfl, rfl, m, rss, hi, R, h14⟩
  have hlen := hl _ hi
  simp only [List.length_map] at hlen
  obtain ⟨r, hsrc, _, hit, hrok⟩ := src_go ok hi
  simp only [wpB, wpS, wpE, wpQ, wpL, wpI, cstD, asgT, Tg.one, List.getElem?_cons_zero, List.getElem?_cons_succ, List.set_cons_zero, List.set_cons_succ, implies_true, true_and, List.length_nil]
  have g0 : Gr s (s ++ [.lst []]) := (Gr.refl s).new trivial
  have hi' : itemsD v (s ++ [.lst []]) = some (rss.map tI) := by
    cases v with
    | ref j => exact g0.lst hi
    | _ => exact hi
  have ok' := g0.ok ok
  obtain ⟨r, hsrc, _, hit, hrok⟩ := src_go ok' hi'
  simp only [hsrc, hit, tupsD_map, false_implies]
  refine ⟨by decide, (fun z => by cases z), ?_, fun mss hperm hsort => ?_⟩
  · intro ns hns e0
    have h1 := (R ns hns).1
    have h2 := (h14 (fun z => by rw [z] at hns; cases hns)).1
    rw [e0] at h1
    simp at h1
    omega
  · have Rm : RowsM m mss := fun a ha => R a (hperm.mem_iff.mp ha)
    have hml := hperm.length_eq
    have m14 : mss ≠ [] → 1 ≤ m ∧ m ≤ 4 := fun z => h14 fun z' => z (by rw [z'] at hperm; exact List.Perm.eq_nil hperm)
    refine forW_inv (fun rest ρ' s' => ∃ (K pre post : List (List Int)) (a : Sl), ρ' = [.val v, .val (.ref s.length), a] ∧ s' = s ++ [.lst (K.map tI)] ∧ mss = pre ++ post ∧ rest = post.map (fun ns => .tup (ns.map .int)) ∧ (∀ a ∈ K, a ∈ pre) ∧ K.length ≤ pre.length ∧ (K.Pairwise fun a b => lexI b a = false ∧ fitB a b = false) ∧ ∀ p ∈ pre, ∃ a ∈ K, fitB a p = true) (fun _ _ _ _ => trivial) ?_ ?_ _ _ _ ⟨[], [], mss, .no, rfl, rfl, rfl, rfl, (fun _ z => by cases z), Nat.le_refl _, .nil, fun _ z => by cases z⟩
    · rintro d rest ρ s1 nx ⟨K, pre, post, a, rfl, rfl, hp, hr, hK, hKl, hP, hC⟩ hn
      cases post with
      | nil => cases hr
      | cons x post =>
        obtain ⟨rfl, rfl⟩ : d = tI x ∧ rest = post.map (fun ns => .tup (ns.map .int)) := by simpa [tI] using hr
        have hx : x ∈ mss := by rw [hp]; simp
        have Rx := Rm x hx
        have x14 := m14 (fun z => by rw [z] at hx; cases hx)
        have tw : ∀ a ∈ K, Two a x := fun a ha => by
          have Ra := Rm a (by rw [hp]; simp [hK a ha])
          exact ⟨by omega, by omega, by omega, Ra.2, Rx.2⟩
        simp only [asgT, List.set_cons_zero, List.set_cons_succ, wpB, wpS, wpT, wpE, wpA, wpX, List.getElem?_cons_zero, List.getElem?_cons_succ, W.hol, Option.isSome_some, true_and]
        refine holds_some W lstAt_new tw ?_
        simp only [truD]
        cases hany : K.any fun a => fitB a x with
        | true =>
          simp only [Bool.not_true, Bool.false_eq_true, if_false]
          refine hn _ _ ⟨K, pre ++ [x], post, _, rfl, rfl, by simp [hp], rfl, fun a ha => by simp [hK a ha], by simp; omega, hP, fun p hp' => ?_⟩
          rcases List.mem_append.mp hp' with z | z
          · exact hC p z
          · obtain rfl : p = x := by simpa using z
            obtain ⟨a, ha, hf⟩ := List.any_eq_true.mp hany
            exact ⟨a, ha, hf⟩
        | false =>
          have hlK : (K.map tI).length < line := by
            have : (pre ++ x :: post).length = mss.length := by rw [hp]
            simp at this
            simp [line]; omega
          simp only [Bool.not_false, if_true, lstAt_new, hlK, true_and]
          have hset : (s ++ [Ob.lst (K.map tI)]).set s.length (.lst (K.map tI ++ [tI x])) = s ++ [.lst ((K ++ [x]).map tI)] := by
            rw [List.set_append_right _ _ (Nat.le_refl _)]
            simp
          rw [hset]
          refine hn _ _ ⟨K ++ [x], pre ++ [x], post, _, rfl, rfl, by simp [hp], rfl, fun a ha => ?_, by simp; omega, ?_, fun p hp' => ?_⟩
          · rcases List.mem_append.mp ha with z | z
            · exact List.mem_append_left _ (hK a z)
            · exact List.mem_append_right _ z
          · refine List.pairwise_append.mpr ⟨hP, List.pairwise_singleton _ _, fun a ha b hb => ?_⟩
            obtain rfl : b = x := by simpa using hb
            refine ⟨?_, by simpa using List.any_eq_false.mp hany a ha⟩
            rw [hp] at hsort
            exact (List.pairwise_append.mp hsort).2.2 a (hK a ha) b (by simp)
          · rcases List.mem_append.mp hp' with z | z
            · obtain ⟨a, ha, hf⟩ := hC p z
              exact ⟨a, by simp [ha], hf⟩
            · obtain rfl : p = x := by simpa using z
              exact ⟨p, by simp, fit_refl p⟩
    · rintro ρ s1 ⟨K, pre, post, a, rfl, rfl, hp, hr, hK, hKl, hP, hC⟩
      obtain rfl : post = [] := by simpa using hr.symm
      rw [List.append_nil] at hp
      subst hp
      simp only [wpB, wpS, wpE, wpQ, srcD, lstAt_new, Option.map_some, Src.items, List.getElem?_cons_zero, List.getElem?_cons_succ]
      refine q m rss K _ hi R h14 hlen ⟨fun a ha => hperm.mem_iff.mp (hK a ha), by omega, hP, fun p hp' => hC p (hperm.mem_iff.mpr hp')⟩ ((Gr.refl s).new (okDs_all fun d hd => ?_))
      obtain ⟨r, _, rfl⟩ := List.mem_map.mp hd
      exact okD_tI _ _
end TF

set_option linter.all false
set_option maxRecDepth 10000
namespace TF
open PySem (Str)
open PI
variable {P : Prog} {n : Nat} {h : Bool} {s s' s'' : S} {Q : K1} {E : KX} {k : Nat}
structure L02 (P : Prog) : Prop extends Mini P, LawS P where
  till : P.exc "TillError" = some .plain
  err : P.fn "_law_err" = some f_law_err
  upB : P.below "BadBasket" "TillError" = some true
  EB : Err1 P "BadBasket" false false false true false false false false false false false false false false false false false
  fits : P.fn "_law_fits" = some f_law_fits
  least : P.fn "_law_least" = some f_law_least
  good : P.fn "_law_good" = some f_law_good
  found : P.fn "_law_found" = some f_law_found
  right : P.fn "_law_right" = some f02_law_right
theorem least (W : L02 P) {v : D} (ok : okD s.length v) (okl : ∀ l, itemsD v s = some l → okDs s.length l) (hl : ∀ l, itemsD v s = some l → l.length ≤ 100000)
    (q : ∀ m rss K s' j, itemsD v s = some (rss.map tI) → RowsM m rss → (rss ≠ [] → 1 ≤ m ∧ m ≤ 4) → rss.length ≤ 100000 → MinOf rss K → Gr s s' → lstAt s' j = some [.bl false, .tup (K.map tI)] → Q (.ref j) s')
    (e : ∀ s' j, (∀ l, itemsD v s = some l → allB l = false) → Gr s s' → lstAt s' j = some LB → Q (.ref j) s') :
    wpCall P (n + 7) false "_law_least" [.val v] s Q E := by
  refine call_go W.least rfl ?_
  show wpB _ _ [.val v, .no] _ _
  unfold f_law_least
  simp only [wpB, wpS, wpT, wpE, wpQ, wpL, wpA, wpX, cstD, List.getElem?_cons_zero, List.getElem?_cons_succ, W.mini, W.till, Option.isSome_some, true_and]
  refine minimal W.toMini ok okl (fun m rss K s1 hi R h14 hlen M gr => ⟨(by show 2 ≤ line; decide), q m rss K _ _ hi R h14 hlen M (gr.new ⟨trivial, okDs_all fun d hd => ?_, trivial⟩) lstAt_new⟩) hl (fun hb => ?_)
  · obtain ⟨r, _, rfl⟩ := List.mem_map.mp hd
    exact okD_tI _ _
  · simp only [W.upB, W.err, Option.isSome_some, true_and, List.set_cons_succ, List.set_cons_zero, List.getElem?_cons_succ, List.getElem?_cons_zero]
    exact errB W.err W.bad W.EB fun s2 g2 => ⟨(by show 2 ≤ line; decide), e _ _ hb (g2.new ⟨trivial, ⟨trivial, trivial⟩, trivial⟩) lstAt_new⟩
theorem isB2_iff {x d : D} : isB2 x d = true ↔ isB x = true ∧ isB d = true ∧ ∃ l m, x = .tup l ∧ d = .tup m ∧ l.length = m.length := by
  constructor
  · intro z
    cases x <;> cases d <;> simp_all [isB2]
  · rintro ⟨h1, h2, l, m, rfl, rfl, hl⟩
    simp [isB2, h1, h2, hl]
theorem lenQ_of {l : List D} {p : D → Bool} : (l.filterMap fun d => if p d then some d else none) = l.filter p := by
  induction l with
  | nil => rfl
  | cons d r ih => cases hp : p d <;> simp [hp, ih]
theorem good (W : L02 P) {v : D} {l : List D} (ok : okD s.length v) (hi : itemsD v s = some l) (okl : okDs s.length l) (hl : l.length ≤ 100000) (q : Q (.bl (allB l)) s) : wpCall P (n + 3) false "_law_good" [.val v] s Q E := by
  refine call_go W.good rfl ?_
  show wpB _ _ [.val v, .no] _ _
  unfold f_law_good
  obtain ⟨r, hsrc, hw, hit, hr⟩ := src_go ok hi
  have lll : l.length ≤ line := by unfold line; omega
  refine cutP (fun ρ' s' => (∀ d ∈ l, isB d = true) ∧ ρ' = [.val v, .no] ∧ s = s') ?_ ?_
  · simp only [wpB, wpS, wpT, wpE, wpQ, wpI, cstD, List.getElem?_cons_zero, List.getElem?_cons_succ, hw, Bool.false_eq_true, false_implies, true_and]
    refine ⟨lll, compW_pure (fun d => if !isB d then some d else none) hr (fun d hd nx hn => ?_) ?_⟩
    · simp only [wipe, asgT, wpC, wpT, wpE, wpA, wpX, List.map_cons, List.map_nil, List.foldl_cons, List.foldl_nil, List.set_cons_succ, List.set_cons_zero, List.getElem?_cons_zero, List.getElem?_cons_succ, W.isb, Option.isSome_some, true_and]
      refine isbasket W.toLawS (okDs_mem okl hd) ?_
      simp only [truD]
      cases hb : isB d <;> simp only [hb] at hn ⊢ <;> simpa using hn
    · rw [lenQ_of]
      simp only [Src.items, cmpD, gtD, truD, decide_eq_true_eq]
      split
      · rename_i h0
        have : allB l = false := by
          cases l with
          | nil => simp at h0
          | cons x t =>
            by_cases z : allB (x :: t) = true
            · have hz := List.all_eq_true.mp z
              have : (x :: t).filter (fun d => !isB d) = [] := List.filter_eq_nil_iff.mpr fun d hd => by simp [(isB2_iff.mp (hz d hd)).2.1]
              rw [this] at h0
              simp at h0
            · simpa using z
        rw [this] at q
        exact q
      · rename_i h0
        have h0 : ¬ (0 : Int) < (((l.filter fun d => !isB d).length : Nat) : Int) := by simpa using h0
        have h1 : (l.filter fun d => !isB d) = [] := List.length_eq_zero_iff.mp (by omega)
        exact ⟨fun d hd => by simpa using List.filter_eq_nil_iff.mp h1 d hd, trivial⟩
  rintro _ _ ⟨hB, rfl, rfl⟩
  simp only [wpB, wpS, wpT, wpE, wpQ, wpI, cstD, List.getElem?_cons_zero, List.getElem?_cons_succ, hw, Bool.false_eq_true, false_implies, true_and]
  refine ⟨lll, compW_pure (fun d => if !isB2 (l.headD .non) d then some d else none) hr (fun d hd nx hn => ?_) ?_⟩
  · obtain ⟨m, rfl⟩ := isB_tup (hB d hd)
    simp only [wipe, asgT, wpC, wpT, wpE, cstD, List.map_cons, List.map_nil, List.foldl_cons, List.foldl_nil, List.set_cons_succ, List.set_cons_zero, List.getElem?_cons_zero, List.getElem?_cons_succ, lenD, itemsD, Option.map_some]
    have hpos : 0 < l.length := List.length_pos_of_mem hd
    refine sub_go (l := l) hi (by decide) (by omega) fun x ex hx => ?_
    have hx0 : l.headD .non = x := by
      cases l with
      | nil => cases hpos
      | cons y r => simpa using ex
    obtain ⟨lx, rfl⟩ := isB_tup (hB x hx)
    simp only [lenD, itemsD, Option.map_some, cmpD, neqD, truD]
    rw [hx0] at hn
    have hB1 := hB _ hx
    have hB2 := hB _ hd
    simp only [isB2, hB1, hB2, Bool.true_and] at hn
    by_cases z : m.length = lx.length
    · rw [decide_eq_true (by omega : (m.length : Int) = lx.length)]
      rw [decide_eq_true z.symm] at hn
      simpa using hn
    · rw [decide_eq_false (by omega : ¬ (m.length : Int) = lx.length)]
      rw [decide_eq_false (fun y => z y.symm)] at hn
      simpa using hn
  · rw [lenQ_of]
    simp only [Src.items, cmpD, eqqD]
    have : decide (((l.filter fun d => !isB2 (l.headD .non) d).length : Int) = 0) = allB l := by
      rw [Bool.eq_iff_iff, decide_eq_true_eq]
      constructor
      · intro z
        have h1 : (l.filter fun d => !isB2 (l.headD .non) d) = [] := List.length_eq_zero_iff.mp (by omega)
        cases l with
        | nil => rfl
        | cons x t => exact List.all_eq_true.mpr fun d hd => by simpa using List.filter_eq_nil_iff.mp h1 d hd
      · intro z
        cases l with
        | nil => rfl
        | cons x t =>
          have hz := List.all_eq_true.mp z
          have : (x :: t).filter (fun d => !isB2 ((x :: t).headD .non) d) = [] := List.filter_eq_nil_iff.mpr fun d hd => by
            have := hz d hd
            simp only [List.headD_cons]
            simp [this]
          rw [this]; rfl
    rw [← this] at q
    exact q
theorem law_fitsB (hf : P.fn "_law_fits" = some f_law_fits) {rs xs : List Int} (hl : rs.length = xs.length) (h4 : rs.length ≤ 1000) (q : Q (.bl (fitB rs xs)) s) : wpCall P (n + 1) false "_law_fits" [.val (tI rs), .val (tI xs)] s Q E := by
  refine call_go hf rfl ?_
  show wpB _ _ [.val (tI rs), .val (tI xs), .no] _ _
  unfold f_law_fits
  refine cutP (fun ρ' s' => fitB rs xs = true ∧ s' = s) ?_ (fun ρ s1 e => by rw [e.1] at q; rw [e.2]; exact q)
  simp only [wpS, wpI, wpE, List.getElem?_cons_zero, lenD_of (s := s) (d := tI rs) (l := rs.map .int) rfl, List.length_map]
  refine ⟨(fun z => by cases z), by omega, by omega, ?_⟩
  refine forW_test (fun d => match d with
    | .int j => decide (xs.getD j.toNat 0 < rs.getD j.toNat 0)
    | _ => false) (fun ρ => ∃ a, ρ = [.val (tI rs), .val (tI xs), a]) trivial ⟨_, rfl⟩ ?_ ?_ ?_
  · rintro d hd w ρ ⟨a, rfl⟩ nx
    unfold rangeD at hd
    obtain ⟨j, hj, rfl⟩ := List.mem_map.mp hd
    have hj : j < rs.length := by simpa using hj
    simp only [wpB, wpS, wpT, wpE, asgT, List.set_cons_succ, List.set_cons_zero, List.getElem?_cons_zero, List.getElem?_cons_succ, Int.zero_add] at w ⊢
    have w : xs.getD j 0 < rs.getD j 0 := by simpa using w
    refine sub_tI hj (sub_tI (by omega) ?_)
    simp only [cmpD, gtD, truD, decide_eq_true_eq]
    rw [if_pos w]
    have : fitB rs xs = false := by
      by_cases z : fitB rs xs = true
      · have := fitB_iff.mp z j hj; omega
      · simpa using z
    rw [this] at q
    exact q
  · rintro d hd w ρ ⟨a, rfl⟩ nx hn
    unfold rangeD at hd
    obtain ⟨j, hj, rfl⟩ := List.mem_map.mp hd
    have hj : j < rs.length := by simpa using hj
    simp only [wpB, wpS, wpT, wpE, asgT, List.set_cons_succ, List.set_cons_zero, List.getElem?_cons_zero, List.getElem?_cons_succ, Int.zero_add] at w ⊢
    have w : ¬ xs.getD j 0 < rs.getD j 0 := by simpa using w
    refine sub_tI hj (sub_tI (by omega) ?_)
    simp only [cmpD, gtD, truD, decide_eq_true_eq]
    rw [if_neg w]
    exact hn _ ⟨_, rfl⟩
  · intro h0 ρ _
    refine ⟨fitB_iff.mpr fun j hj => ?_, rfl⟩
    have := List.any_eq_false.mp h0 (.int ((0 : Int) + (j : Int))) (List.mem_map.mpr ⟨j, by simpa using hj, rfl⟩)
    simp only [Int.zero_add, Int.toNat_natCast, decide_eq_true_eq] at this
    omega
end TF

set_option linter.all false
set_option maxRecDepth 10000
namespace TF
open PySem (Str)
open PI
variable {P : Prog} {n : Nat} {h : Bool} {s s' s'' : S} {Q : K1} {E : KX} {k : Nat}
theorem flatNs_ints (m : Nat) : ∀ (l : List Int), flatNs m (l.map .int) = true
  | [] => by cases m <;> rfl
  | x :: r => by
    have := flatNs_ints m r
    cases m <;> (simp only [List.map_cons, flatNs, flatN, Bool.true_and]; exact this)
theorem flatN_tI (m : Nat) (r : List Int) : flatN (m + 1) (tI r) = true := flatNs_ints m r
theorem flatNs_rows (m : Nat) : ∀ (rss : List (List Int)), flatNs (m + 1) (rss.map tI) = true
  | [] => rfl
  | r :: t => by
    have := flatNs_rows m t
    simp only [List.map_cons, flatNs, flatN_tI, Bool.true_and]
    exact this
theorem eqDs_ints : ∀ (l : List Int), eqDs (l.map .int) (l.map .int) = true
  | [] => rfl
  | x :: r => by
    have := eqDs_ints r
    simp only [List.map_cons, eqDs, eqD, beq_self_eq_true, Bool.true_and]
    exact this
theorem eqD_tI (r : List Int) : eqD (tI r) (tI r) = true := eqDs_ints r
theorem notin_rows {v : D} {rss : List (List Int)} {a : List Int} (hi : itemsD v s = some (rss.map tI)) (ha : a ∈ rss) (q : Q (.bl false) s) : inD true (tI a) v s Q := by
  have hany : (rss.map tI).any (fun z => eqD z (tI a)) = true := List.any_eq_true.mpr ⟨tI a, List.mem_map_of_mem ha, eqD_tI a⟩
  have f1 := flatN_tI 59 a
  have f2 := flatNs_rows 58 rss
  cases v with
  | tup l =>
    cases hi
    simp only [inD, hany, f1, f2, true_and, Bool.not_true, if_true]
    exact q
  | fls l =>
    cases hi
    simp only [inD, hany, f1, f2, true_and, Bool.not_true, if_true]
    exact q
  | ref j =>
    have hi : lstAt s j = some (rss.map tI) := hi
    simp only [inD, hi, hany, f1, f2, true_and, Bool.not_true, if_true]
    exact q
  | _ => cases hi
theorem wpE_cmp {C : Cx} {op : Co} {a b : Ex} {ρ : Env} : wpE C (.cmp op a b) ρ s Q E = wpE C a ρ s (fun x s1 => wpE C b ρ s1 (fun y s2 => cmpD op x y s2 Q) E) E := by
  rw [wpE]
theorem fit_map (K : List (List Int)) (b : List Int) : (K.map tI).filterMap (fun d => match d with
    | .tup l => if fitB ((intsD l).getD []) b then some d else none
    | _ => none) = (K.filter fun a => fitB a b).map tI := by
  induction K with
  | nil => rfl
  | cons a r ih =>
    have e : (match tI a with
      | .tup l => if fitB ((intsD l).getD []) b then some (tI a) else none
      | _ => none) = if fitB a b then some (tI a) else none := by
      show (if fitB ((intsD (a.map .int)).getD []) b then some (tI a) else none) = _
      rw [intsD_map]; rfl
    rw [List.map_cons, List.filterMap_cons, e]
    cases hfa : fitB a b with
    | true =>
      rw [List.filter_cons_of_pos (by simpa using hfa), List.map_cons]
      simp only [if_true]
      rw [← ih]
    | false =>
      rw [List.filter_cons_of_neg (by simp [hfa])]
      simp only [Bool.false_eq_true, if_false]
      exact ih
/-- how many rows fit -/
theorem count_rows (hf : P.fn "_law_fits" = some f_law_fits) {K : List (List Int)} {b : List Int} {m : Nat} {x1 x2 x4 : Sl} (hK : ∀ a ∈ K, a.length = m) (hb : b.length = m) (hm : m ≤ 1000) (hl : K.length ≤ 100000)
    (q : Q (.int ((K.filter fun a => fitB a b).length : Nat)) s) :
    wpE ⟨P, wpCall P (n + 1), false⟩ (.lenQ (.comp (.var 4) [4] (.name 4) (.of (.var 0)) (some (.ex (.call "_law_fits" [.nm 4, .nm 3]))))) [.val (.tup (K.map tI)), x1, x2, .val (tI b), x4] s Q E := by
  simp only [wpE, wpQ, wpI, List.getElem?_cons_zero, walkD, srcD, Option.map_some, Src.items, Bool.false_eq_true, false_implies, true_and]
  refine ⟨by simp [line]; omega, compW_pure (fun d => match d with
    | .tup l => if fitB ((intsD l).getD []) b then some d else none
    | _ => none) trivial (fun d hd nx hn => ?_) ?_⟩
  · obtain ⟨a, ha, rfl⟩ := List.mem_map.mp hd
    have la := hK a ha
    have hn : nx (if fitB ((intsD (a.map .int)).getD []) b then some (tI a) else none) s := hn
    rw [intsD_map] at hn
    have hn : nx (if fitB a b then some (tI a) else none) s := hn
    simp only [wipe, asgT, wpC, wpT, wpE, wpA, wpX, List.map_cons, List.map_nil, List.foldl_cons, List.foldl_nil, List.set_cons_succ, List.set_cons_zero, List.getElem?_cons_zero, List.getElem?_cons_succ, hf, Option.isSome_some, true_and]
    refine law_fitsB hf (by omega) (by omega) ?_
    simp only [truD]
    cases hz : fitB a b <;> simpa [hz] using hn
  · rw [fit_map]
    simp only [Src.items, List.length_map]
    exact q
theorem found (W : L02 P) {v : D} {m : Nat} {rss K : List (List Int)} (ok : okD s.length v) (hi : itemsD v s = some (rss.map tI)) (R : RowsM m rss) (h14 : rss ≠ [] → 1 ≤ m ∧ m ≤ 4) (hl : rss.length ≤ 100000) (M : MinOf rss K) (q : Q (.bl true) s) :
    wpCall P (n + 4) false "_law_found" [.val (.tup (K.map tI)), .val v] s Q E := by
  refine call_go W.found rfl ?_
  show wpB _ _ [.val (.tup (K.map tI)), .val v, .no, .no, .no] _ _
  unfold f_law_found
  obtain ⟨r, hsrc, hw, hit, hr⟩ := src_go ok hi
  have hKl := M.len
  have lv := lenD_of hi
  simp only [List.length_map] at lv
  have lK : lenD (.tup (K.map tI)) s = some K.length := by simp only [lenD, itemsD, Option.map_some, List.length_map]
  have RK : ∀ a ∈ K, a.length = m := fun a ha => (R a (M.mem a ha)).1
  have hm : m ≤ 4 ∨ rss = [] := by
    by_cases z : rss = []
    · exact .inr z
    · exact .inl (h14 z).2
  refine cutP (fun ρ' s' => ρ' = [.val (.tup (K.map tI)), .val v, .no, .no, .no] ∧ s = s') ?_ ?_
  · simp only [wpB, wpS, wpT, wpE, isT, truD, lv, lK, cmpD, gtD, List.getElem?_cons_zero, List.getElem?_cons_succ, Bool.not_true, Bool.false_eq_true, if_false, decide_eq_true_eq]
    rw [if_neg (by omega)]
    trivial
  rintro _ _ ⟨rfl, rfl⟩
  refine cutP (fun ρ' s' => (∃ a, ρ' = [.val (.tup (K.map tI)), .val v, .val a, .no, .no] ∨ ρ' = [.val (.tup (K.map tI)), .val v, .no, .no, .no]) ∧ s = s') ?_ ?_
  · simp only [wpS, wpI, wpE, List.getElem?_cons_zero, lenD, itemsD, Option.map_some, List.length_map]
    refine ⟨(fun z => by cases z), by omega, by omega, ?_⟩
    refine forW_test (fun _ => false) (fun ρ => ∃ a, ρ = [.val (.tup (K.map tI)), .val v, .val a, .no, .no] ∨ ρ = [.val (.tup (K.map tI)), .val v, .no, .no, .no]) trivial ⟨.non, .inr rfl⟩ (fun _ _ z => by cases z) ?_ (fun _ ρ z => ⟨z, rfl⟩)
    rintro d hd _ ρ ⟨a, hρ⟩ nx hn
    unfold rangeD at hd
    obtain ⟨j, hj, rfl⟩ := List.mem_map.mp hd
    have hj : j < K.length := by simpa using hj
    have hKm : K.getD j [] ∈ K := by
      rw [List.getD_eq_getElem?_getD, List.getElem?_eq_getElem hj]
      exact List.getElem_mem hj
    have hrm := M.mem _ hKm
    have Rj := R _ hrm
    have hne : rss ≠ [] := fun z => by rw [z] at hrm; cases hrm
    have m14 := h14 hne
    have hρ' : ∃ y, ρ = [.val (.tup (K.map tI)), .val v, y, .no, .no] := by
      rcases hρ with e | e <;> exact ⟨_, e⟩
    obtain ⟨y, rfl⟩ := hρ'
    have nxt := hn [.val (.tup (K.map tI)), .val v, .val (.int (0 + (j : Int))), .no, .no] ⟨_, .inl rfl⟩
    simp only [Int.zero_add] at nxt ⊢
    simp only [asgT, List.set_cons_succ, List.set_cons_zero]
    refine cutP (fun ρ' s' => ρ' = [.val (.tup (K.map tI)), .val v, .val (.int (j : Int)), .no, .no] ∧ s = s') ?_ ?_
    · simp only [wpB, wpS, wpT, wpE, wpA, wpX, cstD, List.getElem?_cons_zero, List.getElem?_cons_succ, W.nat_, Option.isSome_some, true_and]
      have hpos : 0 < rss.length := List.length_pos_iff.mpr hne
      refine sub_rows hj (sub_go (l := rss.map tI) hi (by decide) (by simp; omega) fun x _ hx => ?_)
      obtain ⟨r0, hr0, rfl⟩ := List.mem_map.mp hx
      simp only [lenD, itemsD, tI, Option.map_some, List.length_map]
      refine natural W.toLawS (by have := (R r0 hr0).1; omega) (fun x hx' => (Rj.2 x hx').1) ?_
      simp only [truD, Bool.not_true, Bool.false_eq_true, if_false, cmpD]
      refine sub_rows hj (notin_rows hi hrm ?_)
      simp only [Bool.false_eq_true, if_false]
    rintro _ _ ⟨rfl, rfl⟩
    simp only [wpB, wpS, wpT, wpE, cstD, cmpD, gtD, truD, binD, intD, List.getElem?_cons_zero, List.getElem?_cons_succ, decide_eq_true_eq, true_and]
    by_cases h0 : (0 : Int) < (j : Int)
    · rw [if_pos h0]
      have ej : (j : Int) - 1 = ((j - 1 : Nat) : Int) := by omega
      rw [ej]
      refine sub_rows (by omega) (sub_rows hj (lt_tI ?_))
      have hlt : lexI (K.getD (j - 1) []) (K.getD j []) = true := by
        have hp := List.pairwise_iff_getElem.mp (M.anti R) (j - 1) j (by omega) hj (by omega)
        rw [List.getD_eq_getElem?_getD, List.getD_eq_getElem?_getD, List.getElem?_eq_getElem (by omega : j - 1 < K.length), List.getElem?_eq_getElem hj]
        exact hp.1
      rw [hlt]
      simp only [truD, Bool.not_true, Bool.false_eq_true, if_false]
      exact nxt
    · rw [if_neg h0]
      simp only [Bool.false_eq_true, if_false]
      exact nxt
  rintro ρ _ ⟨⟨a, hρ⟩, rfl⟩
  have hρ' : ∃ y : Sl, (∀ c fs, y ≠ .exn c fs) ∧ ρ = [.val (.tup (K.map tI)), .val v, y, .no, .no] := by
    rcases hρ with e | e
    · exact ⟨_, (fun c fs z => by cases z), e⟩
    · exact ⟨_, (fun c fs z => by cases z), e⟩
  obtain ⟨y, hy, rfl⟩ := hρ'
  have cnt : ∀ b ∈ K, (K.filter fun a => fitB a b).length = 1 := anti_one (M.anti R)
  refine cutP (fun ρ' s' => (∃ z : Sl, ρ' = [.val (.tup (K.map tI)), .val v, y, z, .no]) ∧ s = s') ?_ ?_
  · simp only [wpS, wpI, wpE, List.getElem?_cons_zero, List.getElem?_cons_succ, walkD, srcD, Option.map_some, Src.items]
    refine ⟨(fun z => by cases z), ?_⟩
    refine forW_test (fun _ => false) (fun ρ => ∃ z : Sl, ρ = [.val (.tup (K.map tI)), .val v, y, z, .no]) trivial ⟨_, rfl⟩ (fun _ _ z => by cases z) ?_ (fun _ ρ z => ⟨z, rfl⟩)
    rintro d hd _ ρ ⟨z, rfl⟩ nx hn
    obtain ⟨b, hb, rfl⟩ := List.mem_map.mp hd
    have hrm := M.mem _ hb
    have m14 := h14 (fun z => by rw [z] at hrm; cases hrm)
    simp only [asgT, List.set_cons_succ, List.set_cons_zero, wpB, wpS, wpT, wpE_cmp]
    refine count_rows W.fits RK (RK b hb) (by omega) (by omega) ?_
    rw [cnt b hb]
    simp only [wpE, cstD, cmpD, neqD, truD]
    rw [if_neg (by decide)]
    exact hn _ ⟨_, rfl⟩
  rintro _ _ ⟨⟨z, rfl⟩, rfl⟩
  refine cutP (fun ρ' s' => s = s') ?_ ?_
  · simp only [wpS, wpI, wpE, List.getElem?_cons_zero, List.getElem?_cons_succ, hw, Option.map_some, Src.items]
    refine ⟨(fun z => by cases z), ?_⟩
    refine forW_test (fun _ => false) (fun ρ => ∃ z : Sl, ρ = [.val (.tup (K.map tI)), .val v, y, z, .no]) hr ⟨_, rfl⟩ (fun _ _ z => by cases z) ?_ (fun _ ρ z => rfl)
    rintro d hd _ ρ ⟨z, rfl⟩ nx hn
    obtain ⟨b, hb, rfl⟩ := List.mem_map.mp hd
    have m14 := h14 (fun z => by rw [z] at hb; cases hb)
    simp only [asgT, List.set_cons_succ, List.set_cons_zero, wpB, wpS, wpT, wpE_cmp]
    refine count_rows W.fits RK (R b hb).1 (by omega) (by omega) ?_
    obtain ⟨a, ha, hf⟩ := M.cov b hb
    have : 0 < (K.filter fun a => fitB a b).length := List.length_pos_of_mem (List.mem_filter.mpr ⟨ha, hf⟩)
    simp only [wpE, cstD, cmpD, eqqD, truD]
    rw [if_neg (by simp only [decide_eq_true_eq]; omega)]
    exact hn _ ⟨_, rfl⟩
  rintro _ _ rfl
  simp only [wpB, wpS, wpE, cstD]
  exact q
theorem right02 (W : L02 P) {v : D} {l : List D} (ok : okD s.length v) (hi : itemsD v s = some l) (okl : okDs s.length l) (hl : l.length ≤ 100000) (q : ∀ s', Gr s s' → Q (.bl true) s') :
    wpCall P (n + 8) false "_law_right" [.val v] s Q E := by
  refine call_go W.right rfl ?_
  show wpB _ _ [.val v, .no] _ _
  unfold f02_law_right
  have okl' : ∀ l', itemsD v s = some l' → okDs s.length l' := fun l' e => by rw [hi] at e; cases e; exact okl
  have hl' : ∀ l', itemsD v s = some l' → l'.length ≤ 100000 := fun l' e => by rw [hi] at e; cases e; exact hl
  refine cutP (fun ρ' s' => ∃ j, ρ' = [.val v, .val (.ref j)] ∧ Gr s s' ∧ ((∃ m rss K, l = rss.map tI ∧ RowsM m rss ∧ (rss ≠ [] → 1 ≤ m ∧ m ≤ 4) ∧ MinOf rss K ∧ lstAt s' j = some [.bl false, .tup (K.map tI)]) ∨ (allB l = false ∧ lstAt s' j = some LB))) ?_ ?_
  · simp only [wpS, wpE, wpA, wpX, asgT, Tg.one, List.getElem?_cons_zero, List.getElem?_cons_succ, List.set_cons_zero, List.set_cons_succ, implies_true, true_and, W.least, Option.isSome_some]
    refine least W ok okl' hl' (fun m rss K s1 j e R h14 _ M g1 e1 => ⟨j, rfl, g1, .inl ⟨m, rss, K, ?_, R, h14, M, e1⟩⟩) fun s1 j hb g1 e1 => ⟨j, rfl, g1, .inr ⟨hb l hi, e1⟩⟩
    rw [hi] at e
    exact Option.some.inj e
  rintro _ s1 ⟨j, rfl, g1, hj⟩
  have ok1 := g1.ok ok
  have hi1 : itemsD v s1 = some l := by
    cases v with
    | ref i => exact g1.lst hi
    | _ => exact hi
  have okl1 := okDs.mono g1.len _ okl
  rcases hj with ⟨m, rss, K, rfl, R, h14, M, e1⟩ | ⟨hb, e1⟩
  · have hall : allB (rss.map tI) = true := by
      cases hr : rss with
      | nil => rfl
      | cons a t =>
        have m14 := h14 (by rw [hr]; simp)
        have Ra := R a (by rw [hr]; simp)
        refine List.all_eq_true.mpr fun d hd => ?_
        have hd : d ∈ (a :: t).map tI := hd
        obtain ⟨b, hb, rfl⟩ := List.mem_map.mp hd
        have Rb := R b (by rw [hr]; exact hb)
        exact Two.isB2 ⟨by omega, by omega, by omega, Ra.2, Rb.2⟩
    refine cutP (fun ρ' s' => ρ' = [.val v, .val (.ref j)] ∧ s1 = s') ?_ ?_
    · simp only [wpB, wpS, wpT, wpE, wpA, wpX, List.getElem?_cons_zero, List.getElem?_cons_succ, W.good, Option.isSome_some, true_and]
      refine good W ok1 hi1 okl1 hl ?_
      rw [hall]
      simp only [truD, Bool.not_true, Bool.false_eq_true, if_false]
    rintro _ _ ⟨rfl, rfl⟩
    simp only [wpB, wpS, wpE, wpA, wpX, cstD, List.getElem?_cons_zero, List.getElem?_cons_succ, W.found, Option.isSome_some, true_and]
    refine sub_go (l := [.bl false, .tup (K.map tI)]) e1 (by decide) (by show (0 : Int) < 2; decide) fun d e _ => ?_
    obtain rfl : D.bl false = d := by simpa using e
    simp only [truD, Bool.not_false]
    refine sub_go (l := [.bl false, .tup (K.map tI)]) e1 (by decide) (by show (1 : Int) < 2; decide) fun d e _ => ?_
    obtain rfl : D.tup (K.map tI) = d := by simpa using e
    exact found W ok1 hi1 R h14 (by simpa using hl) M (q _ g1)
  · simp only [wpB, wpS, wpT, wpE, wpA, wpX, wpQ, wpL, cstD, List.getElem?_cons_zero, List.getElem?_cons_succ, W.good, W.sam, Option.isSome_some, true_and]
    refine good W ok1 hi1 okl1 hl ?_
    rw [hb]
    simp only [truD, Bool.not_false, if_true]
    refine ⟨by decide, by decide, ?_⟩
    have g2 : Gr s1 (s1 ++ [.lst LB]) := (Gr.refl s1).new ⟨trivial, ⟨trivial, trivial⟩, trivial⟩
    refine same (s := s1 ++ [.lst LB]) W.toSam 2 (.ref j) (.ref s1.length) (sm_LB _ (g2.lst e1) lstAt_new 0) (n + 3) _ _ ?_
    exact q _ (g1.trans g2)
end TF

set_option linter.all false
set_option maxRecDepth 10000
namespace TF
open PySem (Str)
open PI
variable {P : Prog} {n : Nat} {h : Bool} {s s' s'' : S} {Q : K1} {E : KX} {k : Nat}
theorem parted (W : DrawsA P) (hp : P.fn "_law_parted" = some f_law_parted) (st : St k s) {m : Nat} (h1 : 1 ≤ m) (h4 : m ≤ 4) {tot : Int} (t0 : 0 ≤ tot) (t9 : tot ≤ 1000)
    (q : ∀ (rs : List Int) s', rs.length = m → (∀ r ∈ rs, Bnd r) → St k s' → Le k s s' → Q (tI rs) s') :
    wpCall P (n + 4) false "_law_parted" [.val (.ref k), .val (.int tot), .val (.int (m : Int))] s Q E := by
  refine call_go hp rfl ?_
  show wpB _ _ [.val (.ref k), .val (.int tot), .val (.int (m : Int)), .no, .no, .no, .no, .no] _ _
  unfold f_law_parted
  have hk := st.lt
  have m1 : (m : Int) < 2 ^ 62 := by omega
  have m2 : -(2 ^ 62) ≤ (m : Int) := by omega
  have hlen : (rangeD 0 (Int.toNat m)).length ≤ line := by unfold rangeD line; simp; omega
  refine cutP (fun ρ' s' => ∃ (j : Nat) (rs : List Int), ρ' = [.val (.ref k), .val (.int tot), .val (.int (m : Int)), .val (.ref j), .no, .no, .no, .no] ∧ St k s' ∧ Le k s s' ∧ s.length ≤ j ∧ lstAt s' j = some (rs.map .int) ∧ rs.length = m ∧ ∀ r ∈ rs, Bnd r) ?_ ?_
  · simp only [wpS, wpE, wpQ, wpI, cstD, asgT, Tg.one, List.getElem?_cons_zero, List.getElem?_cons_succ, Bool.false_eq_true, false_implies, implies_true, true_and]
    refine ⟨m1, m2, hlen, compW_draw Bnd st (fun _ _ => trivial) (fun d hd s5 st5 le5 nx hn => ?_) fun rs s5 hl hR st5 le5 => ?_⟩
    · simp only [wipe, asgT, wpC, if_true]
      exact hn 0 s5 st5 (Le.refl _ _) ⟨by decide, by decide⟩
    · have z := st5.new (okL s5.length rs)
      exact ⟨s5.length, rs, rfl, z.1, le5.trans z.2, le5.len, lstAt_new, by simpa [rangeD] using hl, hR⟩
  rintro _ s1 ⟨j, ra, rfl, st1, le1, hj, e1, la, ba⟩
  have hjk : j ≠ k := by omega
  refine cutP (fun ρ' s' => ∃ w : Int, ρ' = [.val (.ref k), .val (.int tot), .val (.int (m : Int)), .val (.ref j), .val (.int w), .no, .no, .no] ∧ St k s' ∧ Le k s s' ∧ lstAt s' j = some (ra.map .int)) ?_ ?_
  · simp only [wpS, wpE, wpA, wpX, cstD, asgT, Tg.one, List.getElem?_cons_zero, List.getElem?_cons_succ, List.set_cons_zero, List.set_cons_succ, implies_true, true_and, W.take, Option.isSome_some]
    exact TF.take W.toDraw st1 (Int.lt_of_le_of_lt (show (m : Int) ≤ 4 by omega) (by decide)) fun r s' st' le _ _ _ => ⟨r, rfl, st', le1.trans le, le.lst e1 hjk⟩
  clear e1 le1 st1
  clear s1
  rintro _ s1 ⟨w, rfl, st1, le1, e1⟩
  refine cutP (fun ρ' s' => ρ' = [.val (.ref k), .val (.int tot), .val (.int (m : Int)), .val (.ref j), .val (.int w), .val (.int tot), .no, .no] ∧ s1 = s') ?_ ?_
  · simp only [wpS, wpE, asgT, Tg.one, List.getElem?_cons_zero, List.getElem?_cons_succ, List.set_cons_zero, List.set_cons_succ, implies_true, true_and]
  rintro _ _ ⟨rfl, rfl⟩
  refine cutP (fun ρ' s' => ∃ (rs : List Int) (left : Int) (x6 x7 : Sl), ρ' = [.val (.ref k), .val (.int tot), .val (.int (m : Int)), .val (.ref j), .val (.int w), .val (.int left), x6, x7] ∧ 0 ≤ left ∧ left ≤ tot ∧ St k s' ∧ Le k s s' ∧ lstAt s' j = some (rs.map .int) ∧ rs.length = m ∧ ∀ r ∈ rs, Bnd r) ?_ ?_
  · simp only [wpS, wpI, wpE, cstD, binD, intD, List.getElem?_cons_zero, List.getElem?_cons_succ, true_and]
    refine ⟨(fun z => by cases z), by omega, by omega, ?_⟩
    refine forW_inv (fun rest ρ' s' => (∀ d ∈ rest, ∃ i : Nat, d = .int (i : Int)) ∧ ∃ (rs : List Int) (left : Int) (x6 x7 : Sl), ρ' = [.val (.ref k), .val (.int tot), .val (.int (m : Int)), .val (.ref j), .val (.int w), .val (.int left), x6, x7] ∧ 0 ≤ left ∧ left ≤ tot ∧ St k s' ∧ Le k s s' ∧ lstAt s' j = some (rs.map .int) ∧ rs.length = m ∧ ∀ r ∈ rs, Bnd r) (fun _ _ _ _ => trivial) ?_ (fun _ _ z => z.2) _ _ _ ⟨fun d hd => ?_, ra, tot, _, _, rfl, t0, Int.le_refl _, st1, le1, e1, la, ba⟩
    · rintro d rest ρ s2 nx ⟨hd, rs, left, x6, x7, rfl, l0, lr, st2, le2, e2, lrs, brs⟩ hn
      obtain ⟨i, rfl⟩ := hd d (by simp)
      have hn := fun ρ s z => hn ρ s ⟨fun d hd' => hd d (by simp [hd']), z⟩
      have av0 : 0 ≤ (w + (i : Int)) % (m : Int) := Int.emod_nonneg _ (by omega)
      have avm : (w + (i : Int)) % (m : Int) < m := Int.emod_lt_of_pos _ (by omega)
      generalize hat : (w + (i : Int)) % (m : Int) = av at av0 avm
      simp only [asgT, List.set_cons_zero, List.set_cons_succ]
      refine cutP (fun ρ' s' => ρ' = [.val (.ref k), .val (.int tot), .val (.int (m : Int)), .val (.ref j), .val (.int w), .val (.int left), .val (.int (i : Int)), .val (.int av)] ∧ s2 = s') ?_ ?_
      · simp only [wpS, wpE, binD, addD, intD, asgT, Tg.one, hat, List.getElem?_cons_zero, List.getElem?_cons_succ, List.set_cons_zero, List.set_cons_succ, implies_true, true_and, and_true, and_self]
        omega
      rintro _ _ ⟨rfl, rfl⟩
      refine cutP (fun ρ' s' => ∃ r : Int, 0 ≤ r ∧ r ≤ left ∧ ρ' = [.val (.ref k), .val (.int tot), .val (.int (m : Int)), .val (.ref j), .val (.int w), .val (.int left), .val (.int (i : Int)), .val (.int av)] ∧ St k s' ∧ Le k s s' ∧ lstAt s' j = some ((rs.set av.toNat r).map .int)) ?_ ?_
      · simp only [wpS, wpE, wpA, wpX, cstD, List.getElem?_cons_zero, List.getElem?_cons_succ, true_and, W.betw, Option.isSome_some]
        refine TF.between W.toDraw W.betw st2 (Int.lt_of_le_of_lt (show left - 0 + 1 ≤ 1001 by omega) (by decide)) fun r s4 st4 le4 g1 g2 => ?_
        have b0 : 0 ≤ r ∧ r ≤ left := by
          by_cases z : 0 < left
          · have := g2 z; omega
          · have := g1 (by omega); omega
        have e4 := le4.lst e2 hjk
        have ix : ixN (rs.map D.int).length av = some av.toNat := ixN_int av0 (by simp [lrs]; exact avm)
        simp only [e4, ix]
        rw [show (rs.map D.int).set av.toNat (.int r) = (rs.set av.toNat r).map .int from List.map_set.symm]
        exact ⟨r, b0.1, b0.2, st4.own hjk (okL _ _), (le2.trans le4).own hj, lstAt_set (lstAt_lt e4)⟩
      rintro _ s4 ⟨r, r0, r9, rfl, st4, le4, e4⟩
      simp only [wpB, wpS, wpE, cstD, binD, List.getElem?_cons_zero, List.getElem?_cons_succ]
      refine ⟨fun _ => rfl, sub_go (l := (rs.set av.toNat r).map .int) e4 av0 (by simp [lrs]; exact avm) fun v ev _ => ?_⟩
      have hv : v = .int r := by
        rw [List.getElem?_map, List.getElem?_set_self (by omega)] at ev
        exact (Option.some.inj ev).symm
      subst hv
      simp only [intD, asgT, List.set_cons_zero, List.set_cons_succ, true_and]
      exact hn _ _ ⟨rs.set av.toNat r, left - r, _, _, rfl, by omega, by omega, st4, le4, e4, by simp [lrs], fun x hx => (List.mem_or_eq_of_mem_set hx).elim (brs x) fun z => z ▸ ⟨r0, by omega⟩⟩
    · unfold rangeD at hd
      obtain ⟨i, _, rfl⟩ := List.mem_map.mp hd
      exact ⟨i, by rw [Int.zero_add]⟩
  rintro _ s2 ⟨rs, left, x6, x7, rfl, l0, lr, st2, le2, e2, lrs, brs⟩
  have av0 : 0 ≤ (w + (m : Int) - 1) % (m : Int) := Int.emod_nonneg _ (by omega)
  have avm : (w + (m : Int) - 1) % (m : Int) < m := Int.emod_lt_of_pos _ (by omega)
  generalize hat : (w + (m : Int) - 1) % (m : Int) = av at av0 avm
  have ix : ixN (rs.map D.int).length av = some av.toNat := ixN_int av0 (by simp [lrs]; exact avm)
  have e3 : lstAt (s2.set j (.lst ((rs.set av.toNat left).map .int))) j = some ((rs.set av.toNat left).map .int) := lstAt_set (lstAt_lt e2)
  simp only [wpB, wpS, wpE, wpQ, srcD, cstD, binD, addD, intD, hat, e2, ix, List.getElem?_cons_zero, List.getElem?_cons_succ, true_and]
  rw [show (rs.map D.int).set av.toNat (.int left) = (rs.set av.toNat left).map .int from List.map_set.symm]
  simp only [e3, Option.map_some, Src.items]
  refine ⟨by omega, q _ _ (by simp [lrs]) (fun x hx => (List.mem_or_eq_of_mem_set hx).elim (brs x) fun z => z ▸ ⟨l0, by omega⟩) (st2.own hjk (okL _ _)) (le2.own hj)⟩
theorem okR (m : Nat) (rss : List (List Int)) : okDs m (rss.map tI) := okDs_all fun d hd => by
  obtain ⟨r, _, rfl⟩ := List.mem_map.mp hd
  exact okD_tI _ _
theorem baskets (W : DrawsA P) (hp : P.fn "_law_parted" = some f_law_parted) (hb : P.fn "_law_baskets" = some f_law_baskets) (st : St k s) {m : Nat} (h1 : 1 ≤ m) (h4 : m ≤ 4) {N : Nat} (hN : N ≤ 900)
    (q : ∀ (rss : List (List Int)) j s', rss.length = N → RowsM m rss → St k s' → Le k s s' → s.length ≤ j → lstAt s' j = some (rss.map tI) → Q (.ref j) s') :
    wpCall P (n + 5) false "_law_baskets" [.val (.ref k), .val (.int (m : Int)), .val (.int (N : Int))] s Q E := by
  refine call_go hb rfl ?_
  show wpB _ _ [.val (.ref k), .val (.int (m : Int)), .val (.int (N : Int)), .no, .no, .no, .no, .no, .no, .no, .no] _ _
  unfold f_law_baskets
  have hk := st.lt
  have m1 : (m : Int) < 2 ^ 62 := by omega
  have m2 : -(2 ^ 62) ≤ (m : Int) := by omega
  have hlen : (rangeD 0 (Int.toNat m)).length ≤ line := by unfold rangeD line; simp; omega
  refine cutP (fun ρ' s' => ρ' = [.val (.ref k), .val (.int (m : Int)), .val (.int (N : Int)), .val (.ref s.length), .no, .no, .no, .no, .no, .no, .no] ∧ s' = s ++ [.lst []]) ?_ ?_
  · simp only [wpS, wpE, wpQ, wpL, asgT, Tg.one, List.set_cons_zero, List.set_cons_succ, implies_true, true_and, and_true, and_self, List.length_nil]
    decide
  rintro _ _ ⟨rfl, rfl⟩
  have z0 := st.new (l := []) trivial
  have hjk : s.length ≠ k := by omega
  generalize hj : s.length = j at *
  refine cutP (fun ρ' s' => ∃ lv : Bool, ρ' = [.val (.ref k), .val (.int (m : Int)), .val (.int (N : Int)), .val (.ref j), .val (.bl lv), .no, .no, .no, .no, .no, .no] ∧ St k s' ∧ Le k s s' ∧ lstAt s' j = some []) ?_ ?_
  · simp only [wpS, wpE, wpA, wpX, cstD, cmpD, eqqD, asgT, Tg.one, List.getElem?_cons_zero, List.getElem?_cons_succ, List.set_cons_zero, List.set_cons_succ, implies_true, true_and, W.take, Option.isSome_some]
    refine TF.take W.toDraw z0.1 (by decide) fun r s' st' le _ _ _ => ⟨_, rfl, st', z0.2.trans le, le.lst ?_ hjk⟩
    rw [← hj]
    exact lstAt_new
  rintro _ s1 ⟨lv, rfl, st1, le1, e1⟩
  refine cutP (fun ρ' s' => ∃ tot : Int, 0 ≤ tot ∧ tot ≤ 10 ∧ ρ' = [.val (.ref k), .val (.int (m : Int)), .val (.int (N : Int)), .val (.ref j), .val (.bl lv), .val (.int tot), .no, .no, .no, .no, .no] ∧ St k s' ∧ Le k s s' ∧ lstAt s' j = some []) ?_ ?_
  · simp only [wpS, wpE, wpA, wpX, cstD, asgT, Tg.one, List.getElem?_cons_zero, List.getElem?_cons_succ, List.set_cons_zero, List.set_cons_succ, implies_true, true_and, W.take, Option.isSome_some]
    refine TF.take W.toDraw st1 (by decide) fun r s' st' le g0 _ g2 => ⟨r, g0, by have := g2 (by decide); omega, rfl, st', le1.trans le, le.lst e1 hjk⟩
  clear e1 le1 st1
  clear s1
  rintro _ s1 ⟨tot, t0, t9, rfl, st1, le1, e1⟩
  refine cutP (fun ρ' s' => ∃ (rss : List (List Int)) (x6 x7 x8 x9 : Sl), ρ' = [.val (.ref k), .val (.int (m : Int)), .val (.int (N : Int)), .val (.ref j), .val (.bl lv), .val (.int tot), x6, x7, x8, x9, .no] ∧ St k s' ∧ Le k s s' ∧ lstAt s' j = some (rss.map tI) ∧ rss.length = N ∧ RowsM m rss) ?_ ?_
  · simp only [wpS, wpI, wpE, List.getElem?_cons_zero, List.getElem?_cons_succ]
    refine ⟨(fun z => by cases z), by omega, by omega, ?_⟩
    refine forW_inv (fun rest ρ' s' => ∃ (rss : List (List Int)) (x6 x7 x8 x9 : Sl), ρ' = [.val (.ref k), .val (.int (m : Int)), .val (.int (N : Int)), .val (.ref j), .val (.bl lv), .val (.int tot), x6, x7, x8, x9, .no] ∧ St k s' ∧ Le k s s' ∧ lstAt s' j = some (rss.map tI) ∧ rss.length + rest.length = N ∧ RowsM m rss) (fun _ _ _ _ => trivial) ?_ (fun ρ s2 => ?_) _ _ _ ⟨[], _, _, _, _, rfl, st1, le1, e1, by simp [rangeD], fun _ z => by cases z⟩
    · rintro d rest ρ s2 nx ⟨rss, x6, x7, x8, x9, rfl, st2, le2, e2, lrs, R⟩ hn
      simp only [List.length_cons] at lrs
      have hll : rss.length < line := by unfold line; omega
      -- a row is appended
      have app : ∀ (r : List Int) s3 (x6 x7 x8 x9 : Sl), r.length = m → (∀ x ∈ r, Bnd x) → St k s3 → Le k s2 s3 → nx [.val (.ref k), .val (.int (m : Int)), .val (.int (N : Int)), .val (.ref j), .val (.bl lv), .val (.int tot), x6, x7, x8, x9, .no] (s3.set j (.lst (rss.map tI ++ [tI r]))) := fun r s3 x6 x7 x8 x9 hr hb st3 le3 => by
        have e3 := le3.lst e2 hjk
        have em : rss.map tI ++ [tI r] = (rss ++ [r]).map tI := by simp
        rw [em]
        refine hn _ _ ⟨rss ++ [r], _, _, _, _, rfl, st3.own hjk (okR _ _), (le2.trans le3).own (by omega), lstAt_set (lstAt_lt e3), by simp; omega, fun a ha => ?_⟩
        rcases List.mem_append.mp ha with z | z
        · exact R a z
        · obtain rfl : a = r := by simpa using z
          exact ⟨hr, hb⟩
      simp only [asgT, List.set_cons_zero, List.set_cons_succ]
      refine cutP (fun ρ' s' => ρ' = [.val (.ref k), .val (.int (m : Int)), .val (.int (N : Int)), .val (.ref j), .val (.bl lv), .val (.int tot), .val d, x7, x8, x9, .no] ∧ s2 = s') ?_ ?_
      · simp only [wpB, wpS, wpT, wpE, wpA, wpX, cstD, cmpD, eqqD, truD, e2, List.getElem?_cons_zero, List.getElem?_cons_succ, hp, W.take, Option.isSome_some, true_and]
        cases lv with
        | true =>
          simp only [if_true]
          refine TF.take W.toDraw st2 (by decide) fun r s3 st3 le3 _ _ _ => ?_
          simp only [binD, addD]
          refine parted W hp st3 h1 h4 (tot := tot + if decide (r = 0) then 1 else 0) (by split <;> omega) (by split <;> omega) fun rs s4 hl hb st4 le4 => ?_
          simp only [(le3.trans le4).lst e2 hjk, List.length_map]
          exact ⟨hll, app rs s4 _ _ _ _ hl hb st4 (le3.trans le4)⟩
        | false =>
          simp only [Bool.false_eq_true, if_false]
      rintro _ _ ⟨rfl, rfl⟩
      refine cutP (fun ρ' s' => ∃ w : Int, 0 ≤ w ∧ w ≤ 8 ∧ ρ' = [.val (.ref k), .val (.int (m : Int)), .val (.int (N : Int)), .val (.ref j), .val (.bl lv), .val (.int tot), .val d, .val (.int w), x8, x9, .no] ∧ St k s' ∧ Le k s2 s') ?_ ?_
      · simp only [wpS, wpE, wpA, wpX, cstD, asgT, Tg.one, List.getElem?_cons_zero, List.getElem?_cons_succ, List.set_cons_zero, List.set_cons_succ, implies_true, true_and, W.take, Option.isSome_some]
        exact TF.take W.toDraw st2 (by decide) fun r s' st' le g0 _ g2 => ⟨r, g0, by have := g2 (by decide); omega, rfl, st', le⟩
      rintro _ s3 ⟨w, w0, w8, rfl, st3, le3⟩
      have e3 := le3.lst e2 hjk
      simp only [wpB, wpS, wpT, wpE, cstD, cmpD, ltD, gtD, truD, lenD, itemsD, e3, Option.map_some, List.length_map, List.getElem?_cons_zero, List.getElem?_cons_succ, decide_eq_true_eq]
      split
      · rename_i hw2
        split
        · rename_i hpos
          -- a former row once more
          refine ⟨fun _ => rfl, ?_⟩
          simp only [wpQ, wpE, wpA, wpX, List.getElem?_cons_zero, List.getElem?_cons_succ, W.pick, Option.isSome_some, true_and]
          refine TF.pick W.toDraw W.pick st3 (row := .ref j) (l := rss.map tI) e3 (fun z => by cases z; exact hjk rfl) (by simp; omega) fun c s4 st4 le4 hc => ?_
          have hc := hc.resolve_right fun z => by
            have := z.1
            simp at this
            rw [this] at hpos
            simp at hpos
          obtain ⟨row, hrow, rfl⟩ := List.mem_map.mp hc
          have Rr := R row hrow
          simp only [srcD, tI, Src.items, asgT, List.set_cons_zero, List.set_cons_succ, List.getElem?_cons_zero, List.getElem?_cons_succ]
          have z4 := st4.new (okL s4.length row)
          have l24 := (le3.trans le4).len
          have hj2 : j < s2.length := lstAt_lt e2
          have h4k : s4.length ≠ k := by have := st4.lt; omega
          have LE4 := (le3.trans le4).trans z4.2
          refine ⟨fun _ => rfl, ?_⟩
          simp only [wpE, wpA, wpX, List.getElem?_cons_zero, List.getElem?_cons_succ, W.take, Option.isSome_some, true_and]
          refine TF.take W.toDraw z4.1 (Int.lt_of_le_of_lt (show (m : Int) ≤ 4 by omega) (by decide)) fun u s5 st5 le5 u0 u1 u2 => ?_
          have um : u < (m : Int) := by
            by_cases z : (2 : Int) ≤ (m : Int)
            · exact u2 z
            · have := u1 (by omega); omega
          have e5 : lstAt s5 s4.length = some (row.map .int) := le5.lst lstAt_new h4k
          have LE5 := LE4.trans le5
          simp only [asgT, List.set_cons_zero, List.set_cons_succ, binD, intD, e1012, List.getElem?_cons_zero, List.getElem?_cons_succ]
          refine ⟨pow_k (by decide) (by decide), sub_go (l := row.map .int) e5 u0 (by simp [Rr.1]; exact um) fun v _ hv => ?_⟩
          obtain ⟨x, hx, rfl⟩ := List.mem_map.mp hv
          have bx := Rr.2 x hx
          have ix : ixN (row.map D.int).length u = some u.toNat := ixN_int u0 (by simp [Rr.1]; exact um)
          simp only [addD, e5, ix]
          generalize hy : (if x + w < 1000000000000 then x + w else 1000000000000) = y
          have by_ : Bnd y := by
            unfold Bnd at bx ⊢
            rw [← hy]
            split <;> omega
          rw [show (row.map D.int).set u.toNat (.int y) = (row.set u.toNat y).map .int from List.map_set.symm]
          have st6 := st5.own h4k (okL s5.length (row.set u.toNat y))
          have LE6 : Le k s2 (s5.set s4.length (.lst ((row.set u.toNat y).map .int))) := LE5.own (by omega)
          have e6 : lstAt (s5.set s4.length (.lst ((row.set u.toNat y).map .int))) s4.length = some ((row.set u.toNat y).map .int) := lstAt_set (lstAt_lt e5)
          simp only [LE6.lst e2 hjk, e6, Option.map_some, Src.items, List.length_map]
          exact ⟨hll, app (row.set u.toNat y) _ _ _ _ _ (by simp [Rr.1]) (fun z hz => (List.mem_or_eq_of_mem_set hz).elim (Rr.2 z) fun e => e ▸ by_) st6 LE6⟩
        · skip
          simp only [wpB, wpS, wpT, wpE, wpA, wpX, wpQ, wpI, cstD, cmpD, eqqD, truD, e3, e1012, binD, intD, Src.items, List.getElem?_cons_zero, List.getElem?_cons_succ, Bool.false_eq_true, false_implies, true_and, decide_eq_true_eq, W.great, W.take, Option.isSome_some]
          split
          · refine ⟨m1, m2, hlen, compW_draw Bnd st3 (fun _ _ => trivial) (fun d hd s4 st4 le4 nx hn => ?_) fun rs s4 hl hR st4 le4 => ?_⟩
            · simp only [wipe, asgT, wpC, if_true, List.map_cons, List.map_nil, List.foldl_cons, List.foldl_nil, List.set_cons_zero, List.set_cons_succ, List.getElem?_cons_zero, List.getElem?_cons_succ]
              exact ⟨pow_k (by decide) (by decide), TF.great W.toDraw W.great st4 (by decide) fun r s5 st5 le5 g0 g1 => hn r s5 st5 le5 ⟨g0, by omega⟩⟩
            · simp only [le4.lst e3 hjk, List.length_map]
              exact ⟨hll, app rs s4 _ _ _ _ (by simpa [rangeD] using hl) hR st4 (le3.trans le4)⟩
          · refine ⟨m1, m2, hlen, compW_draw Bnd st3 (fun _ _ => trivial) (fun d hd s4 st4 le4 nx hn => ?_) fun rs s4 hl hR st4 le4 => ?_⟩
            · simp only [wipe, asgT, wpC, if_true, List.map_cons, List.map_nil, List.foldl_cons, List.foldl_nil, List.set_cons_zero, List.set_cons_succ, List.getElem?_cons_zero, List.getElem?_cons_succ]
              exact TF.take W.toDraw st4 (by decide) fun r s5 st5 le5 g0 _ g2 => hn r s5 st5 le5 ⟨g0, by have := g2 (by decide); omega⟩
            · simp only [le4.lst e3 hjk, List.length_map]
              exact ⟨hll, app rs s4 _ _ _ _ (by simpa [rangeD] using hl) hR st4 (le3.trans le4)⟩
      · simp only [Bool.false_eq_true, if_false]
        simp only [wpB, wpS, wpT, wpE, wpA, wpX, wpQ, wpI, cstD, cmpD, eqqD, truD, e3, e1012, binD, intD, Src.items, List.getElem?_cons_zero, List.getElem?_cons_succ, Bool.false_eq_true, false_implies, true_and, decide_eq_true_eq, W.great, W.take, Option.isSome_some]
        split
        · refine ⟨m1, m2, hlen, compW_draw Bnd st3 (fun _ _ => trivial) (fun d hd s4 st4 le4 nx hn => ?_) fun rs s4 hl hR st4 le4 => ?_⟩
          · simp only [wipe, asgT, wpC, if_true, List.map_cons, List.map_nil, List.foldl_cons, List.foldl_nil, List.set_cons_zero, List.set_cons_succ, List.getElem?_cons_zero, List.getElem?_cons_succ]
            exact ⟨pow_k (by decide) (by decide), TF.great W.toDraw W.great st4 (by decide) fun r s5 st5 le5 g0 g1 => hn r s5 st5 le5 ⟨g0, by omega⟩⟩
          · simp only [le4.lst e3 hjk, List.length_map]
            exact ⟨hll, app rs s4 _ _ _ _ (by simpa [rangeD] using hl) hR st4 (le3.trans le4)⟩
        · refine ⟨m1, m2, hlen, compW_draw Bnd st3 (fun _ _ => trivial) (fun d hd s4 st4 le4 nx hn => ?_) fun rs s4 hl hR st4 le4 => ?_⟩
          · simp only [wipe, asgT, wpC, if_true, List.map_cons, List.map_nil, List.foldl_cons, List.foldl_nil, List.set_cons_zero, List.set_cons_succ, List.getElem?_cons_zero, List.getElem?_cons_succ]
            exact TF.take W.toDraw st4 (by decide) fun r s5 st5 le5 g0 _ g2 => hn r s5 st5 le5 ⟨g0, by have := g2 (by decide); omega⟩
          · simp only [le4.lst e3 hjk, List.length_map]
            exact ⟨hll, app rs s4 _ _ _ _ (by simpa [rangeD] using hl) hR st4 (le3.trans le4)⟩
    · rintro ⟨rss, x6, x7, x8, x9, rfl, st2, le2, e2, lrs, R⟩
      exact ⟨rss, _, _, _, _, rfl, st2, le2, e2, by simpa using lrs, R⟩
  rintro _ s2 ⟨rss, x6, x7, x8, x9, rfl, st2, le2, e2, lrs, R⟩
  simp only [wpB, wpS, wpE, List.getElem?_cons_zero, List.getElem?_cons_succ]
  exact q rss j s2 lrs R st2 le2 (by omega) e2
end TF

set_option linter.all false
set_option maxRecDepth 10000
namespace TF
open PySem (Str)
open PI
variable {P : Prog} {n : Nat} {h : Bool} {s s' s'' : S} {Q : K1} {E : KX} {k : Nat}
/-! ### papers: no lists, plain texts -/
def txt (x : Str) : Bool := decide (x.length ≤ 100) && x.cps.toList.all fun c => c == 10 || (decide (32 ≤ c) && decide (c ≤ 126))
mutual
def okP : D → Bool
  | .non => true
  | .bl _ => true
  | .int _ => true
  | .str x => txt x
  | .tup l => okPs l
  | _ => false
def okPs : List D → Bool
  | [] => true
  | d :: r => okP d && okPs r
end
mutual
def sz : D → Nat
  | .tup l => 1 + szs l
  | _ => 1
def szs : List D → Nat
  | [] => 0
  | d :: r => sz d + szs r
end
mutual
def simD : D → Bool
  | .non => false
  | .bl _ => false
  | .tup l => simDs l
  | _ => true
def simDs : List D → Bool
  | [] => true
  | d :: r => simD d && simDs r
end
theorem okPs_iff : ∀ {l : List D}, okPs l = true ↔ ∀ d ∈ l, okP d = true
  | [] => by simp [okPs]
  | d :: r => by simp [okPs, okPs_iff (l := r)]
theorem simDs_iff : ∀ {l : List D}, simDs l = true ↔ ∀ d ∈ l, simD d = true
  | [] => by simp [simDs]
  | d :: r => by simp [simDs, simDs_iff (l := r)]
theorem szs_app : ∀ (l r : List D), szs (l ++ r) = szs l + szs r
  | [], r => by simp [szs]
  | d :: l, r => by simp only [List.cons_append, szs, szs_app l r]; omega
theorem simDs_app (l r : List D) : simDs (l ++ r) = (simDs l && simDs r) := by
  induction l with
  | nil => simp [simDs]
  | cons d l ih => simp only [List.cons_append, simDs, ih, Bool.and_assoc]
theorem sz_pos (d : D) : 1 ≤ sz d := by
  cases d <;> simp [sz]
theorem len_szs : ∀ (l : List D), l.length ≤ szs l
  | [] => Nat.le_refl _
  | d :: r => by
    have := sz_pos d
    have := len_szs r
    simp only [List.length_cons, szs]; omega
theorem szs_ones : ∀ (l : List D), (∀ d ∈ l, sz d = 1) → szs l = l.length
  | [], _ => rfl
  | d :: r, h => by
    have h1 := h d (by simp)
    have := szs_ones r fun d hd => h d (by simp [hd])
    simp only [List.length_cons, szs]; omega
mutual
theorem okP_okD (m : Nat) : ∀ (d : D), okP d = true → okD m d
  | .non, _ => trivial
  | .bl _, _ => trivial
  | .int _, _ => trivial
  | .str _, _ => trivial
  | .tup l, h => okPs_okDs m l (by simpa only [okP] using h)
  | .fls _, h => by simp [okP] at h
  | .ref _, h => by simp [okP] at h
theorem okPs_okDs (m : Nat) : ∀ (l : List D), okPs l = true → okDs m l
  | [], _ => trivial
  | d :: r, h => by
    simp only [okPs, Bool.and_eq_true] at h
    exact ⟨okP_okD m d h.1, okPs_okDs m r h.2⟩
end
theorem cut_szs {l : List D} {r : Int} (h0 : 0 ≤ r) (h1 : r ≤ l.length) : cutL l none (some r) = l.take r.toNat ∧ cutL l (some r) none = l.drop r.toNat := by
  have hr : ¬ r < 0 := by omega
  have e : min r.toNat l.length = r.toNat := by omega
  simp only [cutL, sIx, if_neg hr, e, List.drop_zero, Nat.sub_zero, true_and]
  exact List.take_of_length_le (by simp)
theorem sz_mem : ∀ {l : List D} {d : D}, d ∈ l → sz d ≤ szs l
  | x :: r, d, h => by
    simp only [szs]
    rcases List.mem_cons.mp h with e | e
    · subst e; omega
    · have := sz_mem e; omega
theorem atom2 (W : DrawsA P) (hat : P.fn "_law_atom" = some f_law_atom) (hsg : P.fn "_law_signed" = some f_law_signed) (st : St k s) (q : ∀ d s', St k s' → Le k s s' → okP d = true → sz d = 1 → Q d s') : wpCall P (n + 5) false "_law_atom" [.val (.ref k)] s Q E := by
  refine call_go hat rfl ?_
  show wpB _ _ [.val (.ref k), .no] _ _
  unfold f_law_atom
  have fin : ∀ (l : List D) s1, (l.all fun d => okP d && decide (sz d = 1)) = true → okDs 0 l → l ≠ [] → St k s1 → Le k s s1 → l.length ≤ 1000 → wpCall P (n + 4) false "_law_pick" [.val (.ref k), .val (.ref s1.length)] (s1 ++ [.lst l]) Q (fun c fs s1 => E c fs s1) := fun l s1 sh ok ne st1 le1 hl =>
    have sh2 : ∀ d ∈ l, okP d = true ∧ sz d = 1 := fun d hd => by simpa using List.all_eq_true.mp sh d hd
    pick_new W st1 (okDs_flat ok) hl fun d s2 st2 le2 hd => q d s2 st2 (le1.trans le2) (hd.elim (fun z => (sh2 d z).1) fun z => absurd z.1 ne) (hd.elim (fun z => (sh2 d z).2) fun z => absurd z.1 ne)
  refine cutP (fun ρ' s' => ∃ w : Int, ρ' = [.val (.ref k), .val (.int w)] ∧ St k s' ∧ Le k s s') ?_ ?_
  · simp only [wpS, wpE, wpA, wpX, cstD, asgT, Tg.one, List.getElem?_cons_zero, List.getElem?_cons_succ, List.set_cons_zero, List.set_cons_succ, implies_true, true_and, W.take, Option.isSome_some]
    exact TF.take W.toDraw st (by decide) fun r s' st' le h0 _ _ => ⟨r, rfl, st', le⟩
  rintro _ s1 ⟨w, rfl, st1, le1⟩
  refine cutP (fun ρ' s' => ρ' = [.val (.ref k), .val (.int w)] ∧ s' = s1) ?_ ?_
  · simp only [wpB, wpS, wpE, wpT, wpA, wpX, cstD, cmpD, ordD, ltD, gtD, truD, List.getElem?_cons_zero, List.getElem?_cons_succ, decide_eq_true_eq, W.take, Option.isSome_some, true_and]
    split
    · exact TF.take W.toDraw st1 (by decide) fun r s' st' le h0 _ _ => q _ s' st' (le1.trans le) rfl rfl
    · trivial
  rintro _ s2 ⟨rfl, e2⟩
  subst e2
  refine cutP (fun ρ' s' => ρ' = [.val (.ref k), .val (.int w)] ∧ s' = s2) ?_ ?_
  · simp only [wpB, wpS, wpE, wpT, wpA, wpX, wpQ, wpL, cstD, binD, intD, addD, cmpD, eqqD, truD, List.getElem?_cons_zero, List.getElem?_cons_succ, decide_eq_true_eq, W.pick, Option.isSome_some, true_and]
    split
    · refine ⟨pow_k (by decide) (by decide), pow_k (by decide) (by decide), pow_k (by decide) (by decide), pow_k (by decide) (by decide), mul_r (by decide), pow_k (by decide) (by decide), pow_k (by decide) (by decide), mul_r (by decide), (by show 7 ≤ line; decide), ?_⟩
      refine fin _ s2 (by decide +kernel) ⟨trivial, trivial, trivial, trivial, trivial, trivial, trivial, trivial⟩ (by simp) st1 le1 (by show 7 ≤ 1000; decide)
    · trivial
  rintro _ s3 ⟨rfl, e2⟩
  subst e2
  refine cutP (fun ρ' s' => ρ' = [.val (.ref k), .val (.int w)] ∧ s' = s3) ?_ ?_
  · simp only [wpB, wpS, wpE, wpT, wpA, wpX, cstD, cmpD, eqqD, truD, List.getElem?_cons_zero, List.getElem?_cons_succ, decide_eq_true_eq, W.take, Option.isSome_some, true_and]
    split
    · exact TF.take W.toDraw st1 (by decide) fun r s' st' le h0 _ _ => q _ s' st' (le1.trans le) rfl rfl
    · trivial
  rintro _ s4 ⟨rfl, e2⟩
  subst e2
  refine cutP (fun ρ' s' => ρ' = [.val (.ref k), .val (.int w)] ∧ s' = s4) ?_ ?_
  · simp only [wpB, wpS, wpE, wpT, wpA, wpX, wpQ, wpL, cstD, cmpD, eqqD, truD, List.getElem?_cons_zero, List.getElem?_cons_succ, decide_eq_true_eq, W.pick, Option.isSome_some, true_and]
    split
    · refine ⟨(by show 0 ≤ line; decide), (by show 2 ≤ line; decide), ?_⟩
      refine fin _ s4 (by decide +kernel) ⟨trivial, trivial, trivial⟩ (by simp) st1 le1 (by show 2 ≤ 1000; decide)
    · trivial
  rintro _ s5 ⟨rfl, e2⟩
  subst e2
  refine cutP (fun ρ' s' => ρ' = [.val (.ref k), .val (.int w)] ∧ s' = s5) ?_ ?_
  · simp only [wpB, wpS, wpE, wpT, wpA, wpX, wpQ, wpL, cstD, cmpD, eqqD, truD, List.getElem?_cons_zero, List.getElem?_cons_succ, decide_eq_true_eq, W.pick, Option.isSome_some, true_and]
    split
    · refine ⟨(by show 5 ≤ line; decide), ?_⟩
      refine fin _ s5 (by decide +kernel) ⟨trivial, trivial, trivial, trivial, trivial, trivial⟩ (by simp) st1 le1 (by show 5 ≤ 1000; decide)
    · trivial
  rintro _ s6 ⟨rfl, e2⟩
  subst e2
  simp only [wpB, wpS, wpE, wpA, wpX, cstD, binD, intD, List.getElem?_cons_zero, hsg, Option.isSome_some, true_and]
  exact ⟨pow_k (by decide) (by decide), signed W hsg st1 (by decide) fun r s' st' le => q _ s' st' (le1.trans le) rfl rfl⟩
theorem paper2 (W : DrawsA P) (hpa : P.fn "_law_paper" = some f_law_paper) (hat : P.fn "_law_atom" = some f_law_atom) (hsg : P.fn "_law_signed" = some f_law_signed) (st : St k s) (q : ∀ d s', St k s' → Le k s s' → okP d = true → sz d ≤ 100 → Q d s') : wpCall P (n + 6) false "_law_paper" [.val (.ref k)] s Q E := by
  refine call_go hpa rfl ?_
  show wpB _ _ [.val (.ref k), .no, .no, .no, .no] _ _
  unfold f_law_paper
  refine cutP (fun ρ' s' => ρ' = [.val (.ref k), .val (.ref s.length), .no, .no, .no] ∧ s' = s ++ [.lst []]) ?_ ?_
  · simp only [wpS, wpE, wpQ, wpL, asgT, Tg.one, List.set_cons_zero, List.set_cons_succ, implies_true, true_and, and_self, and_true]
    decide
  rintro _ _ ⟨rfl, rfl⟩
  refine cutP (fun ρ' s' => ρ' = [.val (.ref k), .val (.ref s.length), .val (.int 0), .no, .no] ∧ s' = s ++ [.lst []]) ?_ ?_
  · simp only [wpS, wpE, cstD, asgT, Tg.one, List.set_cons_zero, List.set_cons_succ, implies_true, true_and, and_self]
  rintro _ _ ⟨rfl, rfl⟩
  have hk := st.lt
  have st1 := st.new (l := []) trivial
  refine cutP (fun ρ' s' => ∃ (j : Nat) (l : List D) (x2 x3 x4 : Sl), ρ' = [.val (.ref k), .val (.ref j), x2, x3, x4] ∧ St k s' ∧ Le k s s' ∧ s.length ≤ j ∧ lstAt s' j = some l ∧ l.length ≤ 1000 ∧ szs l ≤ 20 ∧ okPs l = true) ?_ ?_
  · simp only [wpS, wpI, wpE, wpA, wpX, cstD, List.getElem?_cons_zero, W.take, Option.isSome_some, true_and]
    refine ⟨(fun z => by cases z), ?_⟩
    refine TF.take W.toDraw st1.1 (by decide) fun r s2 st2 le2 h0 _ h2 => ?_
    have hr := h2 (by decide)
    refine ⟨by omega, by omega, ?_⟩
    refine forW_inv (fun rest ρ' s' => ∃ (j : Nat) (l : List D) (c : Int) (x3 x4 : Sl), ρ' = [.val (.ref k), .val (.ref j), .val (.int c), x3, x4] ∧ St k s' ∧ Le k s s' ∧ s.length ≤ j ∧ lstAt s' j = some l ∧ szs l + 2 * rest.length ≤ 20 ∧ okPs l = true) (fun _ _ _ _ => trivial) ?_ ?_ _ _ _ ?_
    · rintro d rest ρ s3 nx ⟨j, l, c, x3, x4, rfl, st3, le3, hj, hl, hlen, shl⟩ hn
      simp only [List.length_cons] at hlen
      have jk : j ≠ k := by omega
      simp only [wpB, wpS, wpE, wpT, wpA, wpX, asgT, List.set_cons_zero, List.set_cons_succ, List.getElem?_cons_zero, List.getElem?_cons_succ, hl, hat, Option.isSome_some, true_and]
      refine atom2 W hat hsg st3 fun d4 s4 st4 le4 ok4 sh4 => ?_
      have hl0 := len_szs l
      have hl4 := le4.lst hl jk
      simp only [hl4]
      refine ⟨by unfold line; omega, ?_⟩
      have shn : okPs (l ++ [d4]) = true := okPs_iff.mpr fun d hd => (List.mem_append.mp hd).elim (okPs_iff.mp shl d) fun z => by
        obtain rfl : d = d4 := by simpa using z
        exact ok4
      have szn : szs (l ++ [d4]) = szs l + 1 := by rw [szs_app]; simp only [szs, sh4]
      have okl : okDs s4.length (l ++ [d4]) := okDs_app (st4.ofOk hl4) ⟨okP_okD _ _ ok4, trivial⟩
      have st5 := st4.own jk okl
      have le5 : Le k s (s4.set j (.lst (l ++ [d4]))) := (le3.trans le4).own hj
      have hl5 : lstAt (s4.set j (.lst (l ++ [d4]))) j = some (l ++ [d4]) := lstAt_set (lstAt_lt hl4)
      generalize hs5 : s4.set j (.lst (l ++ [d4])) = s5 at st5 le5 hl5
      simp only [cstD, cmpD, ordD, ltD, gtD, eqqD, truD, decide_eq_true_eq, W.take, Option.isSome_some, true_and]
      have stay : ∀ s6, St k s6 → Le k s5 s6 → nx [.val (.ref k), .val (.ref j), .val (.int c), .val d, x4] s6 := fun s6 st6 le6 =>
        hn _ _ ⟨j, l ++ [d4], c, _, _, rfl, st6, le5.trans le6, hj, le6.lst hl5 jk, by omega, shn⟩
      split
      · refine TF.take W.toDraw st5 (by decide) fun r6 s6 st6 le6 _ _ _ => ?_
        dsimp only
        split
        · simp only [binD, addD, List.getElem?_cons_zero, List.getElem?_cons_succ, lenD, itemsD, le6.lst hl5 jk, Option.map_some, asgT, Tg.one, List.set_cons_zero, List.set_cons_succ, implies_true, true_and]
          have hl6 := le6.lst hl5 jk
          refine TF.take W.toDraw st6 (Int.lt_of_le_of_lt (show (((l ++ [d4]).length : Nat) : Int) ≤ 101 by simp; omega) (by decide)) fun r7 s7 st7 le7 g0 g1 g2 => ?_
          have hl7 := le7.lst hl6 jk
          simp only [wpQ, wpO, wpE, wpL, srcD, hl7, Option.map_some, Src.ok, Src.items, Src.notFl, Src.isList, List.getElem?_cons_zero, List.getElem?_cons_succ, true_and]
          have ok7 := st7.ofOk hl7
          have okn : okDs s7.length (cutL (l ++ [d4]) none (some r7) ++ [.tup (cutL (l ++ [d4]) (some r7) none)]) := okDs_app (okDs_cut ok7 _ _) ⟨okDs_cut ok7 _ _, trivial⟩
          have len7 : (cutL (l ++ [d4]) none (some r7)).length ≤ l.length := by
            have hr7 : r7 ≤ l.length := by
              by_cases z : (2 : Int) ≤ ((l ++ [d4]).length : Nat)
              · have := g2 z; simp at this; omega
              · have := g1 (by omega); omega
            unfold cutL sIx
            simp only [List.drop_zero, Nat.sub_zero, List.length_take]
            rw [if_neg (by omega)]
            omega
          have hr7 : r7 ≤ (l ++ [d4]).length := by
            by_cases z : (2 : Int) ≤ ((l ++ [d4]).length : Nat)
            · have := g2 z; omega
            · have := g1 (by omega); omega
          obtain ⟨c1, c2⟩ := cut_szs (l := l ++ [d4]) g0 hr7
          refine ⟨(by show 1 ≤ line; decide), (by simp [line]; omega), ?_⟩
          have st8 := st7.new okn
          have hsp := szs_app ((l ++ [d4]).take r7.toNat) ((l ++ [d4]).drop r7.toNat)
          rw [List.take_append_drop, szn] at hsp
          refine hn _ _ ⟨s7.length, _, _, _, _, rfl, st8.1, (((le5.trans le6).trans le7).trans st8.2), by have := ((le5.trans le6).trans le7).len; omega, lstAt_new, ?_, okPs_iff.mpr fun d hd => ?_⟩
          · rw [szs_app, c1, c2]
            simp only [szs, sz]
            omega
          · rcases List.mem_append.mp hd with z | z
            · exact okPs_iff.mp shn d (cutL_mem z)
            · obtain rfl : d = .tup (cutL (l ++ [d4]) (some r7) none) := by simpa using z
              simp only [okP]
              exact okPs_iff.mpr fun d hd => okPs_iff.mp shn d (cutL_mem hd)
        · exact stay s6 st6 le6
      · exact stay s5 st5 (Le.refl _ _)
    · rintro ρ s3 ⟨j, l, c, x3, x4, rfl, st3, le3, hj, hl, hlen, shl⟩
      have hl0 := len_szs l
      simp only [List.length_nil] at hlen
      exact ⟨j, l, _, _, _, rfl, st3, le3, hj, hl, by omega, by omega, shl⟩
    · refine ⟨s.length, [], 0, .no, .no, rfl, st2, st1.2.trans le2, Nat.le_refl _, le2.lst lstAt_new (by omega), ?_, rfl⟩
      simp [rangeD, szs]; omega
  rintro _ s3 ⟨j, l, x2, x3, x4, rfl, st3, le3, hj, hl, hlen, hsz, shl⟩
  have okl := st3.ofOk hl
  simp only [wpB, wpS, wpT, wpE, wpQ, cstD, lenD, itemsD, srcD, hl, Option.map_some, cmpD, eqqD, truD, List.getElem?_cons_zero, List.getElem?_cons_succ, decide_eq_true_eq, Src.items]
  split
  · refine sub_go (l := l) hl (by decide) (by omega) fun d _ hd => q d s3 st3 le3 (okPs_iff.mp shl d hd) (by have := sz_mem hd; omega)
  · exact q _ s3 st3 le3 (by simpa only [okP] using shl) (by simp only [sz]; omega)
end TF

set_option linter.all false
set_option maxRecDepth 10000
namespace TF
open PySem (Str)
open PI
variable {P : Prog} {n : Nat} {h : Bool} {s s' s'' : S} {Q : K1} {E : KX} {k : Nat}
structure Simp (P : Prog) : Prop where
  whole : P.fn "is_whole" = some f_is_whole
  text : P.fn "is_text" = some f_is_text
  simp_ : P.fn "is_simple" = some f_is_simple
  lsim : P.fn "_law_simple" = some f_law_simple
def isStr : D → Bool
  | .str _ => true
  | _ => false
theorem is_whole (W : Simp P) {v : D} (ok : okP v = true) (hv : ∀ l, v ≠ .tup l) (q : Q (.bl (simD v && !isStr v)) s) : wpCall P (n + 1) false "is_whole" [.val v] s Q E := by
  refine call_go W.whole rfl ?_
  show wpB _ _ [.val v] _ _
  unfold f_is_whole
  simp only [wpB, wpS, wpE, List.getElem?_cons_zero]
  cases v with
  | tup l => exact absurd rfl (hv l)
  | fls l => simp [okP] at ok
  | ref l => simp [okP] at ok
  | _ => exact q
theorem lt1 {a b : Nat} : decide ([a] < [b]) = decide (a < b) := by
  simp [List.cons_lt_cons_iff]
theorem is_text (W : Simp P) {v : D} (ok : okP v = true) (hv : ∀ l, v ≠ .tup l) (q : Q (.bl (isStr v)) s) : wpCall P (n + 1) false "is_text" [.val v] s Q E := by
  refine call_go W.text rfl ?_
  show wpB _ _ [.val v, .no] _ _
  unfold f_is_text
  cases v with
  | tup l => exact absurd rfl (hv l)
  | fls l => simp [okP] at ok
  | ref l => simp [okP] at ok
  | str x =>
    have hx : x.length ≤ 100 ∧ ∀ c ∈ x.cps.toList, c = 10 ∨ (32 ≤ c ∧ c ≤ 126) := by
      simp only [okP, txt, Bool.and_eq_true, decide_eq_true_eq] at ok
      refine ⟨ok.1, fun c hc => ?_⟩
      have := List.all_eq_true.mp ok.2 c hc
      simpa using this
    refine cutP (fun ρ' s' => ρ' = [.val (.str x), .no] ∧ s = s') ?_ ?_
    · simp only [wpB, wpS, wpT, wpE, isT, truD, List.getElem?_cons_zero, Bool.not_true, Bool.false_eq_true, if_false]
      trivial
    rintro _ _ ⟨rfl, rfl⟩
    refine cutP (fun ρ' s' => s = s') ?_ (fun _ _ e => by subst e; exact q)
    have hline : x.length ≤ line := by have := hx.1; unfold line; omega
    simp only [wpS, wpI, wpE, List.getElem?_cons_zero, walkD, hline, if_true]
    refine ⟨(fun z => by cases z), ?_⟩
    refine forW_test (fun _ => false) (fun ρ => ∃ z : Sl, ρ = [.val (.str x), z]) trivial ⟨_, rfl⟩ (fun _ _ z => by cases z) ?_ (fun _ ρ z => rfl)
    rintro d hd _ ρ ⟨z, rfl⟩ nx hn
    unfold strD at hd
    obtain ⟨c, hc, rfl⟩ := List.mem_map.mp hd
    have hc := hx.2 c hc
    simp only [asgT, List.set_cons_succ, List.set_cons_zero, wpB, wpS, wpT, wpE, cstD, cmpD, neqD, ltD, gtD, truD, List.getElem?_cons_zero, List.getElem?_cons_succ]
    have e1 : (Str.ofString " ").cps = #[32] := by decide +kernel
    have e2 : (Str.ofString "~").cps = #[126] := by decide +kernel
    have e3 : (Str.ofString "\n") = ⟨#[10]⟩ := by decide +kernel
    rw [e1, e2, e3]
    simp only [lt1]
    rcases hc with rfl | hc
    · simp only [decide_true, Bool.not_true, Bool.false_eq_true, if_false]
      exact hn _ ⟨_, rfl⟩
    · rw [decide_eq_false (by omega : ¬ c < 32), decide_eq_false (by omega : ¬ 126 < c)]
      simp only [Bool.false_eq_true, if_false, ite_self]
      exact hn _ ⟨_, rfl⟩
  | _ =>
    simp only [wpB, wpS, wpT, wpE, isT, truD, cstD, List.getElem?_cons_zero, Bool.not_false, if_true]
    exact q
theorem okPs_last {l : List D} {y : D} (h : okPs (l ++ [y]) = true) : okPs l = true ∧ okP y = true :=
  ⟨okPs_iff.mpr fun d hd => okPs_iff.mp h d (by simp [hd]), okPs_iff.mp h y (by simp)⟩
theorem simDs_last (l : List D) (y : D) : simDs (l ++ [y]) = (simDs l && simD y) := by
  rw [simDs_app]
  simp only [simDs, Bool.and_true]
theorem szs_last (l : List D) (y : D) : szs (l ++ [y]) = szs l + sz y := by
  rw [szs_app]
  simp only [szs]; omega
theorem list_snoc {l : List D} (h : l ≠ []) : ∃ l' y, l = l' ++ [y] := ⟨l.dropLast, l.getLast h, (List.dropLast_concat_getLast h).symm⟩
theorem set_own {t l : List D} : (s ++ [Ob.lst t]).set s.length (.lst l) = s ++ [.lst l] := by
  rw [List.set_append_right _ _ (Nat.le_refl _)]
  simp
theorem is_simple (W : Simp P) {v : D} (ok : okP v = true) (hs : sz v ≤ 100000) (q : ∀ s', Gr s s' → Q (.bl (simD v)) s') : wpCall P (n + 2) false "is_simple" [.val v] s Q E := by
  refine call_go W.simp_ rfl ?_
  show wpB _ _ [.val v, .no, .no] _ _
  unfold f_is_simple
  have gr : ∀ l, okPs l = true → Gr s (s ++ [.lst l]) := fun l hl => (Gr.refl s).new (okPs_okDs _ _ hl)
  refine cutP (fun ρ' s' => ρ' = [.val v, .val (.ref s.length), .no] ∧ s' = s ++ [.lst [v]]) ?_ ?_
  · simp only [wpS, wpE, wpQ, wpL, asgT, Tg.one, List.getElem?_cons_zero, List.set_cons_zero, List.set_cons_succ, implies_true, true_and, and_true, and_self, List.length_cons, List.length_nil]
    decide
  rintro _ _ ⟨rfl, rfl⟩
  refine cutP (fun ρ' s' => simD v = true ∧ Gr s s') ?_ ?_
  · simp only [wpS]
    refine ⟨fun m ρ s' => ∃ (l : List D) (x2 : Sl), ρ = [.val v, .val (.ref s.length), x2] ∧ s' = s ++ [.lst l] ∧ szs l = m ∧ m ≤ 100000 ∧ okPs l = true ∧ simDs l = simD v, ⟨_, [v], _, rfl, rfl, rfl, by simp only [szs]; omega, by simp only [okPs, ok, Bool.and_true], by simp only [simDs, Bool.and_true]⟩, ?_⟩
    rintro m ρ s1 ⟨l, x2, rfl, rfl, hm, hm9, hok, hsim⟩
    refine ⟨rfl, ?_⟩
    simp only [wpT, wpE, truD, lstAt_new, Option.map_some, List.getElem?_cons_zero, List.getElem?_cons_succ]
    by_cases hl : l = []
    · subst hl
      simp only [List.isEmpty_nil, Bool.not_true, Bool.false_eq_true, if_false]
      exact ⟨hsim.symm.trans rfl, gr _ rfl⟩
    · obtain ⟨l', y, rfl⟩ := list_snoc hl
      obtain ⟨ok1, oky⟩ := okPs_last hok
      rw [simDs_last] at hsim
      rw [szs_last] at hm
      have hle := len_szs l'
      have hne : (!(l' ++ [y]).isEmpty) = true := by simp
      rw [hne]
      simp only [if_true]
      refine cutP (fun ρ' s' => ρ' = [.val v, .val (.ref s.length), .val y] ∧ s' = s ++ [.lst l']) ?_ ?_
      · simp only [wpS, wpE, asgT, Tg.one, lstAt_new, List.getElem?_cons_zero, List.getElem?_cons_succ, List.set_cons_zero, List.set_cons_succ, implies_true, true_and]
        have e1 : (l' ++ [y])[(l' ++ [y]).length - 1]? = some y := by simp
        simp only [e1, set_own, List.dropLast_concat, and_self]
      rintro _ _ ⟨rfl, rfl⟩
      have go : ∀ (l : List D), szs l < m → okPs l = true → simDs l = simD v → ∃ m', m' < m ∧ ∃ (l2 : List D) (x2 : Sl), [Sl.val v, .val (.ref s.length), .val y] = [.val v, .val (.ref s.length), x2] ∧ s ++ [Ob.lst l] = s ++ [.lst l2] ∧ szs l2 = m' ∧ m' ≤ 100000 ∧ okPs l2 = true ∧ simDs l2 = simD v := fun l h1 h2 h3 => ⟨szs l, h1, l, _, rfl, rfl, rfl, by omega, h2, h3⟩
      by_cases hy : ∃ zs, y = .tup zs
      · obtain ⟨zs, rfl⟩ := hy
        simp only [okP] at oky
        simp only [sz] at hm
        simp only [simD] at hsim
        have hz := len_szs zs
        simp only [wpB, wpS, wpT, wpE, wpQ, isT, truD, srcD, lstAt_new, set_own, List.getElem?_cons_zero, List.getElem?_cons_succ, if_true]
        refine ⟨by unfold line; omega, go (l' ++ zs) (by rw [szs_app]; omega) (okPs_iff.mpr fun d hd => (List.mem_append.mp hd).elim (okPs_iff.mp ok1 d) (okPs_iff.mp oky d)) (by rw [simDs_app]; exact hsim)⟩
      · have hv : ∀ zs, y ≠ .tup zs := fun zs e => hy ⟨zs, e⟩
        have hyT : isT y (s ++ [.lst l']) .tup = some false := by
          cases y with
          | tup zs => exact absurd rfl (hv zs)
          | fls l => simp [okP] at oky
          | ref l => simp [okP] at oky
          | _ => rfl
        have hsz := sz_pos y
        simp only [wpB, wpS, wpT, wpE, wpA, wpX, truD, hyT, List.getElem?_cons_zero, List.getElem?_cons_succ, Bool.false_eq_true, if_false, W.whole, W.text, Option.isSome_some, true_and]
        refine is_whole W oky hv ?_
        simp only [truD]
        cases hyw : (simD y && !isStr y) with
        | true =>
          simp only [Bool.not_true, Bool.false_eq_true, if_false]
          simp only [Bool.and_eq_true] at hyw
          exact go l' (by omega) ok1 (by rw [← hsim, hyw.1, Bool.and_true])
        | false =>
          simp only [Bool.not_false, if_true]
          refine is_text W oky hv ?_
          simp only [truD]
          cases hys : isStr y with
          | true =>
            simp only [Bool.not_true, Bool.false_eq_true, if_false]
            have : simD y = true := by cases y <;> first | rfl | cases hys
            exact go l' (by omega) ok1 (by rw [← hsim, this, Bool.and_true])
          | false =>
            simp only [Bool.not_false, if_true, cstD]
            rw [hys] at hyw
            simp only [Bool.not_false, Bool.and_true] at hyw
            rw [hyw, Bool.and_false] at hsim
            rw [hsim]
            exact q _ (gr _ ok1)
  · rintro ρ s1 ⟨hv, g⟩
    simp only [wpB, wpS, wpE, cstD]
    rw [← hv]
    exact q _ g
theorem Gr.own {j : Nat} {l : List D} (g : Gr s s') (hj : s.length ≤ j) (ok : okDs s'.length l) : Gr s (s'.set j (.lst l)) := by
  obtain ⟨t, rfl, ht⟩ := g.pre
  refine ⟨t.set (j - s.length) (.lst l), List.set_append_right _ _ hj, fun o ho => ?_⟩
  rw [List.length_set]
  rcases List.mem_or_eq_of_mem_set ho with z | z
  · exact ht o z
  · rw [z]; exact ok
theorem law_simple (W : Simp P) {v : D} (ok : okP v = true) (hs : sz v ≤ 3100) (q : ∀ s', Gr s s' → Q (.bl (simD v)) s') : wpCall P (n + 1) false "_law_simple" [.val v] s Q E := by
  refine call_go W.lsim rfl ?_
  show wpB _ _ [.val v, .no, .no, .no] _ _
  unfold f_law_simple
  refine cutP (fun ρ' s' => ρ' = [.val v, .val (.ref s.length), .no, .no] ∧ s' = s ++ [.lst [v]]) ?_ ?_
  · simp only [wpS, wpE, wpQ, wpL, asgT, Tg.one, List.getElem?_cons_zero, List.set_cons_zero, List.set_cons_succ, implies_true, true_and, and_true, and_self, List.length_cons, List.length_nil]
    decide
  rintro _ _ ⟨rfl, rfl⟩
  have g0 : Gr s (s ++ [.lst [v]]) := (Gr.refl s).new ⟨okP_okD _ _ ok, trivial⟩
  refine cutP (fun ρ' s' => simD v = true ∧ Gr s s') ?_ ?_
  · simp only [wpS, wpI, wpE, cstD]
    refine ⟨(fun z => by cases z), by decide, by decide, ?_⟩
    refine forW_inv (fun rest ρ' s' => ∃ (j : Nat) (l : List D) (x2 x3 : Sl), ρ' = [.val v, .val (.ref j), x2, x3] ∧ Gr s s' ∧ s.length ≤ j ∧ lstAt s' j = some l ∧ szs l ≤ rest.length ∧ rest.length ≤ 3100 ∧ okPs l = true ∧ simDs l = simD v) (fun _ _ _ _ => trivial) ?_ ?_ _ _ _ ⟨s.length, [v], _, _, rfl, g0, Nat.le_refl _, lstAt_new, by simp [szs, rangeD]; omega, by simp [rangeD], by simp only [okPs, ok, Bool.and_true], by simp only [simDs, Bool.and_true]⟩
    · rintro d rest ρ s1 nx ⟨j, l, x2, x3, rfl, g1, hj, e1, hm, hr, hok, hsim⟩ hn
      simp only [List.length_cons] at hm hr
      simp only [asgT, List.set_cons_zero, List.set_cons_succ]
      refine cutP (fun ρ' s' => l ≠ [] ∧ ρ' = [.val v, .val (.ref j), .val d, x3] ∧ s1 = s') ?_ ?_
      · simp only [wpB, wpS, wpT, wpE, cstD, cmpD, eqqD, truD, lenD, itemsD, e1, Option.map_some, List.getElem?_cons_zero, List.getElem?_cons_succ, decide_eq_true_eq]
        split
        · rename_i h0
          have : l = [] := List.length_eq_zero_iff.mp (by omega)
          subst this
          exact ⟨hsim.symm.trans rfl, g1⟩
        · rename_i h0
          exact ⟨fun z => h0 (by rw [z]; rfl), by trivial⟩
      rintro _ _ ⟨hne, rfl, rfl⟩
      obtain ⟨l', y, rfl⟩ := list_snoc hne
      obtain ⟨ok1, oky⟩ := okPs_last hok
      rw [simDs_last] at hsim
      rw [szs_last] at hm
      have hle := len_szs l'
      have g2 : Gr s (s1.set j (.lst l')) := g1.own hj (okPs_okDs _ _ ok1)
      have e2 : lstAt (s1.set j (.lst l')) j = some l' := lstAt_set (lstAt_lt e1)
      refine cutP (fun ρ' s' => ρ' = [.val v, .val (.ref j), .val d, .val y] ∧ s' = s1.set j (.lst l')) ?_ ?_
      · simp only [wpS, wpE, asgT, Tg.one, e1, List.getElem?_cons_zero, List.getElem?_cons_succ, List.set_cons_zero, List.set_cons_succ, implies_true, true_and]
        have e3 : (l' ++ [y])[(l' ++ [y]).length - 1]? = some y := by simp
        simp only [e3, List.dropLast_concat, and_self]
      rintro _ _ ⟨rfl, rfl⟩
      have hsz := sz_pos y
      refine cutP (fun ρ' s' => (simD y = true ∨ ∃ zs, y = .tup zs) ∧ ρ' = [.val v, .val (.ref j), .val d, .val y] ∧ s1.set j (.lst l') = s') ?_ ?_
      · have no : simD y = false → Q (.bl false) (s1.set j (.lst l')) := fun z => by
          rw [z, Bool.and_false] at hsim
          rw [hsim]
          exact q _ g2
        simp only [wpB, wpS, wpT, wpE, cstD, cmpD, isD, truD, List.getElem?_cons_zero, List.getElem?_cons_succ]
        cases y with
        | non => exact no rfl
        | bl b => exact no rfl
        | int i => exact ⟨.inl rfl, by trivial⟩
        | str x => exact ⟨.inl rfl, by trivial⟩
        | tup zs => exact ⟨.inr ⟨_, rfl⟩, by trivial⟩
        | fls l => simp [okP] at oky
        | ref l => simp [okP] at oky
      rintro _ _ ⟨hy, rfl, rfl⟩
      by_cases hyt : ∃ zs, y = .tup zs
      · obtain ⟨zs, rfl⟩ := hyt
        simp only [okP] at oky
        simp only [sz] at hm
        simp only [simD] at hsim
        have hz := len_szs zs
        have g3 := g2.new (okPs_okDs _ _ oky)
        have okz : okPs (l' ++ zs) = true := okPs_iff.mpr fun d hd => (List.mem_append.mp hd).elim (okPs_iff.mp ok1 d) (okPs_iff.mp oky d)
        have g4 := g3.new (okPs_okDs _ _ okz)
        have e5 : lstAt (s1.set j (.lst l') ++ [.lst zs]) j = some l' := (lstAt_app (lstAt_lt e2)).trans e2
        have gl := g3.len
        simp only [wpB, wpS, wpT, wpE, wpQ, isT, truD, srcD, Src.items, binD, addD, e5, lstAt_new, asgT, Tg.one, List.getElem?_cons_zero, List.getElem?_cons_succ, List.set_cons_zero, List.set_cons_succ, implies_true, true_and, if_true]
        exact ⟨by unfold line; omega, hn _ _ ⟨_, l' ++ zs, _, _, rfl, g4, gl, lstAt_new, by rw [szs_app]; omega, by omega, okz, by rw [simDs_app]; exact hsim⟩⟩
      · have hy := hy.resolve_right hyt
        have hyT : isT y (s1.set j (.lst l')) .tup = some false := by
          cases y with
          | tup zs => exact absurd ⟨zs, rfl⟩ hyt
          | fls l => simp [okP] at oky
          | ref l => simp [okP] at oky
          | _ => rfl
        simp only [wpB, wpS, wpT, wpE, hyT, truD, List.getElem?_cons_zero, List.getElem?_cons_succ, Bool.false_eq_true, if_false]
        exact hn _ _ ⟨j, l', _, _, rfl, g2, hj, e2, by omega, by omega, ok1, by rw [← hsim, hy, Bool.and_true]⟩
    · rintro ρ s1 ⟨j, l, x2, x3, rfl, g1, hj, e1, hm, hr, hok, hsim⟩
      have := len_szs l
      have : l = [] := List.length_eq_zero_iff.mp (by simp only [List.length_nil] at hm; omega)
      subst this
      exact ⟨hsim.symm.trans rfl, g1⟩
  · rintro ρ s1 ⟨hv, g⟩
    simp only [wpB, wpS, wpE, cstD]
    rw [← hv]
    exact q _ g
end TF

set_option linter.all false
set_option maxRecDepth 10000
namespace TF
open PySem (Str)
open PI
variable {P : Prog} {n : Nat} {h : Bool} {s s' s'' : S} {Q : K1} {E : KX} {k : Nat}
theorem rng_int {m : Nat} {d : D} (h : d ∈ rangeD 0 m) : ∃ i : Nat, i < m ∧ d = .int (i : Int) := by
  unfold rangeD at h
  obtain ⟨i, hi, rfl⟩ := List.mem_map.mp h
  exact ⟨i, by simpa using hi, by rw [Int.zero_add]⟩
theorem thing (W : DrawsA P) (hth : P.fn "_law_thing" = some f_law_thing) (hpa : P.fn "_law_paper" = some f_law_paper) (hat : P.fn "_law_atom" = some f_law_atom) (hsg : P.fn "_law_signed" = some f_law_signed) (st : St k s)
    (q : ∀ d s', St k s' → Le k s s' → okP d = true → sz d ≤ 3100 → Q d s') : wpCall P (n + 7) false "_law_thing" [.val (.ref k)] s Q E := by
  refine call_go hth rfl ?_
  show wpB _ _ [.val (.ref k), .no, .no, .no, .no, .no, .no] _ _
  unfold f_law_thing
  refine cutP (fun ρ' s' => ∃ w : Int, ρ' = [.val (.ref k), .val (.int w), .no, .no, .no, .no, .no] ∧ St k s' ∧ Le k s s') ?_ ?_
  · simp only [wpS, wpE, wpA, wpX, cstD, asgT, Tg.one, List.getElem?_cons_zero, List.getElem?_cons_succ, List.set_cons_zero, List.set_cons_succ, implies_true, true_and, W.take, Option.isSome_some]
    exact TF.take W.toDraw st (by decide) fun r s' st' le h0 _ _ => ⟨r, rfl, st', le⟩
  rintro _ s1 ⟨w, rfl, st1, le1⟩
  refine cutP (fun ρ' s' => ρ' = [.val (.ref k), .val (.int w), .no, .no, .no, .no, .no] ∧ s1 = s') ?_ ?_
  · simp only [wpB, wpS, wpE, wpT, wpA, wpX, cstD, cmpD, eqqD, truD, List.getElem?_cons_zero, List.getElem?_cons_succ, decide_eq_true_eq, hpa, Option.isSome_some, true_and]
    split
    · exact paper2 W hpa hat hsg st1 fun d s2 st2 le2 ok hs => q d s2 st2 (le1.trans le2) ok (by omega)
    · trivial
  rintro _ _ ⟨rfl, rfl⟩
  refine cutP (fun ρ' s' => ρ' = [.val (.ref k), .val (.int w), .no, .no, .no, .no, .no] ∧ s1 = s') ?_ ?_
  · simp only [wpB, wpS, wpT, cstD, cmpD, eqqD, truD, wpE, List.getElem?_cons_zero, List.getElem?_cons_succ, decide_eq_true_eq]
    split
    · simp only [wpA, wpX, asgT, Tg.one, List.getElem?_cons_zero, List.getElem?_cons_succ, List.set_cons_zero, List.set_cons_succ, implies_true, true_and, hat, W.take, Option.isSome_some]
      refine atom2 W hat hsg st1 fun d s2 st2 le2 ok hs => ?_
      simp only [wpI, wpE, wpA, wpX, cstD, List.getElem?_cons_zero, List.getElem?_cons_succ, W.take, Option.isSome_some, true_and]
      refine ⟨(fun z => by cases z), TF.take W.toDraw st2 (by decide) fun r s3 st3 le3 r0 _ r2 => ⟨by have := r2 (by decide); omega, by omega, ?_⟩⟩
      have r2 := r2 (by decide)
      refine forW_inv (fun rest ρ' s' => ∃ (d : D) (x3 : Sl), ρ' = [.val (.ref k), .val (.int w), .val d, x3, .no, .no, .no] ∧ St k s' ∧ Le k s s' ∧ okP d = true ∧ sz d + 2 * rest.length ≤ 100) (fun _ _ _ _ => trivial) ?_ ?_ _ _ _ ⟨d, _, rfl, st3, (le1.trans le2).trans le3, ok, by simp [rangeD]; omega⟩
      · rintro d0 rest ρ s4 nx ⟨d, x3, rfl, st4, le4, ok4, sz4⟩ hn
        simp only [List.length_cons] at sz4
        simp only [asgT, Tg.one, List.set_cons_zero, List.set_cons_succ, wpB, wpS, wpE, wpA, wpX, wpQ, wpL, cstD, List.getElem?_cons_zero, List.getElem?_cons_succ, W.take, Option.isSome_some, implies_true, true_and]
        have hok : okPs [.tup [d], .tup [d, .int 1], .tup [.str "a", d]] = true := by
          have : txt (Str.ofString "a") = true := by decide +kernel
          simp only [okPs, okP, ok4, this, Bool.and_true]
        have z5 := st4.new (okPs_okDs s4.length _ hok)
        refine ⟨(by show 1 ≤ line; decide), (by show 2 ≤ line; decide), (by show 2 ≤ line; decide), (by show 3 ≤ line; decide), TF.take W.toDraw z5.1 (by decide) fun u s5 st5 le5 u0 _ u2 => ?_⟩
        have u2 := u2 (by decide)
        have e5 : lstAt s5 s4.length = some [.tup [d], .tup [d, .int 1], .tup [.str "a", d]] := le5.lst lstAt_new (by have := st4.lt; omega)
        refine sub_go (l := [.tup [d], .tup [d, .int 1], .tup [.str "a", d]]) e5 u0 (by show u < (3 : Int); exact u2) fun v _ hv => ?_
        have okv := okPs_iff.mp hok v hv
        have szv : sz v ≤ sz d + 2 := by
          simp only [List.mem_cons, List.not_mem_nil, or_false] at hv
          rcases hv with rfl | rfl | rfl <;> (simp only [sz, szs]; omega)
        exact hn _ _ ⟨v, _, rfl, st5, (le4.trans z5.2).trans le5, okv, by omega⟩
      · rintro ρ s4 ⟨d, x3, rfl, st4, le4, ok4, sz4⟩
        simp only [wpB, wpS, wpE, List.getElem?_cons_zero, List.getElem?_cons_succ]
        exact q d s4 st4 le4 ok4 (by omega)
    · trivial
  rintro _ _ ⟨rfl, rfl⟩
  refine cutP (fun ρ' s' => ∃ m : Nat, 1 ≤ m ∧ m ≤ 2900 ∧ ρ' = [.val (.ref k), .val (.int w), .no, .no, .val (.int (m : Int)), .no, .no] ∧ St k s' ∧ Le k s s') ?_ ?_
  · simp only [wpS, wpE, wpA, wpX, cstD, binD, addD, asgT, Tg.one, List.getElem?_cons_zero, List.getElem?_cons_succ, List.set_cons_zero, List.set_cons_succ, implies_true, true_and, W.take, Option.isSome_some]
    refine TF.take W.toDraw st1 (by decide) fun r s2 st2 le2 r0 _ r2 => ⟨(1 + r).toNat, by omega, by have := r2 (by decide); omega, ?_, st2, le1.trans le2⟩
    rw [show (((1 + r).toNat : Nat) : Int) = 1 + r by omega]
  rintro _ s2 ⟨m, m1, m9, rfl, st2, le2⟩
  refine cutP (fun ρ' s' => ∃ (j : Nat) (rs : List Int), ρ' = [.val (.ref k), .val (.int w), .no, .no, .val (.int (m : Int)), .val (.ref j), .no] ∧ St k s' ∧ Le k s s' ∧ s.length ≤ j ∧ lstAt s' j = some (rs.map .int) ∧ rs.length = m) ?_ ?_
  · simp only [wpS, wpE, wpQ, wpI, cstD, asgT, Tg.one, List.getElem?_cons_zero, List.getElem?_cons_succ, Bool.false_eq_true, false_implies, implies_true, true_and]
    refine ⟨by omega, by omega, by unfold rangeD line; simp; omega, compW_draw (fun _ => True) st2 (fun _ _ => trivial) (fun d hd s3 st3 le3 nx hn => ?_) fun rs s3 hl hR st3 le3 => ?_⟩
    · obtain ⟨i, hi, rfl⟩ := rng_int hd
      simp only [wipe, asgT, wpC, wpE, List.map_cons, List.map_nil, List.foldl_cons, List.foldl_nil, List.set_cons_succ, List.set_cons_zero, List.getElem?_cons_zero, List.getElem?_cons_succ, if_true]
      exact hn _ s3 st3 (Le.refl _ _) trivial
    · have st4 := st3.new (okL s3.length rs)
      exact ⟨s3.length, rs, rfl, st4.1, (le2.trans le3).trans st4.2, by have := (le2.trans le3).len; omega, lstAt_new, by simpa [rangeD] using hl⟩
  rintro _ s3 ⟨j, rs, rfl, st3, le3, hj, e3, lrs⟩
  have hjk : j ≠ k := by have := st.lt; omega
  refine cutP (fun ρ' s' => ∃ u : Int, 0 ≤ u ∧ u < m ∧ ρ' = [.val (.ref k), .val (.int w), .no, .no, .val (.int (m : Int)), .val (.ref j), .val (.int u)] ∧ St k s' ∧ Le k s s' ∧ lstAt s' j = some (rs.map .int)) ?_ ?_
  · simp only [wpS, wpE, wpA, wpX, cstD, asgT, Tg.one, List.getElem?_cons_zero, List.getElem?_cons_succ, List.set_cons_zero, List.set_cons_succ, implies_true, true_and, W.take, Option.isSome_some]
    refine TF.take W.toDraw st3 (Int.lt_of_le_of_lt (show (m : Int) ≤ 2900 by omega) (by decide)) fun r s' st' le g0 g1 g2 => ⟨r, g0, ?_, rfl, st', le3.trans le, le.lst e3 hjk⟩
    by_cases z : (2 : Int) ≤ (m : Int)
    · exact g2 z
    · have := g1 (by omega); omega
  rintro _ s4 ⟨u, u0, um, rfl, st4, le4, e4⟩
  have hok : okPs [.non, .bl true, .bl false, .int (-7), .str "a\nb", .tup []] = true := by decide +kernel
  simp only [wpB, wpS, wpE, wpA, wpX, wpQ, wpL, cstD, List.getElem?_cons_zero, List.getElem?_cons_succ, W.pick, Option.isSome_some, true_and]
  refine ⟨by decide, by decide, pick_new W st4 (okPs_okDs _ _ hok) (by decide) fun d s5 st5 le5 hd => ?_⟩
  have hd := hd.resolve_right fun z => by simp at z
  have okd := okPs_iff.mp hok d hd
  have szd : sz d = 1 := by
    simp only [List.mem_cons, List.not_mem_nil, or_false] at hd
    rcases hd with rfl | rfl | rfl | rfl | rfl | rfl <;> rfl
  have e5 := le5.lst e4 hjk
  have ix : ixN (rs.map D.int).length u = some u.toNat := ixN_int u0 (by simp [lrs]; exact um)
  have okall : okPs ((rs.map D.int).set u.toNat d) = true := okPs_iff.mpr fun x hx => (List.mem_or_eq_of_mem_set hx).elim (fun z => by
    obtain ⟨i, _, rfl⟩ := List.mem_map.mp z
    rfl) fun z => z ▸ okd
  have szall : szs ((rs.map D.int).set u.toNat d) = m := by
    rw [szs_ones _ fun x hx => (List.mem_or_eq_of_mem_set hx).elim (fun z => by
      obtain ⟨i, _, rfl⟩ := List.mem_map.mp z
      rfl) fun z => z ▸ szd]
    simp [lrs]
  have e6 : lstAt (s5.set j (.lst ((rs.map D.int).set u.toNat d))) j = some ((rs.map D.int).set u.toNat d) := lstAt_set (lstAt_lt e5)
  simp only [e5, ix, srcD, e6, Option.map_some, Src.items]
  exact q _ _ (st5.own hjk (okPs_okDs _ _ okall)) ((le4.trans le5).own hj) (by simpa only [okP] using okall) (by simp only [sz]; omega)
end TF

set_option linter.all false
set_option maxRecDepth 10000
namespace TF
open PySem (Str)
open PI
variable {P : Prog} {n : Nat} {h : Bool} {s s' s'' : S} {Q : K1} {E : KX} {k : Nat}
structure K02 (P : Prog) : Prop extends L02 P, DrawsA P, Simp P where
  store : P.fn "_law_store" = some f_law_store
  part : P.fn "_law_parted" = some f_law_parted
  bask : P.fn "_law_baskets" = some f_law_baskets
  thing : P.fn "_law_thing" = some f_law_thing
  paper : P.fn "_law_paper" = some f_law_paper
  atom : P.fn "_law_atom" = some f_law_atom
  sign : P.fn "_law_signed" = some f_law_signed
  badt : P.fn "_law_badtuple" = some f_law_badtuple
  law : P.fn "law" = some f02_law
theorem sm_tup (s : S) {N : Nat} {l : List D} (hl : l.length ≤ 1000) (h : ∀ d ∈ l, Sm s N d d) : Sm s (N + 1) (.tup l) (.tup l) :=
  ⟨l, rfl, hl, rfl, fun i x y ex ey => by
    rw [ex] at ey
    obtain rfl := Option.some.inj ey
    exact h x (List.mem_of_getElem? ex)⟩
theorem sm_ref (s : S) {N a b : Nat} {l : List D} (hl : l.length ≤ 1000) (ha : lstAt s a = some l) (hb : lstAt s b = some l) (h : ∀ d ∈ l, Sm s N d d) : Sm s (N + 1) (.ref a) (.ref b) :=
  ⟨a, l, l, rfl, ha, hb, hl, rfl, fun i x y ex ey => by
    rw [ex] at ey
    obtain rfl := Option.some.inj ey
    exact h x (List.mem_of_getElem? ex)⟩
theorem sm_int (s : S) (N : Nat) (i : Int) : Sm s N (.int i) (.int i) := by cases N <;> exact rfl
theorem sm_bl (s : S) (N : Nat) (i : Bool) : Sm s N (.bl i) (.bl i) := by cases N <;> exact rfl
theorem sm_tI (s : S) {N : Nat} {xs : List Int} (hl : xs.length ≤ 1000) : Sm s (N + 1) (tI xs) (tI xs) :=
  sm_tup s (by simpa using hl) fun d hd => by
    obtain ⟨i, _, rfl⟩ := List.mem_map.mp hd
    exact sm_int s N i
theorem min_zero {m : Nat} {rss K : List (List Int)} (M : MinOf rss K) (R : RowsM m rss) (hz : List.replicate m 0 ∈ rss) : K = [List.replicate m 0] := by
  have fitZ : ∀ b ∈ K, fitB (List.replicate m 0) b = true := fun b hb => fitB_iff.mpr fun j hj => by
    have Rb := R b (M.mem b hb)
    have hj : j < m := by simpa using hj
    rw [List.getD_eq_getElem?_getD, List.getD_eq_getElem?_getD, List.getElem?_replicate, if_pos hj, List.getElem?_eq_getElem (by omega : j < b.length)]
    exact (Rb.2 _ (List.getElem_mem _)).1
  have zIn : List.replicate m 0 ∈ K := by
    obtain ⟨a, ha, hf⟩ := M.cov _ hz
    have Ra := R a (M.mem a ha)
    have : a = List.replicate m 0 := by
      refine List.ext_getElem (by simp [Ra.1]) fun j h1 h2 => ?_
      have h3 := fitB_iff.mp hf j h1
      rw [List.getD_eq_getElem?_getD, List.getD_eq_getElem?_getD, List.getElem?_replicate, if_pos (by omega), List.getElem?_eq_getElem h1] at h3
      have h4 := (Ra.2 _ (List.getElem_mem h1)).1
      simp only [Option.getD_some] at h3
      simp only [List.getElem_replicate]
      omega
    rw [← this]; exact ha
  have A := M.anti R
  match K, zIn, fitZ, A with
  | [a], zIn, _, _ => rw [List.mem_singleton.mp zIn]
  | a :: b :: r, zIn, fitZ, A =>
    have A1 := (List.pairwise_cons.mp A).1
    rcases List.mem_cons.mp zIn with e | e
    · have h1 := (A1 b (by simp)).2.1
      rw [← e, fitZ b (by simp)] at h1
      cases h1
    · have h1 := (A1 _ e).2.2
      rw [fitZ a (by simp)] at h1
      cases h1
theorem leastBad (W : L02 P) {v : D} (ok : okD s.length v) (hv : itemsD v s = none ∨ ∃ fr : List Int, v = tI fr ∧ fr ≠ [] ∧ fr.length ≤ 1000) (q : ∀ s' j, Gr s s' → lstAt s' j = some LB → Q (.ref j) s') :
    wpCall P (n + 7) false "_law_least" [.val v] s Q E := by
  have no : ∀ rss : List (List Int), itemsD v s = some (rss.map tI) → False := fun rss e => by
    rcases hv with z | ⟨fr, rfl, z, _⟩
    · rw [z] at e; cases e
    · have e : some (fr.map D.int) = some (rss.map tI) := e
      cases fr with
      | nil => exact z rfl
      | cons x r =>
        cases rss with
        | nil => simp at e
        | cons y r' => simp [tI] at e
  refine least W ok (fun l e => ?_) (fun l e => ?_) (fun m rss K s' j e => (no rss e).elim) fun s' j _ g e => q s' j g e
  · rcases hv with z | ⟨fr, rfl, z, _⟩
    · rw [z] at e; cases e
    · cases e
      exact okDs_ints _ _
  · rcases hv with z | ⟨fr, rfl, z, h9⟩
    · rw [z] at e; cases e
    · cases e
      simp; omega
theorem comp_zero {m : Nat} : (rangeD 0 m).filterMap (fun _ => some (D.int 0)) = (List.replicate m (0 : Int)).map .int := by
  unfold rangeD
  rw [List.filterMap_map]
  induction m with
  | zero => rfl
  | succ m ih =>
    rw [List.range_succ, List.filterMap_append, ih, List.replicate_succ', List.map_append]
    rfl
theorem allB_of {m : Nat} {rss : List (List Int)} (R : RowsM m rss) (h1 : 1 ≤ m) (h4 : m ≤ 4) : allB (rss.map tI) = true := by
  cases hr : rss with
  | nil => rfl
  | cons a t =>
    have Ra := R a (by rw [hr]; simp)
    refine List.all_eq_true.mpr fun d hd => ?_
    have hd : d ∈ (a :: t).map tI := hd
    obtain ⟨b, hb, rfl⟩ := List.mem_map.mp hd
    have Rb := R b (by rw [hr]; exact hb)
    exact Two.isB2 ⟨by omega, by omega, by omega, Ra.2, Rb.2⟩
theorem law_k02 (W : K02 P) (ns : List Int) (q : ∀ s, Q (.bl true) s) : wpCall P (n + 12) false "law" [.val (.fls (ns.map .int))] [] Q E := by
  refine call_go W.law rfl ?_
  show wpB _ _ [.val (.fls (ns.map .int)), .no, .no, .no, .no, .no, .no, .no, .no, .no, .no, .no, .no, .no, .no] _ _
  unfold f02_law
  have hst : ∀ (Q : K1) (E : KX), (∀ s' k, St k s' → Q (.ref k) s') → wpCall P (n + 11) false "_law_store" [.val (.fls (ns.map .int))] [] Q E := fun Q E z => law_store W.store ns z
  generalize D.fls (ns.map .int) = scr at hst ⊢
  refine cutP (fun ρ' s' => ∃ k, ρ' = [.val scr, .val (.ref k), .no, .no, .no, .no, .no, .no, .no, .no, .no, .no, .no, .no, .no] ∧ St k s') ?_ ?_
  · simp only [wpS, wpE, wpA, wpX, cstD, asgT, Tg.one, List.getElem?_cons_zero, List.getElem?_cons_succ, List.set_cons_zero, List.set_cons_succ, implies_true, true_and, Option.isSome_some, W.store]
    exact hst _ _ fun s' k st => ⟨k, rfl, st⟩
  rintro _ s1 ⟨k, rfl, st1⟩
  refine cutP (fun ρ' s' => ∃ K : Nat, 1 ≤ K ∧ K ≤ 4 ∧ ρ' = [.val scr, .val (.ref k), .val (.int (K : Int)), .no, .no, .no, .no, .no, .no, .no, .no, .no, .no, .no, .no] ∧ St k s') ?_ ?_
  · simp only [wpS, wpE, wpA, wpX, cstD, asgT, Tg.one, List.getElem?_cons_zero, List.getElem?_cons_succ, List.set_cons_zero, List.set_cons_succ, implies_true, true_and, Option.isSome_some, binD, addD, W.take]
    refine TF.take W.toDraw st1 (by decide) fun r s2 st2 le2 a0 _ a2 => ?_
    have := a2 (by decide)
    refine ⟨(1 + r).toNat, by omega, by omega, ?_, st2⟩
    rw [show (((1 + r).toNat : Nat) : Int) = 1 + r by omega]
  clear st1
  clear s1
  rintro _ s2 ⟨K, k1, k4, rfl, st2⟩
  refine cutP (fun ρ' s' => ∃ w3 : Int, 0 ≤ w3 ∧ ρ' = [.val scr, .val (.ref k), .val (.int (K : Int)), .val (.int w3), .no, .no, .no, .no, .no, .no, .no, .no, .no, .no, .no] ∧ St k s') ?_ ?_
  · simp only [wpS, wpE, wpA, wpX, cstD, asgT, Tg.one, List.getElem?_cons_zero, List.getElem?_cons_succ, List.set_cons_zero, List.set_cons_succ, implies_true, true_and, Option.isSome_some, W.take]
    exact TF.take W.toDraw st2 (by decide) fun r s3 st3 le3 r0 _ _ => ⟨r, r0, rfl, st3⟩
  clear st2
  clear s2
  rintro _ s3 ⟨w3, w0, rfl, st3⟩
  refine cutP (fun ρ' s' => ∃ N : Nat, N ≤ 200 ∧ ρ' = [.val scr, .val (.ref k), .val (.int (K : Int)), .val (.int w3), .val (.int (N : Int)), .no, .no, .no, .no, .no, .no, .no, .no, .no, .no] ∧ St k s') ?_ ?_
  · simp only [wpS, wpE, wpA, wpX, cstD, asgT, Tg.one, List.getElem?_cons_zero, List.getElem?_cons_succ, List.set_cons_zero, List.set_cons_succ, implies_true, true_and, Option.isSome_some, W.take]
    refine TF.take W.toDraw st3 (by decide) fun r s4 st4 le4 r0 _ r2 => ⟨r.toNat, by have := r2 (by decide); omega, ?_, st4⟩
    rw [show ((r.toNat : Nat) : Int) = r by omega]
  clear st3
  clear s3
  rintro _ s4 ⟨N, n9, rfl, st4⟩
  refine cutP (fun ρ' s' => ∃ N : Nat, N ≤ 200 ∧ ρ' = [.val scr, .val (.ref k), .val (.int (K : Int)), .val (.int w3), .val (.int (N : Int)), .no, .no, .no, .no, .no, .no, .no, .no, .no, .no] ∧ St k s') ?_ ?_
  · simp only [wpB, wpS, wpT, wpE, wpQ, wpL, cstD, cmpD, ltD, truD, asgT, Tg.one, List.getElem?_cons_zero, List.getElem?_cons_succ, List.set_cons_zero, List.set_cons_succ, implies_true, true_and, decide_eq_true_eq]
    split
    · have z := st4.new (l := [.int 200, .int 60, .int 60]) ⟨trivial, trivial, trivial, trivial⟩
      refine ⟨by decide, sub_go (l := [.int 200, .int 60, .int 60]) lstAt_new w0 (by assumption) fun v _ hv => ?_⟩
      simp only [List.mem_cons, List.not_mem_nil, or_false] at hv
      rcases hv with rfl | rfl | rfl
      · exact ⟨200, by decide, rfl, z.1⟩
      · exact ⟨60, by decide, rfl, z.1⟩
      · exact ⟨60, by decide, rfl, z.1⟩
    · exact ⟨N, n9, rfl, st4⟩
  clear st4 n9
  clear s4 N
  rintro _ s4 ⟨N, n9, rfl, st4⟩
  refine cutP (fun ρ' s' => ∃ (rss : List (List Int)) (j5 : Nat), rss.length = N ∧ RowsM K rss ∧ j5 ≠ k ∧ lstAt s' j5 = some (rss.map tI) ∧ ρ' = [.val scr, .val (.ref k), .val (.int (K : Int)), .val (.int w3), .val (.int (N : Int)), .val (.ref j5), .no, .no, .no, .no, .no, .no, .no, .no, .no] ∧ St k s') ?_ ?_
  · simp only [wpS, wpE, wpA, wpX, cstD, asgT, Tg.one, List.getElem?_cons_zero, List.getElem?_cons_succ, List.set_cons_zero, List.set_cons_succ, implies_true, true_and, Option.isSome_some, W.bask]
    exact baskets W.toDrawsA W.part W.bask st4 k1 k4 (by omega) fun rss j s5 hl R st5 le5 hj e => ⟨rss, j, hl, R, by have := st4.lt; omega, e, rfl, st5⟩
  rintro _ s5 ⟨rss, j5, lrs, R, j5k, e5, rfl, st5⟩
  refine cutP (fun ρ' s' => ∃ t, okP t = true ∧ sz t ≤ 3100 ∧ lstAt s' j5 = some (rss.map tI) ∧ ρ' = [.val scr, .val (.ref k), .val (.int (K : Int)), .val (.int w3), .val (.int (N : Int)), .val (.ref j5), .val t, .no, .no, .no, .no, .no, .no, .no, .no] ∧ St k s') ?_ ?_
  · simp only [wpS, wpE, wpA, wpX, cstD, asgT, Tg.one, List.getElem?_cons_zero, List.getElem?_cons_succ, List.set_cons_zero, List.set_cons_succ, implies_true, true_and, Option.isSome_some, W.thing]
    exact TF.thing W.toDrawsA W.thing W.paper W.atom W.sign st5 fun d s6 st6 le6 ok hs => ⟨d, ok, hs, le6.lst e5 j5k, rfl, st6⟩
  rintro _ s6 ⟨t, okt, szt, e6, rfl, st6⟩
  refine cutP (fun ρ' s' => ∃ fr : List Int, fr.length = K ∧ (∀ x ∈ fr, Bnd x) ∧ lstAt s' j5 = some (rss.map tI) ∧ ρ' = [.val scr, .val (.ref k), .val (.int (K : Int)), .val (.int w3), .val (.int (N : Int)), .val (.ref j5), .val t, .val (tI fr), .no, .no, .no, .no, .no, .no, .no] ∧ St k s') ?_ ?_
  · simp only [wpS, wpE, wpA, wpX, cstD, asgT, Tg.one, List.getElem?_cons_zero, List.getElem?_cons_succ, List.set_cons_zero, List.set_cons_succ, implies_true, true_and, Option.isSome_some, W.bask]
    refine baskets W.toDrawsA W.part W.bask st6 k1 k4 (N := 1) (by omega) fun rs j s7 hl R7 st7 le7 hj e => ?_
    refine sub_go (l := rs.map tI) e (by decide) (by simp [hl]) fun v _ hv => ?_
    obtain ⟨fr, hfr, rfl⟩ := List.mem_map.mp hv
    exact ⟨fr, (R7 fr hfr).1, (R7 fr hfr).2, le7.lst e6 j5k, rfl, st7⟩
  rintro _ s7 ⟨fr, lfr, bfr, e7, rfl, st7⟩
  refine cutP (fun ρ' s' => ∃ sp : Int, 0 ≤ sp ∧ lstAt s' j5 = some (rss.map tI) ∧ ρ' = [.val scr, .val (.ref k), .val (.int (K : Int)), .val (.int w3), .val (.int (N : Int)), .val (.ref j5), .val t, .val (tI fr), .val (.int sp), .no, .no, .no, .no, .no, .no] ∧ St k s') ?_ ?_
  · simp only [wpS, wpE, wpA, wpX, cstD, asgT, Tg.one, List.getElem?_cons_zero, List.getElem?_cons_succ, List.set_cons_zero, List.set_cons_succ, implies_true, true_and, Option.isSome_some, lenD, itemsD, e7, Option.map_some, List.length_map, binD, addD, W.take]
    exact TF.take W.toDraw st7 (Int.lt_of_le_of_lt (show ((rss.length : Nat) : Int) + 1 ≤ 201 by omega) (by decide)) fun r s8 st8 le8 r0 _ _ => ⟨r, r0, le8.lst e7 j5k, rfl, st8⟩
  rintro _ s8 ⟨sp, sp0, e8, rfl, st8⟩
  refine cutP (fun ρ' s' => ∃ bad, okD s'.length bad ∧ lstAt s' j5 = some (rss.map tI) ∧ ρ' = [.val scr, .val (.ref k), .val (.int (K : Int)), .val (.int w3), .val (.int (N : Int)), .val (.ref j5), .val t, .val (tI fr), .val (.int sp), .val bad, .no, .no, .no, .no, .no] ∧ St k s') ?_ ?_
  · simp only [wpS, wpE, wpA, wpX, cstD, asgT, Tg.one, List.getElem?_cons_zero, List.getElem?_cons_succ, List.set_cons_zero, List.set_cons_succ, implies_true, true_and, Option.isSome_some, binD, intD, e1012, W.badt]
    refine ⟨pow_k (by decide) (by decide), badtuple W.toDrawsA W.badt st8 (by omega) (by omega) fun j d s9 st9 le9 e9 ok9 _ _ => ?_⟩
    refine sub_go (l := [d]) e9 (by decide) (by show (0 : Int) < 1; decide) fun d' ed _ => ?_
    obtain rfl : d = d' := by simpa using ed
    exact ⟨d, ok9, le9.lst e8 j5k, rfl, st9⟩
  rintro _ s9 ⟨bad, okb, e9, rfl, st9⟩
  have len5 : rss.length ≤ 200 := by omega
  -- items
  refine cutP (fun ρ' s' => ∃ j10, ρ' = [.val scr, .val (.ref k), .val (.int (K : Int)), .val (.int w3), .val (.int (N : Int)), .val (.ref j5), .val t, .val (tI fr), .val (.int sp), .val bad, .val (.ref j10), .no, .no, .no, .no] ∧ Gr s9 s' ∧ s9.length ≤ j10 ∧ lstAt s' j10 = some (rss.map tI)) ?_ ?_
  · simp only [wpS, wpE, wpQ, srcD, e9, Option.map_some, Src.items, asgT, Tg.one, List.getElem?_cons_zero, List.getElem?_cons_succ, List.set_cons_zero, List.set_cons_succ, implies_true, true_and]
    exact ⟨s9.length, rfl, (Gr.refl s9).new (okR _ _), Nat.le_refl _, lstAt_new⟩
  rintro _ s10 ⟨j10, rfl, g10, h10, e10⟩
  have lcut : ∀ a b, (cutL (rss.map tI) a b).length ≤ 200 := fun a b => by
    unfold cutL
    simp only [List.length_take, List.length_drop, List.length_map]
    omega
  refine cutP (fun ρ' s' => ∃ j11, ρ' = [.val scr, .val (.ref k), .val (.int (K : Int)), .val (.int w3), .val (.int (N : Int)), .val (.ref j5), .val t, .val (tI fr), .val (.int sp), .val bad, .val (.ref j10), .val (.ref j11), .no, .no, .no] ∧ Gr s9 s' ∧ j10 < j11 ∧ lstAt s' j10 = some (rss.map tI) ∧ lstAt s' j11 = some (cutL (rss.map tI) none (some 14))) ?_ ?_
  · simp only [wpS, wpE, wpO, cstD, g10.lst e9, asgT, Tg.one, List.getElem?_cons_zero, List.getElem?_cons_succ, List.set_cons_zero, List.set_cons_succ, implies_true, true_and]
    exact ⟨s10.length, rfl, g10.new (okDs_cut (okR _ _) _ _), lstAt_lt e10, (lstAt_app (lstAt_lt e10)).trans e10, lstAt_new⟩
  clear e10 g10
  clear s10
  rintro _ s11 ⟨j11, rfl, g11, h11, e10, e11⟩
  have RG : ∀ {s : S} {v : D} {l : List D} {Q : K1}, okD s.length v → itemsD v s = some l → okDs s.length l → l.length ≤ 1000 → (∀ s', Gr s s' → Q (.bl true) s') → wpCall P (n + 11) false "_law_right" [.val v] s Q E := fun ok hi okl hl z => right02 W.toL02 (n := n + 3) ok hi okl (by omega) z
  refine cutP (fun ρ' s' => ρ' = [.val scr, .val (.ref k), .val (.int (K : Int)), .val (.int w3), .val (.int (N : Int)), .val (.ref j5), .val t, .val (tI fr), .val (.int sp), .val bad, .val (.ref j10), .val (.ref j11), .no, .no, .no] ∧ Gr s11 s') ?_ ?_
  · simp only [wpB, wpS, wpT, wpE, wpA, wpX, wpQ, List.getElem?_cons_zero, List.getElem?_cons_succ, List.set_cons_zero, List.set_cons_succ, W.toL02.right, W.sam, Option.isSome_some, true_and]
    refine right02 W.toL02 (v := .ref j10) (lstAt_lt e10) e10 (okR _ _) (by simp; omega) fun s12 g12 => ?_
    simp only [truD, Bool.not_true, Bool.false_eq_true, if_false]
    refine same W.toSam 2 (.ref j10) (.ref j5) (sm_ref s12 (by simp; omega) (g12.lst e10) ((g11.trans g12).lst e9) fun d hd => ?_) (n + 7) _ _ ?_
    · obtain ⟨r, hr, rfl⟩ := List.mem_map.mp hd
      exact sm_tI s12 (by have := (R r hr).1; omega)
    simp only [truD, Bool.not_true, Bool.false_eq_true, if_false, srcD, g12.lst e11, Option.map_some, Src.items]
    refine right02 W.toL02 (v := .tup (cutL (rss.map tI) none (some 14))) (okDs_cut (okR _ _) _ _) rfl (okDs_cut (okR _ _) _ _) (by have := lcut none (some 14); omega) fun s13 g13 => ?_
    simp only [truD, Bool.not_true, Bool.false_eq_true, if_false, true_and]
    exact g12.trans g13
  rintro _ s12 ⟨rfl, g12⟩
  have g9 := g11.trans g12
  -- a wrong one among them
  refine cutP (fun ρ' s' => (∃ a, ρ' = [.val scr, .val (.ref k), .val (.int (K : Int)), .val (.int w3), .val (.int (N : Int)), .val (.ref j5), .val t, .val (tI fr), .val (.int sp), .val bad, .val (.ref j10), .val (.ref j11), a, .no, .no]) ∧ Gr s12 s') ?_ ?_
  · simp only [wpS, wpI, wpE, wpQ, wpL, wpO, cstD, tI, binD, addD, List.getElem?_cons_zero, List.getElem?_cons_succ, List.set_cons_zero, List.set_cons_succ, List.length_map, List.length_cons, List.length_nil]
    have okw : okDs s12.length [bad, .tup (fr.map .int ++ [.int 0]), .tup (cutL (fr.map .int) none (some (-1)))] := ⟨g9.ok okb, okDs_app (okDs_ints _ _) ⟨trivial, trivial⟩, okDs_cut (okDs_ints _ _) _ _, trivial⟩
    refine ⟨(fun z => by cases z), by decide, by unfold line; omega, by decide, ?_⟩
    refine forW_inv (fun rest ρ' s' => (∃ a, ρ' = [.val scr, .val (.ref k), .val (.int (K : Int)), .val (.int w3), .val (.int (N : Int)), .val (.ref j5), .val t, .val (tI fr), .val (.int sp), .val bad, .val (.ref j10), .val (.ref j11), a, .no, .no]) ∧ Gr s12 s' ∧ okDs s12.length rest) (fun _ _ _ _ => trivial) ?_ (fun _ _ z => ⟨z.1, z.2.1⟩) _ _ _ ⟨⟨_, rfl⟩, Gr.refl _, okw⟩
    rintro d rest ρ s13 nx ⟨⟨a, rfl⟩, g13, okd, okr⟩ hn
    have e5 := (g9.trans g13).lst e9
    simp only [asgT, wpB, wpS, wpT, wpE, wpA, wpX, wpQ, wpL, wpO, srcD, e5, Option.map_some, Src.items, Src.ok, Src.notFl, Src.isList, binD, List.getElem?_cons_zero, List.getElem?_cons_succ, List.set_cons_zero, List.set_cons_succ, W.toL02.right, Option.isSome_some, true_and]
    have okA : okDs s13.length (cutL (rss.map tI) none (some sp) ++ [d]) := okDs_app (okDs_cut (okR _ _) _ _) ⟨g13.ok okd, trivial⟩
    have gA := (Gr.refl s13).new okA
    have eA : lstAt (s13 ++ [Ob.lst (cutL (rss.map tI) none (some sp) ++ [d])]) j5 = some (rss.map tI) := gA.lst e5
    have gB := gA.new (l := cutL (rss.map tI) (some sp) none) (okDs_cut (okR _ _) _ _)
    have eA2 : lstAt (s13 ++ [Ob.lst (cutL (rss.map tI) none (some sp) ++ [d])] ++ [Ob.lst (cutL (rss.map tI) (some sp) none)]) s13.length = some (cutL (rss.map tI) none (some sp) ++ [d]) := (lstAt_app (by simp)).trans lstAt_new
    have okC : okDs (s13 ++ [Ob.lst (cutL (rss.map tI) none (some sp) ++ [d])] ++ [Ob.lst (cutL (rss.map tI) (some sp) none)]).length (cutL (rss.map tI) none (some sp) ++ [d] ++ cutL (rss.map tI) (some sp) none) := okDs_app (okDs.mono gB.len _ okA) (okDs_cut (okR _ _) _ _)
    have gC := gB.new okC
    have la := lcut none (some sp)
    have lb := lcut (some sp) none
    refine ⟨by show 1 ≤ line; decide, by simp [line]; omega, ?_⟩
    simp only [eA, addD, eA2, lstAt_new]
    refine ⟨by simp [line]; omega, ?_⟩
    refine right02 W.toL02 (l := cutL (rss.map tI) none (some sp) ++ [d] ++ cutL (rss.map tI) (some sp) none) (by show _ < _; simp) lstAt_new (okDs.mono (by simp) _ okC) (by simp; omega) fun s14 g14 => ?_
    simp only [truD, Bool.not_true, Bool.false_eq_true, if_false]
    exact hn _ _ ⟨⟨_, rfl⟩, (g13.trans gC).trans g14, okr⟩
  rintro _ s13 ⟨⟨a12, rfl⟩, g13⟩
  -- what is no list
  refine cutP (fun ρ' s' => (∃ a, ρ' = [.val scr, .val (.ref k), .val (.int (K : Int)), .val (.int w3), .val (.int (N : Int)), .val (.ref j5), .val t, .val (tI fr), .val (.int sp), .val bad, .val (.ref j10), .val (.ref j11), a, .no, .no]) ∧ Gr s13 s') ?_ ?_
  · simp only [wpS, wpI, wpE, wpQ, wpL, cstD, List.getElem?_cons_zero, List.getElem?_cons_succ, List.set_cons_zero, List.set_cons_succ, List.length_cons, List.length_nil]
    refine ⟨(fun z => by cases z), by decide, ?_⟩
    refine forW_inv (fun rest ρ' s' => (∃ a, ρ' = [.val scr, .val (.ref k), .val (.int (K : Int)), .val (.int w3), .val (.int (N : Int)), .val (.ref j5), .val t, .val (tI fr), .val (.int sp), .val bad, .val (.ref j10), .val (.ref j11), a, .no, .no]) ∧ Gr s13 s' ∧ ∀ d ∈ rest, d ∈ [D.non, .int 0, .bl true, .str "", .str "ab", tI fr]) (fun _ _ _ _ => trivial) ?_ (fun _ _ z => ⟨z.1, z.2.1⟩) _ _ _ ⟨⟨_, rfl⟩, Gr.refl _, fun d hd => hd⟩
    rintro d rest ρ s14 nx ⟨⟨a, rfl⟩, g14, hr⟩ hn
    have hd := hr d (by simp)
    have hv : okD s14.length d ∧ (itemsD d s14 = none ∨ ∃ fr : List Int, d = tI fr ∧ fr ≠ [] ∧ fr.length ≤ 1000) := by
      simp only [List.mem_cons, List.not_mem_nil, or_false] at hd
      rcases hd with rfl | rfl | rfl | rfl | rfl | rfl
      · exact ⟨trivial, .inl rfl⟩
      · exact ⟨trivial, .inl rfl⟩
      · exact ⟨trivial, .inl rfl⟩
      · exact ⟨trivial, .inl rfl⟩
      · exact ⟨trivial, .inl rfl⟩
      · exact ⟨okD_tI _ _, .inr ⟨fr, rfl, (fun z => by rw [z] at lfr; simp at lfr; omega), by omega⟩⟩
    simp only [asgT, wpB, wpS, wpT, wpE, wpA, wpX, wpQ, wpL, cstD, List.getElem?_cons_zero, List.getElem?_cons_succ, List.set_cons_zero, List.set_cons_succ, W.least, W.sam, Option.isSome_some, true_and]
    refine leastBad W.toL02 hv.1 hv.2 fun s15 j15 g15 e15 => ?_
    refine ⟨by decide, by decide, ?_⟩
    have g16 : Gr s15 (s15 ++ [.lst LB]) := (Gr.refl s15).new ⟨trivial, ⟨trivial, trivial⟩, trivial⟩
    refine same (s := s15 ++ [.lst LB]) W.toSam 2 (.ref j15) (.ref s15.length) (sm_LB _ (g16.lst e15) lstAt_new 0) (n + 7) _ _ ?_
    simp only [truD, Bool.not_true, Bool.false_eq_true, if_false]
    exact hn _ _ ⟨⟨_, rfl⟩, (g14.trans g15).trans g16, fun d hd => hr d (by simp [hd])⟩
  rintro _ s14 ⟨⟨a12', rfl⟩, g14⟩
  -- the empty basket
  have g1114 := (g12.trans g13).trans g14
  have e10b := g1114.lst e10
  have e11b := g1114.lst e11
  have gS := g11.trans g1114
  have okZ : okDs s14.length ((rss ++ [List.replicate K 0]).map tI) := okR _ _
  refine cutP (fun ρ' s' => ρ' = [.val scr, .val (.ref k), .val (.int (K : Int)), .val (.int w3), .val (.int (N : Int)), .val (.ref j5), .val t, .val (tI fr), .val (.int sp), .val bad, .val (.ref j10), .val (.ref j11), a12', .no, .no] ∧ Gr s9 s' ∧ lstAt s' j10 = some ((rss ++ [List.replicate K 0]).map tI) ∧ lstAt s' j11 = some (cutL (rss.map tI) none (some 14))) ?_ ?_
  · simp only [wpS, wpE, wpQ, wpI, cstD, List.getElem?_cons_zero, List.getElem?_cons_succ, List.set_cons_zero, List.set_cons_succ, e10b, Bool.false_eq_true, false_implies, true_and]
    refine ⟨by omega, by omega, by unfold rangeD line; simp; omega, compW_pure (fun _ => some (.int 0)) trivial (fun d hd nx hn => ?_) ?_⟩
    · simp only [wipe, asgT, wpC, if_true]
      exact hn
    · rw [comp_zero]
      simp only [Src.items, e10b, Int.toNat_natCast]
      rw [show rss.map tI ++ [D.tup ((List.replicate K (0 : Int)).map .int)] = (rss ++ [List.replicate K 0]).map tI by simp [tI]]
      exact ⟨by simp [line]; omega, gS.own h10 okZ, lstAt_set (lstAt_lt e10b), (lstAt_set_ne (by omega)).trans e11b⟩
  rintro _ s15 ⟨rfl, g15, e15, e16⟩
  refine cutP (fun ρ' s' => ρ' = [.val scr, .val (.ref k), .val (.int (K : Int)), .val (.int w3), .val (.int (N : Int)), .val (.ref j5), .val t, .val (tI fr), .val (.int sp), .val bad, .val (.ref j10), .val (.ref j11), a12', .no, .no]) ?_ ?_
  · simp only [wpB, wpS, wpT, wpE, wpA, wpX, wpQ, wpL, cstD, List.getElem?_cons_zero, List.getElem?_cons_succ, List.set_cons_zero, List.set_cons_succ, W.least, W.sam, W.toL02.right, Option.isSome_some, true_and]
    have bz : ∀ x ∈ List.replicate K (0 : Int), Bnd x := fun x hx => by
      rw [(List.mem_replicate.mp hx).2]
      exact ⟨by decide, by decide⟩
    refine TF.least W.toL02 (v := .ref j10) (lstAt_lt e15) (fun l e => ?_) (fun l e => ?_) (fun m r2 K2 s16 j16 e _ _ _ M g16 e17 => ?_) fun s16 j16 hb _ _ => ?_
    · have e : lstAt s15 j10 = some l := e
      rw [e15] at e; cases e
      exact okR _ _
    · have e : lstAt s15 j10 = some l := e
      rw [e15] at e; cases e
      simp; omega
    · have e : lstAt s15 j10 = some (r2.map tI) := e
      rw [e15] at e
      have er : rss ++ [List.replicate K 0] = r2 := by
        have := congrArg (fun o => o.map tupsD) e
        simpa only [Option.map_some, tupsD_map, Option.some.injEq] using this
      subst er
      have R2 : RowsM K (rss ++ [List.replicate K 0]) := fun r hr => by
        rcases List.mem_append.mp hr with z | z
        · exact R r z
        · obtain rfl : r = List.replicate K 0 := by simpa using z
          exact ⟨by simp, bz⟩
      have hK2 := min_zero M R2 (by simp)
      subst hK2
      have e18 := g16.lst e15
      have sb : ∀ (Q : K1), Q (tI (List.replicate K 0)) s16 → subD (.ref j10) (.int (-1)) s16 Q := fun Q z => by
        have e19 : itemsD (.ref j10) s16 = some ((rss ++ [List.replicate K 0]).map tI) := e18
        have ix : ixN ((rss ++ [List.replicate K 0]).map tI).length (-1) = some rss.length := by
          unfold ixN
          rw [if_neg (by decide), if_pos (by simp; omega)]
          simp
          omega
        have gt : ((rss ++ [List.replicate K 0]).map tI)[rss.length]? = some (tI (List.replicate K 0)) := by simp
        simp only [subD, e19, ix, Option.bind_some, gt]
        exact z
      refine sb _ ⟨by show 1 ≤ line; decide, by show 2 ≤ line; decide, ?_⟩
      have g17 : Gr s16 (s16 ++ [.lst [.bl false, .tup [tI (List.replicate K 0)]]]) := (Gr.refl s16).new ⟨trivial, ⟨okD_tI _ _, trivial⟩, trivial⟩
      refine same (s := s16 ++ [.lst [.bl false, .tup [tI (List.replicate K 0)]]]) W.toSam 3 (.ref j16) (.ref s16.length) (sm_ref _ (by show 2 ≤ 1000; decide) (g17.lst e17) lstAt_new fun d hd => ?_) (n + 6) _ _ ?_
      · simp only [List.mem_cons, List.not_mem_nil, or_false, List.map_cons, List.map_nil] at hd
        rcases hd with rfl | rfl
        · exact sm_bl _ _ _
        · refine sm_tup _ (by show 1 ≤ 1000; decide) fun d hd => ?_
          obtain rfl : d = tI (List.replicate K 0) := by simpa using hd
          exact sm_tI _ (by simp; omega)
      · simp only [truD, Bool.not_true, Bool.false_eq_true, if_false]
        refine right02 W.toL02 (v := .ref j11) (lstAt_lt ((g16.trans g17).lst e16)) ((g16.trans g17).lst e16) (okDs_cut (okR _ _) _ _) (by have := lcut none (some 14); omega) fun s18 g18 => ?_
        simp only [truD, Bool.not_true, Bool.false_eq_true, if_false]
    · have := hb _ e15
      have hall : allB ((rss ++ [List.replicate K 0]).map tI) = true := by
        have R2 : RowsM K (rss ++ [List.replicate K 0]) := fun r hr => by
          rcases List.mem_append.mp hr with z | z
          · exact R r z
          · obtain rfl : r = List.replicate K 0 := by simpa using z
            exact ⟨by simp, bz⟩
        exact allB_of R2 k1 k4
      rw [hall] at this
      cases this
  rintro _ s16 rfl
  -- papers
  refine cutP (fun ρ' s' => True) ?_ (fun ρ s9 _ => q s9)
  simp only [wpS, wpI, wpE, wpQ, wpL, cstD, List.getElem?_cons_zero, List.getElem?_cons_succ, List.set_cons_zero, List.set_cons_succ, List.length_cons, List.length_nil]
  refine ⟨(fun z => by cases z), by show 0 ≤ line; decide, by show 1 ≤ line; decide, by show 0 ≤ line; decide, by show 2 ≤ line; decide, by show 11 ≤ line; decide, ?_⟩
  refine forW_inv (fun rest ρ' s' => (∃ a, ρ' = [.val scr, .val (.ref k), .val (.int (K : Int)), .val (.int w3), .val (.int (N : Int)), .val (.ref j5), .val t, .val (tI fr), .val (.int sp), .val bad, .val (.ref j10), .val (.ref j11), a12', a, .no]) ∧ ∀ d ∈ rest, okP d = true ∧ sz d ≤ 3100) (fun _ _ _ _ => trivial) ?_ (fun _ _ z => trivial) _ _ _ ⟨⟨_, rfl⟩, fun d hd => ?_⟩
  · rintro d rest ρ s17 nx ⟨⟨a, rfl⟩, hr⟩ hn
    obtain ⟨okd, szd⟩ := hr d (by simp)
    simp only [asgT, wpB, wpS, wpT, wpE, wpA, wpX, List.getElem?_cons_zero, List.getElem?_cons_succ, List.set_cons_zero, List.set_cons_succ, W.simp_, W.lsim, W.sam, Option.isSome_some, true_and]
    refine is_simple W.toSimp okd (by omega) fun s18 g18 => ?_
    refine law_simple W.toSimp okd szd fun s19 g19 => ?_
    refine same W.toSam 0 (.bl (simD d)) (.bl (simD d)) (sm_bl _ _ _) (n + 9) _ _ ?_
    simp only [truD, Bool.not_true, Bool.false_eq_true, if_false]
    exact hn _ _ ⟨⟨_, rfl⟩, fun d hd => hr d (by simp [hd])⟩
  · simp only [List.mem_cons, List.not_mem_nil, or_false, Src.items] at hd
    have t0 : txt (Str.ofString "") = true := by decide +kernel
    rcases hd with rfl | rfl | rfl | rfl | rfl | rfl | rfl | rfl | rfl | rfl | rfl <;> first
      | exact ⟨okt, szt⟩
      | exact ⟨t0, by decide⟩
      | exact ⟨rfl, by decide⟩
      | exact ⟨rfl, by rw [sz]; decide⟩
end TF

set_option Elab.async false
set_option linter.all false
set_option maxRecDepth 100000
set_option maxHeartbeats 1000000
namespace K02
open PySem PySem.Spec PyProof.Rows L2 PSd TF
theorem inst : TF.K02 T.prog where
  row := by kernel_rfl
  bas := by kernel_rfl
  one := by kernel_rfl
  kinds := by kernel_rfl
  many := by kernel_rfl
  bad := by kernel_rfl
  two := by kernel_rfl
  lies := by kernel_rfl
  chk := by kernel_rfl
  hol := by kernel_rfl
  mini := by kernel_rfl
  who := by kernel_rfl
  sam := by kernel_rfl
  nat_ := by kernel_rfl
  isb := by kernel_rfl
  till := by kernel_rfl
  err := by kernel_rfl
  upB := by kernel_rfl
  EB := ⟨by kernel_rfl, by kernel_rfl, by kernel_rfl, by kernel_rfl, by kernel_rfl, by kernel_rfl, by kernel_rfl, by kernel_rfl, by kernel_rfl, by kernel_rfl, by kernel_rfl, by kernel_rfl, by kernel_rfl, by kernel_rfl, by kernel_rfl, by kernel_rfl, by kernel_rfl⟩
  fits := by kernel_rfl
  least := by kernel_rfl
  good := by kernel_rfl
  found := by kernel_rfl
  right := by kernel_rfl
  mix := by kernel_rfl
  take := by kernel_rfl
  pick := by kernel_rfl
  betw := by kernel_rfl
  great := by kernel_rfl
  whole := by kernel_rfl
  text := by kernel_rfl
  simp_ := by kernel_rfl
  lsim := by kernel_rfl
  store := by kernel_rfl
  part := by kernel_rfl
  bask := by kernel_rfl
  thing := by kernel_rfl
  paper := by kernel_rfl
  atom := by kernel_rfl
  sign := by kernel_rfl
  badt := by kernel_rfl
  law := by kernel_rfl
theorem law_plain (ns : List Int) (hl : ns.length ≤ 63) : PI.wpCall T.prog 60 false "law" [.val (.fls (ns.map PI.D.int))] [] (fun d _ => d = .bl true) (fun _ _ _ => False) := TF.law_k02 (n := 48) inst ns fun _ => rfl
end K02
open PySem PySem.W PySem.Calls PyProof.Rows
theorem PySem.Challenge.cw_tillsorder_k02_least_of_a_list_holds : PySem.Challenge.rw_tillsorder_k02_least_of_a_list.Holds := by
  w_on; o_law
  refine HandSHeadRun.head_any (r := OpenLaw.row PySem.Challenge.rw_tillsorder_k02_least_of_a_list) (q := view (OpenLaw.row PySem.Challenge.rw_tillsorder_k02_least_of_a_list).prog [58]) (H := K02.hk) (ob := K02.ob) (M := 8000) (loose := K02.loose) (d := HandSHeadRun.topDef (OpenLaw.row PySem.Challenge.rw_tillsorder_k02_least_of_a_list).prog 58) (kwd := []) K02.ob_eq
    (by kernel_rfl) (fun s => by kernel_rfl) K02.run (by kernel_rfl) (by kernel_rfl) (by kernel_rfl) (by rfl) (by first | assumption | decide +kernel) (by decide +kernel) ⟨rfl, rfl, rfl, rfl, rfl, by decide +kernel⟩ ?hw ?hc
  case hw => w_witness2
  case hc =>
    refine L2.walk_ofE (l := PySem.Challenge.rw_tillsorder_k02_least_of_a_list) (n := 63) (k := PSd.lv 60) (x := "script") (CX := L2.CX0) rfl (by decide) (by kernel_rfl) ⟨rfl, by decide +kernel, by decide +kernel⟩ ?F (fun _ _ _ _ z => z)
    intro w mg fa h Y G hmg0
    obtain ⟨K, KX, c, s, w0⟩ := Y
    have hmg : mg ("law" : PySem.Str) = some (.ref fa) := by
      have e : (HandSHeadRun.topDef (OpenLaw.row PySem.Challenge.rw_tillsorder_k02_least_of_a_list).prog 58).name = ("law" : PySem.Str) := by kernel_rfl
      rw [← e]
      exact hmg0
    obtain ⟨fd, hb, hF⟩ := PSd.Tab.law (P0 := (PySem.Challenge.rw_tillsorder_k02_least_of_a_list).prog) (w := w) (x := "law") (y := "script") K02.okT KX G c s w0 (fn := TF.f02_law) K02.stat (by kernel_rfl) (by kernel_rfl) hmg 60
    exact ⟨K, fd, (fun vs H Q _ => PSd.spA K mg K02.T.prog 60 .cold "law" vs H Q fun _ _ _ => False), KX, hb, fun H a ns hl o hS => PSd.law_sp o hS (K02.law_plain ns hl), hF⟩

