import PyProof.Rows.All
import Wide.All
import OpenK.AllK
import Wide.FinOn
import HandS.WideBits
import HandS.TupSets
import HandS.SortInts
import HandS.Dict
import HandS.Deep
import KE.KSortTupG
import PyProof.ReprRoads
import HandS.ForMost
import HandS.IsInst
import HandS.Exc
import HandS.Wide
import HandS.TupAny
import HandS.Flow
import HandS.CallRecv
import HandS.Comp
import HandS.ExcInit
import HandS.ExcField
import HandS.ExcIs
import HandS.Nested
import KE.KExcSuper
import KE.KExcIs
import PyProof.InstEq
import PyProof.EqKinds
import PyProof.FactsAll.dict
import HandS.OwnEq
import PyProof.NeKinds
import PyProof.StrLawsRepr
import PyProof.FitsInt
import HandS.Small
import HandS.ExcValue
import HandS.Ends
import HandS.Head0
import HandS.Head1
import HandS.Head2
import HandS.HeadEnd
import HandS.HeadHook1
import HandS.HeadHook2
import HandS.HeadHook4
import HandS.Defaults
import PySem.Challenge.RW_hearunlike_k01_errors
section
set_option Elab.async false
set_option linter.all false
set_option maxRecDepth 100000
/-! The engine, part 0: data, abstract heap, the small language, its evaluator. Own work. -/
namespace Eng
open PySem L2

inductive D where
  | non | bl (b : Bool) | int (i : Int) | str (x : Str) | tup (xs : List D) | ref (n : Nat) | scr (ns : List Int)
  deriving Inhabited
mutual
def decD : (a b : D) → Decidable (a = b)
  | .non, b => match b with
    | .non => .isTrue rfl | .bl _ | .int _ | .str _ | .tup _ | .ref _ | .scr _ => .isFalse (fun h => nomatch h)
  | .bl x, b => match b with
    | .bl y => if h : x = y then .isTrue (by rw [h]) else .isFalse (fun e => h (D.bl.inj e))
    | .non | .int _ | .str _ | .tup _ | .ref _ | .scr _ => .isFalse (fun h => nomatch h)
  | .int x, b => match b with
    | .int y => if h : x = y then .isTrue (by rw [h]) else .isFalse (fun e => h (D.int.inj e))
    | .non | .bl _ | .str _ | .tup _ | .ref _ | .scr _ => .isFalse (fun h => nomatch h)
  | .str x, b => match b with
    | .str y => if h : x = y then .isTrue (by rw [h]) else .isFalse (fun e => h (D.str.inj e))
    | .non | .bl _ | .int _ | .tup _ | .ref _ | .scr _ => .isFalse (fun h => nomatch h)
  | .ref x, b => match b with
    | .ref y => if h : x = y then .isTrue (by rw [h]) else .isFalse (fun e => h (D.ref.inj e))
    | .non | .bl _ | .int _ | .str _ | .tup _ | .scr _ => .isFalse (fun h => nomatch h)
  | .scr x, b => match b with
    | .scr y => if h : x = y then .isTrue (by rw [h]) else .isFalse (fun e => h (D.scr.inj e))
    | .non | .bl _ | .int _ | .str _ | .tup _ | .ref _ => .isFalse (fun h => nomatch h)
  | .tup xs, b => match b with
    | .tup ys => match decDs xs ys with
      | .isTrue h => .isTrue (by rw [h])
      | .isFalse h => .isFalse (fun e => h (D.tup.inj e))
    | .non | .bl _ | .int _ | .str _ | .ref _ | .scr _ => .isFalse (fun h => nomatch h)
def decDs : (a b : List D) → Decidable (a = b)
  | [], b => match b with
    | [] => .isTrue rfl
    | _ :: _ => .isFalse (fun h => nomatch h)
  | x :: xs, b => match b with
    | [] => .isFalse (fun h => nomatch h)
    | y :: ys => match decD x y with
      | .isFalse h => .isFalse (fun e => h (List.cons.inj e).1)
      | .isTrue h => match decDs xs ys with
        | .isTrue h2 => .isTrue (by rw [h, h2])
        | .isFalse h2 => .isFalse (fun e => h2 (List.cons.inj e).2)
end
instance : DecidableEq D := decD

inductive O where
  | lst (xs : List D)
  | dic (kvs : List (D × D))
  | ins (c : Nat) (fs : List (Nat × D))
  | exc (c : Nat) (f : Option D)
  deriving Inhabited
abbrev Hh := List O
abbrev Sl := List (Option D)

inductive R (α : Type) where
  | ok (a : α) (G : Hh) | exc (c : Nat) (f : Option D) (G : Hh) | bad
def R.bind {α β : Type} : R α → (α → Hh → R β) → R β
  | .ok a G, k => k a G
  | .exc c f G, _ => .exc c f G
  | .bad, _ => .bad

/-! ### the small language -/
inductive T where
  | nm (i : Nat) | tp (is : List Nat)
inductive Ty where
  | b (n : String) | c (c : Nat) | x (e : Nat)
  deriving DecidableEq
/-- built-in functions; methods of built-in types -/
inductive Pm where
  | len | abs | int | max2 | min2 | maxL | minL | sum | list | tuple | sorted | repr
  deriving DecidableEq
inductive Bm where
  | append | pop | popAt | bits | index
  deriving DecidableEq
mutual
inductive E where
  | var (i : Nat)
  | con (d : D)
  | glo (x : Str) (d : D)
  | bin (op : Operator) (a b : E)
  | neg (a : E)
  | cmp (op : CmpOp) (a b : E)
  | cmo (ne : Bool) (a b : E)
  | chn (o1 o2 : CmpOp) (a b c : E)
  | and (a b : E) | or (a b : E) | one (a : E) | not (a : E)
  | ite (c a b : E)
  | val (a : E)
  | tup (es : Es) | lst (es : Es)
  | sub (a i : E)
  | fld (a : E) (f : Nat)
  | cal (sh : Nat) (es ks : Es)
  | new (c : Nat) (sh : Nat) (es ks : Es)
  | mth (a : E) (m : Nat) (sh : Nat) (es ks : Es)
  | prm (p : Pm) (es : Es)
  | bme (m : Bm) (a : E) (es : Es)
  | slc (a : E) (lo hi : Eo)
  | srs (a : E)
  | exn (x : Nat) (kw : Bool) (es ks : Es)
  | dsp (x : Str) (v : E)
  | dnw
  | isi (a : E) (t : Ty)
  | lc (el : E) (t : T) (it : I) (c : Eo) (own : List Nat)
inductive Es where
  | nil | cons (e : E) (es : Es)
inductive Eo where
  | no | yes (e : E)
inductive I where
  | e (x : E) | r1 (a : E) | r2 (a b : E)
end
mutual
inductive S where
  | exp (e : E) | ret (e : E) | rt0
  | set (i : Nat) (e : E)
  | par (i j : Nat) (a b : E)
  | tpl (is : List Nat) (e : E)
  | fst (o : E) (f : Nat) (e : E)
  | sst (o i e : E)
  | ife (c : E) (a b : Ss)
  | lop (t : T) (it : I) (b : Ss)
  | whl (c : E) (b : Ss)
  | rse (x : Nat) (e : Eo)
  | tryAs (b : Ss) (x : Nat) (err cau : Nat)
  | brk | cnt | pas
inductive Ss where
  | nil | cons (s : S) (ss : Ss)
end

structure Fn where
  np : Nat
  nn : Nat
  body : Ss
structure Clz where
  init : Nat
  flds : List Nat
  meths : List (Nat × Nat)
  eq : Option Nat
structure Ex where
  fld : Option Nat
  ups : List Nat
/-- a form of call: the def, how many values by position, the keywords, what each parameter gets -/
structure Shp where
  f : Nat
  n : Nat
  ks : List Str
  plan : List (Nat ⊕ D)
structure Prg where
  kinds : List Ty
  names : List Str
  fns : List Fn
  cls : List Clz
  exs : List Ex
  shs : List Shp

/-! ### values -/
def datL (f : D → Option PyData) : List D → Option (List PyData)
  | [] => some []
  | x :: xs => match f x with
    | none => none
    | some y => match datL f xs with
      | none => none
      | some ys => some (y :: ys)
/-- the data that a value is -/
def dat (G : Hh) : Nat → D → Option PyData
  | 0, _ => none
  | n + 1, d => match d with
    | .non => some .none
    | .bl b => some (.bool b)
    | .int i => some (.int i)
    | .str x => some (.str x)
    | .tup xs => match datL (dat G n) xs with
      | none => none
      | some ys => some (.tuple ys)
    | .ref r => match G[r]? with
      | some (.lst xs) => (match datL (dat G n) xs with
        | none => none
        | some ys => some (.list ys))
      | _ => none
    | .scr ns => some (.list (ns.map .int))
abbrev dfuel : Nat := 20

def alloc (o : O) (G : Hh) : R D := .ok (.ref G.length) (G ++ [o])
def truthy (G : Hh) : D → Option Bool
  | .non => some false
  | .bl b => some b
  | .int i => some (i != 0)
  | .str x => if x.length ≤ sizeLine then some (x.length != 0) else none
  | .tup xs => some (!xs.isEmpty)
  | .ref r => match G[r]? with
    | some (.lst xs) => some (!xs.isEmpty)
    | _ => none
  | .scr ns => some (!ns.isEmpty)
def tru (G : Hh) (d : D) : R Bool := match truthy G d with
  | some b => .ok b G
  | none => .bad
def asB : D → Hh → R Bool
  | .bl b, G => .ok b G
  | _, _ => .bad
def intsOf : List D → Option (List Int)
  | [] => some []
  | .int i :: r => (intsOf r).map (i :: ·)
  | _ :: _ => none

def seqOf (G : Hh) : D → Option (List D)
  | .tup xs => some xs
  | .ref r => match G[r]? with
    | some (.lst xs) => some xs
    | _ => none
  | .scr ns => some (ns.map .int)
  | _ => none

def binop (op : Operator) (a b : D) (G : Hh) : R D :=
  match op, a, b with
  | .Add, .int i, .int j => .ok (.int (i + j)) G
  | .Sub, .int i, .int j => .ok (.int (i - j)) G
  | .Mult, .int i, .int j => if (-(2 ^ 64) < i ∧ i < 2 ^ 64) ∨ (-(2 ^ 64) < j ∧ j < 2 ^ 64) then .ok (.int (i * j)) G else .bad
  | .Mod, .int i, .int j => if j ≠ 0 then .ok (.int (i.fmod j)) G else .bad
  | .FloorDiv, .int i, .int j => if j ≠ 0 ∧ j.natAbs < 1073741824 then .ok (.int (i.fdiv j)) G
      else if 0 < j ∧ j.natAbs.log2 < 9000 then .ok (.int (i / j)) G else .bad
  | .Pow, .int i, .int j => if 0 ≤ j ∧ j ≤ 1000000 ∧ i.natAbs < 2 ^ 64 then .ok (.int (i ^ j.toNat)) G
      else if 1 ≤ j ∧ 2 ≤ i ∧ Builtin.Int.intTooBig (((Builtin.Int.intBits i : Nat) : Int) * j) = false then .ok (.int (i ^ j.toNat)) G else .bad
  | .Add, .str x, .str y => if x.length + y.length ≤ sizeLine then .ok (.str (x ++ y)) G else .bad
  | .Add, .tup xs, .tup ys => if xs.length + ys.length ≤ sizeLine then .ok (.tup (xs ++ ys)) G else .bad
  | .Add, .ref l, .ref r => match G[l]?, G[r]? with
    | some (.lst xs), some (.lst ys) => if xs.length + ys.length ≤ sizeLine then alloc (.lst (xs ++ ys)) G else .bad
    | _, _ => .bad
  | .Mult, .ref l, .int k => match G[l]? with
    | some (.lst xs) => if -(2 ^ 63) ≤ k ∧ k < 2 ^ 63 ∧ xs.length * k.toNat ≤ sizeLine then alloc (.lst (List.replicate k.toNat xs).flatten) G else .bad
    | _ => .bad
  | _, _, _ => .bad
def eqD (G : Hh) (a b : D) : Option Bool := match dat G dfuel a, dat G dfuel b with
  | some x, some y => if x.canLay0 && y.canLay0 then some (PyData.eqv x y) else none
  | _, _ => none
def inL (G : Hh) (x : D) (xs : List D) : Option Bool :=
  match dat G dfuel x, datL (dat G dfuel) xs with
    | some d, some ds => if d.canLay0 && PyData.canLayAll0 ds then some (ds.any fun z => PyData.eqv z d) else none
    | _, _ => none
def cmpop (op : CmpOp) (a b : D) (G : Hh) : Option Bool :=
  match op with
  | .Eq => eqD G a b
  | .NotEq => (eqD G a b).map (!·)
  | .Is => match b with
    | .non => some (decide (a = .non))
    | _ => none
  | .IsNot => match b with
    | .non => some (!decide (a = .non))
    | _ => none
  | .In => match a, b with
    | .str x, .str y => some (!(Builtin.Str.occurrences y x 0 y.length 1).isEmpty)
    | a, b => match b with
      | .ref r => (match G[r]? with
        | some (.lst xs) => inL G a xs
        | _ => none)
      | _ => none
  | .NotIn => match a, b with
    | .str x, .str y => some (!!(Builtin.Str.occurrences y x 0 y.length 1).isEmpty)
    | a, b => match b with
      | .ref r => (match G[r]? with
        | some (.lst xs) => (inL G a xs).map (!·)
        | _ => none)
      | _ => none
  | .Lt => match a, b with
    | .int i, .int j => some (decide (i < j))
    | .tup xs, .tup ys => (match intsOf xs, intsOf ys with
      | some ns, some ms => some (HT.lexLt ns ms)
      | _, _ => none)
    | _, _ => none
  | .LtE => match a, b with
    | .int i, .int j => some (decide (i ≤ j))
    | _, _ => none
  | .Gt => match a, b with
    | .int i, .int j => some (decide (j < i))
    | _, _ => none
  | .GtE => match a, b with
    | .int i, .int j => some (decide (j ≤ i))
    | _, _ => none
def cmpR (op : CmpOp) (a b : D) (G : Hh) : R D := match cmpop op a b G with
  | some b => .ok (.bl b) G
  | none => .bad
/-- == between own instances: the form by which the class's own == is called -/
def ownEq (P : Prg) (G : Hh) : D → Option Nat
  | .ref r => match G[r]? with
    | some (.ins k _) => match P.cls[k]? with
      | some cl => cl.eq
      | none => none
    | _ => none
  | _ => none
def plainV (G : Hh) : D → Bool
  | .ref r => match G[r]? with
    | some (.lst _) => true
    | some (.dic _) => true
    | _ => false
  | _ => true
def insV (P : Prg) (G : Hh) : D → Bool
  | .ref r => match G[r]? with
    | some (.ins k _) => (P.cls[k]?).isSome
    | _ => false
  | _ => false
def finB (ne : Bool) : R D → R D
  | .ok (.bl b) G => .ok (.bl (b != ne)) G
  | _ => .bad
mutual
/-- what is equal to itself, wherever it lies -/
def sameD : Nat → D → Bool
  | 0, _ => false
  | n + 1, .tup xs => sameDs n xs
  | _, .scr _ => false
  | _, _ => true
def sameDs : Nat → List D → Bool
  | _, [] => true
  | 0, _ => false
  | n + 1, x :: xs => sameD (n + 1) x && sameDs (n + 1) xs
end
def eqSame (G : Hh) (a b : D) : Bool := match a, b with
  | .ref i, .ref j => match G[i]?, G[j]? with
    | some (.lst xs), some (.lst ys) => decide (xs = ys) && xs.all (sameD 8)
    | _, _ => false
  | _, _ => false
/-- lists of unlike lengths -/
def lensNe (G : Hh) (a b : D) : Bool := match a, b with
  | .ref i, .ref j => match G[i]?, G[j]? with
    | some (.lst xs), some (.lst ys) => !decide (xs.length = ys.length)
    | _, _ => false
  | _, _ => false
def subD (G : Hh) (a i : D) : R D := match i with
  | .int k => (match seqOf G a with
      | some xs => (match atI xs k with
        | some v => .ok v G
        | none => .bad)
      | none => .bad)
  | _ => .bad

/-- a value's type; isinstance -/
def kindD (G : Hh) : D → Option Ty
  | .non => some (.b "NoneType")
  | .bl _ => some (.b "bool")
  | .int _ => some (.b "int")
  | .str _ => some (.b "str")
  | .tup _ => some (.b "tuple")
  | .scr _ => some (.b "list")
  | .ref r => match G[r]? with
    | some (.lst _) => some (.b "list")
    | some (.dic _) => some (.b "dict")
    | some (.ins k _) => some (.c k)
    | some (.exc e _) => some (.x e)
    | none => none
def isT (P : Prg) : Ty → Ty → Option Bool
  | .b n, .b m => kitB n m
  | .b _, _ => some false
  | .c k, .c j => some (decide (k = j))
  | .c _, _ => some false
  | .x e, .x j => (P.exs[e]?).map fun q => q.ups.contains j
  | .x _, .b m => some (decide (m = "ValueError"))
  | .x _, .c _ => some false
def isin (P : Prg) (G : Hh) (ty : Ty) (d : D) : Option Bool := match kindD G d with
  | some a => if P.kinds.contains a && P.kinds.contains ty then isT P a ty else none
  | none => none

/-- what is walked: the items; the list that has to stand -/
structure It where
  items : List D
  gd : Option Nat
def It.ok (J : It) (G : Hh) : Bool := match J.gd with
  | none => true
  | some n => match seqOf G (.ref n) with
    | some xs => decide (xs = J.items)
    | none => false
def rangeD (lo : Int) : Nat → List D
  | 0 => []
  | n + 1 => .int lo :: rangeD (lo + 1) n
def bindT (t : T) (d : D) (s : Sl) : Option Sl := match t with
  | .nm i => some (s.set i (some d))
  | .tp is => match d with
    | .tup xs => if xs.length = is.length then some ((is.zip xs).foldl (fun s p => s.set p.1 (some p.2)) s) else none
    | _ => none
def wipeD (s : Sl) : List Nat → Sl
  | [] => s
  | v :: vs => (wipeD s vs).set v none
def planOf (vals : List D) : List (Nat ⊕ D) → Option (List D)
  | [] => some []
  | .inl i :: r => match vals[i]?, planOf vals r with
    | some v, some vs => some (v :: vs)
    | _, _ => none
  | .inr d :: r => (planOf vals r).map (d :: ·)

structure Cfg where
  P : Prg
  call : Nat → List D → Hh → R D
  make : Nat → List D → Hh → R D
  F : Nat

/-! ### built-in functions -/
def listOf (G : Hh) : D → Option (List D)
  | .ref r => match G[r]? with
    | some (.lst xs) => some xs
    | _ => none
  | .scr ns => some (ns.map .int)
  | _ => none
/-- as dat, with dicts -/
def keyDat : D → Option PyData
  | .int i => some (.int i)
  | .str x => some (.str x)
  | _ => none
def datKv (f : D → Option PyData) : List (D × D) → Option (List (PyData × PyData))
  | [] => some []
  | x :: xs => match keyDat x.1, f x.2, datKv f xs with
    | some k, some v, some r => some ((k, v) :: r)
    | _, _, _ => none
def datR (G : Hh) : Nat → D → Option PyData
  | 0, _ => none
  | n + 1, d => match d with
    | .non => some .none
    | .bl b => some (.bool b)
    | .int i => some (.int i)
    | .str x => some (.str x)
    | .tup xs => match datL (datR G n) xs with
      | none => none
      | some ys => some (.tuple ys)
    | .ref r => match G[r]? with
      | some (.lst xs) => (match datL (datR G n) xs with
        | none => none
        | some ys => some (.list ys))
      | some (.dic kvs) => (match datKv (datR G n) kvs with
        | none => none
        | some ys => some (.dict ys))
      | _ => none
    | .scr _ => none
/-! what can be shown, and how long it gets at most -/
mutual
def shP : PyData → Bool
  | .none => true
  | .bool _ => true
  | .int i => decide (i.natAbs.log2 < 1920)
  | .str x => PyData.strOk (reprText x)
  | .list xs => shPs xs
  | .tuple xs => shPs xs
  | .dict kvs => shPk kvs
def shPs : List PyData → Bool
  | [] => true
  | x :: xs => shP x && shPs xs
def shPk : List (PyData × PyData) → Bool
  | [] => true
  | (k, v) :: r => shP k && shP v && shPk r
end
mutual
def szP : PyData → Nat
  | .none => 4
  | .bool _ => 5
  | .int _ => 1921
  | .str x => (reprText x).length
  | .list xs => 2 + szPs xs
  | .tuple xs => 3 + szPs xs
  | .dict kvs => 2 + szPk kvs
def szPs : List PyData → Nat
  | [] => 0
  | x :: xs => szP x + 2 + szPs xs
def szPk : List (PyData × PyData) → Nat
  | [] => 0
  | (k, v) :: r => szP k + szP v + 4 + szPk r
end
def reprD (G : Hh) (d : D) : R D := match datR G dfuel d with
  | some p => if shP p = true ∧ szP p ≤ sizeLine ∧ p.depth ≤ 40 then .ok (.str p.shown) G else .bad
  | none => .bad
def lexLe : List Int → List Int → Bool
  | [], _ => true
  | _ :: _, [] => false
  | a :: as, b :: bs => decide (a < b) || (decide (a = b) && lexLe as bs)
def ins1 {α : Type} (le : α → α → Bool) (x : α) : List α → List α
  | [] => [x]
  | y :: ys => if le x y then x :: y :: ys else y :: ins1 le x ys
def isort {α : Type} (le : α → α → Bool) : List α → List α
  | [] => []
  | x :: xs => ins1 le x (isort le xs)
def tupsOf : List D → Option (List (List Int))
  | [] => some []
  | .tup xs :: r => match intsOf xs, tupsOf r with
    | some (n :: ns), some ts => some ((n :: ns) :: ts)
    | _, _ => none
  | _ :: _ => none
def intLe (a b : Int) : Bool := decide (a ≤ b)
def sortD (xs : List D) : Option (List D) := match intsOf xs with
  | some ns => some ((isort intLe ns).map .int)
  | none => match tupsOf xs with
    | some ts => some ((isort lexLe ts).map fun t => .tup (t.map .int))
    | none => none
def dedup : List (List Int) → List (List Int)
  | [] => []
  | x :: xs => if (dedup xs).contains x then dedup xs else x :: dedup xs
/-- the tuples in a set: of one length, none below 0 -/
def setOk (ts : List (List Int)) : Bool := decide (ts.length < 64) && match ts with
  | [] => true
  | t :: r => r.all (fun u => u.length == t.length) && ts.all fun u => u.all fun n => decide (0 ≤ n)
def maxI : List Int → Int
  | [] => 0
  | [x] => x
  | x :: xs => max x (maxI xs)
def minI : List Int → Int
  | [] => 0
  | [x] => x
  | x :: xs => min x (minI xs)
def sumI : List Int → Int
  | [] => 0
  | x :: xs => x + sumI xs
def one1 (f : D → Hh → R D) : List D → Hh → R D
  | [x], G => f x G
  | _, _ => .bad
def two2 (f : D → D → Hh → R D) : List D → Hh → R D
  | [x, y], G => f x y G
  | _, _ => .bad
def pLen (x : D) (G : Hh) : R D := match x with
  | .str z => if z.length ≤ sizeLine then .ok (.int z.length) G else .bad
  | x => match seqOf G x with
    | some xs => .ok (.int xs.length) G
    | none => .bad
def pAbs : D → Hh → R D
  | .int i, G => .ok (.int (if i < 0 then -i else i)) G
  | _, _ => .bad
def pInt : D → Hh → R D
  | .int i, G => .ok (.int i) G
  | .bl k, G => .ok (.int (if k then 1 else 0)) G
  | _, _ => .bad
def pMax2 : D → D → Hh → R D
  | .int i, .int j, G => .ok (.int (if j > i then j else i)) G
  | _, _, _ => .bad
def pMin2 : D → D → Hh → R D
  | .int i, .int j, G => .ok (.int (if j < i then j else i)) G
  | _, _, _ => .bad
def pMaxL (x : D) (G : Hh) : R D := match (listOf G x).bind intsOf with
  | some (n :: ns) => .ok (.int (maxI (n :: ns))) G
  | _ => .bad
def pMinL (x : D) (G : Hh) : R D := match (listOf G x).bind intsOf with
  | some (n :: ns) => .ok (.int (minI (n :: ns))) G
  | _ => .bad
def pSum (x : D) (G : Hh) : R D := match (listOf G x).bind intsOf with
  | some ns => .ok (.int (sumI ns)) G
  | _ => .bad
def pList (x : D) (G : Hh) : R D := match seqOf G x with
  | some xs => alloc (.lst xs) G
  | none => .bad
def pTuple (x : D) (G : Hh) : R D := match seqOf G x with
  | some xs => .ok (.tup xs) G
  | none => .bad
def pSorted (x : D) (G : Hh) : R D := match (listOf G x).bind sortD with
  | some xs => alloc (.lst xs) G
  | none => .bad
def pSrtset (x : D) (G : Hh) : R D := match (listOf G x).bind tupsOf with
  | some ts => if setOk ts then alloc (.lst ((isort lexLe (dedup ts)).map fun t => .tup (t.map .int))) G else .bad
  | none => .bad
def pRepr (x : D) (G : Hh) : R D := reprD G x
def primD : Pm → List D → Hh → R D
  | .len => one1 pLen
  | .abs => one1 pAbs
  | .int => one1 pInt
  | .max2 => two2 pMax2
  | .min2 => two2 pMin2
  | .maxL => one1 pMaxL
  | .minL => one1 pMinL
  | .sum => one1 pSum
  | .list => one1 pList
  | .tuple => one1 pTuple
  | .sorted => one1 pSorted
  | .repr => one1 pRepr
def mAppend (x y : D) (G : Hh) : R D := match x with
  | .ref r => (match G[r]? with
    | some (.lst xs) => if xs.length < sizeLine then .ok .non (G.set r (.lst (xs ++ [y]))) else .bad
    | _ => .bad)
  | _ => .bad
def mPop (x : D) (G : Hh) : R D := match x with
  | .ref r => (match G[r]? with
    | some (.lst xs) => (match xs[xs.length - 1]? with
      | some y => .ok y (G.set r (.lst xs.dropLast))
      | none => .bad)
    | _ => .bad)
  | _ => .bad
def mPopAt (x y : D) (G : Hh) : R D := match x, y with
  | .ref r, .int i => (match G[r]? with
    | some (.lst xs) => if -(2 ^ 63) ≤ i ∧ i < 2 ^ 63 then (match ixN xs.length i with
      | some k => (match xs[k]? with
        | some y => .ok y (G.set r (.lst (xs.eraseIdx k)))
        | none => .bad)
      | none => .bad) else .bad
    | _ => .bad)
  | _, _ => .bad
def mBits (x : D) (G : Hh) : R D := match x with
  | .int i => .ok (.int (Builtin.Int.intBits i : Nat)) G
  | _ => .bad
def idxP (y : PyData) : List PyData → Option Nat
  | [] => none
  | d :: ds => if PyData.eqv d y then some 0 else (idxP y ds).map (· + 1)
def mIndex (x y : D) (G : Hh) : R D := match listOf G x, dat G dfuel y with
  | some xs, some d => match datL (dat G dfuel) xs with
    | some ds => if d.canLay0 && PyData.canLayAll0 ds then (match idxP d ds with
      | some j => .ok (.int j) G
      | none => .bad) else .bad
    | none => .bad
  | _, _ => .bad
def none0 (f : D → Hh → R D) : D → List D → Hh → R D
  | x, [], G => f x G
  | _, _, _ => .bad
def some1 (f : D → D → Hh → R D) : D → List D → Hh → R D
  | x, [y], G => f x y G
  | _, _, _ => .bad
def bmD : Bm → D → List D → Hh → R D
  | .append => some1 mAppend
  | .pop => none0 mPop
  | .popAt => some1 mPopAt
  | .bits => none0 mBits
  | .index => some1 mIndex
def bmTy : Bm → String
  | .bits => "int"
  | _ => "list"
def bmOk (m : Bm) (G : Hh) (x : D) : Bool := if bmTy m = "list" then (listOf G x).isSome else match x with
  | .int _ => decide (bmTy m = "int")
  | _ => false
def cutD {α : Type} (xs : List α) (lo hi : Option Int) : List α := (xs.drop (HT.sIx xs.length 0 lo)).take (HT.sIx xs.length xs.length hi - HT.sIx xs.length 0 lo)
def slcD (G : Hh) (x : D) (lo hi : Option Int) : R D := match x with
  | .tup xs => if HT.sIx xs.length 0 lo = 0 ∧ HT.sIx xs.length xs.length hi = xs.length then .bad else .ok (.tup (cutD xs lo hi)) G
  | x => match listOf G x with
    | some xs => alloc (.lst (cutD xs lo hi)) G
    | none => .bad
/-- the rows of a dict behind d[k] = v -/
def putD (kvs : List (D × D)) (k v : D) : List (D × D) := if (kvs.any fun kv => decide (kv.1 = k)) = true then kvs.map (fun kv => if kv.1 = k then (kv.1, v) else kv) else kvs ++ [(k, v)]
def keysB (kvs : List (D × D)) : Bool := kvs.all fun kv => (keyDat kv.1).isSome
def setD (G : Hh) (o i v : D) : Option Hh := match o, i with
  | .ref r, .int k => (match G[r]? with
    | some (.lst xs) => (ixN xs.length k).map fun j => G.set r (.lst (xs.set j v))
    | _ => none)
  | .ref r, .str x => (match G[r]? with
    | some (.dic kvs) => if kvs.length < sizeLine ∧ keysB kvs = true then some (G.set r (.dic (putD kvs (.str x) v))) else none
    | _ => none)
  | _, _ => none
/-- an own exception made as a value -/
def exnD (P : Prg) (x : Nat) (kw : Bool) (xs ys : List D) (G : Hh) : R D := match P.exs[x]? with
  | some q => (match q.fld, kw, xs, ys with
    | some _, false, [d], [] => alloc (.exc x (some d)) G
    | some _, true, [], [d] => alloc (.exc x (some d)) G
    | some _, false, [], [] => alloc (.exc x (some .non)) G
    | none, false, [], [] => alloc (.exc x none) G
    | _, _, _, _ => .bad)
  | none => .bad
def dspD (n : Nat) (x : Str) (y : D) (G : Hh) : R D := match G[n]? with
  | some (.dic kvs) => if kvs.isEmpty then .ok (.ref n) (G.set n (.dic [(.str x, y)])) else .bad
  | _ => .bad

def lcLoop (ok : Hh → Bool) (n : Nat) (step : D → Hh → R (Option D)) : List D → Hh → R Unit
  | [], G => if ok G then .ok () G else .bad
  | x :: xs, G => if ok G then (match step x G with
      | .ok none G' => lcLoop ok n step xs G'
      | .ok (some y) G' => (match G'[n]? with
        | some (.lst acc) => if acc.length < sizeLine then lcLoop ok n step xs (G'.set n (.lst (acc ++ [y]))) else .bad
        | _ => .bad)
      | _ => .bad) else .bad

/-- a def called by a form -/
def callS (c : Cfg) (sh : Nat) (xs ys : List D) (G : Hh) : R D := match c.P.shs[sh]? with
  | some p => if xs.length = p.n ∧ ys.length = p.ks.length then (match planOf (xs ++ ys) p.plan with
    | some as => c.call p.f as G
    | none => .bad) else .bad
  | none => .bad
def newS (c : Cfg) (k sh : Nat) (xs ys : List D) (G : Hh) : R D := match c.P.shs[sh]?, c.P.cls[k]? with
  | some p, some cl => if p.f = cl.init ∧ xs.length + 1 = p.n ∧ ys.length = p.ks.length then (match planOf (.ref G.length :: (xs ++ ys)) p.plan with
    | some as => (c.make p.f as (G ++ [.ins k []])).bind fun r G3 => match r with
      | .non => .ok (.ref G.length) G3
      | _ => .bad
    | none => .bad) else .bad
  | _, _ => .bad
def mthOk (c : Cfg) (G : Hh) (x : D) (m sh : Nat) : Bool := match x with
  | .ref r => (match G[r]? with
    | some (.ins k fs) => (match fs.lookup m, c.P.cls[k]?, c.P.shs[sh]? with
      | none, some cl, some p => decide (cl.meths.lookup m = some p.f)
      | _, _, _ => false)
    | _ => false)
  | _ => false
/-- a def called one level further down -/
def callM (c : Cfg) (sh : Nat) (xs ys : List D) (G : Hh) : R D := match c.P.shs[sh]? with
  | some p => if xs.length = p.n ∧ ys.length = p.ks.length then (match planOf (xs ++ ys) p.plan with
    | some as => c.make p.f as G
    | none => .bad) else .bad
  | none => .bad
/-- == and != where an own == may be asked -/
def cmoR (c : Cfg) (ne : Bool) (x y : D) (G : Hh) : R D := match ownEq c.P G x with
  | some sh => if plainV G y || insV c.P G y then (if ne then finB true (callM c sh [x, y] [] G) else finB false (callS c sh [x, y] [] G)) else .bad
  | none => match ownEq c.P G y with
    | some sh => if plainV G x && !ne then finB false (callS c sh [y, x] [] G) else .bad
    | none => if eqSame G x y then .ok (.bl (!ne)) G else if lensNe G x y then .ok (.bl ne) G else cmpR (if ne then .NotEq else .Eq) x y G
mutual
def ev (c : Cfg) : E → Sl → Hh → R D
  | .var i => fun s G => match s[i]? with
    | some (some d) => .ok d G
    | _ => .bad
  | .con d => fun _ G => .ok d G
  | .glo _ d => fun _ G => .ok d G
  | .bin op a b => fun s G => (ev c a s G).bind fun x G1 => (ev c b s G1).bind fun y G2 => binop op x y G2
  | .neg a => fun s G => (ev c a s G).bind fun x G1 => match x with
    | .int i => .ok (.int (-i)) G1
    | _ => .bad
  | .cmp op a b => fun s G => (ev c a s G).bind fun x G1 => (ev c b s G1).bind fun y G2 => cmpR op x y G2
  | .cmo ne a b => fun s G => (ev c a s G).bind fun x G1 => (ev c b s G1).bind fun y G2 => cmoR c ne x y G2
  | .chn o1 o2 a b d => fun s G => (ev c a s G).bind fun x G1 => (ev c b s G1).bind fun y G2 => (cmpR o1 x y G2).bind fun z G3 => match z with
    | .bl true => (ev c d s G3).bind fun u G4 => cmpR o2 y u G4
    | .bl false => .ok (.bl false) G3
    | _ => .bad
  | .and a b => fun s G => (ev c a s G).bind fun x G1 => match x with
    | .bl true => ev c b s G1
    | .bl false => .ok (.bl false) G1
    | _ => .bad
  | .or a b => fun s G => (ev c a s G).bind fun x G1 => match x with
    | .bl false => ev c b s G1
    | .bl true => .ok (.bl true) G1
    | _ => .bad
  | .one a => ev c a
  | .val a => ev c a
  | .not a => fun s G => (ev c a s G).bind fun x G1 => (tru G1 x).bind fun b G2 => .ok (.bl (!b)) G2
  | .ite t a b => fun s G => (tst c t s G).bind fun x G1 => if x then ev c a s G1 else ev c b s G1
  | .tup es => fun s G => (evs c es s G).bind fun xs G1 => if xs.length ≤ sizeLine then .ok (.tup xs) G1 else .bad
  | .lst es => fun s G => (evs c es s G).bind fun xs G1 => if xs.length ≤ sizeLine then alloc (.lst xs) G1 else .bad
  | .sub a i => fun s G => (ev c a s G).bind fun x G1 => (ev c i s G1).bind fun y G2 => subD G2 x y
  | .fld a f => fun s G => (ev c a s G).bind fun x G1 => match x with
    | .ref r => (match G1[r]? with
      | some (.ins k fs) => (match c.P.cls[k]?, fs.lookup f with
        | some cl, some v => if cl.flds.contains f then .ok v G1 else .bad
        | _, _ => .bad)
      | some (.exc e (some v)) => (match c.P.exs[e]? with
        | some q => if q.fld = some f then .ok v G1 else .bad
        | none => .bad)
      | _ => .bad)
    | _ => .bad
  | .cal sh es ks => fun s G => (evs c es s G).bind fun xs G1 => (evs c ks s G1).bind fun ys G2 => callS c sh xs ys G2
  | .new k sh es ks => fun s G => (evs c es s G).bind fun xs G1 => (evs c ks s G1).bind fun ys G2 => newS c k sh xs ys G2
  | .mth a m sh es ks => fun s G => (ev c a s G).bind fun x G0 => if mthOk c G0 x m sh then
      (evs c es s G0).bind fun xs G1 => (evs c ks s G1).bind fun ys G2 => callS c sh (x :: xs) ys G2 else .bad
  | .prm p es => fun s G => (evs c es s G).bind fun xs G1 => primD p xs G1
  | .bme m a es => fun s G => (ev c a s G).bind fun x G0 => if bmOk m G0 x then (evs c es s G0).bind fun xs G1 => bmD m x xs G1 else .bad
  | .slc a lo hi => fun s G => (ev c a s G).bind fun x G0 => (evp c lo s G0).bind fun l G1 => (evp c hi s G1).bind fun h G2 => slcD G2 x l h
  | .dnw => fun _ G => alloc (.dic []) G
  | .srs a => fun s G => (ev c a s G).bind fun x G1 => pSrtset x G1
  | .exn x kw es ks => fun s G => (evs c es s G).bind fun xs G1 => (evs c ks s G1).bind fun ys G2 => exnD c.P x kw xs ys G2
  | .dsp x v => fun s G => (ev c v s (G ++ [.dic []])).bind fun y G1 => dspD G.length x y G1
  | .isi a t => fun s G => (ev c a s G).bind fun x G1 => match isin c.P G1 t x with
    | some b => .ok (.bl b) G1
    | none => .bad
  | .lc el t it q own => fun s G => (evI c it s G).bind fun J G1 =>
      (lcLoop J.ok G1.length (fun d G => match bindT t d (wipeD s own) with
        | none => .bad
        | some s2 => (evo c q s2 G).bind fun b G' => if b then (ev c el s2 G').bind fun y G'' => .ok (some y) G'' else .ok none G') J.items (G1 ++ [.lst []])).bind fun _ G2 => .ok (.ref G1.length) G2
def tst (c : Cfg) : E → Sl → Hh → R Bool
  | .and a b => fun s G => (tst c a s G).bind fun x G1 => if x then tst c b s G1 else .ok false G1
  | .or a b => fun s G => (tst c a s G).bind fun x G1 => if x then .ok true G1 else tst c b s G1
  | .one a => tst c a
  | .not a => fun s G => (tst c a s G).bind fun x G1 => .ok (!x) G1
  | .cmp op a b => fun s G => (ev c a s G).bind fun x G1 => (ev c b s G1).bind fun y G2 => (cmpR op x y G2).bind asB
  | .cmo ne a b => fun s G => (ev c a s G).bind fun x G1 => (ev c b s G1).bind fun y G2 => (cmoR c ne x y G2).bind asB
  | .chn o1 o2 a b d => fun s G => (ev c a s G).bind fun x G1 => (ev c b s G1).bind fun y G2 => (cmpR o1 x y G2).bind fun z G3 => match z with
    | .bl true => (ev c d s G3).bind fun u G4 => (cmpR o2 y u G4).bind asB
    | .bl false => .ok false G3
    | _ => .bad
  | .val a => fun s G => (ev c a s G).bind fun x G1 => tru G1 x
  | _ => fun _ _ => .bad
def evs (c : Cfg) : Es → Sl → Hh → R (List D)
  | .nil => fun _ G => .ok [] G
  | .cons e es => fun s G => (ev c e s G).bind fun x G1 => (evs c es s G1).bind fun xs G2 => .ok (x :: xs) G2
def evo (c : Cfg) : Eo → Sl → Hh → R Bool
  | .no => fun _ G => .ok true G
  | .yes e => tst c e
def evp (c : Cfg) : Eo → Sl → Hh → R (Option Int)
  | .no => fun _ G => .ok none G
  | .yes e => fun s G => (ev c e s G).bind fun x G1 => match x with
    | .int i => .ok (some i) G1
    | _ => .bad
def evI (c : Cfg) : I → Sl → Hh → R It
  | .e x => fun s G => (ev c x s G).bind fun d G1 => match d with
    | .tup xs => .ok ⟨xs, none⟩ G1
    | .scr ns => .ok ⟨ns.map .int, none⟩ G1
    | .ref r => (match seqOf G1 (.ref r) with
      | some xs => .ok ⟨xs, some r⟩ G1
      | none => .bad)
    | _ => .bad
  | .r1 a => fun s G => (ev c a s G).bind fun d G1 => match d with
    | .int j => if -(2 ^ 62) ≤ j ∧ j < 2 ^ 62 then .ok ⟨rangeD 0 j.toNat, none⟩ G1 else .bad
    | _ => .bad
  | .r2 a b => fun s G => (ev c a s G).bind fun d G1 => (ev c b s G1).bind fun d2 G2 => match d, d2 with
    | .int i, .int j => if -(2 ^ 62) ≤ i ∧ i < 2 ^ 62 ∧ -(2 ^ 62) ≤ j ∧ j < 2 ^ 62 then .ok ⟨rangeD i (j - i).toNat, none⟩ G2 else .bad
    | _, _ => .bad
end

/-! ### statements -/
inductive Rs where
  | nx (s : Sl) (G : Hh) | rt (d : D) (G : Hh) | bk (s : Sl) (G : Hh) | ct (s : Sl) (G : Hh)
  | exc (c : Nat) (f : Option D) (s : Sl) (G : Hh) | bad
def R.st {α : Type} (r : R α) (s : Sl) (k : α → Hh → Rs) : Rs := match r with
  | .ok a G => k a G
  | .exc c f G => .exc c f s G
  | .bad => .bad
def Rs.seq (r : Rs) (k : Sl → Hh → Rs) : Rs := match r with
  | .nx s G => k s G
  | r => r
def forLoop (ok : Hh → Bool) (step : D → Sl → Hh → Rs) : List D → Sl → Hh → Rs
  | [], s, G => if ok G then .nx s G else .bad
  | x :: xs, s, G => if ok G then (match step x s G with
      | .nx s' G' => forLoop ok step xs s' G'
      | .ct s' G' => forLoop ok step xs s' G'
      | .bk s' G' => .nx s' G'
      | r => r) else .bad
def whlLoop (c : Sl → Hh → R Bool) (b : Sl → Hh → Rs) : Nat → Sl → Hh → Rs
  | 0, _, _ => .bad
  | n + 1, s, G => (c s G).st s fun x G1 => if x then (match b s G1 with
      | .nx s' G' => whlLoop c b n s' G'
      | .ct s' G' => whlLoop c b n s' G'
      | .bk s' G' => .nx s' G'
      | r => r) else .nx s G1
def catches (P : Prg) (x c : Nat) : Option Bool := match P.exs[c]? with
  | some q => some (q.ups.contains x)
  | none => none
def setF (f : Nat) (v : D) : List (Nat × D) → List (Nat × D)
  | [] => [(f, v)]
  | p :: r => if p.1 = f then (f, v) :: r else p :: setF f v r
mutual
def ex (c : Cfg) : S → Sl → Hh → Rs
  | .exp e => fun s G => (ev c e s G).st s fun _ G1 => .nx s G1
  | .ret e => fun s G => (ev c e s G).st s fun d G1 => .rt d G1
  | .rt0 => fun _ G => .rt .non G
  | .set i e => fun s G => (ev c e s G).st s fun d G1 => .nx (s.set i (some d)) G1
  | .par i j a b => fun s G => (ev c a s G).st s fun x G1 => (ev c b s G1).st s fun y G2 => .nx ((s.set i (some x)).set j (some y)) G2
  | .tpl is e => fun s G => (ev c e s G).st s fun d G1 => match bindT (.tp is) d s with
    | some s2 => .nx s2 G1
    | none => .bad
  | .fst o f e => fun s G => (ev c e s G).st s fun v G1 => (ev c o s G1).st s fun x G2 => match x with
    | .ref r => (match G2[r]? with
      | some (.ins k fs) => (match c.P.cls[k]? with
        | some cl => if fs.length < 1000 ∧ cl.flds.contains f = true then .nx s (G2.set r (.ins k (setF f v fs))) else .bad
        | none => .bad)
      | _ => .bad)
    | _ => .bad
  | .sst o i e => fun s G => (ev c e s G).st s fun v G1 => (ev c o s G1).st s fun x G2 => (ev c i s G2).st s fun y G3 => match setD G3 x y v with
    | some G4 => .nx s G4
    | none => .bad
  | .ife t a b => fun s G => (tst c t s G).st s fun x G1 => if x then exs c a s G1 else exs c b s G1
  | .lop t it b => fun s G => (evI c it s G).st s fun J G1 => forLoop J.ok (fun d s G => match bindT t d s with
      | some s2 => exs c b s2 G
      | none => .bad) J.items s G1
  | .whl t b => fun s G => whlLoop (tst c t) (exs c b) c.F s G
  | .rse x e => fun s G => match e with
    | .no => .exc x none s G
    | .yes e => (ev c e s G).st s fun d G1 => .exc x (some d) s G1
  | .tryAs b x err cau => fun s G => match exs c b s G with
    | .exc k f s' G' => (match catches c.P x k with
      | some true => .nx ((s'.set cau (some (.ref G'.length))).set err none) (G' ++ [.exc k f])
      | some false => .exc k f s' G'
      | none => .bad)
    | r => r
  | .brk => fun s G => .bk s G
  | .cnt => fun s G => .ct s G
  | .pas => fun s G => .nx s G
def exs (c : Cfg) : Ss → Sl → Hh → Rs
  | .nil => fun s G => .nx s G
  | .cons st r => fun s G => (ex c st s G).seq (exs c r)
end
end Eng
end
section
set_option Elab.async false
set_option linter.all false
set_option maxRecDepth 100000
set_option maxHeartbeats 1000000
/-! The engine, part 1: how the evaluator's data lie in the layer's abstract heap. Own work. -/
namespace Eng
open PySem PySem.Spec PyProof.Rows L2

/-- where the program's things stand -/
structure Wd where
  P : Prg
  K : PySem.W.Frag
  cA : Nat → Addr
  xA : Nat → Addr
def Wd.nm (W : Wd) (i : Nat) : Str := W.P.names.getD i Str.empty

/-- the law's own list, that nobody writes -/
def Scr (K : PySem.W.Frag) (H : Hp) (a : Addr) (xs : List V) : Prop := (∃ o, H a = some (.frz o (.lst xs))) ∨ ((∀ H' : Hp, SqL K H' a xs))
theorem Scr.sq {K : PySem.W.Frag} {H : Hp} {a : Addr} {xs : List V} (h : Scr K H a xs) : SqL K H a xs := by
  rcases h with ⟨o, h⟩ | h
  · exact .inl (.inr ⟨o, h⟩)
  · exact h H
mutual
inductive RV (K : PySem.W.Frag) (ρ : Nat → Addr) (n : Nat) (H : Hp) : D → V → Prop
  | non : RV K ρ n H .non .non
  | bl (b : Bool) : RV K ρ n H (.bl b) (.bl b)
  | int (i : Int) : RV K ρ n H (.int i) (.int i)
  | str (x : Str) : RV K ρ n H (.str x) (.str x)
  | ref (i : Nat) : i < n → RV K ρ n H (.ref i) (.ref (ρ i))
  | tup {xs : List D} {a : Addr} {vs : List V} : SqT K H a vs → RVs K ρ n H xs vs → RV K ρ n H (.tup xs) (.ref a)
  | scr {ns : List Int} {a : Addr} : Scr K H a (ns.map V.int) → RV K ρ n H (.scr ns) (.ref a)
inductive RVs (K : PySem.W.Frag) (ρ : Nat → Addr) (n : Nat) (H : Hp) : List D → List V → Prop
  | nil : RVs K ρ n H [] []
  | cons {x : D} {xs : List D} {v : V} {vs : List V} : RV K ρ n H x v → RVs K ρ n H xs vs → RVs K ρ n H (x :: xs) (v :: vs)
end
/-- tuples stay; the script stays -/
structure Kp (K : PySem.W.Frag) (H H' : Hp) : Prop where
  t : ∀ a xs, SqT K H a xs → SqT K H' a xs
  l : ∀ a xs, Scr K H a xs → Scr K H' a xs
theorem Kp.refl {K : PySem.W.Frag} {H : Hp} : Kp K H H := ⟨fun _ _ h => h, fun _ _ h => h⟩
theorem Kp.trans {K : PySem.W.Frag} {H H1 H2 : Hp} (a : Kp K H H1) (b : Kp K H1 H2) : Kp K H H2 := ⟨fun _ _ h => b.t _ _ (a.t _ _ h), fun _ _ h => b.l _ _ (a.l _ _ h)⟩
theorem Kp.new {K : PySem.W.Frag} {H : Hp} {p : Addr} {o : HO} (h : H p = none) : Kp K H (upd H p o) := ⟨fun a xs q => by
  rcases q with (q | ⟨ob, q⟩) | q
  · exact .inl (.inl (by rw [upd_ne (ne_of_none q h)]; exact q))
  · exact .inl (.inr ⟨ob, by rw [upd_ne (ne_of_none q h)]; exact q⟩)
  · exact .inr q, fun a xs q => by
  rcases q with ⟨ob, q⟩ | q
  · exact .inl ⟨ob, by rw [upd_ne (ne_of_none q h)]; exact q⟩
  · exact .inr q⟩
def NoTup : HO → Prop
  | .tup _ => False
  | .frz _ (.tup _) => False
  | .frz _ (.lst _) => False
  | _ => True
theorem Kp.put {K : PySem.W.Frag} {H : Hp} {p : Addr} {o u : HO} (h : H p = some u) (hu : NoTup u) : Kp K H (upd H p o) := ⟨fun a xs q => by
  rcases q with (q | ⟨ob, q⟩) | q
  · exact .inl (.inl (by rw [upd_ne (ne_of q h (by rintro rfl; exact hu))]; exact q))
  · exact .inl (.inr ⟨ob, by rw [upd_ne (ne_of q h (by rintro rfl; exact hu))]; exact q⟩)
  · exact .inr q, fun a xs q => by
  rcases q with ⟨ob, q⟩ | q
  · exact .inl ⟨ob, by rw [upd_ne (ne_of q h (by rintro rfl; exact hu))]; exact q⟩
  · exact .inr q⟩

section
variable {K : PySem.W.Frag} {ρ ρ' : Nat → Addr} {n n' : Nat} {H H' : Hp}
mutual
theorem RV.mono (hn : n ≤ n') (he : ∀ i, i < n → ρ' i = ρ i) (hk : Kp K H H') : ∀ {d : D} {v : V}, RV K ρ n H d v → RV K ρ' n' H' d v
  | _, _, .non => .non
  | _, _, .bl b => .bl b
  | _, _, .int i => .int i
  | _, _, .str x => .str x
  | _, _, .ref i h => by rw [← he i h]; exact .ref i (Nat.lt_of_lt_of_le h hn)
  | _, _, .tup h r => .tup (hk.t _ _ h) (RVs.mono hn he hk r)
  | _, _, .scr h => .scr (hk.l _ _ h)
theorem RVs.mono (hn : n ≤ n') (he : ∀ i, i < n → ρ' i = ρ i) (hk : Kp K H H') : ∀ {d : List D} {v : List V}, RVs K ρ n H d v → RVs K ρ' n' H' d v
  | _, _, .nil => .nil
  | _, _, .cons h r => .cons (RV.mono hn he hk h) (RVs.mono hn he hk r)
end
theorem RVs.length : ∀ {xs : List D} {vs : List V}, RVs K ρ n H xs vs → xs.length = vs.length
  | _, _, .nil => rfl
  | _, _, .cons _ r => by rw [List.length_cons, List.length_cons, RVs.length r]
theorem RVs.append : ∀ {xs ys : List D} {vs us : List V}, RVs K ρ n H xs vs → RVs K ρ n H ys us → RVs K ρ n H (xs ++ ys) (vs ++ us)
  | _, _, _, _, .nil, s => s
  | _, _, _, _, .cons h r, s => .cons h (RVs.append r s)
theorem RVs.get : ∀ {xs : List D} {vs : List V} {i : Nat} {d : D}, RVs K ρ n H xs vs → xs[i]? = some d → ∃ v, vs[i]? = some v ∧ RV K ρ n H d v
  | _, _, i, _, .nil, e => by simp at e
  | _, _, 0, _, .cons h _, e => by simp at e; subst e; exact ⟨_, rfl, h⟩
  | _, _, i + 1, _, .cons _ r, e => by
    obtain ⟨v, h1, h2⟩ := RVs.get (i := i) r (by simpa using e)
    exact ⟨v, by simpa using h1, h2⟩
theorem RVs.ints : ∀ {ns : List Int}, RVs K ρ n H (ns.map .int) (ns.map V.int)
  | [] => .nil
  | i :: r => .cons (.int i) RVs.ints
theorem RVs.ints_of : ∀ {ns : List Int} {vs : List V}, RVs K ρ n H (ns.map .int) vs → vs = ns.map V.int
  | [], _, .nil => rfl
  | i :: r, _, .cons (.int _) h => by rw [RVs.ints_of h]; rfl
theorem RVs.flat : ∀ {xs : List D} {vs : List V} (k : Nat), RVs K ρ n H xs vs → RVs K ρ n H (List.replicate k xs).flatten (List.replicate k vs).flatten
  | _, _, 0, _ => .nil
  | _, _, k + 1, h => by
    rw [List.replicate_succ, List.replicate_succ, List.flatten_cons, List.flatten_cons]
    exact h.append (RVs.flat k h)
end

/-- an exception's object that may have flown -/
def exE (C a d : Addr) : HO := .ext fun h => ∃ (oe : Obj) (vs : Array Value), h.get? a = some oe ∧ oe.cls = .ref C ∧ oe.dict = some d ∧ oe.data = .fields vs
def exN (C a : Addr) : HO := .ext fun h => ∃ (oe : Obj) (vs : Array Value), h.get? a = some oe ∧ oe.cls = .ref C ∧ oe.dict = none ∧ oe.data = .fields vs
theorem exE_tup {C a d : Addr} : NoTup (exE C a d) := trivial

/-- fields -/
inductive RF (W : Wd) (ρ : Nat → Addr) (n : Nat) (H : Hp) : List (Nat × D) → List (Str × V) → Prop
  | nil : RF W ρ n H [] []
  | cons {f : Nat} {d : D} {v : V} {fs : List (Nat × D)} {gs : List (Str × V)} : RV W.K ρ n H d v → f < W.P.names.length → RF W ρ n H fs gs → RF W ρ n H ((f, d) :: fs) ((W.nm f, v) :: gs)
def kD : Key → D
  | .inl i => .int i
  | .inr x => .str x
/-- a dict's rows, keys ints and texts; tuples of these -/
inductive RDk (K : PySem.W.Frag) (ρ : Nat → Addr) (n : Nat) (H : Hp) : List (D × D) → List (Key × V) → Prop
  | nil : RDk K ρ n H [] []
  | cons {k : Key} {d : D} {v : V} {r : List (D × D)} {q : List (Key × V)} : RV K ρ n H d v → RDk K ρ n H r q → RDk K ρ n H ((kD k, d) :: r) ((k, v) :: q)
inductive RDt (K : PySem.W.Frag) (ρ : Nat → Addr) (n : Nat) (H : Hp) : List (D × D) → List (List Key × V) → Prop
  | nil : RDt K ρ n H [] []
  | cons {k : List Key} {d : D} {v : V} {r : List (D × D)} {q : List (List Key × V)} : RV K ρ n H d v → RDt K ρ n H r q → RDt K ρ n H ((.tup (k.map kD), d) :: r) ((k, v) :: q)
/-- what stands at address a for the object o -/
def RO (W : Wd) (ρ : Nat → Addr) (n : Nat) (H : Hp) (a : Addr) : O → Prop
  | .lst xs => ∃ vs, H a = some (.lst vs) ∧ RVs W.K ρ n H xs vs
  | .dic kvs => (∃ ks, H a = some (.dK ks) ∧ RDk W.K ρ n H kvs ks) ∨ ∃ ks, H a = some (.dT ks) ∧ RDt W.K ρ n H kvs ks ∧ kvs ≠ []
  | .ins c fs => ∃ dx gs, H a = some (.ins (W.cA c) dx gs) ∧ RF W ρ n H fs gs
  | .exc e (some v) => ∃ dx f x, H a = some (exE (W.xA e) a dx) ∧ (W.P.exs[e]?.bind (·.fld)) = some f ∧ H dx = some (.xd [(W.nm f, x)]) ∧ (∀ i, i < n → ρ i ≠ dx) ∧ RV W.K ρ n H v x
  | .exc e none => H a = some (exN (W.xA e) a)
structure Rel (W : Wd) (ρ : Nat → Addr) (G : Hh) (H : Hp) : Prop where
  inj : ∀ i j, i < G.length → j < G.length → ρ i = ρ j → i = j
  obj : ∀ i o, G[i]? = some o → RO W ρ G.length H (ρ i) o
structure Step (W : Wd) (ρ : Nat → Addr) (G : Hh) (H : Hp) (ρ' : Nat → Addr) (G' : Hh) (H' : Hp) : Prop where
  len : G.length ≤ G'.length
  ex : ∀ i, i < G.length → ρ' i = ρ i
  kp : Kp W.K H H'
  rel : Rel W ρ' G' H'
section
variable {W : Wd} {ρ ρ1 ρ2 : Nat → Addr} {G G1 G2 : Hh} {H H1 H2 : Hp}
theorem Step.refl (r : Rel W ρ G H) : Step W ρ G H ρ G H := ⟨Nat.le_refl _, fun _ _ => rfl, .refl, r⟩
theorem Step.trans (a : Step W ρ G H ρ1 G1 H1) (b : Step W ρ1 G1 H1 ρ2 G2 H2) : Step W ρ G H ρ2 G2 H2 :=
  ⟨Nat.le_trans a.len b.len, fun i h => (b.ex i (Nat.lt_of_lt_of_le h a.len)).trans (a.ex i h), a.kp.trans b.kp, b.rel⟩
theorem Step.rv (a : Step W ρ G H ρ1 G1 H1) {d : D} {v : V} (h : RV W.K ρ G.length H d v) : RV W.K ρ1 G1.length H1 d v := h.mono a.len a.ex a.kp
theorem Step.rvs (a : Step W ρ G H ρ1 G1 H1) {d : List D} {v : List V} (h : RVs W.K ρ G.length H d v) : RVs W.K ρ1 G1.length H1 d v := h.mono a.len a.ex a.kp
end
/-- the slots -/
structure RS (W : Wd) (ρ : Nat → Addr) (n : Nat) (H : Hp) (s : Sl) (σ : L2.St) : Prop where
  len : s.length = σ.length
  at_ : ∀ (i : Nat) (d : D), s[i]? = some (some d) → ∃ v, σ[i]? = some (some v) ∧ RV W.K ρ n H d v
section
variable {W : Wd} {ρ ρ1 ρ2 : Nat → Addr} {G G1 G2 : Hh} {H H1 H2 : Hp} {s : Sl} {σ : L2.St}
theorem Step.rs (a : Step W ρ G H ρ1 G1 H1) (h : RS W ρ G.length H s σ) : RS W ρ1 G1.length H1 s σ :=
  ⟨h.len, fun i d e => let ⟨v, e2, r⟩ := h.at_ i d e; ⟨v, e2, a.rv r⟩⟩
theorem RS.set {n : Nat} (h : RS W ρ n H s σ) {d : D} {v : V} (r : RV W.K ρ n H d v) (i : Nat) : RS W ρ n H (s.set i (some d)) (σ.set i (some v)) := by
  refine ⟨by rw [List.length_set, List.length_set, h.len], fun j e q => ?_⟩
  by_cases hj : i = j
  · subst hj
    have hl : i < s.length := by
      have q2 := (List.getElem?_eq_some_iff.mp q).1
      rwa [List.length_set] at q2
    rw [List.getElem?_set_self hl] at q
    cases q
    exact ⟨v, by rw [List.getElem?_set_self (by rw [← h.len]; exact hl)], r⟩
  · rw [List.getElem?_set_ne hj] at q ⊢
    exact h.at_ j e q
theorem RS.del {n : Nat} (h : RS W ρ n H s σ) (i : Nat) : RS W ρ n H (s.set i none) (σ.set i none) := by
  refine ⟨by rw [List.length_set, List.length_set, h.len], fun j e q => ?_⟩
  by_cases hj : i = j
  · subst hj
    have hl : i < s.length := by
      have q2 := (List.getElem?_eq_some_iff.mp q).1
      rwa [List.length_set] at q2
    rw [List.getElem?_set_self hl] at q
    cases q
  · rw [List.getElem?_set_ne hj] at q ⊢
    exact h.at_ j e q
theorem RS.wipe {n : Nat} (h : RS W ρ n H s σ) : ∀ vs : List Nat, RS W ρ n H (wipeD s vs) (L2.wipe σ vs)
  | [] => h
  | v :: vs => (RS.wipe h vs).del v
theorem RF.mono {n n1 : Nat} (hn : n ≤ n1) (he : ∀ i, i < n → ρ1 i = ρ i) (hk : Kp W.K H H1) : ∀ {fs : List (Nat × D)} {gs : List (Str × V)}, RF W ρ n H fs gs → RF W ρ1 n1 H1 fs gs
  | _, _, .nil => .nil
  | _, _, .cons h hf r => .cons (h.mono hn he hk) hf (RF.mono hn he hk r)
theorem RF.length {n : Nat} : ∀ {fs : List (Nat × D)} {gs : List (Str × V)}, RF W ρ n H fs gs → fs.length = gs.length
  | _, _, .nil => rfl
  | _, _, .cons _ _ r => by rw [List.length_cons, List.length_cons, RF.length r]
theorem RDk.mono {n n1 : Nat} (hn : n ≤ n1) (he : ∀ i, i < n → ρ1 i = ρ i) (hk : Kp W.K H H1) : ∀ {fs : List (D × D)} {gs : List (Key × V)}, RDk W.K ρ n H fs gs → RDk W.K ρ1 n1 H1 fs gs
  | _, _, .nil => .nil
  | _, _, .cons h r => .cons (h.mono hn he hk) (RDk.mono hn he hk r)
theorem RDt.mono {n n1 : Nat} (hn : n ≤ n1) (he : ∀ i, i < n → ρ1 i = ρ i) (hk : Kp W.K H H1) : ∀ {fs : List (D × D)} {gs : List (List Key × V)}, RDt W.K ρ n H fs gs → RDt W.K ρ1 n1 H1 fs gs
  | _, _, .nil => .nil
  | _, _, .cons h r => .cons (h.mono hn he hk) (RDt.mono hn he hk r)
/-- an object's description moves on, where its own addresses keep what they hold -/
theorem RO.mono {n n1 : Nat} {a : Addr} {o : O} (h : RO W ρ n H a o) (hn : n ≤ n1) (he : ∀ i, i < n → ρ1 i = ρ i) (hk : Kp W.K H H1) (ha : H1 a = H a)
    (hx : ∀ dx fs, H dx = some (.xd fs) → (∀ i, i < n → ρ i ≠ dx) → H1 dx = some (.xd fs) ∧ ∀ i, i < n1 → ρ1 i ≠ dx) : RO W ρ1 n1 H1 a o := by
  cases o with
  | lst xs => obtain ⟨vs, e, r⟩ := h; exact ⟨vs, ha.trans e, r.mono hn he hk⟩
  | dic kvs =>
    rcases h with ⟨ks, e, r⟩ | ⟨ks, e, r, z⟩
    · exact .inl ⟨ks, ha.trans e, r.mono hn he hk⟩
    · exact .inr ⟨ks, ha.trans e, r.mono hn he hk, z⟩
  | ins c fs => obtain ⟨dx, gs, e, r⟩ := h; exact ⟨dx, gs, ha.trans e, r.mono hn he hk⟩
  | exc e f =>
    cases f with
    | none => exact ha.trans h
    | some v =>
      obtain ⟨dx, f, x, e1, e2, e3, e4, r⟩ := h
      obtain ⟨q1, q2⟩ := hx dx _ e3 e4
      exact ⟨dx, f, x, ha.trans e1, e2, q1, q2, r.mono hn he hk⟩
theorem Rel.has (r : Rel W ρ G H) {i : Nat} (h : i < G.length) : ∃ u, H (ρ i) = some u := by
  have q := r.obj i G[i] (List.getElem?_eq_getElem h)
  cases e : G[i] with
  | lst xs => rw [e] at q; obtain ⟨vs, e, _⟩ := q; exact ⟨_, e⟩
  | dic kvs => rw [e] at q; rcases q with ⟨ks, e, _⟩ | ⟨ks, e, _⟩ <;> exact ⟨_, e⟩
  | ins c fs => rw [e] at q; obtain ⟨dx, gs, e, _⟩ := q; exact ⟨_, e⟩
  | exc e' f =>
    rw [e] at q
    cases f with
    | none => exact ⟨_, q⟩
    | some v => obtain ⟨dx, f, x, e1, _⟩ := q; exact ⟨_, e1⟩
def ext (ρ : Nat → Addr) (n : Nat) (p : Addr) : Nat → Addr := fun i => if i = n then p else ρ i
theorem ext_lt {n i : Nat} {p : Addr} (h : i < n) : ext ρ n p i = ρ i := if_neg (Nat.ne_of_lt h)
theorem ext_at {n : Nat} {p : Addr} : ext ρ n p n = p := if_pos rfl
/-- a new object is laid: HN is the heap with it -/
theorem Step.new (r : Rel W ρ G H) {p : Addr} {o : O} {HN : Hp} (hp : H p = none) (hk : Kp W.K H HN) (hold : ∀ b u, H b = some u → HN b = some u)
    (ho : RO W (ext ρ G.length p) (G.length + 1) HN p o) : Step W ρ G H (ext ρ G.length p) (G ++ [o]) HN := by
  have lt : ∀ i, i < G.length → ρ i ≠ p := fun i h e => by
    obtain ⟨u, hu⟩ := r.has h
    rw [e, hp] at hu; cases hu
  refine ⟨by rw [List.length_append]; omega, fun i h => ext_lt h, hk, ⟨fun i j hi hj e => ?_, fun i ob e => ?_⟩⟩
  · rw [List.length_append, List.length_singleton] at hi hj
    by_cases h1 : i = G.length
    · by_cases h2 : j = G.length
      · omega
      · have h2' : j < G.length := by omega
        rw [h1, ext_at, ext_lt h2'] at e
        exact absurd e.symm (lt j h2')
    · have h1' : i < G.length := by omega
      by_cases h2 : j = G.length
      · rw [h2, ext_at, ext_lt h1'] at e
        exact absurd e (lt i h1')
      · have h2' : j < G.length := by omega
        rw [ext_lt h1', ext_lt h2'] at e
        exact r.inj i j h1' h2' e
  · rw [List.length_append, List.length_singleton]
    by_cases h1 : i < G.length
    · rw [List.getElem?_append_left h1] at e
      rw [ext_lt h1]
      have ho' := r.obj i ob e
      refine ho'.mono (Nat.le_succ _) (fun j h => ext_lt h) hk ?_ (fun dx fs q1 q2 => ⟨hold _ _ q1, fun j hj => ?_⟩)
      · obtain ⟨u, hu⟩ := r.has h1
        rw [hu, hold _ _ hu]
      · by_cases h2 : j = G.length
        · rw [h2, ext_at]; intro z; rw [← z, hp] at q1; cases q1
        · rw [ext_lt (by omega)]; exact q2 j (by omega)
    · have h2 : i = G.length := by
        have := (List.getElem?_eq_some_iff.mp e).1
        rw [List.length_append, List.length_singleton] at this
        omega
      subst h2
      rw [List.getElem?_append_right (Nat.le_refl _), Nat.sub_self] at e
      simp at e
      subst e
      rw [ext_at]
      exact ho
theorem Step.lay (r : Rel W ρ G H) {p : Addr} {xs : List D} {vs : List V} (hp : H p = none) (h : RVs W.K ρ G.length H xs vs) :
    Step W ρ G H (ext ρ G.length p) (G ++ [.lst xs]) (upd H p (.lst vs)) :=
  Step.new r hp (.new hp) (fun b u e => by rw [upd_ne (ne_of_none e hp)]; exact e) ⟨vs, upd_same, h.mono (Nat.le_succ _) (fun i h => ext_lt h) (.new hp)⟩
/-- something that no value leads to is laid -/
theorem Step.side (r : Rel W ρ G H) {p : Addr} {o : HO} (hp : H p = none) : Step W ρ G H ρ G (upd H p o) := by
  refine ⟨Nat.le_refl _, fun _ _ => rfl, .new hp, ⟨r.inj, fun i o e => ?_⟩⟩
  have hi := (List.getElem?_eq_some_iff.mp e).1
  obtain ⟨u', hu⟩ := r.has hi
  exact (r.obj i o e).mono (Nat.le_refl _) (fun _ _ => rfl) (.new hp) (upd_ne (ne_of_none hu hp)) fun dx fs q1 q2 => ⟨by rw [upd_ne (ne_of_none q1 hp)]; exact q1, q2⟩
/-- an object is changed -/
theorem Step.put (r : Rel W ρ G H) {i : Nat} {o : O} {u u' : HO} (hi : i < G.length) (hu : H (ρ i) = some u) (ht : NoTup u) (hx : ∀ fs, u ≠ .xd fs)
    (ho : RO W ρ G.length (upd H (ρ i) u') (ρ i) o) : Step W ρ G H ρ (G.set i o) (upd H (ρ i) u') := by
  refine ⟨by rw [List.length_set]; omega, fun _ _ => rfl, .put hu ht, ⟨fun a b ha hb e => ?_, fun j ob e => ?_⟩⟩
  · rw [List.length_set] at ha hb
    exact r.inj a b ha hb e
  · rw [List.length_set]
    by_cases hj : i = j
    · subst hj
      rw [List.getElem?_set_self hi] at e
      cases e
      exact ho
    · rw [List.getElem?_set_ne hj] at e
      have hjl := (List.getElem?_eq_some_iff.mp e).1
      have hne : ρ j ≠ ρ i := fun z => hj (r.inj j i hjl hi z).symm
      refine (r.obj j ob e).mono (Nat.le_refl _) (fun _ _ => rfl) (.put hu ht) (upd_ne hne) (fun dx fs q1 q2 => ⟨?_, q2⟩)
      rw [upd_ne (ne_of q1 hu (fun z => hx fs z.symm))]
      exact q1
theorem Rel.seq (r : Rel W ρ G H) {d : D} {v : V} {xs : List D} (h : RV W.K ρ G.length H d v) (e : seqOf G d = some xs) :
    ∃ a vs, v = .ref a ∧ RVs W.K ρ G.length H xs vs ∧ (SqL W.K H a vs ∨ SqT W.K H a vs) := by
  cases h with
  | non => simp [seqOf] at e
  | bl b => simp [seqOf] at e
  | int i => simp [seqOf] at e
  | str x => simp [seqOf] at e
  | tup ht hr =>
    simp only [seqOf, Option.some.injEq] at e
    subst e
    exact ⟨_, _, rfl, hr, .inr ht⟩
  | ref i hi =>
    simp only [seqOf] at e
    split at e
    · rename_i ys hy
      cases e
      obtain ⟨vs, q1, q2⟩ := r.obj i _ hy
      exact ⟨_, vs, rfl, q2, .inl (.of q1)⟩
    · cases e
  | scr hs =>
    simp only [seqOf, Option.some.injEq] at e
    subst e
    exact ⟨_, _, rfl, RVs.ints, .inl hs.sq⟩
end
end Eng
end
section
set_option Elab.async false
set_option linter.all false
set_option maxRecDepth 100000
set_option maxHeartbeats 1000000
/-! The engine, part 2: what is wanted behind an evaluation; operations on values. Own work. -/
namespace Eng
open PySem PySem.Spec PyProof.Rows L2

/-- an exception of the evaluator, as it lies -/
def RX (W : Wd) (ρ : Nat → Addr) (n : Nat) (H : Hp) (c : Nat) (f : Option D) (cls : Value) (dd : Option Addr) : Prop :=
  cls = .ref (W.xA c) ∧ match f with
    | none => dd = none
    | some v => ∃ dx g x, dd = some dx ∧ (W.P.exs[c]?.bind (·.fld)) = some g ∧ H dx = some (.xd [(W.nm g, x)]) ∧ (∀ i, i < n → ρ i ≠ dx) ∧ RV W.K ρ n H v x
def PX (W : Wd) (w : WX) (ρ : Nat → Addr) (G : Hh) (H : Hp) (σ : L2.St) (c : Nat) (f : Option D) (G' : Hh) : Prop :=
  ∀ ρ' H' cls dd, Step W ρ G H ρ' G' H' → RX W ρ' G'.length H' c f cls dd → w cls dd σ H'
abbrev RL (α β : Type) := (Nat → Addr) → Nat → Hp → α → β → Prop
def Pst {α β : Type} (W : Wd) (w : WX) (ρ : Nat → Addr) (G : Hh) (H : Hp) (σ : L2.St) (rl : RL α β) (r : R α) (Q : β → Hp → Prop) : Prop := match r with
  | .ok a G' => ∀ ρ' H' b, Step W ρ G H ρ' G' H' → rl ρ' G'.length H' a b → Q b H'
  | .exc c f G' => PX W w ρ G H σ c f G'
  | .bad => False
abbrev rlD (W : Wd) : RL D V := fun ρ n H d v => RV W.K ρ n H d v
abbrev rlDs (W : Wd) : RL (List D) (List V) := fun ρ n H d v => RVs W.K ρ n H d v
abbrev rlB : RL Bool Bool := fun _ _ _ a b => a = b
def tE (W : Wd) (w : WX) (m : Sl → Hh → R D) : TE := fun σ H Q => ∃ ρ sl G, Rel W ρ G H ∧ RS W ρ G.length H sl σ ∧ Pst W w ρ G H σ (rlD W) (m sl G) Q
def tA (W : Wd) (w : WX) (m : Sl → Hh → R (List D)) : TA := fun σ H Q => ∃ ρ sl G, Rel W ρ G H ∧ RS W ρ G.length H sl σ ∧ Pst W w ρ G H σ (rlDs W) (m sl G) Q
def tT (W : Wd) (w : WX) (m : Sl → Hh → R Bool) : TT := fun σ H Q => ∃ ρ sl G, Rel W ρ G H ∧ RS W ρ G.length H sl σ ∧ Pst W w ρ G H σ rlB (m sl G) Q

section
variable {W : Wd} {w : WX} {ρ ρ1 : Nat → Addr} {G G1 : Hh} {H H1 : Hp} {σ : L2.St} {α β : Type} {rl : RL α β} {r : R α} {Q : β → Hp → Prop}
theorem Pst.move (st : Step W ρ G H ρ1 G1 H1) (h : Pst W w ρ G H σ rl r Q) : Pst W w ρ1 G1 H1 σ rl r Q := by
  cases r with
  | ok a G' => exact fun ρ' H' b s q => h ρ' H' b (st.trans s) q
  | exc c f G' => exact fun ρ' H' cls dd s q => h ρ' H' cls dd (st.trans s) q
  | bad => exact h
end
section
variable {X : Cx} {W : Wd} {w : WX} {ρ : Nat → Addr} {G : Hh} {H : Hp} {σ : L2.St} {sl : Sl} {pins : List (Addr × Obj)} {s : Shared} {α β : Type} {rl : RL α β} {Q : β → Hp → Prop}
/-- an expression is run; k comes behind it -/
theorem runE {e : Expr} {m : Sl → Hh → R D} {k : D → Hh → R α} (he : PE X e (tE W w m)) (I : Inv X pins σ H s) (r : Rel W ρ G H) (S : RS W ρ G.length H sl σ)
    (h : Pst W w ρ G H σ rl ((m sl G).bind k) Q) {Q' : Value → Shared → Prop}
    (hk : ∀ u s1 ρ1 G1 H1 d v, Inv X pins σ H1 s1 → RelV v u → Step W ρ G H ρ1 G1 H1 → RV W.K ρ1 G1.length H1 d v → RS W ρ1 G1.length H1 sl σ → m sl G = .ok d G1 → Pst W w ρ1 G1 H1 σ rl (k d G1) Q → Q' u s1) :
    wpAny (model X.prog X.w) X.A (eval e X.env) Q' X.xe s := by
  cases hm : m sl G with
  | ok d G1 =>
    rw [hm] at h
    refine thn (he.run pins s σ H (fun v H1 => ∃ ρ1, Step W ρ G H ρ1 G1 H1 ∧ RV W.K ρ1 G1.length H1 d v) I ⟨ρ, sl, G, r, S, by rw [hm]; exact fun ρ' H' b st q => ⟨ρ', st, q⟩⟩) fun u s1 hh => ?_
    obtain ⟨v, H1, I1, rv, ρ1, st, q⟩ := hh
    exact hk u s1 ρ1 G1 H1 d v I1 rv st q (st.rs S) hm (Pst.move st h)
  | exc c f G1 =>
    rw [hm] at h
    refine thn (he.run pins s σ H (fun _ _ => False) I ⟨ρ, sl, G, r, S, by rw [hm]; exact h⟩) fun u s1 hh => ?_
    obtain ⟨_, _, _, _, z⟩ := hh
    exact z.elim
  | bad => rw [hm] at h; exact h.elim
theorem runT {e : Expr} {m : Sl → Hh → R Bool} {k : Bool → Hh → R α} (he : PT X e (tT W w m)) (I : Inv X pins σ H s) (r : Rel W ρ G H) (S : RS W ρ G.length H sl σ)
    (h : Pst W w ρ G H σ rl ((m sl G).bind k) Q) {Q' : Bool → Shared → Prop}
    (hk : ∀ b s1 ρ1 G1 H1, Inv X pins σ H1 s1 → Step W ρ G H ρ1 G1 H1 → RS W ρ1 G1.length H1 sl σ → m sl G = .ok b G1 → Pst W w ρ1 G1 H1 σ rl (k b G1) Q → Q' b s1) :
    wpAny (model X.prog X.w) X.A (isTrue e X.env (eval e X.env)) Q' X.xe s := by
  cases hm : m sl G with
  | ok d G1 =>
    rw [hm] at h
    refine thn (he.run pins s σ H (fun v H1 => ∃ ρ1, Step W ρ G H ρ1 G1 H1 ∧ d = v) I ⟨ρ, sl, G, r, S, by rw [hm]; exact fun ρ' H' b st q => ⟨ρ', st, q⟩⟩) fun u s1 hh => ?_
    obtain ⟨H1, I1, ρ1, st, rfl⟩ := hh
    exact hk d s1 ρ1 G1 H1 I1 st (st.rs S) hm (Pst.move st h)
  | exc c f G1 =>
    rw [hm] at h
    refine thn (he.run pins s σ H (fun _ _ => False) I ⟨ρ, sl, G, r, S, by rw [hm]; exact h⟩) fun u s1 hh => ?_
    obtain ⟨_, _, z⟩ := hh
    exact z.elim
  | bad => rw [hm] at h; exact h.elim
theorem runA {es : List Expr} {pos : Pos} {m : Sl → Hh → R (List D)} {k : List D → Hh → R α} (he : PA X es (tA W w m)) (I : Inv X pins σ H s) (r : Rel W ρ G H) (S : RS W ρ G.length H sl σ)
    (h : Pst W w ρ G H σ rl ((m sl G).bind k) Q) {Q' : List Value → Shared → Prop}
    (hk : ∀ us s1 ρ1 G1 H1 ds vs, Inv X pins σ H1 s1 → Vals vs us → Step W ρ G H ρ1 G1 H1 → RVs W.K ρ1 G1.length H1 ds vs → RS W ρ1 G1.length H1 sl σ → m sl G = .ok ds G1 → Pst W w ρ1 G1 H1 σ rl (k ds G1) Q → Q' us s1) :
    wpAny (model X.prog X.w) X.A (spliced (backTo pos (starEach es X.env))) Q' X.xe s := by
  cases hm : m sl G with
  | ok d G1 =>
    rw [hm] at h
    refine thn (he.run pos pins s σ H (fun v H1 => ∃ ρ1, Step W ρ G H ρ1 G1 H1 ∧ RVs W.K ρ1 G1.length H1 d v) I ⟨ρ, sl, G, r, S, by rw [hm]; exact fun ρ' H' b st q => ⟨ρ', st, q⟩⟩) fun u s1 hh => ?_
    obtain ⟨v, H1, I1, rv, ρ1, st, q⟩ := hh
    exact hk u s1 ρ1 G1 H1 d v I1 rv st q (st.rs S) hm (Pst.move st h)
  | exc c f G1 =>
    rw [hm] at h
    refine thn (he.run pos pins s σ H (fun _ _ => False) I ⟨ρ, sl, G, r, S, by rw [hm]; exact h⟩) fun u s1 hh => ?_
    obtain ⟨_, _, _, _, z⟩ := hh
    exact z.elim
  | bad => rw [hm] at h; exact h.elim
theorem runK {es : List Keyword} {pos : Pos} {m : Sl → Hh → R (List D)} {k : List D → Hh → R α} (he : PK X es (tA W w m)) (I : Inv X pins σ H s) (r : Rel W ρ G H) (S : RS W ρ G.length H sl σ)
    (h : Pst W w ρ G H σ rl ((m sl G).bind k) Q) {Q' : List Value → Shared → Prop}
    (hk : ∀ us s1 ρ1 G1 H1 ds vs, Inv X pins σ H1 s1 → Vals vs us → Step W ρ G H ρ1 G1 H1 → RVs W.K ρ1 G1.length H1 ds vs → RS W ρ1 G1.length H1 sl σ → m sl G = .ok ds G1 → Pst W w ρ1 G1 H1 σ rl (k ds G1) Q → Q' us s1) :
    wpAny (model X.prog X.w) X.A (evalAll ((backToKw pos (keywordEach es X.env)).map (·.2))) Q' X.xe s := by
  cases hm : m sl G with
  | ok d G1 =>
    rw [hm] at h
    refine thn (he.run pos pins s σ H (fun v H1 => ∃ ρ1, Step W ρ G H ρ1 G1 H1 ∧ RVs W.K ρ1 G1.length H1 d v) I ⟨ρ, sl, G, r, S, by rw [hm]; exact fun ρ' H' b st q => ⟨ρ', st, q⟩⟩) fun u s1 hh => ?_
    obtain ⟨v, H1, I1, rv, ρ1, st, q⟩ := hh
    exact hk u s1 ρ1 G1 H1 d v I1 rv st q (st.rs S) hm (Pst.move st h)
  | exc c f G1 =>
    rw [hm] at h
    refine thn (he.run pos pins s σ H (fun _ _ => False) I ⟨ρ, sl, G, r, S, by rw [hm]; exact h⟩) fun u s1 hh => ?_
    obtain ⟨_, _, _, _, z⟩ := hh
    exact z.elim
  | bad => rw [hm] at h; exact h.elim
end

/-! ### data -/
section
variable {W : Wd} {ρ : Nat → Addr} {G : Hh} {H : Hp}
theorem dpAll_ints {K : PySem.W.Frag} {H : Hp} : ∀ ns : List Int, DpAll K H (ns.map V.int) (ns.map PyData.int)
  | [] => .nil
  | i :: r => .cons (.int i) (dpAll_ints r)
theorem datL_dp {n : Nat} (ih : ∀ (d : D) (v : V) (p : PyData), RV W.K ρ G.length H d v → dat G n d = some p → Dp W.K H v p) :
    ∀ (xs : List D) (vs : List V) (ps : List PyData), RVs W.K ρ G.length H xs vs → datL (dat G n) xs = some ps → DpAll W.K H vs ps
  | [], _, _, .nil, e => by
    simp only [datL, Option.some.injEq] at e
    subst e
    exact .nil
  | x :: xs, _, _, .cons h r, e => by
    simp only [datL] at e
    split at e
    · cases e
    · rename_i y hy
      split at e
      · cases e
      · rename_i ys hys
        cases e
        exact .cons (ih _ _ _ h hy) (datL_dp ih xs _ _ r hys)
theorem dat_dp (r : Rel W ρ G H) : ∀ (n : Nat) (d : D) (v : V) (p : PyData), RV W.K ρ G.length H d v → dat G n d = some p → Dp W.K H v p
  | 0, _, _, _, _, e => by simp [dat] at e
  | n + 1, d, v, p, h, e => by
    cases h with
    | non => simp only [dat, Option.some.injEq] at e; subst e; exact .non
    | bl b => simp only [dat, Option.some.injEq] at e; subst e; exact .bl b
    | int i => simp only [dat, Option.some.injEq] at e; subst e; exact .int i
    | str x => simp only [dat, Option.some.injEq] at e; subst e; exact .str x
    | tup ht hr =>
      simp only [dat] at e
      split at e
      · cases e
      · rename_i ys hy
        cases e
        exact .tup ht (datL_dp (fun d v p => dat_dp r n d v p) _ _ _ hr hy)
    | ref i hi =>
      simp only [dat] at e
      split at e
      · rename_i xs hx
        split at e
        · cases e
        · rename_i ys hy
          cases e
          obtain ⟨vs, q1, q2⟩ := r.obj i _ hx
          exact .lst (.of q1) (datL_dp (fun d v p => dat_dp r n d v p) _ _ _ q2 hy)
      · cases e
    | scr hs =>
      simp only [dat, Option.some.injEq] at e
      subst e
      exact .lst hs.sq (dpAll_ints _)
theorem depth_ints : ∀ ns : List Int, PyData.depthAll (ns.map PyData.int) = 0
  | [] => rfl
  | i :: r => by simp only [List.map_cons, PyData.depthAll, PyData.depth, depth_ints r]; rfl
theorem datL_depth {n : Nat} (ih : ∀ (d : D) (p : PyData), dat G n d = some p → p.depth ≤ n) : ∀ (xs : List D) (ps : List PyData), datL (dat G n) xs = some ps → PyData.depthAll ps ≤ n
  | [], _, e => by
    simp only [datL, Option.some.injEq] at e
    subst e
    exact Nat.zero_le _
  | x :: xs, _, e => by
    simp only [datL] at e
    split at e
    · cases e
    · rename_i y hy
      split at e
      · cases e
      · rename_i ys hys
        cases e
        simp only [PyData.depthAll]
        exact Nat.max_le.mpr ⟨ih _ _ hy, datL_depth ih xs _ hys⟩
theorem dat_depth : ∀ (n : Nat) (d : D) (p : PyData), dat G n d = some p → p.depth ≤ n
  | 0, _, _, e => by simp [dat] at e
  | n + 1, d, p, e => by
    cases d with
    | non => simp only [dat, Option.some.injEq] at e; subst e; exact Nat.zero_le _
    | bl b => simp only [dat, Option.some.injEq] at e; subst e; exact Nat.zero_le _
    | int i => simp only [dat, Option.some.injEq] at e; subst e; exact Nat.zero_le _
    | str x => simp only [dat, Option.some.injEq] at e; subst e; exact Nat.zero_le _
    | tup xs =>
      simp only [dat] at e
      split at e
      · cases e
      · rename_i ys hy
        cases e
        simp only [PyData.depth]
        exact Nat.succ_le_succ (datL_depth (fun d p => dat_depth n d p) _ _ hy)
    | ref i =>
      simp only [dat] at e
      split at e
      · rename_i xs hx
        split at e
        · cases e
        · rename_i ys hy
          cases e
          simp only [PyData.depth]
          exact Nat.succ_le_succ (datL_depth (fun d p => dat_depth n d p) _ _ hy)
      · cases e
    | scr ns =>
      simp only [dat, Option.some.injEq] at e
      subst e
      simp only [PyData.depth, depth_ints]
      omega
theorem dat_shaped {d : D} {p : PyData} (h : dat G dfuel d = some p) (c : p.canLay0 = true) : SeqAt.shaped p = true := by
  have q : p.depth ≤ dfuel := dat_depth _ _ _ h
  have q' : p.depth ≤ 64 := Nat.le_trans q (by decide)
  unfold SeqAt.shaped
  rw [c, decide_eq_true q']
  rfl
theorem datL_shaped {xs : List D} {ps : List PyData} (h : datL (dat G dfuel) xs = some ps) (c : PyData.canLayAll0 ps = true) : SeqAt.shaped (.list ps) = true := by
  have q : PyData.depthAll ps ≤ dfuel := datL_depth (fun d p => dat_depth _ d p) _ _ h
  have q' : (PyData.list ps).depth ≤ 64 := by
    simp only [PyData.depth]
    exact Nat.le_trans (Nat.succ_le_succ q) (by decide)
  unfold SeqAt.shaped
  rw [show (PyData.list ps).canLay0 = PyData.canLayAll0 ps from rfl, c, decide_eq_true q']
  rfl
theorem intsOf_eq : ∀ {xs : List D} {ns : List Int}, intsOf xs = some ns → xs = ns.map .int
  | [], ns, e => by simp only [intsOf, Option.some.injEq] at e; subst e; rfl
  | .int i :: r, ns, e => by
    simp only [intsOf, Option.map_eq_some_iff] at e
    obtain ⟨ms, h, rfl⟩ := e
    rw [intsOf_eq h]; rfl
  | .non :: _, _, e => by simp [intsOf] at e
  | .bl _ :: _, _, e => by simp [intsOf] at e
  | .str _ :: _, _, e => by simp [intsOf] at e
  | .tup _ :: _, _, e => by simp [intsOf] at e
  | .ref _ :: _, _, e => by simp [intsOf] at e
  | .scr _ :: _, _, e => by simp [intsOf] at e
end

section
variable {X : Cx} {W : Wd} {w : WX} {ρ : Nat → Addr} {G : Hh} {H : Hp} {σ : L2.St} {pins : List (Addr × Obj)} {s : Shared} {Q : VK} {x y : V} {v u : Value} {a b : D}
theorem fin_ok {d : D} {z : V} (r : Rel W ρ G H) (h : Pst W w ρ G H σ (rlD W) (.ok d G) Q) (rz : RV W.K ρ G.length H d z) : Q z H := h ρ H z (.refl r) rz
theorem lay_ok {xs : List D} {vs : List V} (r : Rel W ρ G H) (h : Pst W w ρ G H σ (rlD W) (alloc (.lst xs) G) Q) (rz : RVs W.K ρ G.length H xs vs) : ∀ p, H p = none → Q (.ref p) (upd H p (.lst vs)) := fun p hp => by
  have st := Step.lay r hp rz
  have q := h _ _ (.ref (ext ρ G.length p G.length)) st (.ref _ (by rw [List.length_append, List.length_singleton]; omega))
  rw [ext_at] at q
  exact q
theorem binop_ok {op : Operator} (hK : X.K = W.K) (I : Inv X pins σ H s) (r : Rel W ρ G H) (rx : RelV x v) (ry : RelV y u) (ra : RV W.K ρ G.length H a x) (rb : RV W.K ρ G.length H b y)
    (h : Pst W w ρ G H σ (rlD W) (binop op a b G) Q) : wpAny (model X.prog X.w) X.A (binaryOp op v u) (EP X pins σ Q) X.xe s := by
  unfold binop at h
  split at h
  · cases ra; cases rb
    exact op_add pins s σ H _ _ v u Q I rx ry ⟨_, _, rfl, rfl, fin_ok r h (.int _)⟩
  · cases ra; cases rb
    exact op_sub pins s σ H _ _ v u Q I rx ry ⟨_, _, rfl, rfl, fin_ok r h (.int _)⟩
  · cases ra; cases rb
    split at h
    · rename_i c
      exact op_mul pins s σ H _ _ v u Q I rx ry ⟨_, _, rfl, rfl, c, fin_ok r h (.int _)⟩
    · exact h.elim
  · cases ra; cases rb
    split at h
    · rename_i c
      exact op_modN pins s σ H _ _ v u Q I rx ry ⟨_, _, rfl, rfl, c, fin_ok r h (.int _)⟩
    · exact h.elim
  · cases ra; cases rb
    split at h
    · rename_i c
      exact op_fdivN pins s σ H _ _ v u Q I rx ry ⟨_, _, rfl, rfl, c, fin_ok r h (.int _)⟩
    · split at h
      · rename_i c
        exact op_fdivW pins s σ H _ _ v u Q I rx ry ⟨_, _, rfl, rfl, c, fin_ok r h (.int _)⟩
      · exact h.elim
  · cases ra; cases rb
    split at h
    · rename_i c
      exact op_pow pins s σ H _ _ v u Q I rx ry ⟨_, _, rfl, rfl, c, fin_ok r h (.int _)⟩
    · split at h
      · rename_i c
        obtain ⟨t, rfl⟩ := rx
        obtain ⟨t', rfl⟩ := ry
        obtain ⟨c1, c2, c3⟩ := c
        refine AutoIntOps.pow_4 (by omega) (by simp; omega) (by simp; omega) (by simp; omega) (by rw [c3]; simp) ?_
        exact ⟨.int _, H, I.tok _, ⟨_, rfl⟩, fin_ok r h (.int _)⟩
      · exact h.elim
  · cases ra; cases rb
    split at h
    · rename_i c
      exact op_add_str pins s σ H _ _ v u Q I rx ry ⟨_, _, rfl, rfl, c, fin_ok r h (.str _)⟩
    · exact h.elim
  · split at h
    · rename_i c
      cases ra with
      | tup t1 r1 =>
        cases rb with
        | tup t2 r2 =>
          rename_i a1 vs1 a2 vs2
          refine op_catA pins s σ H _ _ v u Q I rx ry ⟨_, _, _, _, rfl, rfl, by rw [hK]; exact t1, by rw [hK]; exact t2, by rw [← r1.length, ← r2.length]; exact c, fun e => ?_, fun e1 e2 => ?_, fun e1 e2 p hp => ?_⟩
          · subst e; cases r1
            exact fin_ok r h (.tup t2 r2)
          · subst e2; cases r2
            exact fin_ok r h (by rw [List.append_nil]; exact .tup t1 r1)
          · refine h ρ _ _ ⟨Nat.le_refl _, fun _ _ => rfl, .new hp, ⟨r.inj, fun i o e => ?_⟩⟩ (.tup (.of upd_same) ((r1.append r2).mono (Nat.le_refl _) (fun _ _ => rfl) (.new hp)))
            have hi := (List.getElem?_eq_some_iff.mp e).1
            obtain ⟨u', hu⟩ := r.has hi
            exact (r.obj i o e).mono (Nat.le_refl _) (fun _ _ => rfl) (.new hp) (upd_ne (ne_of_none hu hp)) fun dx fs q1 q2 => ⟨by rw [upd_ne (ne_of_none q1 hp)]; exact q1, q2⟩
    · exact h.elim
  · split at h
    · rename_i xs ys hx hy
      split at h
      · rename_i c
        cases ra; cases rb
        obtain ⟨vs, q1, q2⟩ := r.obj _ _ hx
        obtain ⟨zs, q3, q4⟩ := r.obj _ _ hy
        exact op_cat pins s σ H _ _ v u Q I rx ry ⟨_, _, _, _, rfl, rfl, q1, q3, by rw [← q2.length, ← q4.length]; exact c, lay_ok r h (q2.append q4)⟩
      · exact h.elim
    · exact h.elim
  · split at h
    · rename_i xs hx
      split at h
      · rename_i c
        cases ra; cases rb
        obtain ⟨vs, q1, q2⟩ := r.obj _ _ hx
        exact op_rep pins s σ H _ _ v u Q I rx ry ⟨_, _, _, rfl, rfl, q1, c.1, c.2.1, by rw [← q2.length]; exact c.2.2, lay_ok r h (q2.flat _)⟩
      · exact h.elim
    · exact h.elim
  · exact h.elim
theorem cmp_ok {op : CmpOp} {c : Bool} (hK : X.K = W.K) (hr : X.A.units + 65 < cLine) (I : Inv X pins σ H s) (r : Rel W ρ G H) (rx : RelV x v) (ry : RelV y u) (ra : RV W.K ρ G.length H a x) (rb : RV W.K ρ G.length H b y)
    (e : cmpop op a b G = some c) (h : Q (.bl c) H) : wpAny (model X.prog X.w) X.A (compareOp op v u) (EP X pins σ Q) X.xe s := by
  have eqr : ∀ {c : Bool}, eqD G a b = some c → ∃ p q, Dp W.K H x p ∧ Dp W.K H y q ∧ SeqAt.shaped p = true ∧ SeqAt.shaped q = true ∧ PyData.eqv p q = c := fun {c} e => by
    unfold eqD at e
    split at e
    · rename_i p q hp hq
      split at e
      · rename_i cc
        rw [Bool.and_eq_true] at cc
        cases e
        exact ⟨p, q, dat_dp r _ _ _ _ ra hp, dat_dp r _ _ _ _ rb hq, dat_shaped hp cc.1, dat_shaped hq cc.2, rfl⟩
      · cases e
    · cases e
  have inr : ∀ {xs : List D} {i : Nat} {c : Bool}, b = .ref i → G[i]? = some (.lst xs) → inL G a xs = some c → ∃ p ds, Dp W.K H x p ∧ Dp W.K H y (.list ds) ∧ SeqAt.shaped p = true ∧ SeqAt.shaped (.list ds) = true ∧ (ds.any fun z => PyData.eqv z p) = c := fun {xs i c} eb hx e2 => by
    subst eb
    unfold inL at e2
    split at e2
    · rename_i p ds hp hds
      split at e2
      · rename_i cc
        rw [Bool.and_eq_true] at cc
        cases e2
        cases rb
        obtain ⟨vs, q1, q2⟩ := r.obj _ _ hx
        exact ⟨p, ds, dat_dp r _ _ _ _ ra hp, .lst (.of q1) (datL_dp (fun d v p => dat_dp r _ d v p) _ _ _ q2 hds), dat_shaped hp cc.1, datL_shaped hds cc.2, rfl⟩
      · cases e2
    · cases e2
  unfold cmpop at e
  split at e
  · obtain ⟨p, q, h1, h2, h3, h4, rfl⟩ := eqr e
    exact op_eqD (by omega) pins s σ H _ _ v u Q I rx ry ⟨p, q, by rw [hK]; exact h1, by rw [hK]; exact h2, h3, h4, h⟩
  · rw [Option.map_eq_some_iff] at e
    obtain ⟨c', e, rfl⟩ := e
    obtain ⟨p, q, h1, h2, h3, h4, rfl⟩ := eqr e
    exact op_neD (by omega) pins s σ H _ _ v u Q I rx ry ⟨p, q, by rw [hK]; exact h1, by rw [hK]; exact h2, h3, h4, h⟩
  · split at e
    · cases rb
      cases e
      refine op_isN pins s σ H _ _ v u Q I rx ry ⟨rfl, ?_⟩
      have : decide (x = V.non) = decide (a = D.non) := by cases ra <;> rfl
      rw [this]; exact h
    · cases e
  · split at e
    · cases rb
      cases e
      refine op_notN pins s σ H _ _ v u Q I rx ry ⟨rfl, ?_⟩
      have : decide (x = V.non) = decide (a = D.non) := by cases ra <;> rfl
      rw [this]; exact h
    · cases e
  · split at e
    · cases ra; cases rb; cases e
      exact op_in_str pins s σ H _ _ v u Q I rx ry ⟨_, _, rfl, rfl, h⟩
    · split at e
      · split at e
        · rename_i hx
          obtain ⟨p, ds, h1, h2, h3, h4, rfl⟩ := inr rfl hx e
          exact op_inD hr pins s σ H _ _ v u Q I rx ry ⟨p, ds, by rw [hK]; exact h1, by rw [hK]; exact h2, h3, h4, h⟩
        · cases e
      · cases e
  · split at e
    · cases ra; cases rb; cases e
      exact op_notin_str pins s σ H _ _ v u Q I rx ry ⟨_, _, rfl, rfl, h⟩
    · split at e
      · split at e
        · rename_i hx
          rw [Option.map_eq_some_iff] at e
          obtain ⟨c', e, rfl⟩ := e
          obtain ⟨p, ds, h1, h2, h3, h4, rfl⟩ := inr rfl hx e
          exact op_notInD hr pins s σ H _ _ v u Q I rx ry ⟨p, ds, by rw [hK]; exact h1, by rw [hK]; exact h2, h3, h4, h⟩
        · cases e
      · cases e
  · split at e
    · cases ra; cases rb; cases e
      exact op_lt pins s σ H _ _ v u Q I rx ry ⟨_, _, rfl, rfl, h⟩
    · split at e
      · rename_i ns ms h1 h2
        cases e
        cases ra with
        | tup t1 r1 =>
          cases rb with
          | tup t2 r2 =>
            rw [intsOf_eq h1] at r1
            rw [intsOf_eq h2] at r2
            rw [r1.ints_of] at t1
            rw [r2.ints_of] at t2
            exact op_ltT (by omega) pins s σ H _ _ v u Q I rx ry ⟨_, _, _, _, rfl, rfl, by rw [hK]; exact t1, by rw [hK]; exact t2, h⟩
      · cases e
    · cases e
  · split at e
    · cases ra; cases rb; cases e
      exact op_le pins s σ H _ _ v u Q I rx ry ⟨_, _, rfl, rfl, h⟩
    · cases e
  · split at e
    · cases ra; cases rb; cases e
      exact op_gt pins s σ H _ _ v u Q I rx ry ⟨_, _, rfl, rfl, h⟩
    · cases e
  · split at e
    · cases ra; cases rb; cases e
      exact op_ge pins s σ H _ _ v u Q I rx ry ⟨_, _, rfl, rfl, h⟩
    · cases e
theorem cmpR_ok {op : CmpOp} (hK : X.K = W.K) (hr : X.A.units + 65 < cLine) (I : Inv X pins σ H s) (r : Rel W ρ G H) (rx : RelV x v) (ry : RelV y u) (ra : RV W.K ρ G.length H a x) (rb : RV W.K ρ G.length H b y)
    (h : Pst W w ρ G H σ (rlD W) (cmpR op a b G) Q) : wpAny (model X.prog X.w) X.A (compareOp op v u) (EP X pins σ Q) X.xe s := by
  unfold cmpR at h
  split at h
  · rename_i c hc
    exact cmp_ok hK hr I r rx ry ra rb hc (fin_ok r h (.bl c))
  · exact h.elim
/-- a value's truth -/
theorem truV_of {k : Bool} (r : Rel W ρ G H) (ra : RV W.K ρ G.length H a x) (e : truthy G a = some k) : TruV W.K x H k := by
  cases ra with
  | non => simp only [truthy, Option.some.injEq] at e; subst e; exact rfl
  | bl b => simp only [truthy, Option.some.injEq] at e; subst e; exact rfl
  | int i => simp only [truthy, Option.some.injEq] at e; subst e; exact rfl
  | str z =>
    simp only [truthy] at e
    split at e
    · rename_i hz
      cases e
      refine ⟨hz, ?_⟩
      rw [Bool.eq_iff_iff]
      simp
    · cases e
  | tup t1 r1 =>
    simp only [truthy, Option.some.injEq] at e
    subst e
    refine .inr (.inl ⟨_, t1, ?_⟩)
    rename_i xs a0 vs
    cases r1 <;> rfl
  | ref i hi =>
    simp only [truthy] at e
    split at e
    · rename_i xs hx
      cases e
      obtain ⟨vs, q1, q2⟩ := r.obj _ _ hx
      refine .inl ⟨_, .of q1, ?_⟩
      cases q2 <;> rfl
    · cases e
  | @scr ns a hs =>
    simp only [truthy, Option.some.injEq] at e
    subst e
    refine .inl ⟨_, hs.sq, ?_⟩
    cases ns <;> rfl
theorem tru_ok' {k : Bool} (hK : X.K = W.K) (I : Inv X pins σ H s) (r : Rel W ρ G H) (rx : RelV x v) (ra : RV W.K ρ G.length H a x) (e : truthy G a = some k) {Q : Bool → Hp → Prop} (h : Q k H) :
    wpAny (model X.prog X.w) X.A (PySem.truthy v) (TP X pins σ Q) X.xe s := by
  refine L2.tru_ok pins s σ H x v Q I rx ⟨k, ?_, h⟩
  rw [hK]
  exact truV_of r ra e
end
end Eng
end
section
set_option Elab.async false
set_option linter.all false
set_option maxRecDepth 100000
set_option maxHeartbeats 1000000
/-! The engine, part 2b: small checks of written expressions, forms of calls. Own work. -/
namespace Eng
open PySem PySem.Spec PyProof.Rows L2
/-! ### the checker's small parts -/
def visB (sc : Scope) (x : Str) : Bool := match sc.names.lookup x with
  | some .local => true
  | some .cell => true
  | some .free => true
  | _ => false
def locB (sc : Scope) (x : Str) : Bool := match sc.names.lookup x with
  | some .local => true
  | some .cell => true
  | _ => false
theorem visB_ok {sc : Scope} {x : Str} (h : visB sc x = true) : Vis sc x := by
  unfold visB at h
  split at h
  · exact .inl (by assumption)
  · exact .inr (.inl (by assumption))
  · exact .inr (.inr (by assumption))
  · cases h
theorem locB_ok {sc : Scope} {x : Str} (h : locB sc x = true) : Loc sc x := by
  unfold locB at h
  split at h
  · exact .inl (by assumption)
  · exact .inr (by assumption)
  · cases h
def okn (x : Str) : Bool := !(x == ("__debug__" : Str)) && !(x == ("__classdict__" : Str)) && !(x == ("__name__" : Str))
theorem okn_ok {x : Str} (h : okn x = true) : (x == ("__debug__" : Str)) = false ∧ (x == ("__classdict__" : Str)) = false ∧ x ≠ "__name__" := by
  unfold okn at h
  simp only [Bool.and_eq_true, Bool.not_eq_true'] at h
  exact ⟨h.1.1, h.1.2, fun e => by rw [e] at h; simp at h⟩
def glB (sc : Scope) (x : Str) : Bool := decide (sc.names.lookup x = some .globalImplicit) && okn x
def conB : D → Const → Bool
  | .non, .none => true
  | .bl a, .bool b => a == b
  | .int i, .int j => i == j
  | .str x, .str y => decide (x = y)
  | _, _ => false
def setB : Expr → Bool
  | .Set .. => true
  | _ => false
def slcB : Expr → Bool
  | .Slice .. => true
  | _ => false
def starB : Expr → Bool
  | .Starred .. => true
  | _ => false
def callB : Expr → Bool
  | .Call (.Name x _) [] [] _ => x == ("super" : Str)
  | _ => false
/-- forms whose truth is not asked by their value -/
def formB : Expr → Bool
  | .UnaryOp .Not .. => true
  | .BoolOp .. => true
  | .IfExp .. => true
  | .Compare .. => true
  | _ => false
theorem behind_no {op : CmpOp} {e : Expr} (h : setB e = false) : behindInMarks op e = false := by
  cases e <;> first | rfl | (simp [setB] at h)
theorem last_no {o1 o2 : CmpOp} {b e : Expr} (h : setB e = false) : lastMarks [o1, o2] [b, e] = false := by
  show behindInMarks o2 e = false
  exact behind_no h
theorem plain_ix {e : Expr} (h : slcB e = false) : PlainIx e := by
  intro o i
  cases e <;> first | rfl | (simp [slcB] at h)
theorem star_cons {e : Expr} {es : List Expr} {env : Env} (h : starB e = false) : starEach (e :: es) env = (false, eval e env) :: starEach es env := by
  cases e <;> first | rfl | (simp [starB] at h)
theorem attr_base {e : Expr} {f : Str} {env : Env} (h : callB e = false) : attributeBase e f env (eval e env) = eval e env := by
  cases e <;> try rfl
  rename_i fn args kws pos
  cases fn <;> try rfl
  cases args <;> try rfl
  cases kws <;> try rfl
  rename_i id p
  have h : (id != ("super" : Str)) = true := by
    have h2 : (id == ("super" : Str)) = false := h
    rw [bne, h2]; rfl
  exact L2.abase_call h
theorem tru_form {e : Expr} {env : Env} (h : formB e = false) : ∀ whole, isTrue e env whole = (do let v ← whole; standAt e.pos; holding [v] (PySem.truthy v)) := by
  intro whole
  cases e <;> first | rfl | (rename_i op x p; cases op <;> first | rfl | (simp [formB] at h)) | (simp [formB] at h)

def kwB : List Keyword → List Str → Bool
  | [], [] => true
  | ⟨some x, _, _⟩ :: r, y :: ys => decide (x = y) && kwB r ys
  | _, _ => false
theorem kw_all {env : Env} {pos : Pos} : ∀ (kws : List Keyword) (ks : List Str), kwB kws ks = true → (backToKw pos (keywordEach kws env)).all (·.1.isSome) = true ∧ (backToKw pos (keywordEach kws env)).filterMap (·.1) = ks ∧ (backToKw pos (keywordEach kws env)).any (·.1.isNone) = false
  | [], [], _ => ⟨rfl, rfl, rfl⟩
  | ⟨some x, v, p⟩ :: r, y :: ys, h => by
    simp only [kwB, Bool.and_eq_true] at h
    obtain ⟨h1, h2, h3⟩ := kw_all (env := env) (pos := pos) r ys h.2
    have e := of_decide_eq_true h.1
    subst e
    refine ⟨?_, ?_, ?_⟩
    · show ((some x).isSome && (backToKw pos (keywordEach r env)).all (·.1.isSome)) = true
      rw [h1]; rfl
    · show x :: (backToKw pos (keywordEach r env)).filterMap (·.1) = _
      rw [h2]
    · show ((some x).isNone || (backToKw pos (keywordEach r env)).any (·.1.isNone)) = false
      rw [h3]; rfl
  | [], _ :: _, h => by simp [kwB] at h
  | ⟨none, _, _⟩ :: _, _, h => by cases ‹List Str› <;> simp [kwB] at h
  | ⟨some _, _, _⟩ :: _, [], h => by simp [kwB] at h
def plainB (es : List Expr) : Bool := es.all fun e => !starB e
theorem plain_any {env : Env} {pos : Pos} : ∀ (es : List Expr), plainB es = true → (backTo pos (starEach es env)).any (·.1) = false
  | [], _ => rfl
  | e :: es, h => by
    unfold plainB at h
    rw [List.all_cons, Bool.and_eq_true] at h
    rw [star_cons (by simpa using h.1)]
    show (false || (backTo pos (starEach es env)).any (·.1)) = false
    rw [plain_any es h.2]; rfl
theorem mcall_eq {o : Expr} {nm : Str} {apos pos : Pos} {es : List Expr} {kws : List Keyword} {env : Env} {base : Sem Value} (hb : attributeBase o nm env (eval o env) = base)
    (hf : methodCallForm (es.length + kws.length) (backTo pos (starEach es env)) (backToKw pos (keywordEach kws env)) = true) (hl : (apos.endLine == pos.line) = true) :
    eval (.Call (.Attribute o nm apos) es kws pos) env = (do
      let ov ← base
      standAt apos.atName
      let (f, first) ← holding [ov] (getMethod ov nm (do return (← importBound o env).getD true))
      callWith pos f first (backTo pos (starEach es env)) (backToKw pos (keywordEach kws env))) := by
  subst hb
  show (do
    let ov ← attributeBase o nm env (eval o env)
    standAt apos.atName
    methodCall o nm apos pos env ov (es.length + kws.length) (backTo pos (starEach es env)) (backToKw pos (keywordEach kws env))) = _
  congr 1
  funext ov
  congr 1
  funext _
  unfold methodCall calleeOf methodCallPos
  simp only [hf, hl, if_true, Bool.not_true, Bool.false_or, pure_bind]
theorem form_ok {es : List Expr} {kws : List Keyword} {ks : List Str} {env : Env} {pos : Pos} (he : plainB es = true) (hk : kwB kws ks = true) (hn : es.length + kws.length < 29) :
    methodCallForm (es.length + kws.length) (backTo pos (starEach es env)) (backToKw pos (keywordEach kws env)) = true := by
  have h1 : (backTo pos (starEach es env)).all (!·.1) = true := by
    have q := plain_any (env := env) (pos := pos) es he
    rw [List.any_eq_false] at q
    rw [List.all_eq_true]
    intro x hx
    have := q x hx
    simpa using this
  have h2 := (kw_all (env := env) (pos := pos) kws ks hk).1
  unfold methodCallForm
  rw [h1, h2]
  simp only [Bool.true_and, decide_eq_true_eq]
  split <;> omega

end Eng
end
section
set_option Elab.async false
set_option linter.all false
set_option maxRecDepth 100000
set_option maxHeartbeats 1000000
/-! The engine: an own exception whose __init__ says super().__init__(x); self.x = x. Own work. -/
namespace Eng
open PySem PySem.Spec PyProof.Rows L2 PySem.W NdefX

/-- the written body -/
structure XBody (f : Str) (p : List Pos) (body : List Stmt) : Prop where
  ln : ((p.getD 2 ⟨0,0,0,0⟩).endLine == (p.getD 4 ⟨0,0,0,0⟩).line) = true
  eq : body = [.Expr (.Call (.Attribute (.Call (.Name "super" (p.getD 0 ⟨0,0,0,0⟩)) [] [] (p.getD 1 ⟨0,0,0,0⟩)) "__init__" (p.getD 2 ⟨0,0,0,0⟩)) [.Name f (p.getD 3 ⟨0,0,0,0⟩)] [] (p.getD 4 ⟨0,0,0,0⟩)) (p.getD 5 ⟨0,0,0,0⟩),
    .Assign [.Attribute (.Name "self" (p.getD 6 ⟨0,0,0,0⟩)) f (p.getD 7 ⟨0,0,0,0⟩)] (.Name f (p.getD 8 ⟨0,0,0,0⟩)) (p.getD 9 ⟨0,0,0,0⟩)]
structure XCl (P : Program) (K : PySem.W.Frag) (mg : Str → Option Value) (C fI cc cda : Addr) (fd : FuncData) (f : Str) : Prop where
  ox : OexC K C
  ini : findIn K (.ref C) "__init__" = some (some (.ref fI))
  tyI : typeIn K (.ref fI) = some (.type "function")
  lk : ∃ oc od osl, K.lookup fI = some ⟨oc, od, .func fd, osl⟩
  fdE : ∃ qual params body scope dV kV doc pm an ct, fd = ksFn "__init__" qual params body scope dV kV doc pm an (.ref cda) ct cc ∧ (∃ ps, XBody f ps body) ∧ NScope ["self", f, "__class__"] ["self", f] ["__class__"] scope ∧
    scope.names.lookup ("super" : Str) = some .globalImplicit ∧ (∃ ar : Arg, (params.posonlyargs ++ params.args).head? = some ar ∧ ar.arg = "self") ∧ codeIn K (.ref cda) qual = true
  code : ∃ ccl cdd vs ccs file tf, K.lookup cda = some ⟨ccl, cdd, .fields vs, ccs⟩ ∧ vs[2]? = some (.str file tf) ∧ ((P.main.file : Str) == file) = true
  cell : ∃ cl cld csl, K.lookup cc = some ⟨cl, cld, .cell (some (.ref C)), csl⟩
  cls : ∃ cd, clsIn K C = some cd ∧ alongIn K "__init__" ((cd.mro.dropWhile (· != .ref C)).drop 1) = some (some (.builtin "ValueError.__init__"))
  sub : mroIn K C (.ref C) = some true
  sup : mg "super" = none
  top : (P.main.scope.names.lookup ("super" : Str)).isSome = false
  opq : nsIn K cStatics "thirdparty.any" = some none
  subV : subIn K (.ref C) (.type "ValueError") = some true
  noF : findIn K (.ref C) f = some none
  fnm : (f == ("__debug__" : Str)) = false ∧ (f == ("__classdict__" : Str)) = false
def spX (C : Addr) (f : Str) : Sp := fun vs H Q _ => ∃ (a : Addr) (v : V), vs = [.ref a, v] ∧ H a = some (exo a C none) ∧ ∀ dx, H dx = none → dx ≠ a → Q .non (upd (upd H dx (exd dx [(f, v)])) a (exo a C (some dx)))

/-- the built-in __init__ bound to the new exception, called -/
theorem call_mw {prog : Program} {w : World} {A : Around} {E : Value → Shared → Prop} {h : Heap} {gs : Array GenState} {d : Drawn} {t : Nat} {os : OsState}
    {nm q : Str} {C N : Addr} {bs bm : List Value} {sn : List Str} {sub : List Value} {ab : Bool} {col : Option Bool} {dd : Option Addr} {k0 k1 k2 k3 k5 : Option Value} {u e t0 : Addr} {rest : List Value} {Q : Value → Shared → Prop}
    (hC : h.get? C = some (excClassObj nm q C N bs bm true sn sub ab col dd k0 k1 k2 k3 k5 "ValueError.__new__")) (he : h.get? e = some ({ cls := .ref C, dict := none, data := .fields #[.ref t0, .none, .none, .none, .bool false, .none] } : Obj)) (hu : h.get? u = some (kxs_mw "ValueError.__init__" e)) (hrest : rest.length ≤ sizeLine)
    (hq : ∀ h' t1, (∀ b o, b ≠ e → h.get? b = some o → h'.get? b = some o) → h'.get? e = some ({ cls := .ref C, dict := none, data := .fields #[.ref t1, .none, .none, .none, .bool false, .none] } : Obj) → Q .none ⟨h', gs, d, t, os⟩) :
    wpAny (model prog w) A (call (.ref u) rest) Q E ⟨h, gs, d, t, os⟩ := by
  refine wpAny_call (codeAny_of_tree ?_)
  show wpAny _ A.in1 (callAny (.ref u) ⟨rest, []⟩) _ _ _
  simp only [callAny]
  refine wpAny_bind (wpAny_load hu ?_)
  simp only [kxs_mw, show (Value.type "method-wrapper" == Value.type "method" || Value.type "method-wrapper" == Value.type "builtin_function_or_method" || Value.type "method-wrapper" == Value.type "method-wrapper") = true by decide, if_true]
  refine KFB.if_so (by decide) ?_
  refine wpAny_bind (check_bound_init F.excBase_ValueError.toExcCallFacts hC he rfl ?_)
  refine wpAny_bind (wpAny_pure (wpAny_pure ?_))
  refine ⟨plainId_quiet F.excBase_ValueError.init.plain _, codeAny_builtin F.excBase_ValueError.initEntry ?_⟩
  exact exc_init_tree (cls := .ref C) (t0 := t0) (dv := none) (c2 := .none) (c3 := .none) (b4 := .bool false) he hrest fun h' k e' t' => hq h' _ k e'

theorem xinit_ok {P : Program} {w : World} {K : PySem.W.Frag} {mg : Str → Option Value} {base : Heap} {C fI cc cda : Addr} {fd : FuncData} {f : Str} (T : XCl P K mg C fI cc cda fd f) :
    FnOk P w K mg base (CX P w) 1 fI fd ["self", f] (spX C f) := by
  refine ⟨fun vs H Q E h => ?_, fun A outer s H args us vs Q E hr e0 hb r hsp => ?_⟩
  · obtain ⟨a, v, rfl, _⟩ := h; rfl
  obtain ⟨a, v, rfl, ha, hQ⟩ := hsp
  obtain ⟨oc, od, osl, lk⟩ := T.lk
  obtain ⟨qual, params, body, scope, dV, kV, doc, pm, an, ct, rfl, ⟨ps, hbody⟩, S, hsup, ⟨ar, har, harn⟩, hcd⟩ := T.fdE
  have hln := hbody.ln
  have hbody := hbody.eq
  have KX : K.In s.heap := e0.mod.kin.keeps fun b o e => (e0.bs b o e).1
  have lim : s.heap.NoLimit := e0.mod.nolimit.keeps fun b o e => (e0.bs b o e).1
  refine ks_codeAny_call_defAt hr.depth (KX _ _ lk) rfl lim (codeRec_of KX hcd) rfl hb S.nocell (fun x hx => S.par _ (List.of_mem_zip hx).1) (fun h₀ hns hkeep => ?_) S.co S.gen S.kind
  obtain ⟨cl, cld, csl, hcell⟩ := T.cell
  obtain ⟨ccl, cdd, vs', ccs, file, tf, hcode, hvs, hfile⟩ := T.code
  obtain ⟨cdC, hcls, hal⟩ := T.cls
  have hNn : ∀ b o, K.lookup b = some o → H b = none := fun b o e => (e0.bs b o (e0.mod.kin b o e)).2
  have CA : CellsAt [("__class__", cc)] ["__class__"] [some (V.ref C)] s.heap H := by
    refine ⟨rfl, fun y c hy => ?_, fun x y c hx hy => ?_, fun i y hi => ?_⟩
    · have e : c = cc := by
        rw [List.lookup_cons] at hy
        split at hy
        · exact (Option.some.inj hy).symm
        · cases hy
      subst e
      exact ⟨hNn _ _ hcell, _, _, KX _ _ hcell, rfl⟩
    · have key : ∀ z, ([(("__class__" : Str), cc)] : List (Str × Addr)).lookup z = some c → z = "__class__" := by
        intro z hz
        rw [List.lookup_cons] at hz
        split at hz
        · rename_i q; exact eq_of_beq q
        · cases hz
      rw [key x hx, key y hy]
    · cases i with
      | zero =>
        have e : ("__class__" : Str) = y := by simpa using hi
        subst e
        exact ⟨cc, by rw [List.lookup_cons, beq_self_eq_true], fun z hz => by
          have e : V.ref C = z := by simpa using hz
          subst e
          exact ⟨.ref C, rfl, _, KX _ _ hcell, rfl⟩⟩
      | succ n => simp at hi
  let NFx : NF := ⟨"__init__", qual, params, body, scope, [("__class__", cc)], cda⟩
  have I0 := inv_startN (K := K) (mg := mg) (CX := CX P w) (E := E) (f := fI) (F := NFx) (tk := s.toks + ((["self", f] : List Str).zip us).length) S hr.hd e0 rfl r CA hns hkeep
  obtain ⟨u0, us', hus⟩ : ∃ u0 u1, us = [u0, u1] := by
    cases r with
    | cons _ r => cases r with
      | cons _ r => cases r; exact ⟨_, _, rfl⟩
  subst hus
  show PySem.wpAt _ (A.deeper (ksEnv qual scope s.heap.objs.size fI (.ref cda) cc)) (.func body (ksEnv qual scope s.heap.objs.size fI (.ref cda) cc)) (execs body (ksEnv qual scope s.heap.objs.size fI (.ref cda) cc)) _ _ _
  have kS : scope.names.lookup ("self" : Str) = some .local := S.par _ List.mem_cons_self
  have kF : scope.names.lookup f = some .local := S.par _ (List.mem_cons_of_mem _ List.mem_cons_self)
  have kC : scope.names.lookup ("__class__" : Str) = some .free := S.frk _ List.mem_cons_self
  have Kh : K.In h₀ := KX.keeps hkeep
  have e0' : u0 = .ref a := by cases r with | cons h _ => exact h
  subst e0'
  rw [hbody]
  refine ks_wpAt_execs_cons (ks_wpAt_Expr_any (ks_wpAt_MethodCall (ks_wpAt_super_base hsup kC rfl rfl (Kh _ _ lk) rfl har rfl (Kh _ _ hcode) rfl hvs hfile T.top ?_) (mcall_eq rfl (form_ok (ks := []) rfl rfl (by show 1 + 0 < 29; omega)) hln)) (by simp [interactive, S.kind]))
  obtain ⟨mb, hb1, hb2⟩ := I0.mod.blt
  refine ks_loadName_global S.kind hsup (Calls.loadGlobal_builtin (env := ksEnv qual scope s.heap.objs.size fI (.ref cda) cc) (I0.mod.glob.keeps I0.bk) T.sup (hb1.keeps I0.bk) ((hb2 _ (by decide +kernel)).trans (show bootBuiltins "super" = some (.type "super") by first | rfl | kernel_rfl)) ⟨rfl, ?_⟩)
  refine wpAny_loadName_free S.kind kC rfl ⟨_, Kh _ _ hcell, rfl⟩ ?_
  rw [harn]
  have hne : ("self" : Str) ≠ f := fun e => by
    have q := S.nd
    rw [← e] at q
    simp at q
  refine wpAny_loadName_local S.kind kS hns (v := .ref a) ?_ ?_
  · show (((["self", f] : List Str).zip [Value.ref a, us']).reverse.lookup ("self" : Str)) = some (.ref a)
    have : ((["self", f] : List Str).zip [Value.ref a, us']).reverse = [(f, us'), ("self", .ref a)] := rfl
    rw [this, List.lookup_cons, show (("self" : Str) == f) = false by simpa using hne, List.lookup_cons, beq_self_eq_true]
  obtain ⟨oC, hC1, hC2⟩ : ∃ oD, h₀.get? C = some oD ∧ oD.data = .cls cdC := by
    unfold clsIn at hcls
    split at hcls
    · rename_i c d cd' sl ho
      cases hcls
      exact ⟨_, Kh _ _ ho, rfl⟩
    · cases hcls
  have hNX : HOk P w H h₀ := I0.hok
  obtain ⟨t0, hoe⟩ := exo_at hNX ha
  refine ks_wpAny_isType_cls hC1 hC2 ⟨rfl, ?_⟩
  refine ks_wpAny_call_super hC1 hC2 hoe rfl (fun c e => by cases e) (looks_mroIn Kh T.sub) (fun h1 e1 k1 => ?_)
  have K1 : K.In h1 := Kh.keeps k1
  have hI : Looks (model P w) h1 (isInstance (.ref a) (.type "ValueError")) true := (InstAt.type (⟨k1 _ _ hoe, rfl, rfl, trivial⟩ : InstAt h1 a _ C none)).andThen (looks_subIn K1 T.subV)
  refine kxs_getMethod kxs_ValueError e1 (looks_opaque K1 T.opq) (l₀ := cdC.mro) ?_ rfl K1 hal hI ?_ rfl ?_
  · exact fun A Q E s k q => wpAny_bind ((looks_clsIn K1 hcls) A _ E s k (wpAny_pure q))
  · intro e
    rw [e, hC1] at hoe
    cases hoe
    cases hC2
  have k2 : ∀ b o, h₀.get? b = some o → (h1.push (kxs_mw "ValueError.__init__" a)).get? b = some o := fun b o e => Heap.get?_push_of_some _ (k1 _ _ e)
  have hmw : (h1.push (kxs_mw "ValueError.__init__" a)).get? h1.objs.size = some (kxs_mw "ValueError.__init__" a) := Heap.get?_push_at rfl rfl
  have hmf : ((["self", f] : List Str).zip [Value.ref a, us']).reverse.lookup f = some us' := by
    have : ((["self", f] : List Str).zip [Value.ref a, us']).reverse = [(f, us'), ("self", .ref a)] := rfl
    rw [this, List.lookup_cons, beq_self_eq_true]
  show wpAny _ _ (callWith _ (.ref h1.objs.size) [] _ []) _ _ _
  refine kxs_callWith (i := "ValueError.__init__") (x := a) rfl (Calls.evalArgs_plain (Calls.spliced_cons (wpAny_Name (wpAny_loadName_local S.kind kF (hns.keeps k2) hmf ?_) T.fnm.1)))
  refine Calls.spliced_nil ⟨hmw, ?_⟩
  obtain ⟨nm, q, N, bs, bm, sn, sub, ab, col, dd, c0, c1, c2, c3, c5, hCo, hbm⟩ := T.ox.cls
  refine call_mw (k2 _ _ (Kh _ _ hCo)) (k2 _ _ hoe) hmw (by rw [sizeLine_eq]; exact (by decide : 1 ≤ 16777216)) fun h3 t1 k3 hx3 => ?_
  -- the second row
  have I1 := I0.write (t' := s.toks + ((["self", f] : List Str).zip [Value.ref a, us']).length + 1) (h' := h3) (x := a) (e := a) (o := exo a C none) (by rw [ha]; exact True.intro) (.inl rfl) (fun b u hb e => k3 b u hb (k2 b u e)) ⟨_, hx3⟩ (exo_ok hx3)
  have eu : upd H a (exo a C none) = H := by
    funext b
    by_cases hb : b = a
    · rw [hb, upd_same, ha]
    · rw [upd_ne hb]
  rw [eu] at I1
  refine wpAt_of_wpAny (wpAny_execs_cons (plainObj_wpAny_Assign_Attribute ?_))
  have n3 : h3.Ns s.heap.objs.size (fun x => ((["self", f] : List Str).zip [Value.ref a, us']).reverse.lookup x) := by
    obtain ⟨o, es, ep, q1, q2⟩ := hns.keeps k2
    refine ⟨o, es, ep, k3 _ _ (fun z => ?_) q1, q2⟩
    rw [← z] at ha
    have := I0.hok.lt ha
    have z2 := (e0.hok.lt ha)
    exact absurd z2 (Nat.lt_irrefl _)
  refine wpAny_Name (wpAny_loadName_local S.kind kF n3 hmf ?_) T.fnm.1
  refine wpAny_Name (wpAny_loadName_local S.kind kS n3 (v := .ref a) ?_ ?_) (by decide)
  · have : ((["self", f] : List Str).zip [Value.ref a, us']).reverse = [(f, us'), ("self", .ref a)] := rfl
    rw [this, List.lookup_cons, show (("self" : Str) == f) = false by simpa using hne, List.lookup_cons, beq_self_eq_true]
  have ry : L2.RelV v us' := by
    cases r with
    | cons _ r => cases r with
      | cons h _ => exact h
  refine ost_new (X := ncx (CX P w) P w K mg base ["self", f, "__class__"] NFx fI A outer s H E) T.ox I1 ha T.noF ry fun dx s' hdx hda J => ?_
  refine wpAny_execs_nil ?_
  exact ⟨.non, _, J.os, J.bare, J.base, J.hok, rfl, hQ dx hdx hda⟩
end Eng
end
section
set_option Elab.async false
set_option linter.all false
set_option maxRecDepth 100000
set_option maxHeartbeats 1000000
/-! The engine, part 3: what the context must give; names, operators, tests, displays, calls. Own work. -/
namespace Eng
open PySem PySem.Spec PyProof.Rows L2

/-- what stands behind a name of the program's top -/
structure Tb where
  P : Prg
  fnm : List (Option Str)
  cnm : List Str
  xnm : List Str
  cst : List (Str × D)
  free : List Str
/-- the facts of a world: addresses of the defs, the parameters -/
structure Wf where
  W : Wd
  fA : Nat → Addr
  fd : Nat → FuncData
  ps : Nat → List Str
/-- a def with its promise; nothing is being shown -/
structure FnG (P : Program) (w : World) (K : PySem.W.Frag) (mg : Str → Option Value) (base : Heap) (k : Nat) (f : Addr) (fd : FuncData) (ps : List Str) (sp : Sp) : Prop where
  len : ∀ vs H Q E, sp vs H Q E → vs.length = ps.length
  run : ∀ (A : Around) (outer : List Env) (s : Shared) (H : Hp) (args : Args) (us : List Value) (vs : List V) (Q : VK) (E : XK), A.guards = some [] → Room (k + 2) A → Env0 P w K mg base A outer s H →
    BindsTo s fd args (ps.zip us) → Vals vs us → sp vs H Q E → codeAny (model P w) A (.call (.ref f) args) (CR (CX P w) outer P w H s Q E) s
/-- the promise by the evaluator -/
def PstF (W : Wd) (ρ : Nat → Addr) (G : Hh) (H : Hp) (r : R D) (Q : VK) (E : XK) : Prop := match r with
  | .ok d G' => ∀ ρ' H' v, Step W ρ G H ρ' G' H' → RV W.K ρ' G'.length H' d v → Q v H'
  | .exc c f G' => ∀ ρ' H' cls dd, Step W ρ G H ρ' G' H' → RX W ρ' G'.length H' c f cls dd → E cls dd H'
  | .bad => False
def spI (W : Wd) (n : Nat) (cf : List D → Hh → R D) : Sp := fun vs H Q E => vs.length = n ∧ ∃ ρ G as, Rel W ρ G H ∧ RVs W.K ρ G.length H as vs ∧ PstF W ρ G H (cf as G) Q E
structure ShOk (F : Wf) (p : Shp) : Prop where
  len : p.plan.length = (F.ps p.f).length
  to : ∀ (s : Shared) (us ws : List Value), F.W.K.In s.heap → us.length = p.n → ws.length = p.ks.length → ∃ gs : List Value, BindsTo s (F.fd p.f) ⟨us, p.ks.zip ws⟩ ((F.ps p.f).zip gs) ∧
    ∀ (ρ : Nat → Addr) (n : Nat) (H : Hp) (ds as : List D) (vs : List V), RVs F.W.K ρ n H ds vs → Vals vs (us ++ ws) → planOf ds p.plan = some as → ∃ zs, RVs F.W.K ρ n H as zs ∧ Vals zs gs
def tyV (W : Wd) : Ty → Value
  | .b n => .type n
  | .c k => .ref (W.cA k)
  | .x e => .ref (W.xA e)
/-- what isinstance asks of an own class -/
structure ClC (K : PySem.W.Frag) (D : Addr) : Prop where
  cl : (PySem.W.clsIn K D).isSome = true
  ha : PySem.W.findIn K (.ref D) "__class__" = some (some (.builtin "object.__class__"))
  hn : PySem.W.specialIn K (.builtin "object.__class__") "__get__" = some (some (.builtin "getset_descriptor.__get__"))
  ht : PySem.W.takesIn K (.builtin "object.__class__") = some true
  hm : PySem.W.mroIn K D (.type "object") = some true
/-- what == asks of an own class -/
structure EqC (K : PySem.W.Frag) (C g : Addr) : Prop where
  eqF : PySem.W.findIn K (.ref C) "__eq__" = some (some (.ref g))
  fn : PySem.W.isFn K (.ref g) = true
  neF : PySem.W.findIn K (.ref C) "__ne__" = some (some (.builtin "object.__ne__"))
  obj : PySem.W.subIn K (.ref C) (.type "object") = some true
  dn : ∀ T ∈ ["NoneType", "bool", "int", "str", "tuple", "list", "dict"], PySem.W.subIn K (.ref C) (.type T) = some false
  up : ∀ T ∈ ["NoneType", "bool", "int", "str", "tuple", "list", "dict"], PySem.W.subIn K (.type T) (.ref C) = some false
/-- what the top has left -/
-- the field by name, or left out
def BindX (K : PySem.W.Frag) (fd : FuncData) (f : Str) : Prop := ∀ (s : Shared) (a u : Value), K.In s.heap → BindsTo s fd ⟨[a], [(f, u)]⟩ ((["self", f] : List Str).zip [a, u]) ∧ BindsTo s fd ⟨[a], []⟩ ((["self", f] : List Str).zip [a, .none])
structure Tx (t : Tb) (F : Wf) (Pr : Program) (mg : Str → Option Value) : Prop where
  hP : F.W.P = t.P
  sm : (F.W.K.lookup sysModules).isSome = true
  fn : ∀ (i : Nat) (x : Str), t.fnm[i]? = some (some x) → mg x = some (.ref (F.fA i)) ∧ PySem.W.keepIn F.W.K (.ref (F.fA i)) = true
  cn : ∀ (k : Nat) (x : Str), t.cnm[k]? = some x → mg x = some (.ref (F.W.cA k)) ∧ Cls F.W.K (F.W.cA k) ∧ PySem.W.keepIn F.W.K (.ref (F.W.cA k)) = true
  mk_ : ∀ (k : Nat) (cl : Clz), t.P.cls[k]? = some cl → Mk F.W.K (F.W.cA k) (F.fA cl.init) ∧ Cls F.W.K (F.W.cA k)
  mt : ∀ (k : Nat) (cl : Clz) (m f : Nat), t.P.cls[k]? = some cl → cl.meths.lookup m = some f → Meth F.W.K (F.W.cA k) (F.W.nm m) (F.fA f)
  eqc : ∀ (k : Nat) (cl : Clz) (sh : Nat), t.P.cls[k]? = some cl → cl.eq = some sh → ∃ q : Shp, t.P.shs[sh]? = some q ∧ q.ks = [] ∧ EqC F.W.K (F.W.cA k) (F.fA q.f) ∧ ∀ (j : Nat) (cl' : Clz), t.P.cls[j]? = some cl' → F.W.cA j = F.W.cA k ∨ PySem.W.subIn F.W.K (.ref (F.W.cA j)) (.ref (F.W.cA k)) = some false
  fl : ∀ (k : Nat) (cl : Clz) (f : Nat), t.P.cls[k]? = some cl → cl.flds.contains f = true → NoAttr F.W.K (F.W.cA k) (F.W.nm f) ∧ f < t.P.names.length
  gl : ∀ (x : Str) (d : D), (x, d) ∈ t.cst → ∃ u v, mg x = some u ∧ RelV v u ∧ ∀ ρ n H, RV F.W.K ρ n H d v
  fr : ∀ x ∈ t.free, mg x = none
  sh : ∀ (i : Nat) (p : Shp), t.P.shs[i]? = some p → ShOk F p
  nn : t.P.names.Nodup
  is : ∀ (a b : Ty) (r : Bool), a ∈ t.P.kinds → b ∈ t.P.kinds → isT t.P a b = some r → PySem.W.kitOne F.W.K (tyV F.W a) (tyV F.W b) = some r
  ci : ∀ k, Ty.c k ∈ t.P.kinds → ClC F.W.K (F.W.cA k) ∧ Cls F.W.K (F.W.cA k)
  xi : ∀ e, Ty.x e ∈ t.P.kinds → ClC F.W.K (F.W.xA e) ∧ XfC F.W.K (F.W.xA e)
  xn : ∀ (e : Nat) (x : Str), t.xnm[e]? = some x → mg x = some (.ref (F.W.xA e))
  xc : ∀ (e f : Nat), (t.P.exs[e]?.bind (·.fld)) = some f → f < t.P.names.length ∧ XfC F.W.K (F.W.xA e) ∧ ∃ fI cc cda fd, XCl Pr F.W.K mg (F.W.xA e) fI cc cda fd (F.W.nm f) ∧ Binds F.W.K fd ["self", F.W.nm f] [] ∧ BindX F.W.K fd (F.W.nm f)
  xo : ∀ (e : Nat) (q : Ex), t.P.exs[e]? = some q → q.fld = none → PySem.W.excIn F.W.K (F.W.xA e) [Value.type "ValueError", .type "Exception", .type "BaseException", .type "object"] "ValueError.__new__" = true ∧ PySem.W.keepIn F.W.K (.ref (F.W.xA e)) = true
  xm : ∀ (e k : Nat) (x : Str) (q : Ex), t.xnm[e]? = some x → t.P.exs[k]? = some q → PySem.W.exmOne F.W.K (.ref (F.W.xA k)) (.ref (F.W.xA e)) = some (q.ups.contains e)
/-- the context is good: w is the wish for exceptions -/
structure Gd (t : Tb) (F : Wf) (c : Cfg) (X : Cx) (w : WX) (N : List Str) (sc : Scope) (k : Nat) : Prop where
  T : Tx t F X.prog X.mg
  hK : X.K = F.W.K
  P : c.P = t.P
  hN : X.N = N
  nd : N.Nodup
  hsc : X.env.scope = sc
  calm : X.calm = true
  tk : Takes X w
  rm : Room (k + 2) X.A
  gu : X.A.guards = some []
  fn : ∀ (f : Nat), FnG X.prog X.w X.K X.mg X.base k (F.fA f) (F.fd f) (F.ps f) (spI F.W (F.ps f).length (c.call f))
  mk_ : ∀ (j f : Nat), k = j + 1 → FnG X.prog X.w X.K X.mg X.base j (F.fA f) (F.fd f) (F.ps f) (spI F.W (F.ps f).length (c.make f))
  k0 : k = 0 → ∀ f as G, c.make f as G = .bad

theorem _root_.L2.PE.imp {X : Cx} {e : Expr} {t t' : TE} (h : PE X e t) (f : ∀ σ H Q, t' σ H Q → t σ H Q) : PE X e t' := ⟨fun pins s σ H Q I q => h.run pins s σ H Q I (f σ H Q q)⟩
theorem _root_.L2.PT.imp {X : Cx} {e : Expr} {t t' : TT} (h : PT X e t) (f : ∀ σ H Q, t' σ H Q → t σ H Q) : PT X e t' := ⟨fun pins s σ H Q I q => h.run pins s σ H Q I (f σ H Q q)⟩
section
variable {W : Wd} {w : WX} {ρ : Nat → Addr} {G : Hh} {H : Hp} {σ : L2.St} {α β γ δ : Type} {rl : RL α β} {rl1 : RL γ δ} {Q : β → Hp → Prop} {r : R γ} {k : γ → Hh → R α}
theorem Pst.mid (h : Pst W w ρ G H σ rl (r.bind k) Q) {Q1 : δ → Hp → Prop} (hk : ∀ ρ1 G1 H1 a b, r = .ok a G1 → Step W ρ G H ρ1 G1 H1 → rl1 ρ1 G1.length H1 a b → Pst W w ρ1 G1 H1 σ rl (k a G1) Q → Q1 b H1) :
    Pst W w ρ G H σ rl1 r Q1 := by
  cases r with
  | ok a G1 => exact fun ρ1 H1 b st q => hk ρ1 G1 H1 a b rfl st q (Pst.move st h)
  | exc c f G1 => exact h
  | bad => exact h
end

section
variable {t : Tb} {F : Wf} {c : Cfg} {X : Cx} {w : WX} {N : List Str} {sc : Scope} {k : Nat} (g : Gd t F c X w N sc k)
variable {e a b d : Expr} {pos p : Pos} {m m1 m2 m3 : Sl → Hh → R D} {q q1 q2 : Sl → Hh → R Bool}
theorem Gd.gl (g : Gd t F c X w N sc k) {x : Str} (h : glB sc x = true) : Gl X x ∧ (x == ("__debug__" : Str)) = false ∧ x ≠ "__name__" := by
  unfold glB at h
  rw [Bool.and_eq_true] at h
  obtain ⟨h1, h2, h3⟩ := okn_ok h.2
  refine ⟨?_, h1, h3⟩
  show X.env.scope.names.lookup x = _
  rw [g.hsc]
  exact of_decide_eq_true h.1
include g
theorem s_var {i : Nat} {x : Str} (h1 : N[i]? = some x) (h2 : visB sc x = true) (h3 : okn x = true) : PE X (.Name x pos) (tE F.W w (fun s G => match s[i]? with
    | some (some d) => .ok d G
    | _ => .bad)) := by
  obtain ⟨e1, e2, _⟩ := okn_ok h3
  refine (pe_var (i := i) (by rw [g.hN]; exact h1) (by rw [g.hsc]; exact visB_ok h2) e1 e2).imp ?_
  rintro σ H Q ⟨ρ, sl, G, r, S, h⟩
  dsimp only at h
  split at h
  · rename_i d hd
    obtain ⟨v, hv, rv⟩ := S.at_ i d hd
    exact ⟨v, hv, fin_ok r h rv⟩
  · exact h.elim
theorem s_con {dd : D} {k0 : Const} {j : Nat} (h : conB dd k0 = true) : PE X (.Constant k0 j pos) (tE F.W w (fun _ G => .ok dd G)) := by
  cases dd <;> cases k0 <;> simp only [conB, Bool.false_eq_true] at h
  · exact pe_non.imp fun σ H Q ⟨ρ, sl, G, r, S, h⟩ => fin_ok r h .non
  · have e := beq_iff_eq.mp h
    subst e
    exact pe_bl.imp fun σ H Q ⟨ρ, sl, G, r, S, h⟩ => fin_ok r h (.bl _)
  · have e := beq_iff_eq.mp h
    subst e
    exact pe_int.imp fun σ H Q ⟨ρ, sl, G, r, S, h⟩ => fin_ok r h (.int _)
  · have e := of_decide_eq_true h
    subst e
    exact pe_str.imp fun σ H Q ⟨ρ, sl, G, r, S, h⟩ => fin_ok r h (.str _)
theorem s_glo {x : Str} {dd : D} (h1 : glB sc x = true) (h2 : (x, dd) ∈ t.cst) : PE X (.Name x pos) (tE F.W w (fun _ G => .ok dd G)) := by
  obtain ⟨u, v, e1, e2, e3⟩ := g.T.gl x dd h2
  obtain ⟨g1, g2, _⟩ := g.gl h1
  exact (pe_glob g1 e1 e2 g2).imp fun σ H Q ⟨ρ, sl, G, r, S, h⟩ => fin_ok r h (e3 _ _ _)
theorem s_bin {op : Operator} (ha : PE X a (tE F.W w m1)) (hb : PE X b (tE F.W w m2)) : PE X (.BinOp a op b pos) (tE F.W w (fun s G => (m1 s G).bind fun x G1 => (m2 s G1).bind fun y G2 => binop op x y G2)) := by
  refine ⟨fun pins s σ H Q I ⟨ρ, sl, G, r, S, h⟩ => ?_⟩
  refine wpAny_BinOp (runE ha I r S h fun u s1 ρ1 G1 H1 d1 v I1 rv st1 rd S1 _ h1 => ?_)
  refine runE hb I1 st1.rel S1 h1 fun u2 s2 ρ2 G2 H2 d2 v2 I2 rv2 st2 rd2 S2 _ h2 => ?_
  exact binop_ok g.hK I2 st2.rel rv rv2 (st2.rv rd) rd2 h2
theorem s_neg (ha : PE X a (tE F.W w m1)) : PE X (.UnaryOp .USub a pos) (tE F.W w (fun s G => (m1 s G).bind fun x G1 => match x with
    | .int i => .ok (.int (-i)) G1
    | _ => .bad)) := by
  refine (pe_un un_neg ha).imp fun σ H Q ⟨ρ, sl, G, r, S, h⟩ => ⟨ρ, sl, G, r, S, h.mid fun ρ1 G1 H1 d v _ st rv hh => ?_⟩
  split at hh
  · cases rv
    exact ⟨_, rfl, fin_ok st.rel hh (.int _)⟩
  · exact hh.elim
omit g in
theorem unit65 (g : Gd t F c X w N sc k) : X.A.units + 65 < cLine := by have := g.rm.un; omega
theorem s_cmp {op : CmpOp} (hb0 : setB b = false) (ha : PE X a (tE F.W w m1)) (hb : PE X b (tE F.W w m2)) : PE X (.Compare a [op] [b] pos) (tE F.W w (fun s G => (m1 s G).bind fun x G1 => (m2 s G1).bind fun y G2 => cmpR op x y G2)) := by
  refine ⟨fun pins s σ H Q I ⟨ρ, sl, G, r, S, h⟩ => ?_⟩
  refine wpAny_Compare1 (runE ha I r S h fun u s1 ρ1 G1 H1 d1 v I1 rv st1 rd S1 _ h1 => ?_) (behind_no hb0)
  refine runE hb I1 st1.rel S1 h1 fun u2 s2 ρ2 G2 H2 d2 v2 I2 rv2 st2 rd2 S2 _ h2 => ?_
  exact cmpR_ok g.hK (unit65 g) I2 st2.rel rv rv2 (st2.rv rd) rd2 h2
theorem t_cmp {op : CmpOp} (hb0 : setB b = false) (ha : PE X a (tE F.W w m1)) (hb : PE X b (tE F.W w m2)) : PT X (.Compare a [op] [b] pos) (tT F.W w (fun s G => (m1 s G).bind fun x G1 => (m2 s G1).bind fun y G2 => (cmpR op x y G2).bind asB)) := by
  refine ⟨fun pins s σ H Q I ⟨ρ, sl, G, r, S, h⟩ => ?_⟩
  refine wpAny_isTrue_Compare1 (runE ha I r S h fun u s1 ρ1 G1 H1 d1 v I1 rv st1 rd S1 _ h1 => ?_) (behind_no hb0)
  refine runE hb I1 st1.rel S1 h1 fun u2 s2 ρ2 G2 H2 d2 v2 I2 rv2 st2 rd2 S2 _ h2 => ?_
  unfold cmpR at h2
  split at h2
  · rename_i cc hcc
    refine thn (cmp_ok (Q := fun z H' => z = .bl cc ∧ Q cc H') g.hK (unit65 g) I2 st2.rel rv rv2 (st2.rv rd) rd2 hcc ⟨rfl, h2 ρ2 H2 cc (.refl st2.rel) rfl⟩) fun z s3 ⟨v3, H3, I3, r3, e3, q3⟩ => ?_
    subst e3
    cases r3
    exact wpAny_truthy_bool ⟨H3, I3, q3⟩
  · exact h2.elim
theorem s_val (ha : PE X a (tE F.W w m1)) (hf : formB a = false) : PT X a (tT F.W w (fun s G => (m1 s G).bind fun x G1 => tru G1 x)) := by
  refine ⟨fun pins s σ H Q I ⟨ρ, sl, G, r, S, h⟩ => ?_⟩
  refine isTrue_plain (runE ha I r S h fun u s1 ρ1 G1 H1 d1 v I1 rv st1 rd S1 _ h1 => ?_) (tru_form hf _)
  unfold tru at h1
  split at h1
  · rename_i bb hb
    exact tru_ok' g.hK I1 st1.rel rv rd hb (h1 ρ1 H1 bb (.refl st1.rel) rfl)
  · exact h1.elim
theorem t_not (ha : PT X a (tT F.W w q)) : PT X (.UnaryOp .Not a pos) (tT F.W w (fun s G => (q s G).bind fun x G1 => .ok (!x) G1)) := by
  refine (pt_not ha).imp fun σ H Q ⟨ρ, sl, G, r, S, h⟩ => ⟨ρ, sl, G, r, S, h.mid fun ρ1 G1 H1 d v _ st rv hh => ?_⟩
  subst rv
  exact hh ρ1 H1 (!d) (.refl st.rel) rfl
theorem t_and {rest : List Expr} (ha : PT X a (tT F.W w q1)) (hb : PT X (.BoolOp .And (b :: rest) pos) (tT F.W w q2)) : PT X (.BoolOp .And (a :: b :: rest) pos) (tT F.W w (fun s G => (q1 s G).bind fun x G1 => if x then q2 s G1 else .ok false G1)) := by
  refine ⟨fun pins s σ H Q I ⟨ρ, sl, G, r, S, h⟩ => ?_⟩
  show wpAny _ _ (isTrue _ _ _) _ _ _
  refine isTrue_and (runT ha I r S h fun b1 s1 ρ1 G1 H1 I1 st1 S1 _ h1 => ?_)
  cases b1 with
  | true => exact hb.run pins s1 σ H1 Q I1 ⟨ρ1, sl, G1, st1.rel, S1, h1⟩
  | false => exact ⟨H1, I1, h1 ρ1 H1 false (.refl st1.rel) rfl⟩
theorem t_or {rest : List Expr} (ha : PT X a (tT F.W w q1)) (hb : PT X (.BoolOp .Or (b :: rest) pos) (tT F.W w q2)) : PT X (.BoolOp .Or (a :: b :: rest) pos) (tT F.W w (fun s G => (q1 s G).bind fun x G1 => if x then .ok true G1 else q2 s G1)) := by
  refine ⟨fun pins s σ H Q I ⟨ρ, sl, G, r, S, h⟩ => ?_⟩
  refine isTrue_or (runT ha I r S h fun b1 s1 ρ1 G1 H1 I1 st1 S1 _ h1 => ?_)
  cases b1 with
  | false => exact hb.run pins s1 σ H1 Q I1 ⟨ρ1, sl, G1, st1.rel, S1, h1⟩
  | true => exact ⟨H1, I1, h1 ρ1 H1 true (.refl st1.rel) rfl⟩
theorem t_one {op : BoolOp} (ha : PT X a (tT F.W w q1)) : PT X (.BoolOp op [a] pos) (tT F.W w q1) := by
  cases op with
  | And => exact (pw_and1 ha).pt
  | Or => exact (pw_or1 ha).pt
theorem s_and {rest : List Expr} (ha : PE X a (tE F.W w m1)) (hb : PE X (.BoolOp .And (b :: rest) pos) (tE F.W w m2)) : PE X (.BoolOp .And (a :: b :: rest) pos) (tE F.W w (fun s G => (m1 s G).bind fun x G1 => match x with
    | .bl true => m2 s G1
    | .bl false => .ok (.bl false) G1
    | _ => .bad)) := by
  refine (pe_and ha hb).imp fun σ H Q ⟨ρ, sl, G, r, S, h⟩ => ⟨ρ, sl, G, r, S, h.mid fun ρ1 G1 H1 d v _ st rv hh => ?_⟩
  split at hh
  · cases rv
    exact ⟨true, rfl, by rw [if_pos rfl]; exact ⟨ρ1, sl, G1, st.rel, st.rs S, hh⟩⟩
  · cases rv
    exact ⟨false, rfl, by rw [if_neg (by decide)]; exact fin_ok st.rel hh (.bl _)⟩
  · exact hh.elim
theorem s_or {rest : List Expr} (ha : PE X a (tE F.W w m1)) (hb : PE X (.BoolOp .Or (b :: rest) pos) (tE F.W w m2)) : PE X (.BoolOp .Or (a :: b :: rest) pos) (tE F.W w (fun s G => (m1 s G).bind fun x G1 => match x with
    | .bl false => m2 s G1
    | .bl true => .ok (.bl true) G1
    | _ => .bad)) := by
  refine (pe_or ha hb).imp fun σ H Q ⟨ρ, sl, G, r, S, h⟩ => ⟨ρ, sl, G, r, S, h.mid fun ρ1 G1 H1 d v _ st rv hh => ?_⟩
  split at hh
  · cases rv
    exact ⟨false, rfl, by rw [if_neg (by decide)]; exact ⟨ρ1, sl, G1, st.rel, st.rs S, hh⟩⟩
  · cases rv
    exact ⟨true, rfl, by rw [if_pos rfl]; exact fin_ok st.rel hh (.bl _)⟩
  · exact hh.elim
theorem s_one {op : BoolOp} (ha : PE X a (tE F.W w m1)) : PE X (.BoolOp op [a] pos) (tE F.W w m1) := pe_one ha
theorem s_not (ha : PE X a (tE F.W w m)) : PE X (.UnaryOp .Not a pos) (tE F.W w (fun s G => (m s G).bind fun x G1 => (tru G1 x).bind fun b G2 => .ok (.bl (!b)) G2)) := by
  refine (pe_notT ha).imp fun σ H Q ⟨ρ, sl, G, r, S, h⟩ => ⟨ρ, sl, G, r, S, h.mid fun ρ1 G1 H1 d v _ st rv hh => ?_⟩
  unfold tru at hh
  split at hh
  · rename_i bb hb
    rw [g.hK]
    exact ⟨bb, truV_of st.rel rv hb, fin_ok st.rel hh (.bl _)⟩
  · exact hh.elim
theorem s_ite {tt : Expr} (ht : PT X tt (tT F.W w q)) (ha : PE X a (tE F.W w m1)) (hb : PE X b (tE F.W w m2)) : PE X (.IfExp tt a b pos) (tE F.W w (fun s G => (q s G).bind fun x G1 => if x then m1 s G1 else m2 s G1)) := by
  refine (pe_ifExp ht ha hb).imp fun σ H Q ⟨ρ, sl, G, r, S, h⟩ => ⟨ρ, sl, G, r, S, h.mid fun ρ1 G1 H1 d v _ st rv hh => ?_⟩
  subst rv
  cases d with
  | true => exact ⟨ρ1, sl, G1, st.rel, st.rs S, hh⟩
  | false => exact ⟨ρ1, sl, G1, st.rel, st.rs S, hh⟩
theorem a_nil : PA X [] (tA F.W w (fun _ G => .ok [] G)) := ⟨fun pos pins s σ H Q I ⟨ρ, sl, G, r, S, h⟩ => pa_nil.run pos pins s σ H Q I (h ρ H [] (.refl r) .nil)⟩
theorem a_cons {es : List Expr} {mm : Sl → Hh → R (List D)} (h0 : starB e = false) (he : PE X e (tE F.W w m)) (hs : PA X es (tA F.W w mm)) :
    PA X (e :: es) (tA F.W w (fun s G => (m s G).bind fun x G1 => (mm s G1).bind fun xs G2 => .ok (x :: xs) G2)) := by
  refine ⟨fun pos pins s σ H Q I ⟨ρ, sl, G, r, S, h⟩ => (pa_cons he hs (star_cons h0)).run pos pins s σ H Q I ⟨ρ, sl, G, r, S, h.mid fun ρ1 G1 H1 d v _ st rv hh => ?_⟩⟩
  exact ⟨ρ1, sl, G1, st.rel, st.rs S, hh.mid fun ρ2 G2 H2 ds vs _ st2 rvs h2 => h2 ρ2 H2 (v :: vs) (.refl st2.rel) (.cons (st2.rv rv) rvs)⟩
theorem k_nil : PK X [] (tA F.W w (fun _ G => .ok [] G)) := ⟨fun pos pins s σ H Q I ⟨ρ, sl, G, r, S, h⟩ => pk_nil.run pos pins s σ H Q I (h ρ H [] (.refl r) .nil)⟩
theorem k_cons {es : List Keyword} {nm : Option Str} {kp : Pos} {mm : Sl → Hh → R (List D)} (he : PE X e (tE F.W w m)) (hs : PK X es (tA F.W w mm)) :
    PK X (⟨nm, e, kp⟩ :: es) (tA F.W w (fun s G => (m s G).bind fun x G1 => (mm s G1).bind fun xs G2 => .ok (x :: xs) G2)) := by
  refine ⟨fun pos pins s σ H Q I ⟨ρ, sl, G, r, S, h⟩ => (pk_cons he hs).run pos pins s σ H Q I ⟨ρ, sl, G, r, S, h.mid fun ρ1 G1 H1 d v _ st rv hh => ?_⟩⟩
  exact ⟨ρ1, sl, G1, st.rel, st.rs S, hh.mid fun ρ2 G2 H2 ds vs _ st2 rvs h2 => h2 ρ2 H2 (v :: vs) (.refl st2.rel) (.cons (st2.rv rv) rvs)⟩
theorem s_lst {es : List Expr} {mm : Sl → Hh → R (List D)} (hs : PA X es (tA F.W w mm)) : PE X (.List es pos) (tE F.W w (fun s G => (mm s G).bind fun xs G1 => if xs.length ≤ sizeLine then alloc (.lst xs) G1 else .bad)) := by
  refine (pe_lst hs).imp fun σ H Q ⟨ρ, sl, G, r, S, h⟩ => ⟨ρ, sl, G, r, S, h.mid fun ρ1 G1 H1 d v _ st rv hh => ?_⟩
  split at hh
  · rename_i hl
    exact ⟨by rw [← rv.length]; exact hl, lay_ok st.rel hh rv⟩
  · exact hh.elim
theorem s_tup {es : List Expr} {x1 : Nat} {mm : Sl → Hh → R (List D)} (hs : PA X es (tA F.W w mm)) : PE X (.Tuple es x1 pos) (tE F.W w (fun s G => (mm s G).bind fun xs G1 => if xs.length ≤ sizeLine then .ok (.tup xs) G1 else .bad)) := by
  refine (pe_tup hs).imp fun σ H Q ⟨ρ, sl, G, r, S, h⟩ => ⟨ρ, sl, G, r, S, h.mid fun ρ1 G1 H1 d v _ st rv hh => ?_⟩
  split at hh
  · rename_i hl
    refine ⟨by rw [← rv.length]; exact hl, fun p hp => hh ρ1 _ _ ⟨Nat.le_refl _, fun _ _ => rfl, .new hp, ⟨st.rel.inj, fun i o e => ?_⟩⟩ (.tup (.of upd_same) (rv.mono (Nat.le_refl _) (fun _ _ => rfl) (.new hp)))⟩
    have hi := (List.getElem?_eq_some_iff.mp e).1
    obtain ⟨u', hu⟩ := st.rel.has hi
    exact (st.rel.obj i o e).mono (Nat.le_refl _) (fun _ _ => rfl) (.new hp) (upd_ne (ne_of_none hu hp)) fun dx fs q1 q2 => ⟨by rw [upd_ne (ne_of_none q1 hp)]; exact q1, q2⟩
  · exact hh.elim
end
end Eng
end
section
set_option Elab.async false
set_option linter.all false
set_option maxRecDepth 100000
set_option maxHeartbeats 1000000
/-! The engine, part 4: chains, items, fields, targets, what is walked, comprehensions. Own work. -/
namespace Eng
open PySem PySem.Spec PyProof.Rows L2

section
variable {t : Tb} {F : Wf} {c : Cfg} {X : Cx} {w : WX} {N : List Str} {sc : Scope} {k : Nat} (g : Gd t F c X w N sc k)
variable {e a b d : Expr} {pos p : Pos} {m m1 m2 m3 : Sl → Hh → R D} {q q1 q2 : Sl → Hh → R Bool}
include g
theorem s_chn {o1 o2 : CmpOp} (hd : setB d = false) (ha : PE X a (tE F.W w m1)) (hb : PE X b (tE F.W w m2)) (hc : PE X d (tE F.W w m3)) :
    PE X (.Compare a [o1, o2] [b, d] pos) (tE F.W w (fun s G => (m1 s G).bind fun x G1 => (m2 s G1).bind fun y G2 => (cmpR o1 x y G2).bind fun z G3 => match z with
    | .bl true => (m3 s G3).bind fun u G4 => cmpR o2 y u G4
    | .bl false => .ok (.bl false) G3
    | _ => .bad)) := by
  refine ⟨fun pins s σ H Q I ⟨ρ, sl, G, r, S, h⟩ => ?_⟩
  refine Compare_chain (runE ha I r S h fun u s1 ρ1 G1 H1 d1 v I1 rv st1 rd S1 _ h1 => chain_link (runE hb I1 st1.rel S1 h1 fun u2 s2 ρ2 G2 H2 d2 v2 I2 rv2 st2 rd2 S2 _ h2 => ?_)) (last_no hd)
  cases hcc : cmpop o1 d1 d2 G2 with
  | none => simp only [cmpR, hcc] at h2; exact h2.elim
  | some cc =>
    simp only [cmpR, hcc, R.bind] at h2
    refine thn (cmp_ok (Q := fun z H' => z = .bl cc ∧ H' = H2) g.hK (unit65 g) I2 st2.rel rv rv2 (st2.rv rd) rd2 hcc ⟨rfl, rfl⟩) fun z s3 ⟨v3, H3, I3, r3, e3, e4⟩ => ?_
    subst e3; subst e4
    cases r3
    refine wpAny_truthy_bool ?_
    cases cc with
    | false => exact ite_ff ⟨.bl false, H3, I3, rfl, fin_ok st2.rel h2 (.bl _)⟩
    | true =>
      refine ite_tt (chain_last (runE hc I3 st2.rel S2 h2 fun u4 s4 ρ4 G4 H4 d4 v4 I4 rv4 st4 rd4 S4 _ h4 => ?_))
      exact cmpR_ok g.hK (unit65 g) I4 st4.rel rv2 rv4 (st4.rv rd2) rd4 h4
theorem t_chn {o1 o2 : CmpOp} (hd : setB d = false) (ha : PE X a (tE F.W w m1)) (hb : PE X b (tE F.W w m2)) (hc : PE X d (tE F.W w m3)) :
    PT X (.Compare a [o1, o2] [b, d] pos) (tT F.W w (fun s G => (m1 s G).bind fun x G1 => (m2 s G1).bind fun y G2 => (cmpR o1 x y G2).bind fun z G3 => match z with
    | .bl true => (m3 s G3).bind fun u G4 => (cmpR o2 y u G4).bind asB
    | .bl false => .ok false G3
    | _ => .bad)) := by
  refine ⟨fun pins s σ H Q I ⟨ρ, sl, G, r, S, h⟩ => ?_⟩
  refine isTrue_chain (runE ha I r S h fun u s1 ρ1 G1 H1 d1 v I1 rv st1 rd S1 _ h1 => test_link (runE hb I1 st1.rel S1 h1 fun u2 s2 ρ2 G2 H2 d2 v2 I2 rv2 st2 rd2 S2 _ h2 => ?_)) (last_no hd)
  cases hcc : cmpop o1 d1 d2 G2 with
  | none => simp only [cmpR, hcc] at h2; exact h2.elim
  | some cc =>
    simp only [cmpR, hcc, R.bind] at h2
    refine thn (cmp_ok (Q := fun z H' => z = .bl cc ∧ H' = H2) g.hK (unit65 g) I2 st2.rel rv rv2 (st2.rv rd) rd2 hcc ⟨rfl, rfl⟩) fun z s3 ⟨v3, H3, I3, r3, e3, e4⟩ => ?_
    subst e3; subst e4
    cases r3
    refine wpAny_truthy_bool ?_
    cases cc with
    | false => exact ite_ff ⟨H3, I3, h2 ρ2 H3 false (.refl st2.rel) rfl⟩
    | true =>
      refine ite_tt (test_last (runE hc I3 st2.rel S2 h2 fun u4 s4 ρ4 G4 H4 d4 v4 I4 rv4 st4 rd4 S4 _ h4 => ?_))
      cases hc2 : cmpop o2 d2 d4 G4 with
      | none => simp only [hc2] at h4; exact h4.elim
      | some c2 =>
        simp only [hc2, asB] at h4
        refine thn (cmp_ok (Q := fun z H' => z = .bl c2 ∧ H' = H4) g.hK (unit65 g) I4 st4.rel rv2 rv4 (st4.rv rd2) rd4 hc2 ⟨rfl, rfl⟩) fun z s5 ⟨v5, H5, I5, r5, e5, e6⟩ => ?_
        subst e5; subst e6
        cases r5
        exact wpAny_truthy_bool ⟨H5, I5, h4 ρ4 H5 c2 (.refl st4.rel) rfl⟩
theorem rvs_at {W : Wd} {ρ : Nat → Addr} {n : Nat} {H : Hp} {xs : List D} {vs : List V} {i : Int} {x : D} (r : RVs W.K ρ n H xs vs) (e : atI xs i = some x) : ∃ v, atI vs i = some v ∧ RV W.K ρ n H x v := by
  unfold atI at e ⊢
  rw [← r.length]
  cases hj : ixN xs.length i with
  | none => rw [hj] at e; cases e
  | some j =>
    rw [hj] at e
    exact r.get e
theorem s_sub (hs : slcB b = false) (ha : PE X a (tE F.W w m1)) (hb : PE X b (tE F.W w m2)) : PE X (.Subscript a b pos) (tE F.W w (fun s G => (m1 s G).bind fun x G1 => (m2 s G1).bind fun y G2 => subD G2 x y)) := by
  refine ⟨fun pins s σ H Q I ⟨ρ, sl, G, r, S, h⟩ => ?_⟩
  refine Subscript_ (runE ha I r S h fun u s1 ρ1 G1 H1 d1 v I1 rv st1 rd S1 _ h1 => runE hb I1 st1.rel S1 h1 fun u2 s2 ρ2 G2 H2 d2 v2 I2 rv2 st2 rd2 S2 _ h2 => ?_)
  unfold subD at h2
  split at h2
  · cases rd2
    split at h2
    · rename_i xs hxs
      split at h2
      · rename_i y hy
        obtain ⟨aa, vs, e1, rvs, sq⟩ := st2.rel.seq (st2.rv rd) hxs
        subst e1
        obtain ⟨z, hz, rz⟩ := rvs_at g rvs hy
        refine ix_seq a b pins s2 σ H2 _ _ u u2 Q I2 rv rv2 ?_ (plain_ix hs _ _)
        rcases sq with sq | sq
        · exact .inl ⟨aa, vs, _, z, rfl, rfl, by rw [g.hK]; exact sq, hz, fin_ok st2.rel h2 rz⟩
        · exact .inr (.inl ⟨aa, vs, _, z, rfl, rfl, by rw [g.hK]; exact sq, hz, fin_ok st2.rel h2 rz⟩)
      · exact h2.elim
    · exact h2.elim
  · exact h2.elim
end

/-! ### targets -/
def gNames : List Nat → TGs
  | [] => gNil
  | i :: r => gCons (gName i) (gNames r)
def tGt (W : Wd) : T → TG
  | .nm i => gName i
  | .tp is => gTup W.K is.length (gNames is)
def setAll (σ : L2.St) : List Nat → List V → L2.St
  | i :: r, v :: vs => setAll (σ.set i (some v)) r vs
  | _, _ => σ
theorem gNames_ok : ∀ (is : List Nat) (vs : List V) (σ : L2.St) (H : Hp) (Q : L2.St → Hp → Prop), is.length = vs.length → Q (setAll σ is vs) H → gNames is vs σ H Q
  | [], [], _, _, _, _, h => ⟨rfl, h⟩
  | i :: r, v :: vs, σ, H, Q, e, h => ⟨v, vs, rfl, gNames_ok r vs _ H Q (by simpa using e) h⟩
  | [], _ :: _, _, _, _, e, _ => by simp at e
  | _ :: _, [], _, _, _, e, _ => by simp at e
theorem setAll_rs {W : Wd} {ρ : Nat → Addr} {n : Nat} {H : Hp} : ∀ (is : List Nat) (xs : List D) (vs : List V) (s : Sl) (σ : L2.St), RVs W.K ρ n H xs vs → RS W ρ n H s σ →
    RS W ρ n H ((is.zip xs).foldl (fun s p => s.set p.1 (some p.2)) s) (setAll σ is vs)
  | [], _, _, _, _, _, S => S
  | _ :: _, [], _, _, _, .nil, S => S
  | i :: r, x :: xs, _, s, σ, .cons h hr, S => setAll_rs r xs _ _ _ hr (S.set h i)
def inB (vs : List Nat) : T → Bool
  | .nm i => decide (i ∈ vs)
  | .tp is => is.all fun i => decide (i ∈ vs)
theorem wipe_set {σ : L2.St} {i : Nat} {o : Option V} : ∀ {vs : List Nat}, i ∈ vs → L2.wipe (σ.set i o) vs = L2.wipe σ vs
  | v :: vs, h => by
    unfold L2.wipe
    by_cases hi : i ∈ vs
    · rw [wipe_set hi]
    · have e : i = v := (List.mem_cons.mp h).resolve_right hi
      subst e
      have key : ∀ (us : List Nat), i ∉ us → L2.wipe (σ.set i o) us = (L2.wipe σ us).set i o := by
        intro us
        induction us with
        | nil => intro _; rfl
        | cons u us ih =>
          intro hu
          unfold L2.wipe
          rw [ih (fun z => hu (List.mem_cons_of_mem _ z))]
          rw [List.set_comm]
          intro z
          exact hu (by rw [z]; exact List.mem_cons_self)
      rw [key vs hi, List.set_set]
theorem wipe_all {vs : List Nat} : ∀ (is : List Nat) (xs : List V) (σ : L2.St), (∀ i ∈ is, i ∈ vs) → L2.wipe (setAll σ is xs) vs = L2.wipe σ vs
  | [], _, _, _ => rfl
  | _ :: _, [], _, _ => rfl
  | i :: r, x :: xs, σ, h => by
    show L2.wipe (setAll (σ.set i (some x)) r xs) vs = _
    rw [wipe_all r xs _ (fun j hj => h j (List.mem_cons_of_mem _ hj)), wipe_set (h i List.mem_cons_self)]
theorem bind_ok {W : Wd} {ρ : Nat → Addr} {n : Nat} {H : Hp} {tt : T} {d : D} {v : V} {s s2 : Sl} {σ : L2.St} {Q : L2.St → Hp → Prop} (e : bindT tt d s = some s2) (S : RS W ρ n H s σ) (r : RV W.K ρ n H d v)
    (h : ∀ σ2, RS W ρ n H s2 σ2 → (∀ vs, inB vs tt = true → L2.wipe σ2 vs = L2.wipe σ vs) → Q σ2 H) : tGt W tt v σ H Q := by
  cases tt with
  | nm i =>
    simp only [bindT, Option.some.injEq] at e
    subst e
    exact h _ (S.set r i) fun vs hv => wipe_set (of_decide_eq_true hv)
  | tp is =>
    simp only [bindT] at e
    split at e
    · rename_i xs
      split at e
      · rename_i hl
        cases e
        cases r with
        | tup t1 r1 =>
          refine ⟨_, _, rfl, t1, by rw [← r1.length]; exact hl, gNames_ok _ _ _ _ _ (by rw [← r1.length]; exact hl.symm) (h _ (setAll_rs is xs _ _ _ r1 S) fun vs hv => ?_)⟩
          refine wipe_all is _ σ fun i hi => ?_
          exact of_decide_eq_true (List.all_eq_true.mp hv i hi)
      · cases e
    · cases e
def nmB (N : List Str) (sc : Scope) (i : Nat) : Expr → Bool
  | .Name x _ => decide (N[i]? = some x) && locB sc x
  | _ => false
def nmsB (N : List Str) (sc : Scope) : List Nat → List Expr → Bool
  | [], [] => true
  | i :: r, e :: es => nmB N sc i e && nmsB N sc r es
  | _, _ => false
def chT (N : List Str) (sc : Scope) : T → Expr → Bool
  | .nm i, e => nmB N sc i e
  | .tp is, .Tuple es _ _ => nmsB N sc is es
  | _, _ => false
/-- the names may be stored: sc is the scope as it is written -/
def StOk (X : Cx) (sc : Scope) : Prop := ∀ x, locB sc x = true → Loc X.env.scope x ∧ (X.fn x = true ∨ X.env.scope.names.lookup x = some .local)
theorem pg_nm {X : Cx} {N : List Str} {sc : Scope} {i : Nat} {e : Expr} (hN : X.N = N) (nd : N.Nodup) (so : StOk X sc) (h : nmB N sc i e = true) : PG X e (gName i) := by
  cases e <;> simp only [nmB, Bool.false_eq_true] at h
  rename_i x px
  rw [Bool.and_eq_true] at h
  obtain ⟨h1, h2⟩ := so x h.2
  exact pg_name (by rw [hN]; exact nd) (by rw [hN]; exact of_decide_eq_true h.1) h1 h2
theorem asg_nms {N : List Str} {sc : Scope} {env : Env} : ∀ (is : List Nat) (es : List Expr), nmsB N sc is es = true → assignEach es env = es.map fun e => (false, assign e env)
  | [], [], _ => rfl
  | i :: r, e :: es, h => by
    simp only [nmsB, Bool.and_eq_true] at h
    cases e <;> simp only [nmB, Bool.false_eq_true, false_and] at h
    rw [List.map_cons, ← asg_nms r es h.2]
    rfl
  | [], _ :: _, h => by simp [nmsB] at h
  | _ :: _, [], h => by simp [nmsB] at h
theorem pgs_nms {X : Cx} {N : List Str} {sc : Scope} (hN : X.N = N) (nd : N.Nodup) (so : StOk X sc) : ∀ (is : List Nat) (es : List Expr), nmsB N sc is es = true → PGs X es (gNames is)
  | [], [], _ => pgs_nil
  | i :: r, e :: es, h => by
    have h0 := h
    simp only [nmsB, Bool.and_eq_true] at h
    exact pgs_cons (pg_nm hN nd so h.1) (pgs_nms hN nd so r es h.2) (by rw [asg_nms _ _ h0, asg_nms _ _ h.2]; rfl)
  | [], _ :: _, h => by simp [nmsB] at h
  | _ :: _, [], h => by simp [nmsB] at h
theorem nms_len {N : List Str} {sc : Scope} : ∀ (is : List Nat) (es : List Expr), nmsB N sc is es = true → is.length = es.length
  | [], [], _ => rfl
  | i :: r, e :: es, h => by
    simp only [nmsB, Bool.and_eq_true] at h
    rw [List.length_cons, List.length_cons, nms_len r es h.2]
  | [], _ :: _, h => by simp [nmsB] at h
  | _ :: _, [], h => by simp [nmsB] at h
theorem pg_T {X : Cx} {W : Wd} {N : List Str} {sc : Scope} {tt : T} {e : Expr} (hK : X.K = W.K) (hc : X.calm = true) (hN : X.N = N) (nd : N.Nodup) (so : StOk X sc) (h : chT N sc tt e = true) : PG X e (tGt W tt) := by
  cases tt with
  | nm i => exact pg_nm hN nd so h
  | tp is =>
    cases e <;> simp only [chT, Bool.false_eq_true] at h
    rename_i es x1 p1
    have q := pg_tup (k := x1) (pos := p1) (n := is.length) hc (pgs_nms hN nd so is es h) (by rw [asg_nms _ _ h, List.length_map]; exact (nms_len is es h).symm) (by
      rw [asg_nms _ _ h, List.findIdx?_eq_none_iff]
      intro x hx
      obtain ⟨y, _, rfl⟩ := List.mem_map.mp hx
      rfl)
    rw [hK] at q
    exact q
end Eng
end
section
set_option Elab.async false
set_option linter.all false
set_option maxRecDepth 100000
set_option maxHeartbeats 1000000
/-! The engine, part 5: calls. Own work. -/
namespace Eng
open PySem PySem.Spec PyProof.Rows L2

theorem vals_app : ∀ {xs ys : List V} {us ws : List Value}, Vals xs us → Vals ys ws → Vals (xs ++ ys) (us ++ ws) := fun a b => a.append b

section
variable {X : Cx} {W : Wd} {w : WX} {ρ : Nat → Addr} {G : Hh} {H : Hp} {σ : L2.St} {sl : Sl} {pins : List (Addr × Obj)} {s : Shared} {α β : Type} {rl : RL α β} {Q : β → Hp → Prop}
/-- the arguments of a call, by position and by name, then the call -/
theorem callW {f : Value} {first : List Value} {es : List Expr} {kws : List Keyword} {ks : List Str} {pos : Pos} {m1 m2 : Sl → Hh → R (List D)} {kk : List D → List D → Hh → R α} {Q' : Value → Shared → Prop}
    (hK : X.K = W.K) (hf : PySem.W.keepIn X.K f = true) (he : plainB es = true) (hk : kwB kws ks = true) (ha : PA X es (tA W w m1)) (h0 : es = [] → m1 = fun _ G => .ok [] G) (hb : PK X kws (tA W w m2)) (I : Inv X pins σ H s) (r : Rel W ρ G H) (S : RS W ρ G.length H sl σ)
    (h : Pst W w ρ G H σ rl ((m1 sl G).bind fun xs G1 => (m2 sl G1).bind fun ys G2 => kk xs ys G2) Q)
    (hc : ∀ us ws s2 ρ2 G2 H2 xs ys vs zs, Inv X pins σ H2 s2 → Vals vs us → Vals zs ws → Step W ρ G H ρ2 G2 H2 → RVs W.K ρ2 G2.length H2 xs vs → RVs W.K ρ2 G2.length H2 ys zs → Pst W w ρ2 G2 H2 σ rl (kk xs ys G2) Q →
      wpAny (model X.prog X.w) X.A (call f (first ++ us) (ks.zip ws)) Q' X.xe s2) :
    wpAny (model X.prog X.w) X.A (callWith pos f first (backTo pos (starEach es X.env)) (backToKw pos (keywordEach kws X.env))) Q' X.xe s := by
  obtain ⟨k1, k2, k3⟩ := kw_all (env := X.env) (pos := pos) kws ks hk
  have hpl : ((backTo pos (starEach es X.env)).any (·.1) || (backToKw pos (keywordEach kws X.env)).any (·.1.isNone)) = false := by rw [plain_any es he, k3]; rfl
  cases es with
  | nil =>
    rw [h0 rfl] at h
    refine PySem.W.callWith_KW0 (h₀ := X.base) I.ok.mod.kin hf k1 (runK hb I r S h fun ws s2 ρ2 G2 H2 ys zs I2 rz st2 rzs S2 _ h2 => ⟨I2.kIn, ?_⟩) hpl
    rw [k2]
    exact hc [] ws s2 ρ2 G2 H2 [] ys [] zs I2 .nil rz st2 .nil rzs h2
  | cons e es =>
    have e0 : starB e = false := by
      unfold plainB at he
      rw [List.all_cons, Bool.and_eq_true] at he
      simpa using he.1
    refine PySem.W.callWith_KW (h₀ := X.base) I.ok.mod.kin hf k1 (runA ha I r S h fun us s1 ρ1 G1 H1 xs vs I1 rv st1 rvs S1 _ h1 => ?_) hpl (star_cons e0)
    refine runK hb I1 st1.rel S1 h1 fun ws s2 ρ2 G2 H2 ys zs I2 rz st2 rzs S2 _ h2 => ⟨I2.kIn, ?_⟩
    rw [k2]
    exact hc us ws s2 ρ2 G2 H2 xs ys vs zs I2 rv rz (st1.trans st2) (st2.rvs rvs) rzs h2
end

section
variable {t : Tb} {F : Wf} {c : Cfg} {X : Cx} {w : WX} {N : List Str} {sc : Scope} {k : Nat} (g : Gd t F c X w N sc k)
variable {ρ : Nat → Addr} {G : Hh} {H : Hp} {σ : L2.St} {sl : Sl} {pins : List (Addr × Obj)} {s : Shared} {Q : VK}
variable {e o : Expr} {es : List Expr} {kws : List Keyword} {pos p apos : Pos} {m : Sl → Hh → R D} {m1 m2 : Sl → Hh → R (List D)}
theorem PstF.of {W : Wd} {w : WX} {r : R D} (h : Pst W w ρ G H σ (rlD W) r Q) : PstF W ρ G H r Q (fun cls dd H' => w cls dd σ H') := by
  cases r with
  | ok a G1 => exact h
  | exc c f G1 => exact h
  | bad => exact h
theorem plan_len {ds : List D} : ∀ {pl : List (Nat ⊕ D)} {as : List D}, planOf ds pl = some as → as.length = pl.length
  | [], _, h => by
    simp only [planOf, Option.some.injEq] at h
    subst h; rfl
  | .inl i :: r, as, h => by
    simp only [planOf] at h
    split at h
    · rename_i v vs h1 h2
      cases h
      rw [List.length_cons, List.length_cons, plan_len h2]
    · cases h
  | .inr d :: r, as, h => by
    simp only [planOf, Option.map_eq_some_iff] at h
    obtain ⟨vs, h2, rfl⟩ := h
    rw [List.length_cons, List.length_cons, plan_len h2]
/-- behind a call: its end, or its exception in our air -/
theorem call_end {us : List Value} {kw : List (Str × Value)} {f : Addr} (I : Inv X pins σ H s) (tk : Takes X w)
    (h : codeAny (model X.prog X.w) X.A (.call (.ref f) ⟨us, kw⟩) (CR (CX X.prog X.w) X.stack X.prog X.w H s Q (fun cls dd H' => w cls dd σ H')) s) : wpAny (model X.prog X.w) X.A (call (.ref f) us kw) (EP X pins σ Q) X.xe s := by
  refine wpAny_call (codeAny_mono h fun r s' hq => ?_)
  cases r with
  | error e => exact tk _ _ (XE.of_call I (fun _ _ _ z => z) hq)
  | ok fl =>
    cases fl with
    | ret u => exact I.after hq
    | next => exact False.elim hq
    | brk => exact False.elim hq
    | cont => exact False.elim hq
include g
/-- a def called by one of its forms -/
theorem callS_ok {sh : Nat} {q : Shp} {xs ys : List D} {vs zs : List V} {us ws : List Value} (hq : t.P.shs[sh]? = some q) (I : Inv X pins σ H s) (r : Rel F.W ρ G H) (ru : Vals vs us) (rw' : Vals zs ws)
    (rx : RVs F.W.K ρ G.length H xs vs) (ry : RVs F.W.K ρ G.length H ys zs) (h : Pst F.W w ρ G H σ (rlD F.W) (callS c sh xs ys G) Q) :
    wpAny (model X.prog X.w) X.A (call (.ref (F.fA q.f)) us (q.ks.zip ws)) (EP X pins σ Q) X.xe s := by
  unfold callS at h
  rw [g.P, hq] at h
  dsimp only at h
  split at h
  · rename_i hl
    split at h
    · rename_i as hp
      obtain ⟨gs, hb, hg⟩ := (g.T.sh sh q hq).to s us ws (by rw [← g.hK]; exact I.kIn) (by rw [← ru.length, ← rx.length]; exact hl.1) (by rw [← rw'.length, ← ry.length]; exact hl.2)
      obtain ⟨as', ra, rg⟩ := hg ρ G.length H (xs ++ ys) as (vs ++ zs) (rx.append ry) (ru.append rw') hp
      have FF := g.fn q.f
      refine call_end I g.tk ?_
      have hn : as'.length = (F.ps q.f).length := by rw [← ra.length, plan_len hp, (g.T.sh sh q hq).len]
      exact FF.run X.A X.stack s H ⟨us, q.ks.zip ws⟩ gs as' Q _ g.gu g.rm I.env0 hb rg ⟨hn, ρ, G, as, r, ra, PstF.of h⟩
    · exact h.elim
  · exact h.elim
omit g in
theorem make_gu {A : Around} (h : A.guards = some []) (v : Value) (us : List Value) (kw : List (Str × Value)) : (A.under (.builtin "type.__call__" ⟨v :: us, kw⟩)).guards = some [] := by
  first
    | exact h
    | simp [Around.under, h, Code.guards, pushGuards, Code.isGuard, guardIds]
/-- an instance made -/
theorem newS_ok {j kc sh : Nat} {q : Shp} {cl : Clz} {xs ys : List D} {vs zs : List V} {us ws : List Value} (hk : k = j + 1) (hq : t.P.shs[sh]? = some q) (hcl : t.P.cls[kc]? = some cl) (I : Inv X pins σ H s) (r : Rel F.W ρ G H) (ru : Vals vs us) (rw' : Vals zs ws)
    (rx : RVs F.W.K ρ G.length H xs vs) (ry : RVs F.W.K ρ G.length H ys zs) (h : Pst F.W w ρ G H σ (rlD F.W) (newS c kc sh xs ys G) Q) :
    wpAny (model X.prog X.w) X.A (call (.ref (F.W.cA kc)) us (q.ks.zip ws)) (EP X pins σ Q) X.xe s := by
  unfold newS at h
  rw [g.P, hq, hcl] at h
  dsimp only at h
  split at h
  · rename_i hl
    split at h
    · rename_i as hp
      obtain ⟨M, CC⟩ := g.T.mk_ kc cl hcl
      rw [← g.hK] at M CC
      have e0 : q.f = cl.init := hl.1
      have x0 : H (s.heap.objs.size + 1) = none := I.hok.fresh (Nat.le_succ _)
      have d0 : H s.heap.objs.size = none := I.hok.fresh (Nat.le_refl _)
      have xd : s.heap.objs.size ≠ s.heap.objs.size + 1 := Nat.ne_of_lt (Nat.lt_succ_self _)
      have I2 := Inv.made (C := F.W.cA kc) I
      have x1 : upd H s.heap.objs.size (.own (s.heap.objs.size + 1)) (s.heap.objs.size + 1) = none := by rw [upd_ne xd.symm]; exact x0
      have kp : Kp F.W.K H (upd (upd H s.heap.objs.size (.own (s.heap.objs.size + 1))) (s.heap.objs.size + 1) (.ins (F.W.cA kc) s.heap.objs.size [])) := Kp.trans (.new d0) (.new x1)
      have st := Step.new (o := .ins kc []) r x0 kp (fun b u e => by rw [upd_ne (ne_of_none e x0), upd_ne (ne_of_none e d0)]; exact e) ⟨_, [], upd_same, .nil⟩
      obtain ⟨gs, hb, hg⟩ := (g.T.sh sh q hq).to { s with heap := (s.heap.push PySem.W.emptyDict).push (PySem.W.instObj (F.W.cA kc) s.heap.objs.size) } (.ref (s.heap.objs.size + 1) :: us) ws (by rw [← g.hK]; exact I2.kIn) (by rw [List.length_cons, ← ru.length, ← rx.length]; exact hl.2.1) (by rw [← rw'.length, ← ry.length]; exact hl.2.2)
      have rself : RV F.W.K (ext ρ G.length (s.heap.objs.size + 1)) (G ++ [O.ins kc []]).length (upd (upd H s.heap.objs.size (.own (s.heap.objs.size + 1))) (s.heap.objs.size + 1) (.ins (F.W.cA kc) s.heap.objs.size [])) (.ref G.length) (.ref (s.heap.objs.size + 1)) := by
        have q := RV.ref (K := F.W.K) (ρ := ext ρ G.length (s.heap.objs.size + 1)) (n := (G ++ [O.ins kc []]).length) (H := upd (upd H s.heap.objs.size (.own (s.heap.objs.size + 1))) (s.heap.objs.size + 1) (.ins (F.W.cA kc) s.heap.objs.size [])) G.length (by rw [List.length_append, List.length_singleton]; omega)
        rw [ext_at] at q
        exact q
      obtain ⟨as', ra, rg⟩ := hg _ _ _ (.ref G.length :: (xs ++ ys)) as (.ref (s.heap.objs.size + 1) :: (vs ++ zs)) (.cons rself (st.rvs (rx.append ry))) (.cons rfl (ru.append rw')) hp
      have FF := g.mk_ j q.f hk
      have hn : as'.length = (F.ps q.f).length := by rw [← ra.length, plan_len hp, (g.T.sh sh q hq).len]
      have h2 : PstF F.W (ext ρ G.length (s.heap.objs.size + 1)) (G ++ [O.ins kc []]) (upd (upd H s.heap.objs.size (.own (s.heap.objs.size + 1))) (s.heap.objs.size + 1) (.ins (F.W.cA kc) s.heap.objs.size [])) (c.make q.f as (G ++ [.ins kc []])) (fun v H2 => v = .non ∧ Q (.ref (s.heap.objs.size + 1)) H2) (fun cls dd H' => w cls dd σ H') := by
        cases hm : c.make q.f as (G ++ [.ins kc []]) with
        | ok d G3 =>
          rw [hm] at h
          simp only [R.bind] at h
          split at h
          · intro ρ' H' v st' rv'
            cases rv'
            refine ⟨rfl, ?_⟩
            have q := h ρ' H' _ (st.trans st') (.ref G.length (by have := st'.len; rw [List.length_append, List.length_singleton] at this; omega))
            rw [st'.ex G.length (by rw [List.length_append, List.length_singleton]; omega), ext_at] at q
            exact q
          · exact h.elim
        | exc c1 f1 G3 =>
          rw [hm] at h
          exact fun ρ' H' cls dd st' rx' => h ρ' H' cls dd (st.trans st') rx'
        | bad => rw [hm] at h; exact h.elim
      rw [hk] at g
      refine wpAny_call (make_map (f := F.fA q.f) I.kIn M.makes (by rw [e0]; exact M.init) (beq_iff_eq.mp (by rw [e0]; exact M.fn)) (codeAny_mono (FF.run _ X.stack _ _ ⟨.ref (s.heap.objs.size + 1) :: us, q.ks.zip ws⟩ gs as' _ _ (make_gu g.gu _ us (q.ks.zip ws))
        (g.rm.make (F.W.cA kc) us (q.ks.zip ws)) (I2.env0.make (F.W.cA kc) us (q.ks.zip ws)) hb rg ⟨hn, _, _, as, st.rel, ra, h2⟩) fun r' s' hq' => ?_))
      cases r' with
      | error e => exact g.tk _ _ (XE.of_call I2 (fun _ _ _ z => z) hq')
      | ok fl =>
        cases fl with
        | ret u =>
          obtain ⟨v, H', I3, rv, ev, q3⟩ := I2.after hq'
          subst ev
          exact ⟨rv, ⟨V.ref (s.heap.objs.size + 1), H', I3, rfl, q3⟩⟩
        | next => exact False.elim hq'
        | brk => exact False.elim hq'
        | cont => exact False.elim hq'
    · exact h.elim
  · exact h.elim
end
end Eng
end
section
set_option Elab.async false
set_option linter.all false
set_option maxRecDepth 100000
set_option maxHeartbeats 1000000
/-! The engine, part 6: call expressions, fields, what is walked, comprehensions. Own work. -/
namespace Eng
open PySem PySem.Spec PyProof.Rows L2
section
variable {t : Tb} {F : Wf} {c : Cfg} {X : Cx} {w : WX} {N : List Str} {sc : Scope} {k : Nat} (g : Gd t F c X w N sc k)
variable {e o : Expr} {es : List Expr} {kws : List Keyword} {pos p apos : Pos} {m : Sl → Hh → R D} {m1 m2 : Sl → Hh → R (List D)}
include g
theorem s_cal {sh : Nat} {q : Shp} {x : Str} (hq : t.P.shs[sh]? = some q) (hx : t.fnm[q.f]? = some (some x)) (hg : glB sc x = true) (he : plainB es = true) (hk : kwB kws q.ks = true) (ha : PA X es (tA F.W w m1)) (h0 : es = [] → m1 = fun _ G => .ok [] G) (hb : PK X kws (tA F.W w m2)) :
    PE X (.Call (.Name x p) es kws pos) (tE F.W w (fun s G => (m1 s G).bind fun xs G1 => (m2 s G1).bind fun ys G2 => callS c sh xs ys G2)) := by
  refine ⟨fun pins s σ H Q I ⟨ρ, sl, G, r, S, h⟩ => ?_⟩
  obtain ⟨f1, f2⟩ := g.T.fn q.f x hx
  obtain ⟨g1, g2, _⟩ := g.gl hg
  refine wpAny_Call_Name_kw (ld_glob I g1 f1 ?_ g2)
  refine callW g.hK (by rw [g.hK]; exact f2) he hk ha h0 hb I r S h fun us ws s2 ρ2 G2 H2 xs ys vs zs I2 rv rz st rx ry h2 => ?_
  exact callS_ok g hq I2 st.rel rv rz rx ry h2
theorem s_new {kc sh : Nat} {q : Shp} {cl : Clz} {x : Str} (hq : t.P.shs[sh]? = some q) (hcl : t.P.cls[kc]? = some cl) (hx : t.cnm[kc]? = some x) (hg : glB sc x = true) (he : plainB es = true) (hk : kwB kws q.ks = true) (ha : PA X es (tA F.W w m1)) (h0 : es = [] → m1 = fun _ G => .ok [] G) (hb : PK X kws (tA F.W w m2)) :
    PE X (.Call (.Name x p) es kws pos) (tE F.W w (fun s G => (m1 s G).bind fun xs G1 => (m2 s G1).bind fun ys G2 => newS c kc sh xs ys G2)) := by
  refine ⟨fun pins s σ H Q I ⟨ρ, sl, G, r, S, h⟩ => ?_⟩
  obtain ⟨f1, _, f2⟩ := g.T.cn kc x hx
  obtain ⟨g1, g2, _⟩ := g.gl hg
  refine wpAny_Call_Name_kw (ld_glob I g1 f1 ?_ g2)
  refine callW g.hK (by rw [g.hK]; exact f2) he hk ha h0 hb I r S h fun us ws s2 ρ2 G2 H2 xs ys vs zs I2 rv rz st rx ry h2 => ?_
  cases k with
  | zero =>
    unfold newS at h2
    rw [g.P, hq, hcl] at h2
    dsimp only at h2
    split at h2
    · split at h2
      · rw [g.k0 rfl] at h2
        exact h2.elim
      · exact h2.elim
    · exact h2.elim
  | succ j => exact newS_ok g rfl hq hcl I2 st.rel rv rz rx ry h2
theorem s_mth {mm sh : Nat} {q : Shp} {nm : Str} {pl : Sem Bool} (hq : t.P.shs[sh]? = some q) (hn : nm = F.W.nm mm) (he : plainB es = true) (hk : kwB kws q.ks = true) (ho : PE X o (tE F.W w m)) (ha : PA X es (tA F.W w m1)) (h0 : es = [] → m1 = fun _ G => .ok [] G) (hb : PK X kws (tA F.W w m2))
    (ht : eval (.Call (.Attribute o nm apos) es kws pos) X.env = (do
      let ov ← eval o X.env
      standAt apos.atName
      let (f, first) ← holding [ov] (getMethod ov nm pl)
      callWith pos f first (backTo pos (starEach es X.env)) (backToKw pos (keywordEach kws X.env)))) (hm : mm < t.P.names.length) :
    PE X (.Call (.Attribute o nm apos) es kws pos) (tE F.W w (fun s G => (m s G).bind fun x G0 => if mthOk c G0 x mm sh then
      (m1 s G0).bind fun xs G1 => (m2 s G1).bind fun ys G2 => callS c sh (x :: xs) ys G2 else .bad)) := by
  refine ⟨fun pins s σ H Q I ⟨ρ, sl, G, r, S, h⟩ => ?_⟩
  refine PySem.W.methodCall_KW (pl := pl) (runE ho I r S h fun u s1 ρ1 G1 H1 d v I1 rv st1 rd S1 ee h1 => ?_) ht
  by_cases hok : mthOk c G1 d mm sh = true
  · rw [if_pos hok] at h1
    unfold mthOk at hok
    split at hok
    · rename_i rr
      split at hok
      · rename_i kc fs hfs
        rw [g.P, hq] at hok
        split at hok
        · rename_i cl p' hlk hcl hp'
          cases hp'
          cases rd with
          | ref _ hi =>
            obtain ⟨dx, gs, q1, q2⟩ := st1.rel.obj _ _ hfs
            obtain ⟨M, CC⟩ := g.T.mk_ kc cl hcl
            have MM := g.T.mt kc cl mm q.f hcl (of_decide_eq_true hok)
            rw [← g.hK] at CC MM
            obtain rfl : u = Value.ref (ρ1 rr) := rv
            subst hn
            have lk : gs.lookup (F.W.nm mm) = none := by
              have key : ∀ {fs : List (Nat × D)} {gs : List (Str × V)}, RF F.W ρ1 G1.length H1 fs gs → fs.lookup mm = none → gs.lookup (F.W.nm mm) = none := by
                intro fs gs rf
                induction rf with
                | nil => intro _; rfl
                | @cons f d v fs gs h1 hf _ ih =>
                  intro hl
                  rw [List.lookup_cons] at hl ⊢
                  have hne : (mm == f) = false := by
                    cases hx : (mm == f) with
                    | false => rfl
                    | true => rw [hx] at hl; cases hl
                  rw [hne] at hl
                  have hne2 : (F.W.nm mm == F.W.nm f) = false := by
                    cases hx : (F.W.nm mm == F.W.nm f) with
                    | false => rfl
                    | true =>
                      have e := eq_of_beq hx
                      unfold Wd.nm at e
                      rw [g.T.hP] at e hf
                      have l1 : t.P.names[mm]? = some t.P.names[mm] := List.getElem?_eq_getElem hm
                      have l2 : t.P.names[f]? = some t.P.names[f] := List.getElem?_eq_getElem hf
                      have e2 : t.P.names[mm] = t.P.names[f] := by
                        rw [List.getD_eq_getElem?_getD, List.getD_eq_getElem?_getD, l1, l2] at e
                        exact e
                      have e3 := (List.getElem_inj g.T.nn).mp e2
                      rw [e3] at hne
                      simp at hne
                  rw [hne2]
                  exact ih hl
              exact key q2 hlk
            refine getmeth_ok I1 q1 CC MM lk ?_
            refine callW g.hK MM.kp he hk ha h0 hb I1 st1.rel S1 h1 fun us ws s2 ρ2 G2 H2 xs ys vs zs I2 rv2 rz st rx ry h2 => ?_
            exact callS_ok g hq I2 st.rel (us := Value.ref (ρ1 rr) :: us) (vs := V.ref (ρ1 rr) :: vs) (.cons rfl rv2) rz (.cons (st.rv (.ref rr hi)) rx) ry h2
        · cases hok
      · cases hok
    · cases hok
  · rw [if_neg hok] at h1
    exact h1.elim
end
end Eng
end
section
set_option Elab.async false
set_option linter.all false
set_option maxRecDepth 100000
set_option maxHeartbeats 1000000
/-! The engine, part 7: fields, what is walked, comprehensions. Own work. -/
namespace Eng
open PySem PySem.Spec PyProof.Rows L2

theorem Tx.nm_inj {t : Tb} {F : Wf} {Pr : Program} {mg : Str → Option Value} (T : Tx t F Pr mg) {i j : Nat} (hi : i < t.P.names.length) (hj : j < t.P.names.length) (e : F.W.nm i = F.W.nm j) : i = j := by
  unfold Wd.nm at e
  rw [T.hP, List.getD_eq_getElem?_getD, List.getD_eq_getElem?_getD, List.getElem?_eq_getElem hi, List.getElem?_eq_getElem hj] at e
  exact (List.getElem_inj T.nn).mp e
theorem RF.look {t : Tb} {F : Wf} {Pr : Program} {mg : Str → Option Value} (T : Tx t F Pr mg) {ρ : Nat → Addr} {n : Nat} {H : Hp} {f : Nat} (hf : f < t.P.names.length) : ∀ {fs : List (Nat × D)} {gs : List (Str × V)}, RF F.W ρ n H fs gs →
    match fs.lookup f with
    | none => gs.lookup (F.W.nm f) = none
    | some d => ∃ v, gs.lookup (F.W.nm f) = some v ∧ RV F.W.K ρ n H d v
  | _, _, .nil => rfl
  | _, _, @RF.cons _ _ _ _ f' d v fs gs h1 h2 r => by
    have ih := RF.look T hf r
    rw [List.lookup_cons, List.lookup_cons]
    by_cases e : f = f'
    · subst e
      simp only [beq_self_eq_true]
      exact ⟨v, rfl, h1⟩
    · have e1 : (f == f') = false := by simpa using e
      have e2 : (F.W.nm f == F.W.nm f') = false := by
        cases hx : (F.W.nm f == F.W.nm f') with
        | false => rfl
        | true => exact absurd (T.nm_inj hf (by rw [T.hP] at h2; exact h2) (eq_of_beq hx)) e
      rw [e1, e2]
      exact ih
/-- a field is stored -/
theorem RF.put {t : Tb} {F : Wf} {Pr : Program} {mg : Str → Option Value} (T : Tx t F Pr mg) {ρ : Nat → Addr} {n : Nat} {H : Hp} {f : Nat} {d : D} {v : V} (hf : f < t.P.names.length) (rv : RV F.W.K ρ n H d v) : ∀ {fs : List (Nat × D)} {gs : List (Str × V)}, RF F.W ρ n H fs gs →
    RF F.W ρ n H (setF f d fs) (putF (F.W.nm f) v gs)
  | _, _, .nil => .cons rv (by rw [T.hP]; exact hf) .nil
  | _, _, @RF.cons _ _ _ _ f' d' v' fs gs h1 h2 r => by
    unfold setF putF
    by_cases e : f' = f
    · subst e
      rw [if_pos rfl, if_pos rfl]
      exact .cons rv h2 r
    · have e2 : ¬ F.W.nm f' = F.W.nm f := fun z => e (T.nm_inj (by rw [T.hP] at h2; exact h2) hf z)
      rw [if_neg e, if_neg e2]
      exact .cons h1 h2 (RF.put T hf rv r)
theorem setF_len {f : Nat} {d : D} : ∀ fs : List (Nat × D), (setF f d fs).length ≤ fs.length + 1
  | [] => Nat.le_refl _
  | p :: r => by
    unfold setF
    split
    · simp
    · rw [List.length_cons, List.length_cons]
      exact Nat.succ_le_succ (setF_len r)

/-- an iterator of the evaluator, an iterator of the layer -/
def RIt (W : Wd) (ρ1 : Nat → Addr) (n1 : Nat) (H1 : Hp) (J : It) (J' : L2.It) : Prop :=
  ∀ (ρ : Nat → Addr) (G : Hh) (H : Hp), n1 ≤ G.length → (∀ i, i < n1 → ρ i = ρ1 i) → Kp W.K H1 H → Rel W ρ G H → J.ok G = true →
    (∀ (i : Nat) (d : D), J.items[i]? = some d → J'.go i H ∧ ∀ x H', J'.yld i H x H' → H' = H ∧ RV W.K ρ G.length H d x) ∧ J'.stop J.items.length H
abbrev rlI (W : Wd) : RL It L2.It := fun ρ n H J J' => RIt W ρ n H J J'
def tI (W : Wd) (w : WX) (m : Sl → Hh → R It) : TI := fun σ H Q => ∃ ρ sl G, Rel W ρ G H ∧ RS W ρ G.length H sl σ ∧ Pst W w ρ G H σ (rlI W) (m sl G) Q
theorem rangeD_at : ∀ (n i : Nat) (lo : Int) (d : D), (rangeD lo n)[i]? = some d → i < n ∧ d = .int (lo + i)
  | 0, i, lo, d, h => by simp [rangeD] at h
  | n + 1, 0, lo, d, h => by
    simp only [rangeD, List.getElem?_cons_zero, Option.some.injEq] at h
    subst h
    exact ⟨Nat.zero_lt_succ _, by simp⟩
  | n + 1, i + 1, lo, d, h => by
    simp only [rangeD, List.getElem?_cons_succ] at h
    obtain ⟨h1, h2⟩ := rangeD_at n i (lo + 1) d h
    refine ⟨Nat.succ_lt_succ h1, ?_⟩
    rw [h2]
    congr 1
    omega
theorem rangeD_len : ∀ (n : Nat) (lo : Int), (rangeD lo n).length = n
  | 0, _ => rfl
  | n + 1, lo => by rw [rangeD, List.length_cons, rangeD_len n]
theorem rit_range {W : Wd} {ρ1 : Nat → Addr} {n1 : Nat} {H1 : Hp} {lo : Int} {n : Nat} : RIt W ρ1 n1 H1 ⟨rangeD lo n, none⟩ (Itr lo n) := by
  intro ρ G H _ _ _ _ _
  refine ⟨fun i d h => ?_, ?_⟩
  · obtain ⟨h1, h2⟩ := rangeD_at n i lo d h
    subst h2
    exact ⟨h1, fun x H' ⟨e1, e2⟩ => ⟨e1, by rw [e2]; exact .int _⟩⟩
  · show n ≤ _
    rw [rangeD_len]
    exact Nat.le_refl _
theorem rit_tup {W : Wd} {ρ1 : Nat → Addr} {n1 : Nat} {H1 : Hp} {a : Addr} {xs : List D} {vs : List V} (h : SqT W.K H1 a vs) (r : RVs W.K ρ1 n1 H1 xs vs) : RIt W ρ1 n1 H1 ⟨xs, none⟩ (Itt W.K a) := by
  intro ρ G H hn he hk _ _
  have h' := hk.t a vs h
  have r' : RVs W.K ρ G.length H xs vs := r.mono hn he hk
  refine ⟨fun i d hi => ?_, ⟨vs, h', by rw [r.length]; exact Nat.le_refl _⟩⟩
  obtain ⟨v, hv, rv⟩ := r'.get hi
  refine ⟨⟨vs, v, h', hv⟩, fun x H' ⟨e1, e2⟩ => ⟨e1, ?_⟩⟩
  have q := e2 vs h'
  rw [hv] at q
  cases q
  exact rv
theorem rit_scr {W : Wd} {ρ1 : Nat → Addr} {n1 : Nat} {H1 : Hp} {a : Addr} {ns : List Int} (h : Scr W.K H1 a (ns.map V.int)) : RIt W ρ1 n1 H1 ⟨ns.map .int, none⟩ (Itl W.K a) := by
  intro ρ G H hn he hk _ _
  have h' := (hk.l a _ h).sq
  have r' : RVs W.K ρ G.length H (ns.map .int) (ns.map V.int) := .ints
  refine ⟨fun i d hi => ?_, ⟨_, h', by rw [r'.length]; exact Nat.le_refl _⟩⟩
  obtain ⟨v, hv, rv⟩ := r'.get hi
  refine ⟨⟨_, v, h', hv⟩, fun x H' ⟨e1, e2⟩ => ⟨e1, ?_⟩⟩
  have q := e2 _ h'
  rw [hv] at q
  cases q
  exact rv
theorem rit_lst {W : Wd} {ρ1 : Nat → Addr} {n1 : Nat} {H1 : Hp} {n : Nat} {xs : List D} (hn0 : n < n1) : RIt W ρ1 n1 H1 ⟨xs, some n⟩ (Itl W.K (ρ1 n)) := by
  intro ρ G H hn he hk hr ok
  simp only [It.ok] at ok
  split at ok
  · rename_i ys hy
    have e := of_decide_eq_true ok
    subst e
    simp only [seqOf] at hy
    split at hy
    · rename_i zs hz
      cases hy
      obtain ⟨vs, q1, q2⟩ := hr.obj n _ hz
      rw [he n hn0] at q1
      refine ⟨fun i d hi => ?_, ⟨vs, .of q1, by rw [q2.length]; exact Nat.le_refl _⟩⟩
      obtain ⟨v, hv, rv⟩ := q2.get hi
      refine ⟨⟨vs, v, .of q1, hv⟩, fun x H' ⟨e1, e2⟩ => ⟨e1, ?_⟩⟩
      have q := e2 vs (.of q1)
      rw [hv] at q
      cases q
      exact rv
    · cases hy
  · cases ok
section
variable {X : Cx} {W : Wd} {w : WX} {ρ : Nat → Addr} {G : Hh} {H : Hp} {σ : L2.St} {α β : Type} {rl : RL α β} {Q : β → Hp → Prop} {tg a b : Expr} {pos p : Pos} {m m1 m2 : Sl → Hh → R D}
theorem Pst.one {r : R D} {k : D → Hh → R α} (h : Pst W w ρ G H σ rl (r.bind k) Q) {Q1 : List V → Hp → Prop}
    (hk : ∀ ρ1 G1 H1 d v, r = .ok d G1 → Step W ρ G H ρ1 G1 H1 → RV W.K ρ1 G1.length H1 d v → Pst W w ρ1 G1 H1 σ rl (k d G1) Q → Q1 [v] H1) : Pst W w ρ G H σ (rlDs W) (r.bind fun x G1 => .ok [x] G1) Q1 := by
  cases r with
  | ok d G1 =>
    intro ρ' H' vs st rv
    cases rv with
    | cons h1 h2 => cases h2; exact hk ρ' G1 H' d _ rfl st h1 (Pst.move st h)
  | exc c f G1 => exact h
  | bad => exact h
theorem i_e (hK : X.K = W.K) (ha : PE X a (tE W w m)) : PI X tg a (tI W w (fun s G => (m s G).bind fun d G1 => match d with
    | .tup xs => .ok ⟨xs, none⟩ G1
    | .scr ns => .ok ⟨ns.map .int, none⟩ G1
    | .ref r => (match seqOf G1 (.ref r) with
      | some xs => .ok ⟨xs, some r⟩ G1
      | none => .bad)
    | _ => .bad)) := by
  refine ⟨fun pins s σ H Q I ⟨ρ, sl, G, r, S, h⟩ => ?_⟩
  dsimp only at h
  cases hm : m sl G with
  | bad => rw [hm] at h; exact h.elim
  | exc c f G1 =>
    rw [hm] at h
    exact (pi_list ha).run pins s σ H Q I ⟨ρ, sl, G, r, S, by rw [hm]; exact h⟩
  | ok d G1 =>
    cases d with
    | tup xs =>
      refine (pi_tup ha).run pins s σ H Q I ⟨ρ, sl, G, r, S, h.mid fun ρ1 G1' H1 dd v e st rv hh => ?_⟩
      rw [hm] at e
      cases e
      cases rv with
      | tup t1 r1 =>
        rw [hK]
        exact ⟨_, rfl, ⟨_, t1⟩, hh ρ1 H1 _ (.refl st.rel) (rit_tup t1 r1)⟩
    | scr ns =>
      refine (pi_list ha).run pins s σ H Q I ⟨ρ, sl, G, r, S, h.mid fun ρ1 G1' H1 dd v e st rv hh => ?_⟩
      rw [hm] at e
      cases e
      cases rv with
      | scr t1 =>
        rw [hK]
        exact ⟨_, rfl, ⟨_, t1.sq⟩, hh ρ1 H1 _ (.refl st.rel) (rit_scr t1)⟩
    | ref n =>
      refine (pi_list ha).run pins s σ H Q I ⟨ρ, sl, G, r, S, h.mid fun ρ1 G1' H1 dd v e st rv hh => ?_⟩
      rw [hm] at e
      cases e
      dsimp only [seqOf] at hh
      split at hh
      · rename_i xs hx
        split at hx
        · rename_i zs hz
          cases hx
          cases rv with
          | ref _ hi =>
            obtain ⟨vs2, z1, z2⟩ := st.rel.obj n _ hz
            rw [hK]
            exact ⟨_, rfl, ⟨_, .of z1⟩, hh ρ1 H1 _ (.refl st.rel) (rit_lst hi)⟩
        · cases hx
      · exact hh.elim
    | non => rw [hm] at h; exact h.elim
    | bl _ => rw [hm] at h; exact h.elim
    | int _ => rw [hm] at h; exact h.elim
    | str _ => rw [hm] at h; exact h.elim
end
end Eng
end
section
set_option Elab.async false
set_option linter.all false
set_option maxRecDepth 100000
set_option maxHeartbeats 1000000
/-! The engine, part 8: ranges, fields, comprehensions. Own work. -/
namespace Eng
open PySem PySem.Spec PyProof.Rows L2

section
variable {t : Tb} {F : Wf} {c : Cfg} {X : Cx} {w : WX} {N : List Str} {sc : Scope} {k : Nat} (g : Gd t F c X w N sc k)
variable {tg iter elt e a b o : Expr} {ifs : List Expr} {pos p : Pos} {m m1 m2 : Sl → Hh → R D}
include g
theorem i_r1 (hg : glB sc "range" = true) (hf : ("range" : Str) ∈ t.free) (h0 : starB a = false) (ha : PE X a (tE F.W w m)) : PI X tg (.Call (.Name "range" p) [a] [] pos) (tI F.W w (fun s G => (m s G).bind fun d G1 => match d with
    | .int j => if -(2 ^ 62) ≤ j ∧ j < 2 ^ 62 then .ok ⟨rangeD 0 j.toNat, none⟩ G1 else .bad
    | _ => .bad)) := by
  refine ⟨fun pins s σ H Q I ⟨ρ, sl, G, r, S, h⟩ => ?_⟩
  have hA : PA X [a] (tA F.W w (fun s G => (m s G).bind fun x G1 => .ok [x] G1)) := a_cons g h0 ha (a_nil g)
  refine (pi_range1 (g.gl hg).1 (g.T.fr _ hf) hA (by rw [star_cons h0]; rfl)).run pins s σ H Q I ⟨ρ, sl, G, r, S, Pst.one h fun ρ1 G1 H1 d v e st rv hh => ?_⟩
  split at hh
  · cases rv
    split at hh
    · rename_i hb
      exact ⟨_, rfl, hb.1, hb.2, hh ρ1 H1 _ (.refl st.rel) rit_range⟩
    · exact hh.elim
  · exact hh.elim
theorem i_r2 (hg : glB sc "range" = true) (hf : ("range" : Str) ∈ t.free) (h0 : starB a = false) (h1 : starB b = false) (ha : PE X a (tE F.W w m1)) (hb : PE X b (tE F.W w m2)) : PI X tg (.Call (.Name "range" p) [a, b] [] pos) (tI F.W w (fun s G => (m1 s G).bind fun d G1 => (m2 s G1).bind fun d2 G2 => match d, d2 with
    | .int i, .int j => if -(2 ^ 62) ≤ i ∧ i < 2 ^ 62 ∧ -(2 ^ 62) ≤ j ∧ j < 2 ^ 62 then .ok ⟨rangeD i (j - i).toNat, none⟩ G2 else .bad
    | _, _ => .bad)) := by
  refine ⟨fun pins s σ H Q I ⟨ρ, sl, G, r, S, h⟩ => ?_⟩
  have hA : PA X [a, b] (tCons (tE F.W w m1) (tCons (tE F.W w m2) tNil)) := pa_cons ha (pa_cons hb pa_nil (star_cons h1)) (star_cons h0)
  refine (pi_range2 (g.gl hg).1 (g.T.fr _ hf) hA (by rw [star_cons h0, star_cons h1]; rfl) (by rw [star_cons h1]; rfl)).run pins s σ H Q I ⟨ρ, sl, G, r, S, h.mid fun ρ1 G1 H1 d v e st rv hh => ?_⟩
  refine ⟨ρ1, sl, G1, st.rel, st.rs S, hh.mid fun ρ2 G2 H2 d2 v2 e2 st2 rv2 h3 => ?_⟩
  split at h3
  · cases rv; cases rv2
    split at h3
    · rename_i hb
      exact ⟨_, _, rfl, hb, h3 ρ2 H2 _ (.refl st2.rel) rit_range⟩
    · exact h3.elim
  · exact h3.elim
/-- a field of an instance -/
theorem s_fld_ins {f : Nat} (hb : callB o = false) (ho : PE X o (tE F.W w m)) : PE X (.Attribute o (F.W.nm f) pos) (tE F.W w (fun s G => (m s G).bind fun x G1 => match x with
    | .ref r => (match G1[r]? with
      | some (.ins k fs) => (match c.P.cls[k]?, fs.lookup f with
        | some cl, some v => if cl.flds.contains f then .ok v G1 else .bad
        | _, _ => .bad)
      | _ => .bad)
    | _ => .bad)) := by
  refine ⟨fun pins s σ H Q I ⟨ρ, sl, G, r, S, h⟩ => ?_⟩
  refine attr_of (attr_base hb) (runE ho I r S h fun u s1 ρ1 G1 H1 d v I1 rv st1 rd S1 ee h1 => ?_)
  split at h1
  · rename_i rr
    split at h1
    · rename_i kc fs hfs
      split at h1
      · rename_i cl x hcl hx
        split at h1
        · rename_i hc
          rw [g.P] at hcl
          cases rd with
          | ref _ hi =>
            obtain ⟨dx, gs, q1, q2⟩ := st1.rel.obj _ _ hfs
            obtain ⟨nA, hf⟩ := g.T.fl kc cl f hcl hc
            obtain ⟨M, CC⟩ := g.T.mk_ kc cl hcl
            have lk := RF.look g.T hf q2
            rw [hx] at lk
            obtain ⟨z, hz, rz⟩ := lk
            obtain rfl : u = Value.ref (ρ1 rr) := rv
            refine getattr_ok I1 q1 (by rw [g.hK]; exact CC) (by rw [g.hK]; exact nA) hz fun u' s2 I2 ru => ⟨z, H1, I2, ru, fin_ok st1.rel h1 rz⟩
        · exact h1.elim
      · exact h1.elim
    · exact h1.elim
  · exact h1.elim
end

/-! ### comprehensions -/
section
variable {t : Tb} {F : Wf} {c : Cfg} {X : Cx} {w : WX} {N : List Str} {sc : Scope} {k : Nat}
/-- the block of a comprehension is a good context: nothing may be raised in it -/
theorem Gd.blk (g : Gd t F c X w N sc k) {s : Shared} {H : Hp} {scope : Scope} {C : Addr} {cl : List (Str × Addr)} {fp : List Addr} : Gd t F c (X.blk s H scope (compEnvC scope cl C X.env) fp) (fun _ _ _ _ => False) N (relS scope sc) k where
  T := g.T
  hK := g.hK
  P := g.P
  hN := g.hN
  nd := g.nd
  hsc := by rw [← g.hsc]; rfl
  calm := g.calm
  tk := fun u s' ⟨a, B, sI, pins, σ, H, cls, d, e, I, nb, up, sky, na, os, ag, z⟩ => z.elim
  rm := g.rm
  gu := g.gu
  fn := g.fn
  mk_ := g.mk_
  k0 := g.k0
theorem so_blk {scope : Scope} {s : Shared} {H : Hp} {C : Addr} {cl : List (Str × Addr)} {fp : List Addr} : StOk (X.blk s H scope (compEnvC scope cl C X.env) fp) scope := by
  intro x hx
  have h := locB_ok hx
  rcases h with h | h
  · have q : (relS scope X.env.scope).names.lookup x = some .local := lookup_relS_keep (by decide) h
    exact ⟨.inl q, .inr q⟩
  · have q : (relS scope X.env.scope).names.lookup x = some .cell := lookup_relS_keep (by decide) h
    refine ⟨.inr q, .inl ?_⟩
    show (scope.names.lookup x == some .cell) = true
    rw [h]; rfl
abbrev nowish : WX := fun _ _ _ _ => False
theorem wipe_twice {σ : L2.St} {vs : List Nat} : ∀ us : List Nat, (∀ i ∈ us, i ∈ vs) → L2.wipe (L2.wipe σ us) vs = L2.wipe σ vs
  | [], _ => rfl
  | u :: us, h => by
    show L2.wipe ((L2.wipe σ us).set u none) vs = _
    rw [wipe_set (h u List.mem_cons_self), wipe_twice us fun i hi => h i (List.mem_cons_of_mem _ hi)]
/-- the step of a comprehension, seen alone -/
def lcStep (t : T) (own : List Nat) (mq : Sl → Hh → R Bool) (me : Sl → Hh → R D) (s : Sl) : D → Hh → R (Option D) := fun d G => match bindT t d (wipeD s own) with
  | none => .bad
  | some s2 => (mq s2 G).bind fun b G' => if b then (me s2 G').bind fun y G'' => .ok (some y) G'' else .ok none G'
abbrev lcSem (tt : T) (own : List Nat) (mi : Sl → Hh → R It) (mq : Sl → Hh → R Bool) (me : Sl → Hh → R D) : Sl → Hh → R D := fun s G => (mi s G).bind fun J G1 =>
      (lcLoop J.ok G1.length (lcStep tt own mq me s) J.items (G1 ++ [.lst []])).bind fun _ G2 => .ok (.ref G1.length) G2
theorem lc_read {F : Wf} {w : WX} {tt : T} {own : List (Str × Nat)} {mi : Sl → Hh → R It} {mq : Sl → Hh → R Bool} {me : Sl → Hh → R D} (hin : inB (own.map (·.2)) tt = true) :
    ∀ (σ : L2.St) (H : Hp) (Q : VK), tE F.W w (lcSem tt (own.map (·.2)) mi mq me) σ H Q → tLc (tI F.W w mi) (tGt F.W tt) (tT F.W nowish mq) (tE F.W nowish me) (own.map (·.2)) σ H Q := by
  rintro σ H Q ⟨ρ, sl, G, r, S, h⟩
  refine ⟨ρ, sl, G, r, S, h.mid fun ρ1 G1 H1 J J' _ st rj h1 => ?_⟩
  intro Dd hD
  -- the new list
  have st2 : Step F.W ρ1 G1 H1 (ext ρ1 G1.length Dd) (G1 ++ [.lst []]) (upd H1 Dd (.lst [])) := Step.lay st.rel hD .nil
  refine ⟨fun i mm H => ∃ ρ' G', Step F.W (ext ρ1 G1.length Dd) (G1 ++ [.lst []]) (upd H1 Dd (.lst [])) ρ' G' H ∧ i ≤ J.items.length ∧ mm = J.items.length - i ∧
      Pst F.W w ρ' G' H σ (rlD F.W) ((lcLoop J.ok G1.length (lcStep tt (own.map (·.2)) mq me sl) (J.items.drop i) G').bind fun _ G2 => .ok (.ref G1.length) G2) Q, ⟨_, _, _, .refl st2.rel, Nat.zero_le _, rfl, by rw [List.drop_zero]; exact Pst.move st2 h1⟩, ?_⟩
  rintro i mm H2 ⟨ρ2, G2, st3, hi, rfl, h2⟩
  have stb : Step F.W ρ1 G1 H1 ρ2 G2 H2 := st2.trans st3
  have hl : G1.length < (G1 ++ [O.lst []]).length := by rw [List.length_append, List.length_singleton]; omega
  have eD : ρ2 G1.length = Dd := by rw [st3.ex _ hl, ext_at]
  cases hd : J.items.drop i with
  | nil =>
    have hi2 : i = J.items.length := Nat.le_antisymm hi (by simpa using hd)
    rw [hd] at h2
    unfold lcLoop at h2
    cases hok : J.ok G2 with
    | false => rw [hok] at h2; exact h2.elim
    | true =>
      rw [hok] at h2
      obtain ⟨_, q2⟩ := rj ρ2 G2 H2 stb.len stb.ex stb.kp stb.rel hok
      refine .inl ⟨by rw [hi2]; exact q2, ?_⟩
      have q := h2 ρ2 H2 _ (.refl st3.rel) (.ref G1.length (Nat.lt_of_lt_of_le hl st3.len))
      rw [eD] at q
      exact q
  | cons x rest =>
    rw [hd] at h2
    unfold lcLoop at h2
    cases hok : J.ok G2 with
    | false => rw [hok] at h2; exact h2.elim
    | true =>
      rw [hok] at h2
      simp only [if_true] at h2
      have hx : J.items[i]? = some x := by
        have := congrArg List.head? hd
        rw [List.head?_drop] at this
        exact this
      have hrest : J.items.drop (i + 1) = rest := by
        have := congrArg List.tail hd
        rw [List.tail_drop] at this
        exact this
      have hlt : i < J.items.length := (List.getElem?_eq_some_iff.mp hx).1
      obtain ⟨q1, _⟩ := rj ρ2 G2 H2 stb.len stb.ex stb.kp stb.rel hok
      obtain ⟨qg, qy⟩ := q1 i x hx
      refine .inr ⟨qg, fun H' => ∃ m', m' < J.items.length - i ∧ ∃ ρ' G', Step F.W (ext ρ1 G1.length Dd) (G1 ++ [.lst []]) (upd H1 Dd (.lst [])) ρ' G' H' ∧ i + 1 ≤ J.items.length ∧ m' = J.items.length - (i + 1) ∧
        Pst F.W w ρ' G' H' σ (rlD F.W) ((lcLoop J.ok G1.length (lcStep tt (own.map (·.2)) mq me sl) (J.items.drop (i + 1)) G').bind fun _ G2 => .ok (.ref G1.length) G2) Q, fun H' z => z, ?_⟩
      intro z H' hz
      obtain ⟨rfl, rz⟩ := qy z H' hz
      -- the step
      have S2 : RS F.W ρ2 G2.length H' (wipeD sl (own.map (·.2))) (L2.wipe σ (own.map (·.2))) := ((st.trans stb).rs S).wipe _
      cases hb : bindT tt x (wipeD sl (own.map (·.2))) with
      | none => simp only [lcStep, hb] at h2; exact h2.elim
      | some s2 =>
        simp only [lcStep, hb] at h2
        refine bind_ok hb S2 rz fun σ2 S3 hw => ⟨(hw _ hin).trans (wipe_twice _ fun _ z => z), ρ2, s2, G2, st3.rel, S3, ?_⟩
        cases hq : mq s2 G2 with
        | bad => rw [hq] at h2; exact h2.elim
        | exc c1 f1 G3 => rw [hq] at h2; exact h2.elim
        | ok bb G3 =>
          rw [hq] at h2
          intro ρ3 H3 b' st4 eb
          subst eb
          cases bb with
          | false =>
            simp only [R.bind] at h2
            rw [if_neg (by decide)]
            exact ⟨_, by omega, ρ3, G3, st3.trans st4, hlt, rfl, by rw [hrest]; exact Pst.move st4 h2⟩
          | true =>
            simp only [R.bind] at h2
            rw [if_pos rfl]
            refine ⟨ρ3, s2, G3, st4.rel, st4.rs S3, ?_⟩
            cases hm : me s2 G3 with
            | bad => rw [hm] at h2; exact h2.elim
            | exc c1 f1 G4 => rw [hm] at h2; exact h2.elim
            | ok y G4 =>
              rw [hm] at h2
              intro ρ4 H4 yv st5 ry
              simp only [if_true] at h2
              have st6 := st3.trans (st4.trans st5)
              have hl4 : G1.length < G4.length := Nat.lt_of_lt_of_le hl st6.len
              have eD4 : ρ4 G1.length = Dd := by rw [st6.ex _ hl, ext_at]
              cases hacc : G4[G1.length]? with
              | none => rw [hacc] at h2; exact h2.elim
              | some ob =>
                rw [hacc] at h2
                cases ob with
                | ins _ _ => exact h2.elim
                | dic _ => exact h2.elim
                | exc _ _ => exact h2.elim
                | lst acc =>
                  dsimp only at h2
                  by_cases hz4 : acc.length < sizeLine
                  · rw [if_pos hz4] at h2
                    obtain ⟨vs, e1, e2⟩ := st6.rel.obj _ _ hacc
                    rw [eD4] at e1
                    refine ⟨vs, e1, by rw [← e2.length]; exact hz4, ?_⟩
                    have rl2 : RVs F.W.K ρ4 G4.length H4 (acc ++ [y]) (vs ++ [yv]) := e2.append (.cons ry .nil)
                    have st7 : Step F.W ρ4 G4 H4 ρ4 (G4.set G1.length (.lst (acc ++ [y]))) (upd H4 (ρ4 G1.length) (.lst (vs ++ [yv]))) :=
                      Step.put (u := .lst vs) st6.rel hl4 (by rw [eD4]; exact e1) trivial (fun fs z => by cases z) ⟨_, upd_same, rl2.mono (Nat.le_refl _) (fun _ _ => rfl) (.put (u := .lst vs) (by rw [eD4]; exact e1) trivial)⟩
                    rw [eD4] at st7
                    exact ⟨_, by omega, ρ4, _, st6.trans st7, hlt, rfl, by rw [hrest]; exact Pst.move ((st4.trans st5).trans st7) h2⟩
                  · rw [if_neg hz4] at h2
                    exact h2.elim
theorem s_lc (g : Gd t F c X w N sc k) {tt : T} {own : List (Str × Nat)} {tg iter elt : Expr} {ifs : List Expr} {scope : Scope} {pos : Pos} {mi : Sl → Hh → R It} {mq : Sl → Hh → R Bool} {me : Sl → Hh → R D}
    (hI : PI X tg iter (tI F.W w mi)) (ok : BlkOk N sc scope own) (hT : chT N scope tt tg = true) (hin : inB (own.map (·.2)) tt = true)
    (ht : ∀ (s : Shared) (H : Hp) (C : Addr) (cl : List (Str × Addr)) (fp : List Addr), PTs (X.blk s H scope (compEnvC scope cl C X.env) fp) ifs (tT F.W nowish mq))
    (he : ∀ (s : Shared) (H : Hp) (C : Addr) (cl : List (Str × Addr)) (fp : List Addr), PE (X.blk s H scope (compEnvC scope cl C X.env) fp) elt (tE F.W nowish me)) (hs : setB iter = false) :
    PE X (.ListComp elt [⟨tg, iter, ifs, 0⟩] scope pos) (tE F.W w (lcSem tt (own.map (·.2)) mi mq me)) := by
  have hset : ∀ x, foldedSetIterable iter X.env x = pure x := by
    intro x
    cases iter <;> first | rfl | (simp [setB] at hs)
  refine (pe_lc (pos := pos) g.calm (by rw [g.hN]; exact g.nd) hI (by rw [g.hN, g.hsc]; exact ok) (fun s H C cl fp => pg_T (g.blk).hK (g.blk (s := s) (H := H) (fp := fp) (C := C) (cl := cl)).calm g.hN g.nd so_blk hT) ht he hset).imp (lc_read hin)
end
end Eng
end
section
set_option Elab.async false
set_option linter.all false
set_option maxRecDepth 100000
set_option maxHeartbeats 1000000
/-! The engine, part 9: statements. Own work. -/
namespace Eng
open PySem PySem.Spec PyProof.Rows L2

def PstS (W : Wd) (w : WX) (ρ : Nat → Addr) (G : Hh) (H : Hp) (r : Rs) (D : Ends) : Prop := match r with
  | .nx s' G' => ∀ ρ' H' σ', Step W ρ G H ρ' G' H' → RS W ρ' G'.length H' s' σ' → D.nx σ' H'
  | .rt d G' => ∀ ρ' H' v, Step W ρ G H ρ' G' H' → RV W.K ρ' G'.length H' d v → D.rt v H'
  | .bk s' G' => ∀ ρ' H' σ', Step W ρ G H ρ' G' H' → RS W ρ' G'.length H' s' σ' → D.bk σ' H'
  | .ct s' G' => ∀ ρ' H' σ', Step W ρ G H ρ' G' H' → RS W ρ' G'.length H' s' σ' → D.ct σ' H'
  | .exc c f s' G' => ∀ ρ' H' σ' cls dd, Step W ρ G H ρ' G' H' → RS W ρ' G'.length H' s' σ' → RX W ρ' G'.length H' c f cls dd → w cls dd σ' H'
  | .bad => False
def tS (W : Wd) (w : WX) (m : Sl → Hh → Rs) : TS := fun D σ H => ∃ ρ sl G, Rel W ρ G H ∧ RS W ρ G.length H sl σ ∧ PstS W w ρ G H (m sl G) D
theorem _root_.L2.PS.imp {X : Cx} {e : Stmt} {t t' : TS} (h : PS X e t) (f : ∀ D σ H, t' D σ H → t D σ H) : PS X e t' := ⟨fun pins s σ H D I q => h.run pins s σ H D I (f D σ H q)⟩
section
variable {W : Wd} {w : WX} {ρ ρ1 : Nat → Addr} {G G1 : Hh} {H H1 : Hp} {σ : L2.St} {sl : Sl} {α β : Type} {rl1 : RL α β} {D : Ends} {r : Rs}
theorem PstS.move (st : Step W ρ G H ρ1 G1 H1) (h : PstS W w ρ G H r D) : PstS W w ρ1 G1 H1 r D := by
  cases r with
  | nx s' G' => exact fun ρ' H' b s q => h ρ' H' b (st.trans s) q
  | rt s' G' => exact fun ρ' H' b s q => h ρ' H' b (st.trans s) q
  | bk s' G' => exact fun ρ' H' b s q => h ρ' H' b (st.trans s) q
  | ct s' G' => exact fun ρ' H' b s q => h ρ' H' b (st.trans s) q
  | exc c f s' G' => exact fun ρ' H' b cls dd s q => h ρ' H' b cls dd (st.trans s) q
  | bad => exact h
theorem PstS.mid {r : R α} {k : α → Hh → Rs} (S : RS W ρ G.length H sl σ) (h : PstS W w ρ G H (r.st sl k) D) {Q1 : β → Hp → Prop} (hk : ∀ ρ1 G1 H1 a b, r = .ok a G1 → Step W ρ G H ρ1 G1 H1 → rl1 ρ1 G1.length H1 a b → PstS W w ρ1 G1 H1 (k a G1) D → Q1 b H1) :
    Pst W w ρ G H σ rl1 r Q1 := by
  cases r with
  | ok a G1 => exact fun ρ1 H1 b st q => hk ρ1 G1 H1 a b rfl st q (PstS.move st h)
  | exc c f G1 => exact fun ρ' H' cls dd st rx => h ρ' H' σ cls dd st (st.rs S) rx
  | bad => exact h
theorem PstS.ends {D' : Ends} (h : PstS W w ρ G H r D) (h1 : ∀ ρ' G' s' σ' H', r = .nx s' G' → Step W ρ G H ρ' G' H' → RS W ρ' G'.length H' s' σ' → D.nx σ' H' → D'.nx σ' H') (h2 : ∀ v H', D.rt v H' → D'.rt v H')
    (h3 : ∀ σ' H', D.bk σ' H' → D'.bk σ' H') (h4 : ∀ σ' H', D.ct σ' H' → D'.ct σ' H') : PstS W w ρ G H r D' := by
  cases r with
  | nx s' G' => exact fun ρ' H' b s q => h1 ρ' G' s' b H' rfl s q (h ρ' H' b s q)
  | rt s' G' => exact fun ρ' H' b s q => h2 _ _ (h ρ' H' b s q)
  | bk s' G' => exact fun ρ' H' b s q => h3 _ _ (h ρ' H' b s q)
  | ct s' G' => exact fun ρ' H' b s q => h4 _ _ (h ρ' H' b s q)
  | exc c f s' G' => exact h
  | bad => exact h
end

/-- the context of a def's body -/
structure GdS (t : Tb) (F : Wf) (c : Cfg) (X : Cx) (w : WX) (N : List Str) (sc : Scope) (k : Nat) : Prop extends Gd t F c X w N sc k where
  own : PassesOwn (model X.prog X.w) X.A X.env X.xe
  stk : X.stack = X.env :: X.outer
  frm : X.env.frame = some X.env.locals
  so : StOk X sc
  ex : X.ex = []
  knd : X.env.scope.kind = .function

def compB : Expr → Bool
  | .ListComp .. => true
  | .SetComp .. => true
  | .DictComp .. => true
  | _ => false
theorem sw_no {e : Expr} {tg : Option Expr} {l : Nat} {env : Env} (h : compB e = false) : swapsWith e tg l env = pure false := by
  cases e <;> first | rfl | (simp [compB] at h)
def tupB' : Expr → Bool
  | .Tuple .. => true
  | _ => false
section
variable {t : Tb} {F : Wf} {c : Cfg} {X : Cx} {w : WX} {N : List Str} {sc : Scope} {k : Nat} (g : GdS t F c X w N sc k)
variable {e a b o tg iter tt : Expr} {pos p p' : Pos} {m m1 m2 : Sl → Hh → R D} {q : Sl → Hh → R Bool} {mi : Sl → Hh → R It} {x y : Sl → Hh → Rs} {sts1 sts2 : List Stmt} {st : Stmt}
include g
theorem x_exp (hc : compB e = false) (he : PE X e (tE F.W w m)) : PS X (.Expr e pos) (tS F.W w (fun s G => (m s G).st s fun _ G1 => .nx s G1)) := by
  refine (ps_expr he (sw_no hc)).imp fun D σ H ⟨ρ, sl, G, r, S, h⟩ => ⟨ρ, sl, G, r, S, h.mid S fun ρ1 G1 H1 d v _ st rv hh => ?_⟩
  exact hh ρ1 H1 σ (.refl st.rel) (st.rs S)
theorem x_ret (he : PE X e (tE F.W w m)) : PS X (.Return (some e) pos) (tS F.W w (fun s G => (m s G).st s fun d G1 => .rt d G1)) := by
  refine (ps_ret he).imp fun D σ H ⟨ρ, sl, G, r, S, h⟩ => ⟨ρ, sl, G, r, S, h.mid S fun ρ1 G1 H1 d v _ st rv hh => ?_⟩
  exact hh ρ1 H1 v (.refl st.rel) rv
theorem x_rt0 : PS X (.Return none pos) (tS F.W w (fun _ G => .rt .non G)) :=
  ps_retN.imp fun D σ H ⟨ρ, sl, G, r, S, h⟩ => h ρ H .non (.refl r) .non
theorem x_pas : PS X (.Pass pos) (tS F.W w (fun s G => .nx s G)) := ps_pass.imp fun D σ H ⟨ρ, sl, G, r, S, h⟩ => h ρ H σ (.refl r) S
theorem x_brk : PS X (.Break pos) (tS F.W w (fun s G => .bk s G)) := ps_break.imp fun D σ H ⟨ρ, sl, G, r, S, h⟩ => h ρ H σ (.refl r) S
theorem x_cnt : PS X (.Continue pos) (tS F.W w (fun s G => .ct s G)) := ps_continue.imp fun D σ H ⟨ρ, sl, G, r, S, h⟩ => h ρ H σ (.refl r) S
theorem x_set {i : Nat} (hn : nmB N sc i tg = true) (hc : compB e = false) (he : PE X e (tE F.W w m)) : PS X (.Assign [tg] e pos) (tS F.W w (fun s G => (m s G).st s fun d G1 => .nx (s.set i (some d)) G1)) := by
  cases tg <;> simp only [nmB, Bool.false_eq_true] at hn
  rename_i y py
  rw [Bool.and_eq_true] at hn
  obtain ⟨h1, h2⟩ := g.so y hn.2
  refine (ps_set (i := i) (by rw [g.hN]; exact g.nd) (by rw [g.hN]; exact of_decide_eq_true hn.1) h1 he (sw_no hc) h2).imp fun D σ H ⟨ρ, sl, G, r, S, h⟩ => ⟨ρ, sl, G, r, S, h.mid S fun ρ1 G1 H1 d v _ st rv hh => ?_⟩
  exact hh ρ1 H1 _ (.refl st.rel) ((st.rs S).set rv i)
/-- a comprehension given to a name -/
theorem x_setLc {i : Nat} {y : Str} {py : Pos} {ct : T} {own : List (Str × Nat)} {elt : Expr} {ifs : List Expr} {scope : Scope} {mq : Sl → Hh → R Bool} {me : Sl → Hh → R D} (hy : N[i]? = some y) (hyl : sc.names.lookup y = some .local)
    (hl : (py.line == p.line) = true) (hn : (scope.names.any fun (n, k) => n == y && (k == .local || k == .cell)) = false)
    (hI : PI X tg iter (tI F.W w mi)) (ok : BlkOk N sc scope own) (hT : chT N scope ct tg = true) (hin : inB (own.map (·.2)) ct = true)
    (ht : ∀ (s : Shared) (H : Hp) (C : Addr) (cl : List (Str × Addr)) (fp : List Addr), PTs (X.blk s H scope (compEnvC scope cl C X.env) fp) ifs (tT F.W nowish mq))
    (he : ∀ (s : Shared) (H : Hp) (C : Addr) (cl : List (Str × Addr)) (fp : List Addr), PE (X.blk s H scope (compEnvC scope cl C X.env) fp) elt (tE F.W nowish me)) (hs : setB iter = false) :
    PS X (.Assign [.Name y py] (.ListComp elt [⟨tg, iter, ifs, 0⟩] scope p) pos) (tS F.W w (fun s G => (lcSem ct (own.map (·.2)) mi mq me s G).st s fun d G1 => .nx (s.set i (some d)) G1)) := by
  have hset : ∀ x, foldedSetIterable iter X.env x = pure x := by
    intro x
    cases iter <;> first | rfl | (simp [setB] at hs)
  have hyl' : X.env.scope.names.lookup y = some .local := by rw [g.hsc]; exact hyl
  refine (ps_setLc (i := i) (spos := pos) g.calm (by rw [g.hN]; exact g.nd) (by rw [g.hN]; exact hy) hyl' (sw_true g.knd hyl' hl hn) hI (by rw [g.hN, g.hsc]; exact ok)
    (fun s H C cl fp => pg_T g.toGd.blk.hK (g.toGd.blk (s := s) (H := H) (fp := fp) (C := C) (cl := cl)).calm g.hN g.nd so_blk hT) ht he hset).imp fun D σ H ⟨ρ, sl, G, r, S, h⟩ => ?_
  refine lc_read hin σ H _ ⟨ρ, sl, G, r, S, h.mid S fun ρ1 G1 H1 d v _ st rv hh => ?_⟩
  exact hh ρ1 H1 _ (.refl st.rel) ((st.rs S).set rv i)
theorem x_tpl {is : List Nat} (hT : chT N sc (.tp is) tg = true) (hc : compB e = false) (ht : tupB' e = false) (he : PE X e (tE F.W w m)) : PS X (.Assign [tg] e pos) (tS F.W w (fun s G => (m s G).st s fun d G1 => match bindT (.tp is) d s with
    | some s2 => .nx s2 G1
    | none => .bad)) := by
  have h1 : swappedStores [tg] e X.env = pure none := by
    cases e <;> first | (simp [tupB'] at ht; done) | (cases tg <;> rfl)
  have h2 : (assignEach [tg] X.env).map (·.2) = [assign tg X.env] := by
    cases tg <;> simp only [chT, Bool.false_eq_true] at hT
    rfl
  refine (ps_asg he (pg_T g.hK g.calm g.hN g.nd g.so hT) (sw_no hc) h1 h2).imp fun D σ H ⟨ρ, sl, G, r, S, h⟩ => ⟨ρ, sl, G, r, S, h.mid S fun ρ1 G1 H1 d v _ st rv hh => ?_⟩
  split at hh
  · rename_i s2 hb
    exact bind_ok hb (st.rs S) rv fun σ2 S2 _ => hh ρ1 H1 σ2 (.refl st.rel) S2
  · exact hh.elim
theorem x_fst {f : Nat} (hc : compB e = false) (ho : PE X o (tE F.W w m1)) (he : PE X e (tE F.W w m)) : PS X (.Assign [.Attribute o (F.W.nm f) p] e pos) (tS F.W w (fun s G => (m s G).st s fun v G1 => (m1 s G1).st s fun x G2 => match x with
    | .ref r => (match G2[r]? with
      | some (.ins k fs) => (match c.P.cls[k]? with
        | some cl => if fs.length < 1000 ∧ cl.flds.contains f = true then .nx s (G2.set r (.ins k (setF f v fs))) else .bad
        | none => .bad)
      | _ => .bad)
    | _ => .bad)) := by
  refine (ps_fld ho he (sw_no hc)).imp fun D σ H ⟨ρ, sl, G, r, S, h⟩ => ⟨ρ, sl, G, r, S, h.mid S fun ρ1 G1 H1 d v _ st rv hh => ?_⟩
  refine ⟨ρ1, sl, G1, st.rel, st.rs S, hh.mid (st.rs S) fun ρ2 G2 H2 d2 v2 _ st2 rv2 h3 => ?_⟩
  split at h3
  · rename_i rr
    split at h3
    · rename_i kc fs hfs
      split at h3
      · rename_i cl hcl
        split at h3
        · rename_i hcc
          rw [g.P] at hcl
          cases rv2 with
          | ref _ hi =>
            obtain ⟨dx, gs, q1, q2⟩ := st2.rel.obj _ _ hfs
            obtain ⟨nA, hf⟩ := g.T.fl kc cl f hcl hcc.2
            obtain ⟨_, CC⟩ := g.T.mk_ kc cl hcl
            refine ⟨_, _, _, gs, rfl, q1, by rw [g.hK]; exact CC, by rw [g.hK]; exact nA, by rw [← q2.length]; exact hcc.1, ?_⟩
            have st3 := Step.put (u := .ins (F.W.cA kc) dx gs) (u' := .ins (F.W.cA kc) dx (putF (F.W.nm f) v gs)) (o := .ins kc (setF f d fs)) st2.rel hi q1 trivial (fun fs z => by cases z)
              ⟨dx, _, upd_same, (RF.put g.T hf (st2.rv rv) q2).mono (Nat.le_refl _) (fun _ _ => rfl) (.put (u := .ins (F.W.cA kc) dx gs) q1 trivial)⟩
            exact h3 ρ2 _ σ st3 (st3.rs ((st.trans st2).rs S))
        · exact h3.elim
      · exact h3.elim
    · exact h3.elim
  · exact h3.elim
theorem x_ife (ht : PT X tt (tT F.W w q)) (ha : PSs X sts1 (tS F.W w x)) (hb : PSs X sts2 (tS F.W w y)) : PS X (.If tt sts1 sts2 pos) (tS F.W w (fun s G => (q s G).st s fun b G1 => if b then x s G1 else y s G1)) := by
  refine (ps_if ht ha hb).imp fun D σ H ⟨ρ, sl, G, r, S, h⟩ => ⟨ρ, sl, G, r, S, h.mid S fun ρ1 G1 H1 d v _ st rv hh => ?_⟩
  subst rv
  cases d with
  | true => exact ⟨ρ1, sl, G1, st.rel, st.rs S, hh⟩
  | false => exact ⟨ρ1, sl, G1, st.rel, st.rs S, hh⟩
theorem xs_nil : PSs X [] (tS F.W w (fun s G => .nx s G)) := ⟨fun pins s σ H D I ⟨ρ, sl, G, r, S, h⟩ => pss_nil.run pins s σ H D I (h ρ H σ (.refl r) S)⟩
theorem xs_cons (h1 : PS X st (tS F.W w x)) (h2 : PSs X sts1 (tS F.W w y)) : PSs X (st :: sts1) (tS F.W w (fun s G => (x s G).seq y)) := by
  refine ⟨fun pins s σ H D I ⟨ρ, sl, G, r, S, h⟩ => (pss_cons h1 h2).run pins s σ H D I ⟨ρ, sl, G, r, S, ?_⟩⟩
  dsimp only at h
  cases hx : x sl G with
  | nx s' G' =>
    rw [hx] at h
    exact fun ρ' H' σ' st rs => ⟨ρ', s', G', st.rel, rs, PstS.move st h⟩
  | rt d G' => rw [hx] at h; exact h
  | bk s' G' => rw [hx] at h; exact h
  | ct s' G' => rw [hx] at h; exact h
  | exc c f s' G' => rw [hx] at h; exact h
  | bad => rw [hx] at h; exact h.elim
abbrev lopStep (ct : T) (y : Sl → Hh → Rs) : D → Sl → Hh → Rs := fun d s G => match bindT ct d s with
  | some s2 => y s2 G
  | none => .bad
theorem x_lop {ct : T} (hs : setB iter = false) (hT : chT N sc ct tg = true) (hI : PI X tg iter (tI F.W w mi)) (hb : PSs X sts1 (tS F.W w y)) :
    PS X (.For tg iter sts1 [] pos) (tS F.W w (fun s G => (mi s G).st s fun J G1 => forLoop J.ok (lopStep ct y) J.items s G1)) := by
  have hset : ∀ x, foldedSetIterable iter X.env x = pure x := by
    intro x
    cases iter <;> first | rfl | (simp [setB] at hs)
  refine (ps_for g.own g.calm hI (pg_T g.hK g.calm g.hN g.nd g.so hT) hb hset).imp fun D σ H ⟨ρ, sl, G, r, S, h⟩ => ⟨ρ, sl, G, r, S, h.mid S fun ρ1 G1 H1 J J' _ st rj h1 => ?_⟩
  refine ⟨fun i mm σ' H' => ∃ ρ' G' s', Step F.W ρ1 G1 H1 ρ' G' H' ∧ RS F.W ρ' G'.length H' s' σ' ∧ i ≤ J.items.length ∧ mm = J.items.length - i ∧ PstS F.W w ρ' G' H' (forLoop J.ok (lopStep ct y) (J.items.drop i) s' G') D,
    ⟨_, ρ1, G1, sl, .refl st.rel, st.rs S, Nat.zero_le _, rfl, by rw [List.drop_zero]; exact h1⟩, ?_⟩
  rintro i mm σ2 H2 ⟨ρ2, G2, s2, st2, S2, hi, rfl, h2⟩
  cases hd : J.items.drop i with
  | nil =>
    have hi2 : i = J.items.length := Nat.le_antisymm hi (by simpa using hd)
    rw [hd] at h2
    unfold forLoop at h2
    cases hok : J.ok G2 with
    | false => rw [hok] at h2; exact h2.elim
    | true =>
      rw [hok] at h2
      obtain ⟨_, q2⟩ := rj ρ2 G2 H2 st2.len st2.ex st2.kp st2.rel hok
      exact .inl ⟨by rw [hi2]; exact q2, h2 ρ2 H2 σ2 (.refl st2.rel) S2⟩
  | cons xx rest =>
    rw [hd] at h2
    unfold forLoop at h2
    cases hok : J.ok G2 with
    | false => rw [hok] at h2; exact h2.elim
    | true =>
      rw [hok] at h2
      simp only [if_true] at h2
      have hx : J.items[i]? = some xx := by
        have := congrArg List.head? hd
        rw [List.head?_drop] at this
        exact this
      have hrest : J.items.drop (i + 1) = rest := by
        have := congrArg List.tail hd
        rw [List.tail_drop] at this
        exact this
      have hlt : i < J.items.length := (List.getElem?_eq_some_iff.mp hx).1
      obtain ⟨q1, _⟩ := rj ρ2 G2 H2 st2.len st2.ex st2.kp st2.rel hok
      obtain ⟨qg, qy⟩ := q1 i xx hx
      refine .inr ⟨qg, fun σ' H' => ∃ m', m' < J.items.length - i ∧ ∃ ρ' G' s', Step F.W ρ1 G1 H1 ρ' G' H' ∧ RS F.W ρ' G'.length H' s' σ' ∧ i + 1 ≤ J.items.length ∧ m' = J.items.length - (i + 1) ∧ PstS F.W w ρ' G' H' (forLoop J.ok (lopStep ct y) (J.items.drop (i + 1)) s' G') D,
        fun _ _ z => z, ?_⟩
      intro z H' hz
      obtain ⟨rfl, rz⟩ := qy z H' hz
      cases hb : bindT ct xx s2 with
      | none => simp only [lopStep, hb] at h2; exact h2.elim
      | some s3 =>
        simp only [lopStep, hb] at h2
        refine bind_ok hb S2 rz fun σ3 S3 _ => ⟨ρ2, s3, G2, st2.rel, S3, ?_⟩
        have go : ∀ {s' : Sl} {G' : Hh} {ρ' : Nat → Addr} {H' σ'}, PstS F.W w ρ2 G2 _ (forLoop J.ok (lopStep ct y) rest s' G') D → Step F.W ρ2 G2 _ ρ' G' H' → RS F.W ρ' G'.length H' s' σ' →
            ∃ m', m' < J.items.length - i ∧ ∃ ρ' G' s', Step F.W ρ1 G1 H1 ρ' G' H' ∧ RS F.W ρ' G'.length H' s' σ' ∧ i + 1 ≤ J.items.length ∧ m' = J.items.length - (i + 1) ∧ PstS F.W w ρ' G' H' (forLoop J.ok (lopStep ct y) (J.items.drop (i + 1)) s' G') D :=
          fun {s' G' ρ' H' σ'} hh st3 S' => ⟨_, by omega, ρ', G', s', st2.trans st3, S', hlt, rfl, by rw [hrest]; exact PstS.move st3 hh⟩
        cases hy : y s3 G2 with
        | nx s' G' => rw [hy] at h2; exact fun ρ' H' σ' st3 S' => go h2 st3 S'
        | ct s' G' => rw [hy] at h2; exact fun ρ' H' σ' st3 S' => go h2 st3 S'
        | bk s' G' => rw [hy] at h2; exact fun ρ' H' σ' st3 S' => h2 ρ' H' σ' st3 S'
        | rt d G' => rw [hy] at h2; exact h2
        | exc c1 f1 s' G' => rw [hy] at h2; exact h2
        | bad => rw [hy] at h2; exact h2.elim
theorem x_whl {n0 : Nat} (ht : PT X tt (tT F.W w q)) (hb : PSs X sts1 (tS F.W w y)) : PS X (.While tt sts1 [] pos) (tS F.W w (fun s G => whlLoop q y n0 s G)) := by
  refine (ps_while g.own ht hb).imp fun D σ H ⟨ρ, sl, G, r, S, h⟩ => ?_
  refine ⟨fun mm σ' H' => ∃ ρ' G' s', Rel F.W ρ' G' H' ∧ RS F.W ρ' G'.length H' s' σ' ∧ PstS F.W w ρ' G' H' (whlLoop q y mm s' G') D, ⟨n0, ρ, G, sl, r, S, h⟩, ?_⟩
  rintro mm σ2 H2 ⟨ρ2, G2, s2, r2, S2, h2⟩
  cases mm with
  | zero => exact h2.elim
  | succ n =>
    unfold whlLoop at h2
    refine ⟨ρ2, s2, G2, r2, S2, h2.mid S2 fun ρ3 G3 H3 bb b' _ st3 eb h3 => ?_⟩
    subst eb
    cases bb with
    | false =>
      rw [if_neg (by decide)]
      exact h3 ρ3 H3 σ2 (.refl st3.rel) (st3.rs S2)
    | true =>
      rw [if_pos rfl]
      simp only [if_true] at h3
      refine ⟨fun σ' H' => ∃ m', m' < n + 1 ∧ ∃ ρ' G' s', Rel F.W ρ' G' H' ∧ RS F.W ρ' G'.length H' s' σ' ∧ PstS F.W w ρ' G' H' (whlLoop q y m' s' G') D, fun _ _ z => z, ρ3, s2, G3, st3.rel, st3.rs S2, ?_⟩
      cases hy : y s2 G3 with
      | nx s' G' => rw [hy] at h3; exact fun ρ' H' σ' st4 S' => ⟨n, Nat.lt_succ_self _, ρ', G', s', st4.rel, S', PstS.move st4 h3⟩
      | ct s' G' => rw [hy] at h3; exact fun ρ' H' σ' st4 S' => ⟨n, Nat.lt_succ_self _, ρ', G', s', st4.rel, S', PstS.move st4 h3⟩
      | bk s' G' => rw [hy] at h3; exact fun ρ' H' σ' st4 S' => h3 ρ' H' σ' st4 S'
      | rt d G' => rw [hy] at h3; exact h3
      | exc c1 f1 s' G' => rw [hy] at h3; exact h3
      | bad => rw [hy] at h3; exact h3.elim
end
end Eng
end
section
set_option Elab.async false
set_option linter.all false
set_option maxRecDepth 100000
set_option maxHeartbeats 1000000
/-! The engine: try: .. except X as e: caught = e. Own work. -/
namespace Eng
open PySem PySem.Spec PyProof.Rows L2

section
variable {X : Cx} {pins : List (Addr × Obj)} {σ : L2.St} {H : Hp} {s : Shared}
/-- an object that nobody knew is known from now on -/
theorem adopt {a : Addr} {φ : Heap → Prop} {o : Obj} {vs : Array Value} (I : Inv X pins σ H s) (ha : H a = none) (h0 : X.s_0.heap.get? a = none) (hL : a ≠ X.env.locals) (hp : ∀ p ∈ X.pn ++ pins, p.1 ≠ a)
    (ho : s.heap.get? a = some o) (hd : o.data = .fields vs) (hφ : φ s.heap) (hst : ∀ h1 h2 : Heap, φ h1 → (∀ o, h1.get? a = some o → h2.get? a = some o) → φ h2) : Inv X pins σ (upd H a (.ext φ)) s := by
  have ne : ∀ {b : Addr} {u : HO}, H b = some u → b ≠ a := fun {b u} e => ne_of_none e ha
  refine ⟨I.ok, I.os, I.bare, ⟨I.base.keep, I.base.slot, fun b ob e n hx => ?_, I.base.there, fun b xs e => ?_, fun b ob u e => ?_, fun b ps e => ?_⟩, I.loc, I.cell, ?_, fun x cc e => ?_, fun p hp' => ?_, fun b u e => ?_, I.len⟩
  · have hb : b ≠ a := fun z => by rw [z, h0] at e; cases e
    rw [upd_ne hb]
    exact I.base.free b ob e n hx
  · have q := I.base.tups b xs e
    rw [upd_ne (ne q)]; exact q
  · have q := I.base.frzs b ob u e
    rw [upd_ne (ne q)]; exact q
  · obtain ⟨more, q⟩ := I.base.tbls b ps e
    exact ⟨more, by rw [upd_ne (ne q)]; exact q⟩
  · rw [upd_ne (Ne.symm hL)]; exact I.free
  · have hc : cc ≠ a := fun z => by
      obtain ⟨v, oc, q1, q2⟩ := I.cell x cc e
      rw [z, ho] at q1
      cases q1
      rw [hd] at q2
      cases q2
    rw [upd_ne hc]; exact I.freeC x cc e
  · obtain ⟨q1, q2, q3⟩ := I.pin p hp'
    exact ⟨q1, by rw [upd_ne (hp p hp')]; exact q2, q3⟩
  · by_cases hb : b = a
    · subst hb
      rw [upd_same] at e
      cases e
      exact ⟨hφ, ⟨o, ho⟩, hst⟩
    · rw [upd_ne hb] at e
      exact (I.hok b u e).stay (fun _ _ _ q => q) (fun c hc => by rw [upd_ne (ne hc)]; exact hc) fun c xs hc => by rw [upd_ne (ne hc)]; exact hc
end
section
variable {t : Tb} {F : Wf} {c : Cfg} {X : Cx} {w : WX} {N : List Str} {sc : Scope} {k : Nat}
theorem GdS.tr (g : GdS t F c X w N sc k) {pn : List (Addr × Obj)} {xe : Value → Shared → Prop} {w' : WX} (tk : Takes (X.tr pn xe) w') (own : PassesOwn (model X.prog X.w) X.A X.env xe) : GdS t F c (X.tr pn xe) w' N sc k where
  T := g.T
  hK := g.hK
  P := g.P
  hN := g.hN
  nd := g.nd
  hsc := g.hsc
  calm := g.calm
  tk := tk
  rm := g.rm
  gu := g.gu
  fn := g.fn
  mk_ := g.mk_
  k0 := g.k0
  own := own
  stk := g.stk
  frm := g.frm
  so := g.so
  ex := g.ex
  knd := g.knd
/-- what the suite wishes of an exception: it ends with the exception in the slot -/
def wCatch (W : Wd) (P : Prg) (x : Nat) (K : PySem.W.Frag) (cx : Value) (err cau : Nat) (w : WX) (D : Ends) : WX := fun cls dd σ H =>
  ∃ b, PySem.W.exmOne K cls cx = some b ∧ (b = true → ∀ a C, cls = .ref C → H a = none → D.nx (((σ.set err (some (.ref a))).set cau (some (.ref a))).set err none) (upd H a (.ext fun h => ∃ (oe : Obj) (vs : Array Value), h.get? a = some oe ∧ oe.cls = .ref C ∧ oe.dict = dd ∧ oe.data = .fields vs))) ∧
    (b = true → ∃ C, cls = .ref C) ∧ (b = false → w cls dd σ H)
theorem try_as (g : GdS t F c X w N sc k) {x n : Str} {cx : Value} {err cau : Nat} {body : List Stmt} {np pos pos' ps : Pos} {tg e1 : Expr} {tb : WX → TS} {xi : Nat} (hi : N[err]? = some n) (hln : sc.names.lookup n = some .local) (hc : Names X x cx)
    (hcau : nmB N sc cau tg = true) (herr : nmB N sc err e1 = true) (hok : okn n = true) (hne : err ≠ cau)
    (hb : ∀ (W : WX) (pn : List (Addr × Obj)) (xe : Value → Shared → Prop), Takes (X.tr pn xe) W → PassesOwn (model X.prog X.w) X.A X.env xe → PSs (X.tr pn xe) body (tb W)) :
    PS X (.Try body [.ExceptHandler (some (.Name x np)) (some n) [.Assign [tg] e1 ps] pos'] [] [] pos) (fun D σ H => tb (wCatch F.W t.P xi X.K cx err cau w D) D σ H) := by
  refine ⟨fun pins s σ H D I h => ?_⟩
  have good := I.ok
  have stkE : X.A.frames = some (X.env :: X.outer) := by rw [good.frames, g.stk]
  have hlnE : X.env.kindOf n = some .local := by show X.env.scope.names.lookup n = _; rw [g.hsc]; exact hln
  have hnd : X.N.Nodup := by rw [g.hN]; exact g.nd
  have hiX : X.N[err]? = some n := by rw [g.hN]; exact hi
  have eE : e1 = .Name n e1.pos := by
    cases e1 <;> simp only [nmB, Bool.false_eq_true] at herr
    rename_i y py
    rw [Bool.and_eq_true] at herr
    have := of_decide_eq_true herr.1
    rw [hi] at this
    cases this
    rfl
  obtain ⟨yc, pc, rfl⟩ : ∃ y p, tg = .Name y p := by
    cases tg <;> simp only [nmB, Bool.false_eq_true] at hcau
    exact ⟨_, _, rfl⟩
  simp only [nmB, Bool.and_eq_true] at hcau
  have hcX : X.N[cau]? = some yc := by rw [g.hN]; exact of_decide_eq_true hcau.1
  obtain ⟨so1, so2⟩ := g.so yc hcau.2
  obtain ⟨on1, on2, _⟩ := okn_ok hok
  refine wpAny_Try_except ?_
  let H0 : List ExceptHandler := [.ExceptHandler (some (.Name x np)) (some n) [.Assign [.Name yc pc] e1 ps] pos']
  let wish : Value → Shared → Prop := fun e s₁ => wpAny (model X.prog X.w) X.A (noteFrame e X.env) (fun _ s₂ => wpAny (model X.prog X.w) X.A (setFlight e none) (fun _ s₃ => wpAny (model X.prog X.w) X.A (handleBy e X.env H0) (SP X pins D) X.xe s₃) X.xe s₂) X.xe s₁
  have caught : Takes (X.tr (X.pn ++ pins) wish) (wCatch F.W t.P xi X.K cx err cau w D) := by
    rintro u s' ⟨a, B, sI, pins', σ', H', cls, d, rfl, J', nb, up, sky, na, os, ag, b, hb1, hyes, hcl, hno⟩
    have J : Inv X pins σ' H' sI := J'.ofTry good
    rw [show (X.tr (X.pn ++ pins) wish).stack = X.env :: X.outer from g.stk] at sky
    show wpAny (model X.prog X.w) X.A (noteFrame (.ref a) X.env) _ _ _
    refine Sky.land Zc.steady stkE g.frm sky fun q3 fly3 w3 => ?_
    have J3 : Inv X pins σ' H' { s' with heap := q3 } := J.landed nb fly3.1 (up.trans w3) os ag
    obtain ⟨ob3, fv3, get3, zc3, dat3⟩ := fly3.there
    have off : ∀ {hh : Heap} {o : Obj} {vs : Array Value}, hh.FunFrames B (X.env :: X.outer) → hh.get? a = some o → o.data = .fields vs → a ∉ frs (X.env :: X.outer) := fun {hh o vs} ff e dd hm => by
      obtain ⟨_, o', e', hnf⟩ := ff.mem hm
      rw [e] at e'
      cases e'
      exact hnf _ dd
    have offA := off fly3.2.2.1 get3 dat3
    have notL : a ≠ X.env.locals := fun z => offA (List.mem_filterMap.mpr ⟨X.env, List.mem_cons_self, by rw [g.frm, z]⟩)
    have notF : a ∉ X.fs := fun hm => by
      obtain ⟨e, he, q⟩ := List.mem_filterMap.mp hm
      exact offA (List.mem_filterMap.mpr ⟨e, List.mem_cons_of_mem _ he, q⟩)
    have S3 := J3.suite get3 dat3 na notL notF
    refine wpAny_handleBy_cons (codeAny_handlers_test ?_) (by intro q; cases q)
    have isC : PySem.W.Looks (model X.prog X.w) q3 (typeOf (.ref a)) cls := fun A Q E s kk q => wpAny_typeOf_ref (kk _ _ get3) (by rw [zc3.1]; exact q)
    have ask := PySem.W.exm_one (M := model X.prog X.w) (J3.kIn) isC hb1
    have nameOf : ∀ {Q : Value → Shared → Prop} {E : Value → Shared → Prop}, Q cx { s' with heap := q3 } → wpAny (model X.prog X.w) (X.A.mark (some (.ref a))) (eval (.Name x np) X.env) Q E { s' with heap := q3 } := fun {Q E} q => by
      obtain ⟨hg, hdbg, hm | ⟨hm, hv, hnn⟩⟩ := hc
      · exact ld_glob (X := X.suite a ((a, ob3) :: (X.pn ++ pins))) S3 hg hm q hdbg
      · exact ld_blt (X := X.suite a ((a, ob3) :: (X.pn ++ pins))) S3 hg hm hv q hnn hdbg
    refine nameOf (ask.here ?_)
    cases b with
    | false =>
      show wpAny _ X.A (handleBy (.ref a) X.env []) _ _ _
      refine wpAny_handleBy_nil ?_
      obtain ⟨z1, z2, z3, oe, vs, T, oT, tv, he, hz, hd, h1, hr⟩ := id fly3
      unfold PySem.passOn
      refine wpAny_bind (wpAny_field he hd h1 ?_)
      rw [if_neg (by simp : ¬ ((Value.ref T == Value.none) = true))]
      have goOn : wpAny (model X.prog X.w) X.A (setFlight (.ref a) X.env.frame) (fun _ s4 => wpAny (model X.prog X.w) X.A (throw (.ref a) : Sem Flow) (SP X pins D) X.xe s4) X.xe { s' with heap := q3 } := by
        rw [g.frm]
        refine HandSPX.setFlight_upZ fly3 fun q4 held4 w4 => wpAny_throw (g.tk _ _ ?_)
        exact ⟨a, B, sI, pins, σ', H', cls, d, rfl, J, nb, (up.trans w3).trans w4, .inr (.inr (by rw [g.stk]; exact held4)), na, os, ag, hno rfl⟩
      first
        | exact wpAny_bind (wpAny_pure (wpAny_bind goOn))
        | exact wpAny_bind goOn
    | true =>
      obtain ⟨C, hC⟩ := hcl rfl
      refine codeAny_handlers_suite_as ?_
      refine HandSPX.lands_againZ fly3 fun q4 fly4 w4 => ?_
      have J4 : Inv X pins σ' H' { s' with heap := q4 } := J.landed nb fly4.1 ((up.trans w3).trans w4) os ag
      obtain ⟨ob4, fv4, get4, zc4, dat4⟩ := fly4.there
      have S4 := J4.suite get4 dat4 na notL notF
      refine store_ok (X := X.suite a ((a, ob4) :: (X.pn ++ pins))) (v := .ref a) S4 hnd hiX (.inl hlnE) rfl (fun s5 S5 => ?_) (.inr hlnE)
      have suiteD : PS (X.suite a ((a, ob4) :: (X.pn ++ pins))) (.Assign [.Name yc pc] e1 ps) (tAsg (tVar err) (gName cau)) := by
        rw [eE]
        exact ps_set (X := X.suite a ((a, ob4) :: (X.pn ++ pins))) (i := cau) hnd hcX so1 (pe_var (i := err) hiX (.inl hlnE) on1 on2) rfl so2
      have lenE : err < (σ'.set err (some (V.ref a))).length := by
        rw [List.length_set, J.len]
        exact (List.getElem?_eq_some_iff.mp hiX).1
      refine wpAny_mono ((pss_one suiteD).run [] s5 _ H' { nx := fun σ6 H6 => σ6 = (σ'.set err (some (.ref a))).set cau (some (.ref a)) ∧ H6 = H', rt := fun _ _ => False } S5 ⟨.ref a, by rw [List.getElem?_set_self (by rw [List.length_set] at lenE; exact lenE)], rfl, rfl⟩) (fun f s6 hsp => ?_) (fun _ _ z => False.elim z)
      cases f with
      | brk => obtain ⟨_, _, _, z⟩ := hsp; exact z.elim
      | cont => obtain ⟨_, _, _, z⟩ := hsp; exact z.elim
      | ret u => obtain ⟨_, _, _, _, _, z⟩ := hsp; exact z.elim
      | next =>
        obtain ⟨σ6, H6, S6, rfl, rfl⟩ := hsp
        have J6 : Inv X ((a, ob4) :: pins) ((σ'.set err (some (V.ref a))).set cau (some (.ref a))) H6 s6 := (S6.unsuite good).pins_of fun p hp => by
          rcases List.mem_cons.mp hp with e | hp
          · subst e
            exact S6.pin _ (List.mem_append_left _ List.mem_cons_self)
          · exact S6.pin p (List.mem_append_left _ (List.mem_cons_of_mem _ (List.mem_append_right _ hp)))
        have sIa : sI.heap.get? a = none := by
          cases q : sI.heap.get? a with
          | none => rfl
          | some o =>
            have := nb a o q (by rw [show (X.tr (X.pn ++ pins) wish).stack = X.env :: X.outer from g.stk]; exact offA)
            rw [fly3.2.1] at this
            cases this
        have s0a : X.s_0.heap.get? a = none := by
          cases q : X.s_0.heap.get? a with
          | none => rfl
          | some o =>
            obtain ⟨o', q'⟩ := J.base.there a o q (by rw [g.ex]; simp)
            rw [sIa] at q'
            cases q'
        have pinA : ∀ p ∈ X.pn ++ pins, p.1 ≠ a := fun p hp z => by
          obtain ⟨q1, _⟩ := J.pin p hp
          rw [z, sIa] at q1
          cases q1
        refine gone_ok J6 hnd hiX hlnE fun s7 J7 => ?_
        have get7 := (J7.pin (a, ob4) (List.mem_append_right _ List.mem_cons_self)).1
        have J8 : Inv X pins _ H6 s7 := J7.pins_of fun p hp => J7.pin p (List.mem_append_right _ (List.mem_cons_of_mem _ hp))
        have J9 := adopt (φ := fun h => ∃ (oe : Obj) (vs : Array Value), h.get? a = some oe ∧ oe.cls = .ref C ∧ oe.dict = d ∧ oe.data = .fields vs) J8 na s0a notL pinA get7 dat4 ⟨ob4, fv4, get7, by rw [zc4.1, hC], zc4.2, dat4⟩
          fun h1 h2 ⟨oe, vs, q1, q2⟩ kk => ⟨oe, vs, kk _ q1, q2⟩
        exact ⟨_, _, J9, hyes rfl a C hC na⟩
  refine wpAny_mono ((hb _ (X.pn ++ pins) wish caught PassesOwn.looking).run [] s σ H D (I.toTry _) h) (fun f s1 hsp => ?_) (fun e s1 he => he)
  cases f with
  | next =>
    obtain ⟨σ', H', J', q⟩ := hsp
    exact wpAny_execs_nil ⟨σ', H', J'.ofTry good, q⟩
  | brk =>
    obtain ⟨σ', H', J', q⟩ := hsp
    exact ⟨σ', H', J'.ofTry good, q⟩
  | cont =>
    obtain ⟨σ', H', J', q⟩ := hsp
    exact ⟨σ', H', J'.ofTry good, q⟩
  | ret u =>
    obtain ⟨v, σ', H', J', r, q⟩ := hsp
    exact ⟨v, σ', H', J'.ofTry good, r, q⟩
end
end Eng
end
section
set_option Elab.async false
set_option linter.all false
set_option maxRecDepth 100000
set_option maxHeartbeats 1000000
/-! The engine: raise, try as the evaluator has them; fields of a caught exception. Own work. -/
namespace Eng
open PySem PySem.Spec PyProof.Rows L2

section
variable {t : Tb} {F : Wf} {c : Cfg} {X : Cx} {w : WX} {N : List Str} {sc : Scope} {k : Nat}
theorem x_try (g : GdS t F c X w N sc k) {x n : Str} {err cau : Nat} {body : List Stmt} {np pos pos' ps : Pos} {tg e1 : Expr} {y : Sl → Hh → Rs} {xi : Nat} (hx : t.xnm[xi]? = some x) (hgl : glB sc x = true) (hi : N[err]? = some n) (hln : sc.names.lookup n = some .local)
    (hcau : nmB N sc cau tg = true) (herr : nmB N sc err e1 = true) (hok : okn n = true) (hne : err ≠ cau)
    (hb : ∀ (W : WX) (pn : List (Addr × Obj)) (xe : Value → Shared → Prop), Takes (X.tr pn xe) W → PassesOwn (model X.prog X.w) X.A X.env xe → PSs (X.tr pn xe) body (tS F.W W y)) :
    PS X (.Try body [.ExceptHandler (some (.Name x np)) (some n) [.Assign [tg] e1 ps] pos'] [] [] pos) (tS F.W w (fun s G => match y s G with
      | .exc k f s' G' => (match catches c.P xi k with
        | some true => .nx ((s'.set cau (some (.ref G'.length))).set err none) (G' ++ [.exc k f])
        | some false => .exc k f s' G'
        | none => .bad)
      | r => r)) := by
  have hmx := g.T.xn xi x hx
  obtain ⟨gx1, gx2, _⟩ := g.gl hgl
  refine (try_as (xi := xi) (cx := .ref (F.W.xA xi)) g hi hln ⟨gx1, gx2, .inl hmx⟩ hcau herr hok hne hb).imp fun D σ H ⟨ρ, sl, G, r, S, h⟩ => ⟨ρ, sl, G, r, S, ?_⟩
  dsimp only at h
  cases hy : y sl G with
  | nx s' G' => rw [hy] at h; exact h
  | rt d G' => rw [hy] at h; exact h
  | bk s' G' => rw [hy] at h; exact h
  | ct s' G' => rw [hy] at h; exact h
  | bad => rw [hy] at h; exact h
  | exc kx f s' G' =>
    rw [hy] at h
    dsimp only at h
    intro ρ' H' σ' cls dd st S' rx
    obtain ⟨hcls, hf⟩ := id rx
    cases hcat : catches c.P xi kx with
    | none => rw [hcat] at h; exact h.elim
    | some b =>
      rw [hcat] at h
      unfold catches at hcat
      split at hcat
      · rename_i q hq
        cases hcat
        rw [g.P] at hq
        have hex := g.T.xm xi kx x q hx hq
        refine ⟨q.ups.contains xi, by rw [g.hK, hcls]; exact hex, fun hbt a C hC ha => ?_, fun _ => ⟨_, hcls⟩, fun hbf => ?_⟩
        · rw [hbt] at h
          rw [hcls] at hC
          cases hC
          have nx0 : ∀ b u, H' b = some u → upd H' a (.ext fun h => ∃ (oe : Obj) (vs : Array Value), h.get? a = some oe ∧ oe.cls = .ref (F.W.xA kx) ∧ oe.dict = dd ∧ oe.data = .fields vs) b = some u := fun b u e => by rw [upd_ne (ne_of_none e ha)]; exact e
          have ro : RO F.W (ext ρ' G'.length a) (G'.length + 1) (upd H' a (.ext fun h => ∃ (oe : Obj) (vs : Array Value), h.get? a = some oe ∧ oe.cls = .ref (F.W.xA kx) ∧ oe.dict = dd ∧ oe.data = .fields vs)) a (.exc kx f) := by
            cases f with
            | none =>
              have hf : dd = none := hf
              subst hf
              exact upd_same
            | some v =>
              obtain ⟨dx, fl, xv, rfl, q1, q2, q3, q4⟩ := hf
              refine ⟨dx, fl, xv, upd_same, q1, nx0 _ _ q2, fun i hi z => ?_, q4.mono (Nat.le_succ _) (fun i h => ext_lt h) (.new ha)⟩
              by_cases e : i = G'.length
              · rw [e, ext_at] at z
                rw [z] at ha
                rw [ha] at q2
                cases q2
              · rw [ext_lt (by omega)] at z
                exact q3 i (by omega) z
          have st2 := Step.new (o := .exc kx f) st.rel ha (.new ha) nx0 ro
          have S2 := st2.rs S'
          have ra : RV F.W.K (ext ρ' G'.length a) (G' ++ [O.exc kx f]).length (upd H' a (.ext fun h => ∃ (oe : Obj) (vs : Array Value), h.get? a = some oe ∧ oe.cls = .ref (F.W.xA kx) ∧ oe.dict = dd ∧ oe.data = .fields vs)) (.ref G'.length) (.ref a) := by
            have q := RV.ref (K := F.W.K) (ρ := ext ρ' G'.length a) (n := (G' ++ [O.exc kx f]).length) (H := upd H' a (.ext fun h => ∃ (oe : Obj) (vs : Array Value), h.get? a = some oe ∧ oe.cls = .ref (F.W.xA kx) ∧ oe.dict = dd ∧ oe.data = .fields vs)) G'.length (by rw [List.length_append, List.length_singleton]; omega)
            rw [ext_at] at q
            exact q
          have S3 := ((S2.set ra err).set ra cau).del err
          rw [List.set_comm (some (Eng.D.ref G'.length)) none (fun z => hne z.symm), List.set_set, List.set_comm none (some (Eng.D.ref G'.length)) hne] at S3
          exact h _ _ _ (st.trans st2) S3
        · rw [hbf] at h
          exact h ρ' H' σ' cls dd st S' rx
      · cases hcat
end
end Eng
end
section
set_option Elab.async false
set_option linter.all false
set_option maxRecDepth 100000
set_option maxHeartbeats 1000000
/-! The engine: raise; fields of exceptions; isinstance. Own work. -/
namespace Eng
open PySem PySem.Spec PyProof.Rows L2

theorem PstS.one {W : Wd} {w : WX} {ρ : Nat → Addr} {G : Hh} {H : Hp} {σ : L2.St} {sl : Sl} {D : Ends} {r : R Eng.D} {kk : Eng.D → Hh → Rs} (S : RS W ρ G.length H sl σ) (h : PstS W w ρ G H (r.st sl kk) D) {Q1 : List V → Hp → Prop}
    (hk : ∀ ρ1 G1 H1 d v, r = .ok d G1 → Step W ρ G H ρ1 G1 H1 → RV W.K ρ1 G1.length H1 d v → PstS W w ρ1 G1 H1 (kk d G1) D → Q1 [v] H1) : Pst W w ρ G H σ (rlDs W) (r.bind fun x G1 => .ok [x] G1) Q1 := by
  cases r with
  | ok d G1 =>
    intro ρ' H' vs st rv
    cases rv with
    | cons h1 h2 => cases h2; exact hk ρ' G1 H' d _ rfl st h1 (PstS.move st h)
  | exc c f G1 => exact fun ρ' H' cls dd st rx => h ρ' H' σ cls dd st (st.rs S) rx
  | bad => exact h
section
variable {t : Tb} {F : Wf} {c : Cfg} {X : Cx} {w : WX} {N : List Str} {sc : Scope} {k : Nat}
theorem x_rse (g : GdS t F c X w N sc k) {x : Str} {xi fl : Nat} {e : Expr} {m : Sl → Hh → R D} {p p2 pos : Pos} (hx : t.xnm[xi]? = some x) (hf : (t.P.exs[xi]?.bind (·.fld)) = some fl) (hgl : glB sc x = true) (h0 : starB e = false) (he : PE X e (tE F.W w m)) :
    PS X (.Raise (some (.Call (.Name x p) [e] [] p2)) none pos) (tS F.W w (fun s G => (m s G).st s fun d G1 => .exc xi (some d) s G1)) := by
  obtain ⟨hfl, _, fI, cc, cda, fd, T, hB, _⟩ := g.T.xc xi fl hf
  obtain ⟨gx1, gx2, _⟩ := g.gl hgl
  have hA : PA X [e] (tA F.W w (fun s G => (m s G).bind fun x G1 => .ok [x] G1)) := a_cons g.toGd h0 he (a_nil g.toGd)
  rw [← g.hK] at T hB
  have F1 := xinit_ok (w := X.w) (base := X.base) T
  have hp : Passes (CX X.prog X.w) X (fun _ _ _ => False) := fun pins σ H s e s' I ⟨_, _, _, _, _, _, _, _, _, _, _, _, z⟩ => z.elim
  refine (ps_raise g.calm g.tk (pmk_oex (ds := []) (dvs := []) T.ox T.ini T.tyI F1 (g.rm.mono (by omega)) hB .nil hp gx1 (g.T.xn xi x hx) hA gx2 (star_cons h0) rfl)).imp fun D σ H ⟨ρ, sl, G, r, S, h⟩ => ⟨ρ, sl, G, r, S, PstS.one S h fun ρ1 G1 H1 d v _ st rv hh => ?_⟩
  refine ⟨by show 1 ≤ 1000; omega, fun a ha => ⟨a, v, rfl, upd_same, fun dx hdx hda => ⟨rfl, dx, [(F.W.nm fl, v)], upd_same, by rw [upd_ne hda, upd_same], ?_, ?_⟩⟩⟩
  · rw [upd_ne hda] at hdx; exact hdx
  · rw [upd_ne hda] at hdx
    have eH : upd (L2.del (upd (upd (upd H1 a (exo a (F.W.xA xi) none)) dx (exd dx [(F.W.nm fl, v)])) a (exo a (F.W.xA xi) (some dx))) a) dx (.xd [(F.W.nm fl, v)]) = upd H1 dx (.xd [(F.W.nm fl, v)]) := by
      funext b
      by_cases hb : b = dx
      · rw [hb, upd_same, upd_same]
      · rw [upd_ne hb, upd_ne hb]
        by_cases hba : b = a
        · rw [hba, L2.del_same, ha]
        · rw [L2.del_ne hba, upd_ne hba, upd_ne hb, upd_ne hba]
    rw [eH]
    have st2 := Step.side (o := .xd [(F.W.nm fl, v)]) st.rel hdx
    refine hh ρ1 _ σ (.ref (F.W.xA xi)) (some dx) st2 (st2.rs (st.rs S)) ⟨rfl, dx, fl, v, rfl, by rw [g.T.hP]; exact hf, upd_same, fun i hi z => ?_, st2.rv rv⟩
    obtain ⟨u, hu⟩ := st.rel.has hi
    rw [z, hdx] at hu
    cases hu
/-- a field of an instance or of an exception -/
theorem s_fld (g : Gd t F c X w N sc k) {f : Nat} {o : Expr} {m : Sl → Hh → R D} {pos : Pos} (hb : callB o = false) (ho : PE X o (tE F.W w m)) : PE X (.Attribute o (F.W.nm f) pos) (tE F.W w (fun s G => (m s G).bind fun x G1 => match x with
    | .ref r => (match G1[r]? with
      | some (.ins k fs) => (match c.P.cls[k]?, fs.lookup f with
        | some cl, some v => if cl.flds.contains f then .ok v G1 else .bad
        | _, _ => .bad)
      | some (.exc e (some v)) => (match c.P.exs[e]? with
        | some q => if q.fld = some f then .ok v G1 else .bad
        | none => .bad)
      | _ => .bad)
    | _ => .bad)) := by
  refine ⟨fun pins s σ H Q I ⟨ρ, sl, G, r, S, h⟩ => ?_⟩
  refine attr_of (attr_base hb) (runE ho I r S h fun u s1 ρ1 G1 H1 d v I1 rv st1 rd S1 ee h1 => ?_)
  split at h1
  · rename_i rr
    split at h1
    · rename_i kc fs hfs
      split at h1
      · rename_i cl x hcl hx
        split at h1
        · rename_i hc
          rw [g.P] at hcl
          cases rd with
          | ref _ hi =>
            obtain ⟨dx, gs, q1, q2⟩ := st1.rel.obj _ _ hfs
            obtain ⟨nA, hf⟩ := g.T.fl kc cl f hcl hc
            obtain ⟨M, CC⟩ := g.T.mk_ kc cl hcl
            have lk := RF.look g.T hf q2
            rw [hx] at lk
            obtain ⟨z, hz, rz⟩ := lk
            obtain rfl : u = Value.ref (ρ1 rr) := rv
            refine getattr_ok I1 q1 (by rw [g.hK]; exact CC) (by rw [g.hK]; exact nA) hz fun u' s2 I2 ru => ⟨z, H1, I2, ru, fin_ok st1.rel h1 rz⟩
        · exact h1.elim
      · exact h1.elim
    · rename_i ke fv hfs
      split at h1
      · rename_i q hq
        split at h1
        · rename_i hqf
          rw [g.P] at hq
          cases rd with
          | ref _ hi =>
            obtain ⟨dx, fl, x, q1, q2, q3, q4, q5⟩ := st1.rel.obj _ _ hfs
            have hbind : (t.P.exs[ke]?.bind (·.fld)) = some f := by rw [hq]; exact hqf
            rw [g.T.hP, hbind] at q2
            cases q2
            obtain ⟨hfl, XC, fI, cc, cda, fd, TT, _⟩ := g.T.xc ke f hbind
            obtain rfl : u = Value.ref (ρ1 rr) := rv
            have hx : ObjOk X.prog X.w H1 s1.heap dx (.xd [(F.W.nm f, x)]) := I1.hok dx _ q3
            obtain ⟨mA, hns, hr⟩ := hx
            obtain ⟨od, ho2, hl⟩ := lookIn_ns hns
            obtain ⟨u2, hu, ru⟩ := RelO.some_of (v := x) (o := mA (F.W.nm f)) (by
              have := hr (F.W.nm f)
              rw [List.lookup_cons, beq_self_eq_true] at this
              exact this)
            obtain ⟨⟨oe, vs, e1, e2, e3, e4⟩, _⟩ := (show ObjOk X.prog X.w H1 s1.heap (ρ1 rr) (exE (F.W.xA ke) (ρ1 rr) dx) from I1.hok _ _ q1)
            rw [← g.hK] at XC TT
            have J : PySem.W.InstAt s1.heap (ρ1 rr) oe (F.W.xA ke) (some od) := ⟨e1, e2, by unfold PySem.W.notCls; rw [e4] <;> rfl, by rw [e3]; exact ho2⟩
            exact HandSPX.exc_get I1.kIn J XC.ga XC.gg XC.exC (PySem.W.findObj_own XC.hdC TT.noF rfl (by rw [hl, hu])) (handed_of ru) ⟨x, H1, I1.tok _, ru, fin_ok st1.rel h1 q5⟩
        · exact h1.elim
      · exact h1.elim
    · exact h1.elim
  · exact h1.elim
/-- isinstance by values -/
theorem isi_ok (g : Gd t F c X w N sc k) {pins : List (Addr × Obj)} {s : Shared} {σ : L2.St} {H : Hp} {ρ : Nat → Addr} {G : Hh} {d : D} {v : V} {u : Value} {ty : Ty} {b : Bool} {Q : VK} (I : Inv X pins σ H s) (r : Rel F.W ρ G H) (rv : L2.RelV v u) (rd : RV F.W.K ρ G.length H d v)
    (e : isin c.P G ty d = some b) (h : Q (.bl b) H) : wpAny (model X.prog X.w) X.A (call (.builtin "isinstance") [u, tyV F.W ty]) (EP X pins σ Q) X.xe s := by
  unfold isin at e
  split at e
  · rename_i a ha
    split at e
    · rename_i hk
      rw [g.P] at e hk
      rw [Bool.and_eq_true] at hk
      have hka : a ∈ t.P.kinds := by simpa using hk.1
      have hkt : ty ∈ t.P.kinds := by simpa using hk.2
      have kit := g.T.is a ty b hka hkt e
      rw [← g.hK] at kit
      have gen : ∀ {tv : Value}, TyX X.K H v tv → PySem.W.kitOne X.K tv (tyV F.W ty) = some b → wpAny (model X.prog X.w) X.A (call (.builtin "isinstance") [u, tyV F.W ty]) (EP X pins σ Q) X.xe s := fun {tv} tx ke => by
        obtain ⟨P, Z, hP, hne⟩ := kit_of I rv tx
        exact PySem.W.kia_one Z I.kIn hP ke hne fun tk => ⟨.bl b, H, I.tok _, rfl, h⟩
      cases rd with
      | non => cases ha; exact gen (.base .non) kit
      | bl x => cases ha; exact gen (.base (.bl x)) kit
      | int x => cases ha; exact gen (.base (.int x)) kit
      | str x => cases ha; exact gen (.base (.str x)) kit
      | tup t1 r1 =>
        cases ha
        rcases t1 with (t1 | ⟨ob, t1⟩) | ⟨ob, its, n, t1, t2, _⟩
        · exact gen (.base (.tup t1)) kit
        · exact gen (.fTuple t1) kit
        · exact gen (.kTuple (by rw [g.hK]; exact t1) t2) kit
      | scr t1 =>
        cases ha
        rcases t1.sq with (t2 | ⟨ob, t2⟩) | ⟨ob, its, n, t2, t3, _⟩
        · exact gen (.base (.lst t2)) kit
        · exact gen (.base (.frz t2)) kit
        · exact gen (.kList (by rw [g.hK]; exact t2) t3) kit
      | ref i hi =>
        simp only [kindD] at ha
        split at ha
        · rename_i xs hx
          cases ha
          obtain ⟨vs, q1, q2⟩ := r.obj _ _ hx
          exact gen (.base (.lst q1)) kit
        · rename_i kvs hx
          cases ha
          rcases r.obj _ _ hx with ⟨ks, q1, _⟩ | ⟨ks, q1, _⟩
          · exact gen (.base (.dK q1)) kit
          · exact gen (.base (.dT q1)) kit
        · rename_i kc fs hx
          cases ha
          obtain ⟨dx, gs, q1, q2⟩ := r.obj _ _ hx
          obtain ⟨CC, CL⟩ := g.T.ci kc hka
          rw [← g.hK] at CC CL
          exact gen (.base (.ins q1 CL CC.ha CC.hn CC.ht CC.hm)) kit
        · rename_i ke fv hx
          cases ha
          obtain ⟨CC, XC⟩ := g.T.xi ke hka
          rw [← g.hK] at CC XC
          obtain rfl : u = Value.ref (ρ i) := rv
          have Z := fun (oe : Obj) (od : Option Obj) => PySem.W.kitx_exc (x := ρ i) (ox := oe) (od := od) CC.cl XC.ga XC.gg XC.exC CC.ha CC.hn CC.ht CC.hm
          have q := r.obj _ _ hx
          cases fv with
          | none =>
            have q : H (ρ i) = some (exN (F.W.xA ke) (ρ i)) := q
            obtain ⟨⟨oe, vs, e1, e2, e3, e4⟩, _⟩ := (show ObjOk X.prog X.w H s.heap (ρ i) (exN (F.W.xA ke) (ρ i)) from I.hok _ _ q)
            have J : PySem.W.InstAt s.heap (ρ i) oe (F.W.xA ke) none := ⟨e1, e2, by unfold PySem.W.notCls; rw [e4] <;> rfl, by rw [e3]; trivial⟩
            exact PySem.W.kia_one (Z oe none) I.kIn J kit (fun z => nomatch z) fun tk => ⟨.bl b, H, I.tok _, rfl, h⟩
          | some fv =>
            obtain ⟨dx, fl, x, q1, q2, q3, q4, q5⟩ := q
            obtain ⟨⟨oe, vs, e1, e2, e3, e4⟩, _⟩ := (show ObjOk X.prog X.w H s.heap (ρ i) (exE (F.W.xA ke) (ρ i) dx) from I.hok _ _ q1)
            obtain ⟨mA, hns, hr⟩ := (show ObjOk X.prog X.w H s.heap dx (.xd [(F.W.nm fl, x)]) from I.hok dx _ q3)
            obtain ⟨od, ho2, hl⟩ := lookIn_ns hns
            have J : PySem.W.InstAt s.heap (ρ i) oe (F.W.xA ke) (some od) := ⟨e1, e2, by unfold PySem.W.notCls; rw [e4] <;> rfl, by rw [e3]; exact ho2⟩
            exact PySem.W.kia_one (Z oe (some od)) I.kIn J kit (fun z => nomatch z) fun tk => ⟨.bl b, H, I.tok _, rfl, h⟩
        · cases ha
    · cases e
  · cases e
end
end Eng
end
section
set_option Elab.async false
set_option linter.all false
set_option maxRecDepth 100000
set_option maxHeartbeats 2000000
/-! The engine: own exceptions made as values: by position, by name, without. Own work. -/
namespace Eng
section
open PySem PySem.Spec
variable {prog : Program} {w : World} {A : Around} {E : Value → Shared → Prop} {R : Result → Shared → Prop} {hh : Heap} {gs : Array GenState} {dr : Drawn} {tk : Nat} {osx : OsState}
variable {nm q : Str} {Cc N : Addr} {bs bm bmB : List Value} {hdct : Bool} {sn : List Str} {sub : List Value} {ab : Bool} {col : Option Bool} {dd : Option Addr} {k0 k1 k2 k3 k5 : Option Value} {Bn newId initId : String}
variable (F : ExcBaseFacts Bn newId initId bmB) (hT : ∀ X : String, bm.contains (.type X) = bmB.contains (.type X)) {pos : List Value} {kws : List (Str × Value)}
include F hT
theorem kw_check_new {M : Model} {Q : Unit → Shared → Prop} (hC : hh.get? Cc = some (excClassObj nm q Cc N bs bm hdct sn sub ab col dd k0 k1 k2 k3 k5 newId)) (hq : Q () ⟨hh, gs, dr, tk, osx⟩) :
    wpAny M A (checkBuiltinCall newId ⟨.ref Cc :: pos, kws⟩) Q E ⟨hh, gs, dr, tk, osx⟩ := by
  have isB : (Value.ref Cc :: bm).contains (.type Bn) = true := by rw [List.contains_cons, hT, F.hasB, Bool.or_true]
  have star := F.noStar
  simp only [checkBuiltinCall, F.newKind, F.newSplit, F.newRow]
  repeat (first
    | refine wpAny_loadPart_at hC ?_
    | (refine wpAny_isSubtype_exc hC ?_; rw [isB])
    | refine wpAny_staticBase_exc hC ?_
    | refine wpAny_madeBy_exc hC ?_
    | simp only [bne_self_eq_false, Bool.false_eq_true, if_false]
    | wp_step)
  exact hq
theorem kw_new (hC : hh.get? Cc = some (excClassObj nm q Cc N bs bm hdct sn sub ab col dd k0 k1 k2 k3 k5 newId))
    (hq : R (.ok (.ret (.ref (hh.objs.size + 1)))) ⟨(hh.push (PySem.W.kdv_tup pos)).push (PySem.HandSPX.excO Cc hh.objs.size), gs, dr, tk, osx⟩) (hpos : pos.length ≤ sizeLine) :
    codeAny (model prog w) A (.builtin newId ⟨.ref Cc :: pos, kws⟩) R ⟨hh, gs, dr, tk, osx⟩ := by
  have isB : (Value.ref Cc :: bm).contains (.type Bn) = true := by rw [List.contains_cons, hT, F.hasB, Bool.or_true]
  have isA : (Value.ref Cc :: bm).contains (.type "AttributeError") = false := by rw [List.contains_cons, hT, F.noAttr]; rfl
  have isN : (Value.ref Cc :: bm).contains (.type "NameError") = false := by rw [List.contains_cons, hT, F.noName]; rfl
  have ends := F.ends
  refine codeAny_builtinAt F.entry ?_
  unfold Builtin.«BaseException.__new__»
  refine wpAt_bind ?_
  show wpAt _ _ _ (stack >>= _) _ _ _
  refine wpAt_bind (wpAt_stack fun p1 p2 => wpAt_of_wpAny ?_)
  wp_walk
  refine wpAt_of_wpAny ?_
  rw [F.owner]
  repeat (first
    | with_reducible refine wpAny_madeHere_exc F.canon hC ?_
    | with_reducible refine wpAny_loadPart_at hC ?_
    | (with_reducible refine wpAny_isSubtype_exc hC ?_; first | rw [isB] | rw [isA] | rw [isN])
    | wp_step)
  show R _ _
  rw [Heap.size_push]
  exact hq
theorem kw_type_call {fI : Addr} {Q : Fin → Shared → Prop} (hC : hh.get? Cc = some (excClassObj nm q Cc N bs bm hdct sn sub ab col dd k0 k1 k2 k3 k5 newId))
    (hi : PySem.W.Looks (model prog w) hh (typeLookup (.ref Cc) "__init__") (some (.ref fI))) (hb : ∀ self, PySem.W.Looks (model prog w) hh (bindSpecial (.ref fI) self) (.ref fI, [self])) (hpos : pos.length ≤ sizeLine)
    (hq : codeAny (model prog w) A (.call (.ref fI) ⟨.ref (hh.objs.size + 1) :: pos, kws⟩)
      (fun r s' => match r with | .ok (.ret v) => v = .none ∧ Q (.done (.ret (.ref (hh.objs.size + 1)))) s' | .ok _ => False | .error e => E e s')
      ⟨(hh.push (PySem.W.kdv_tup pos)).push (PySem.HandSPX.excO Cc hh.objs.size), gs, dr, tk, osx⟩) :
    wpAny (model prog w) A (Builtin.«type.__call__» ⟨.ref Cc :: pos, kws⟩) Q E ⟨hh, gs, dr, tk, osx⟩ := by
  repeat (first
    | with_reducible refine wpAny_loadPart_at hC ?_
    | with_reducible refine wpAny_madeBy_exc hC ?_
    | wp_step)
  refine codeAny_call_builtin_code (Code.quiet_builtin _ F.quiet) (kw_check_new F hT hC ?_)
  refine kw_new F hT hC ?_ hpos
  show wpAny _ _ _ _ _ _
  have grow : ∀ b o, hh.get? b = some o → ((hh.push (PySem.W.kdv_tup pos)).push (PySem.HandSPX.excO Cc hh.objs.size)).get? b = some o := fun b o e => Heap.get?_push_of_some _ (Heap.get?_push_of_some _ e)
  have hC1 := grow _ _ hC
  have here : ((hh.push (PySem.W.kdv_tup pos)).push (PySem.HandSPX.excO Cc hh.objs.size)).get? (hh.objs.size + 1) = some (PySem.HandSPX.excO Cc hh.objs.size) := by heap_get
  have isC : (Value.ref Cc :: bm).contains (.ref Cc) = true := by simp
  have i2 := hi.keeps grow
  have b2 := (hb (.ref (hh.objs.size + 1))).keeps grow
  unfold isInstance
  repeat (first
    | with_reducible refine wpAny_loadPart_at here ?_
    | (with_reducible refine wpAny_isSubtype_exc hC1 ?_; rw [isC])
    | wp_step)
  show wpAny _ _ (typeLookup (.ref Cc) _) _ _ _
  refine i2.at ?_
  refine wpAny_holding (wpAny_bind (b2.at ?_))
  refine wpAny_bind (wpAny_call (codeAny_mono hq fun r s' hz => ?_))
  rcases r with e | (v | _ | _ | _) <;> first | exact hz | exact hz.elim | skip
  obtain ⟨rfl, hz⟩ := hz
  first
    | exact wpAny_pure (wpAny_pure hz)
    | (wp_walk; exact hz)
theorem kw_call {fI : Addr} (hC : hh.get? Cc = some (excClassObj nm q Cc N bs bm hdct sn sub ab col dd k0 k1 k2 k3 k5 newId))
    (hi : PySem.W.Looks (model prog w) hh (typeLookup (.ref Cc) "__init__") (some (.ref fI))) (hb : ∀ self, PySem.W.Looks (model prog w) hh (bindSpecial (.ref fI) self) (.ref fI, [self])) (hpos : pos.length ≤ sizeLine)
    (hq : codeAny (model prog w) (A.under (.builtin "type.__call__" ⟨.ref Cc :: pos, kws⟩)) (.call (.ref fI) ⟨.ref (hh.objs.size + 1) :: pos, kws⟩) (PySem.W.InitBack (hh.objs.size + 1) R)
      ⟨(hh.push (PySem.W.kdv_tup pos)).push (PySem.HandSPX.excO Cc hh.objs.size), gs, dr, tk, osx⟩) :
    codeAny (model prog w) A (.call (.ref Cc) ⟨pos, kws⟩) R ⟨hh, gs, dr, tk, osx⟩ := by
  have f1 := tc_lookup
  have f2 := tc_bind (.ref Cc)
  have isTy : (⟨hh, gs, dr, tk, osx⟩ : Shared).TypeIs (.ref Cc) "type" := ⟨_, hC, rfl⟩
  refine codeAny_of_tree ?_
  show wpAny _ _ (callAny (.ref Cc) _) _ _ _
  repeat (any_goals (first
    | assumption
    | with_reducible refine wpAny_loadPart_at hC ?_
    | wp_step))
  refine ⟨rfl, ?_⟩
  have isT : PySem.W.Looks (model prog w) hh (isInstance (.ref Cc) (.type "type")) true := by
    have l1 : PySem.W.Looks (model prog w) hh (typeOf (.ref Cc)) (.type "type") := fun A Q E s k q => wpAny_typeOf_ref (k _ _ hC) q
    exact l1.andThen (PySem.W.Looks.of_pure tc_sub)
  refine codeAny_call_builtin_at (Code.quiet_builtin _ (by decide +kernel)) entry_typeCall (PySem.W.check_slot tc_kind tc_split isT (PySem.W.tc_args _ _ _) (kw_type_call F hT hC hi hb hpos ?_))
  refine codeAny_mono hq fun r s' hz => ?_
  rcases r with e | (v | _ | _ | _) <;> exact hz
end
end Eng
end
section
set_option Elab.async false
set_option linter.all false
set_option maxRecDepth 100000
set_option maxHeartbeats 2000000
/-! The engine: == and != by an own __eq__, either way about. Own work. -/
namespace Eng
open PySem PySem.Spec PyProof.Rows L2 PySem.W

section
variable {prog : Program} {w : World} {A : Around} {E : Value → Shared → Prop} {s : Shared} {K : PySem.W.Frag} {x C g : Addr} {ox : Obj} {od : Option Obj} {b : Value}
theorem ifB_builtin {M : Model} {args : List Value} {name : Str} {id : String} {Q : Option Value → Shared → Prop} (X : K.In s.heap) (I : InstAt s.heap x ox C od) (hs : findIn K (.ref C) name = some (some (.builtin id))) (hb : bindSpecial (.builtin id) (.ref x) = pure (.builtin id, [.ref x]))
    (h : wpAny M A (call (.builtin id) (.ref x :: args)) (fun v => Q (some v)) E s) : wpAny M A (callSpecialIfBound? (.ref x) name args) Q E s := by
  simp only [callSpecialIfBound?, bindSpecialIfBound?]
  refine wpAny_holding (wpAny_bind (wpAny_bind (wpAny_bind (I.type.here ((looks_findIn X hs).here ?_)))))
  refine wpAny_bind (wpAny_askSetting (wpAny_ite ?_))
  have fin : wpAny M A (call (.builtin id) ([.ref x] ++ args) >>= fun v => pure (some v)) Q E s := wpAny_bind (wpAny_mono h (fun v s' h' => wpAny_pure h') fun _ _ h' => h')
  rw [hb]
  split
  · exact wpAny_bind (wpAny_pure (wpAny_pure fin))
  · exact wpAny_tryCatch (wpAny_bind (wpAny_pure (wpAny_pure fin)))
theorem ne_bind (v : Value) : bindSpecial (.builtin "object.__ne__") v = pure (.builtin "object.__ne__", [v]) := F.cmp_object.ne.bind v
/-- the answer is a bool -/
def BoolTo (Q : Bool → Shared → Prop) (v : Value) (s' : Shared) : Prop := ∃ r, v = .bool r ∧ Q r s'
theorem try_eq {Q : Option Value → Shared → Prop} (X : K.In s.heap) (I : InstAt s.heap x ox C od) (e : EqC K C g) (h : wpAny (model prog w) A (call (.ref g) [.ref x, b]) (BoolTo fun r => Q (some (.bool r))) E s) :
    wpAny (model prog w) A (tryCompare (.ref x) "__eq__" b) Q E s := by
  unfold tryCompare
  refine wpAny_bind (ifBound_K X I e.eqF e.fn (wpAny_mono h (fun v s' hv => ?_) fun _ _ e => e))
  obtain ⟨r, rfl, hv⟩ := hv
  exact wpAny_pure hv
theorem try_ne {Q : Option Value → Shared → Prop} (hu : A.units + 1 < cLine) (X : K.In s.heap) (I : InstAt s.heap x ox C od) (e : EqC K C g) (h : wpAny (model prog w) A.in1 (call (.ref g) [.ref x, b]) (BoolTo fun r => Q (some (.bool (!r)))) E s) :
    wpAny (model prog w) A (tryCompare (.ref x) "__ne__" b) Q E s := by
  unfold tryCompare
  refine wpAny_bind (ifB_builtin X I e.neF (ne_bind _) (wpAny_call (codeAny_call_builtin F.cmp_object.ne.plain F.cmpEntry_ne (check_slot F.cmpKind_ne F.cmpSplit_ne (I.type.andThen (looks_subIn X e.obj)) (F.cmpArgs_ne _ _) ?_))))
  unfold Builtin.«object.__ne__»
  repeat (first
    | with_reducible refine wpAny_cRoomFor (by show A.units + 1 < cLine; exact hu) ?_
    | (refine wpAny_bind (m := callSpecialIfBound? (.ref x) (Str.ofString "__eq__") [b])
        (ifBound_K X I e.eqF e.fn (wpAny_mono h (fun r s' hr => by
          obtain ⟨b, rfl, hq⟩ := hr
          repeat (first | exact hq | exact wpAny_pure hq | exact wpAny_truthy_bool hq | (refine wpAny_bind (m := truthy (.bool _)) (wpAny_truthy_bool ?_)) | wp_step)) fun _ _ e => e)))
    | wp_step)

theorem rc_left {op : CmpOp} {Q : Value → Shared → Prop} {tb : Value} (hu : A.units < cLine) (X : K.In s.heap) (I : InstAt s.heap x ox C od) (hb : Looks (model prog w) s.heap (typeOf b) tb) (hn : tb = .ref C ∨ subIn K tb (.ref C) = some false)
    (one : wpAny (model prog w) A (tryCompare (.ref x) (cmpInfo op).2.1 b) (fun r s' => ∃ v, r = some v ∧ Q v s') E s) : wpAny (model prog w) A (richCompare op (.ref x) b) Q E s := by
  unfold richCompare
  simp only [oneThing_ref]
  refine wpAny_holding (wpAny_bind (wpAny_cRoomFor hu ?_))
  refine wpAny_bind (I.type.here (wpAny_bind (hb.here ?_)))
  split
  · rename_i q
    have e : subIn K tb (.ref C) = some false := by
      rcases hn with e | e
      · rw [e] at q; simp at q
      · exact e
    refine wpAny_bind ((looks_subIn X e).here ?_)
    simp only [Bool.false_eq_true, if_false]
    refine wpAny_bind (wpAny_mono one (fun r s' z => ?_) fun _ _ e => e)
    obtain ⟨v, rfl, hq⟩ := z
    exact wpAny_pure hq
  · refine wpAny_bind (wpAny_pure ?_)
    simp only [Bool.false_eq_true, if_false]
    refine wpAny_bind (wpAny_mono one (fun r s' z => ?_) fun _ _ e => e)
    obtain ⟨v, rfl, hq⟩ := z
    exact wpAny_pure hq
theorem eq_left {Q : Value → Shared → Prop} {tb : Value} (hu : A.units < cLine) (X : K.In s.heap) (I : InstAt s.heap x ox C od) (e : EqC K C g) (hb : Looks (model prog w) s.heap (typeOf b) tb) (hn : tb = .ref C ∨ subIn K tb (.ref C) = some false)
    (h : wpAny (model prog w) A (call (.ref g) [.ref x, b]) (BoolTo fun r => Q (.bool r)) E s) : wpAny (model prog w) A (richCompare .Eq (.ref x) b) Q E s :=
  rc_left hu X I hb hn (try_eq X I e (wpAny_mono h (fun _ _ ⟨r, e, q⟩ => ⟨r, e, _, rfl, q⟩) fun _ _ e => e))
theorem ne_left {Q : Value → Shared → Prop} {tb : Value} (hu : A.units + 1 < cLine) (X : K.In s.heap) (I : InstAt s.heap x ox C od) (e : EqC K C g) (hb : Looks (model prog w) s.heap (typeOf b) tb) (hn : tb = .ref C ∨ subIn K tb (.ref C) = some false)
    (h : wpAny (model prog w) A.in1 (call (.ref g) [.ref x, b]) (BoolTo fun r => Q (.bool (!r))) E s) : wpAny (model prog w) A (richCompare .NotEq (.ref x) b) Q E s :=
  rc_left (by omega) X I hb hn (try_ne hu X I e (wpAny_mono h (fun _ _ ⟨r, e, q⟩ => ⟨r, e, _, rfl, q⟩) fun _ _ e => e))
/-- the other one is of a built-in class, whose own == says nothing -/
theorem eq_right {Q : Value → Shared → Prop} {a : Value} {T id : String} (hu : A.units < cLine) (X : K.In s.heap) (I : InstAt s.heap x ox C od) (e : EqC K C g) (ha : s.TypeIs a T) (hT : T ∈ ["NoneType", "bool", "int", "str", "tuple", "list", "dict"]) (h1 : Slot T "__eq__" id)
    (hc1 : ∀ Q' : Value → Shared → Prop, Q' .notImplemented s → wpAny (model prog w) A (call (.builtin id) [a, .ref x]) Q' E s)
    (h : wpAny (model prog w) A (call (.ref g) [.ref x, a]) (BoolTo fun r => Q (.bool r)) E s) : wpAny (model prog w) A (richCompare .Eq a (.ref x)) Q E s := by
  unfold richCompare
  simp only [ha.oneThing_none]
  refine wpAny_holding (wpAny_bind (wpAny_cRoomFor hu ?_))
  refine wpAny_bind (wpAny_typeOf ha (wpAny_bind (I.type.here ?_)))
  rw [if_pos (by simp)]
  refine wpAny_bind ((looks_subIn X (e.dn T hT)).here ?_)
  simp only [Bool.false_eq_true, if_false, Bool.not_false, if_true]
  refine wpAny_bind (m := tryCompare a _ _) (wpAny_tryCompare_declines ha h1 (hc1 _ ⟨rfl, ?_⟩))
  refine wpAny_bind (wpAny_mono (try_eq (Q := fun r s' => ∃ v, r = some v ∧ Q v s') X I e (wpAny_mono h (fun _ _ ⟨r, e, q⟩ => ⟨r, e, _, rfl, q⟩) fun _ _ e => e)) (fun r s' z => ?_) fun _ _ e => e)
  obtain ⟨v, rfl, hq⟩ := z
  exact wpAny_pure hq
end

section
variable {prog : Program} {w : World} {A : Around} {E : Value → Shared → Prop} {s : Shared} {K : PySem.W.Frag} {x C dx g : Addr} {Q : Value → Shared → Prop}
open AutoSeq1 (wpAny_loadPart')
theorem dec_none (q : Q .notImplemented s) : wpAny (model prog w) A (call (.builtin "NoneType.__eq__") [.none, .ref x]) Q E s :=
  call_gives F.slot_NoneType_eq rfl F.entry_NoneType_eq (F.args_NoneType_eq_2 _ _) (SeqAt.NoneType___eq___none_ref_0 x) q
theorem dec_int {i : Int} {t : Tok} (hx : s.heap.get? x = some (instObj C dx)) (q : Q .notImplemented s) : wpAny (model prog w) A (call (.builtin "int.__eq__") [.int i t, .ref x]) Q E s := by
  refine GQ.call_here F.slot_int_eq (typeIs_int s i t) F.entry_int_eq (F.args_int_eq_2 _ _) ?_
  obtain ⟨hp, g, d, tk, os⟩ := s
  wp_walk using wpAny_loadPart' hx, wpAny_load hx
  exact q
theorem dec_bool {i : Bool} (hx : s.heap.get? x = some (instObj C dx)) (q : Q .notImplemented s) : wpAny (model prog w) A (call (.builtin "int.__eq__") [.bool i, .ref x]) Q E s := by
  refine GQ.call_here F.slot_bool_eq rfl F.entry_int_eq (F.args_int_eq_2 _ _) ?_
  obtain ⟨hp, g, d, tk, os⟩ := s
  wp_walk using wpAny_loadPart' hx, wpAny_load hx
  exact q
theorem dec_str {i : Str} {t : Tok} (hx : s.heap.get? x = some (instObj C dx)) (q : Q .notImplemented s) : wpAny (model prog w) A (call (.builtin "str.__eq__") [.str i t, .ref x]) Q E s := by
  refine GQ.call_here F.slot_str_eq (typeIs_str s i t) F.entry_str_eq (F.args_str_eq_2 _ _) ?_
  obtain ⟨hp, g, d, tk, os⟩ := s
  wp_walk using wpAny_loadPart' hx, wpAny_load hx
  exact q
theorem dec_list {l : Addr} (hl : s.TypeIs (.ref l) "list") (hi : PySem.W.Looks (model prog w) s.heap (isInstance (.ref x) (.type "list")) false) (q : Q .notImplemented s) : wpAny (model prog w) A (call (.builtin "list.__eq__") [.ref l, .ref x]) Q E s := by
  refine GQ.call_here F.slot_list_eq hl F.entry_list_eq (F.args_list_eq_2 _ _) ?_
  obtain ⟨hp, g, d, tk, os⟩ := s
  have hI : ∀ {A : Around} {E : Value → Shared → Prop} {Q : Bool → Shared → Prop}, Q false ⟨hp, g, d, tk, os⟩ → wpAny (model prog w) A (isInstance (.ref x) (.type "list")) Q E ⟨hp, g, d, tk, os⟩ := fun {A E Q} q => hi.here q
  wp_walk using hI
  exact q
theorem dec_tuple {l : Addr} (hl : s.TypeIs (.ref l) "tuple") (hi : PySem.W.Looks (model prog w) s.heap (isInstance (.ref x) (.type "tuple")) false) (q : Q .notImplemented s) : wpAny (model prog w) A (call (.builtin "tuple.__eq__") [.ref l, .ref x]) Q E s := by
  refine GQ.call_here F.slot_tuple_eq hl F.entry_tuple_eq (F.args_tuple_eq_2 _ _) ?_
  obtain ⟨hp, g, d, tk, os⟩ := s
  have hI : ∀ {A : Around} {E : Value → Shared → Prop} {Q : Bool → Shared → Prop}, Q false ⟨hp, g, d, tk, os⟩ → wpAny (model prog w) A (isInstance (.ref x) (.type "tuple")) Q E ⟨hp, g, d, tk, os⟩ := fun {A E Q} q => hi.here q
  wp_walk using hI
  exact q
theorem dec_dict {l : Addr} (hl : s.TypeIs (.ref l) "dict") (hi : PySem.W.Looks (model prog w) s.heap (isInstance (.ref x) (.type "dict")) false) (q : Q .notImplemented s) : wpAny (model prog w) A (call (.builtin "dict.__eq__") [.ref l, .ref x]) Q E s := by
  refine GQ.call_here F.slot_dict_eq hl F.entry_dict_eq (F.args_dict_eq_2 _ _) ?_
  obtain ⟨hp, g, d, tk, os⟩ := s
  have hI : ∀ {A : Around} {E : Value → Shared → Prop} {Q : Bool → Shared → Prop}, Q false ⟨hp, g, d, tk, os⟩ → wpAny (model prog w) A (isInstance (.ref x) (.type "dict")) Q E ⟨hp, g, d, tk, os⟩ := fun {A E Q} q => hi.here q
  wp_walk using hI
  exact q
end
end Eng
end
section
set_option Elab.async false
set_option linter.all false
set_option maxRecDepth 100000
set_option maxHeartbeats 2000000
/-! The engine: == and != that may ask an own ==; lists of the same items. Own work. -/
namespace Eng
open PySem PySem.Spec PyProof.Rows L2 PySem.W

abbrev tyL : List String := ["NoneType", "bool", "int", "str", "tuple", "list", "dict"]
theorem looks_type {M : Model} {s : Shared} {u : Value} {T : String} (h : s.TypeIs u T) : Looks M s.heap (typeOf u) (.type T) := by
  cases u with
  | ref a =>
    obtain ⟨o, e, c⟩ := h
    exact fun A Q E s' k q => wpAny_typeOf_ref (k _ _ e) (by rw [c]; exact q)
  | _ => exact Looks.of_pure h
theorem isTuple_type {s : Shared} {a : Addr} {its : Array Value} (h : s.heap.IsTuple a its) : s.TypeIs (.ref a) "tuple" := by
  obtain ⟨o, ho, hc, _⟩ := h
  exact ⟨o, ho, hc⟩
theorem isList_type {s : Shared} {a : Addr} {its : Array Value} (h : s.heap.IsList a its) : s.TypeIs (.ref a) "list" := by
  obtain ⟨o, ho, hc, _⟩ := h
  exact ⟨o, ho, hc⟩
section
variable {X : Cx} {W : Wd} {ρ : Nat → Addr} {G : Hh} {H : Hp} {σ : L2.St} {pins : List (Addr × Obj)} {s : Shared} {b : D} {y : V} {u : Value}
theorem dict_type {a : Addr} {kvs : List (D × D)} (I : Inv X pins σ H s) (h : RO W ρ G.length H a (.dic kvs)) : s.TypeIs (.ref a) "dict" := by
  rcases h with ⟨ks, e, _⟩ | ⟨ks, e, _⟩
  · obtain ⟨_, _, vs, _, d⟩ := (show ObjOk X.prog X.w H s.heap a (.dK ks) from I.hok a _ e)
    obtain ⟨o, _, _, e1, ⟨c, _⟩, _⟩ := d
    exact ⟨o, e1, c⟩
  · obtain ⟨_, _, xs, _, o, es, ep, e1, ⟨c, _⟩, _⟩ := (show ObjOk X.prog X.w H s.heap a (.dT ks) from I.hok a _ e)
    exact ⟨o, e1, c⟩
/-- a value of a built-in class -/
theorem plain_type (hK : X.K = W.K) (I : Inv X pins σ H s) (r : Rel W ρ G H) (rb : RV W.K ρ G.length H b y) (ry : L2.RelV y u) (h : plainV G b = true) : ∃ T ∈ tyL, s.TypeIs u T := by
  cases rb with
  | non => cases (show u = Value.none from ry); exact ⟨"NoneType", by decide, rfl⟩
  | bl z => cases (show u = Value.bool z from ry); exact ⟨"bool", by decide, rfl⟩
  | int i => obtain ⟨t, rfl⟩ := (show ∃ t, u = Value.int i t from ry); exact ⟨"int", by decide, typeIs_int s i t⟩
  | str x => obtain ⟨t, rfl⟩ := (show ∃ t, u = Value.str x t from ry); exact ⟨"str", by decide, typeIs_str s x t⟩
  | tup t1 r1 =>
    cases ry
    rw [← hK] at t1
    obtain ⟨its, _, e, _⟩ := I.tuple t1
    exact ⟨"tuple", by decide, isTuple_type e⟩
  | scr t1 =>
    cases ry
    have t2 := t1.sq
    rw [← hK] at t2
    obtain ⟨its, _, e, _⟩ := I.list t2
    exact ⟨"list", by decide, isList_type e.isList⟩
  | ref i hi =>
    cases ry
    simp only [plainV] at h
    split at h
    · rename_i xs hx
      obtain ⟨vs, q1, q2⟩ := r.obj _ _ hx
      obtain ⟨its, _, e, _⟩ := I.list (.of q1)
      exact ⟨"list", by decide, isList_type e.isList⟩
    · rename_i kvs hx
      exact ⟨"dict", by decide, dict_type I (r.obj _ _ hx)⟩
    · cases h
end
section
variable {t : Tb} {F : Wf} {c : Cfg} {X : Cx} {w : WX} {N : List Str} {sc : Scope} {k : Nat} (g : Gd t F c X w N sc k)
variable {ρ : Nat → Addr} {G : Hh} {H : Hp} {σ : L2.St} {sl : Sl} {pins : List (Addr × Obj)} {s : Shared} {Q : VK} {a b : D} {x y : V} {v u : Value}
include g
/-- an instance, as it lies -/
theorem ins_at (I : Inv X pins σ H s) (r : Rel F.W ρ G H) {i kc : Nat} {fs : List (Nat × D)} (h : G[i]? = some (.ins kc fs)) : ∃ dx od, s.heap.get? (ρ i) = some (instObj (F.W.cA kc) dx) ∧ InstAt s.heap (ρ i) (instObj (F.W.cA kc) dx) (F.W.cA kc) od := by
  obtain ⟨dx, gs, q1, q2⟩ := r.obj _ _ h
  obtain ⟨mA, J, _⟩ := ins_get I.hok q1
  have J0 := J.obj
  obtain ⟨od, J, _⟩ := J.look
  exact ⟨dx, _, J0, J⟩
/-- a def called by two values, one level further down -/
theorem callM_ok {sh : Nat} {q : Shp} {zs : List D} {vs : List V} {us : List Value} (hq : t.P.shs[sh]? = some q) (hks : q.ks = []) (I : Inv X pins σ H s) (r : Rel F.W ρ G H) (ru : Vals vs us) (rx : RVs F.W.K ρ G.length H zs vs) {Q : VK}
    (h : PstF F.W ρ G H (callM c sh zs [] G) Q (fun _ _ _ => False)) : wpAny (model X.prog X.w) X.A.in1 (call (.ref (F.fA q.f)) us []) (EP X pins σ Q) X.xe s := by
  unfold callM at h
  rw [g.P, hq] at h
  dsimp only at h
  split at h
  · rename_i hl
    split at h
    · rename_i as hp
      cases k with
      | zero => rw [g.k0 rfl] at h; exact h.elim
      | succ j =>
        obtain ⟨gs, hb, hg⟩ := (g.T.sh sh q hq).to s us [] (by rw [← g.hK]; exact I.kIn) (by rw [← ru.length, ← rx.length]; exact hl.1) (by rw [hks]; rfl)
        obtain ⟨as', ra, rg⟩ := hg ρ G.length H (zs ++ []) as (vs ++ []) (rx.append .nil) (ru.append .nil) hp
        have FF := g.mk_ j q.f rfl
        have hn : as'.length = (F.ps q.f).length := by rw [← ra.length, plan_len hp, (g.T.sh sh q hq).len]
        rw [hks] at hb
        have hr2 : Room (j + 2) X.A.in1 := (show Room (j + 2 + 1) X.A from g.rm).in1
        refine wpAny_call (codeAny_mono (FF.run X.A.in1 X.stack s H ⟨us, []⟩ gs as' Q (fun _ _ _ => False) (by first | exact g.gu | simp [Around.in1, g.gu]) hr2 I.env0.in1 hb rg ⟨hn, ρ, G, as, r, ra, h⟩) fun r' s' hq' => ?_)
        cases r' with
        | error e => obtain ⟨_, _, _, _, _, _, _, _, _, _, _, _, z⟩ := hq'; exact z.elim
        | ok fl =>
          cases fl with
          | ret u => exact I.after hq'
          | next => exact False.elim hq'
          | brk => exact False.elim hq'
          | cont => exact False.elim hq'
    · exact h.elim
  · exact h.elim
theorem callS_ok0 {sh : Nat} {q : Shp} {zs : List D} {vs : List V} {us : List Value} (hq : t.P.shs[sh]? = some q) (hks : q.ks = []) (I : Inv X pins σ H s) (r : Rel F.W ρ G H) (ru : Vals vs us) (rx : RVs F.W.K ρ G.length H zs vs) {Q : VK}
    (h : Pst F.W w ρ G H σ (rlD F.W) (callS c sh zs [] G) Q) : wpAny (model X.prog X.w) X.A (call (.ref (F.fA q.f)) us []) (EP X pins σ Q) X.xe s := by
  have z := callS_ok g hq I r ru (ws := []) (zs := []) .nil rx .nil h
  rw [hks] at z
  exact z
end
/-- what comes of a bool's answer -/
theorem fin_pst {W : Wd} {w : WX} {ρ : Nat → Addr} {G : Hh} {H : Hp} {σ : L2.St} {Q : VK} {ne : Bool} {r : R D} (h : Pst W w ρ G H σ (rlD W) (finB ne r) Q) : Pst W w ρ G H σ (rlD W) r (fun z H' => ∃ b, z = .bl b ∧ Q (.bl (b != ne)) H') := by
  unfold finB at h
  split at h
  · rename_i b G'
    intro ρ' H' z st rz
    cases rz
    exact ⟨b, rfl, h ρ' H' _ st (.bl _)⟩
  · exact h.elim
theorem fin_pstF {W : Wd} {w : WX} {ρ : Nat → Addr} {G : Hh} {H : Hp} {σ : L2.St} {Q : VK} {ne : Bool} {r : R D} {E : XK} (h : Pst W w ρ G H σ (rlD W) (finB ne r) Q) : PstF W ρ G H r (fun z H' => ∃ b, z = .bl b ∧ Q (.bl (b != ne)) H') E := by
  unfold finB at h
  split at h
  · rename_i b G'
    intro ρ' H' z st rz
    cases rz
    exact ⟨b, rfl, h ρ' H' _ st (.bl _)⟩
  · exact h.elim

section
variable {X : Cx} {W : Wd} {ρ : Nat → Addr} {G : Hh} {H : Hp} {σ : L2.St} {pins : List (Addr × Obj)} {s : Shared}
mutual
theorem eqAt_sameD (hK : X.K = W.K) (I : Inv X pins σ H s) : ∀ (n : Nat) (A : Around), A.units + n < cLine → ∀ (d : D) (v v' : V) (u u' : Value), sameD n d = true → RV W.K ρ G.length H d v → RV W.K ρ G.length H d v' → L2.RelV v u → L2.RelV v' u' → SeqAt.EqAt A s u u' true
  | 0, _, _, _, _, _, _, _, h, _, _, _, _ => by simp [sameD] at h
  | n + 1, A, hu, d, v, v', u, u', h, rd, rd', rv, rv' => by
    cases d with
    | non => cases rd; cases rd'; exact eqAt_same rv rv' rfl
    | bl b => cases rd; cases rd'; exact eqAt_same rv rv' rfl
    | int b => cases rd; cases rd'; exact eqAt_same rv rv' rfl
    | str b => cases rd; cases rd'; exact eqAt_same rv rv' rfl
    | ref i => cases rd; cases rd'; cases rv; cases rv'; exact .same _
    | scr ns => simp [sameD] at h
    | tup xs =>
      simp only [sameD] at h
      cases rd with
      | @tup _ a1 vs1 t1 r1 =>
        cases rd' with
        | @tup _ a2 vs2 t2 r2 =>
          cases rv
          cases rv'
          by_cases e : a1 = a2
          · subst e; exact .same _
          · rw [← hK] at t1 t2
            obtain ⟨us, q1, p1, _⟩ := I.tuple t1
            obtain ⟨ws, q2, p2, _⟩ := I.tuple t2
            have l1 : us.length = xs.length := by rw [← q1.length, ← r1.length]
            have l2 : ws.length = xs.length := by rw [← q2.length, ← r2.length]
            have key := SeqAt.RcAt.tuples (A := A) (e := fun _ => true) p1 p2 (by omega) (fun j h1 h2 => by
              have z := eqAt_sameDs hK I n A.in1 (by show A.units + 1 + n < cLine; omega) xs vs1 vs2 us ws h r1 r2 q1 q2 j (by simpa using h1) (by simpa using h2)
              simpa using z)
            refine .of_refs e ?_
            have e1 : ((List.range (min us.toArray.size ws.toArray.size)).all (fun _ => true) && us.toArray.size == ws.toArray.size) = true := by
              rw [List.all_eq_true.mpr fun _ _ => rfl, List.size_toArray, List.size_toArray, l1, l2]
              simp
            rw [e1] at key
            exact key
theorem eqAt_sameDs (hK : X.K = W.K) (I : Inv X pins σ H s) : ∀ (n : Nat) (A : Around), A.units + n < cLine → ∀ (ds : List D) (vs vs' : List V) (us us' : List Value), sameDs n ds = true → RVs W.K ρ G.length H ds vs → RVs W.K ρ G.length H ds vs' → Vals vs us → Vals vs' us' →
    ∀ (j : Nat) (h1 : j < us.length) (h2 : j < us'.length), SeqAt.EqAt A s us[j] us'[j] true
  | n, A, hu, [], _, _, _, _, h, .nil, .nil, .nil, .nil, j, h1, h2 => absurd h1 (Nat.not_lt_zero _)
  | 0, A, hu, d :: ds, vs, vs', us, us', h, _, _, _, _, j, h1, h2 => by simp [sameDs] at h
  | n + 1, A, hu, d :: ds, _ :: vs, _ :: vs', u :: us, u' :: us', h, .cons a1 b1, .cons a2 b2, .cons a3 b3, .cons a4 b4, j, h1, h2 => by
    simp only [sameDs, Bool.and_eq_true] at h
    cases j with
    | zero => exact eqAt_sameD hK I (n + 1) A hu d _ _ _ _ h.1 a1 a2 a3 a4
    | succ j => exact eqAt_sameDs hK I (n + 1) A hu ds vs vs' us us' h.2 b1 b2 b3 b4 j (Nat.lt_of_succ_lt_succ h1) (Nat.lt_of_succ_lt_succ h2)
end
end

section
variable {t : Tb} {F : Wf} {c : Cfg} {X : Cx} {w : WX} {N : List Str} {sc : Scope} {k : Nat} (g : Gd t F c X w N sc k)
variable {ρ : Nat → Addr} {G : Hh} {H : Hp} {σ : L2.St} {sl : Sl} {pins : List (Addr × Obj)} {s : Shared} {Q : VK} {a b : D} {x y : V} {v u : Value}
include g
theorem own_at {i sh : Nat} (h : ownEq c.P G (.ref i) = some sh) : ∃ kc fs cl, G[i]? = some (.ins kc fs) ∧ t.P.cls[kc]? = some cl ∧ cl.eq = some sh := by
  unfold ownEq at h
  rw [g.P] at h
  dsimp only at h
  split at h
  · rename_i kc fs hx
    split at h
    · rename_i cl hcl
      exact ⟨kc, fs, cl, hx, hcl, h⟩
    · cases h
  · cases h
theorem own_ref {d : D} {sh : Nat} (h : ownEq c.P G d = some sh) : ∃ i, d = .ref i := by
  cases d with
  | ref i => exact ⟨i, rfl⟩
  | _ => simp [ownEq] at h
/-- == to a built-in value says nothing of an instance -/
theorem dec_ok (I : Inv X pins σ H s) (r : Rel F.W ρ G H) (rb : RV F.W.K ρ G.length H b y) (ry : L2.RelV y u) (h : plainV G b = true) {xx C dx : Addr} {od : Option Obj} {gq : Addr} (hx : s.heap.get? xx = some (instObj C dx)) (J : InstAt s.heap xx (instObj C dx) C od) (e : EqC X.K C gq) :
    ∃ T id, T ∈ tyL ∧ s.TypeIs u T ∧ Slot T "__eq__" id ∧ ∀ Q' : Value → Shared → Prop, Q' .notImplemented s → wpAny (model X.prog X.w) X.A (call (.builtin id) [u, .ref xx]) Q' X.xe s := by
  have hI : ∀ T ∈ tyL, PySem.W.Looks (model X.prog X.w) s.heap (isInstance (.ref xx) (.type T)) false := fun T hT => J.type.andThen (looks_subIn I.kIn (e.dn T hT))
  cases rb with
  | non => cases (show u = Value.none from ry); exact ⟨"NoneType", _, by decide, rfl, PySem.F.slot_NoneType_eq, fun Q' q => dec_none q⟩
  | bl z => cases (show u = Value.bool z from ry); exact ⟨"bool", _, by decide, rfl, PySem.F.slot_bool_eq, fun Q' q => dec_bool hx q⟩
  | int i => obtain ⟨t, rfl⟩ := (show ∃ t, u = Value.int i t from ry); exact ⟨"int", _, by decide, typeIs_int s i t, PySem.F.slot_int_eq, fun Q' q => dec_int hx q⟩
  | str z => obtain ⟨t, rfl⟩ := (show ∃ t, u = Value.str z t from ry); exact ⟨"str", _, by decide, typeIs_str s z t, PySem.F.slot_str_eq, fun Q' q => dec_str hx q⟩
  | tup t1 r1 =>
    cases ry
    rw [← g.hK] at t1
    obtain ⟨its, _, e, _⟩ := I.tuple t1
    exact ⟨"tuple", _, by decide, isTuple_type e, PySem.F.slot_tuple_eq, fun Q' q => dec_tuple (isTuple_type e) (hI _ (by decide)) q⟩
  | scr t1 =>
    cases ry
    have t2 := t1.sq
    rw [← g.hK] at t2
    obtain ⟨its, _, e, _⟩ := I.list t2
    exact ⟨"list", _, by decide, isList_type e.isList, PySem.F.slot_list_eq, fun Q' q => dec_list (isList_type e.isList) (hI _ (by decide)) q⟩
  | ref i hi =>
    cases ry
    simp only [plainV] at h
    split at h
    · rename_i xs hx
      obtain ⟨vs, q1, q2⟩ := r.obj _ _ hx
      obtain ⟨its, _, e, _⟩ := I.list (.of q1)
      exact ⟨"list", _, by decide, isList_type e.isList, PySem.F.slot_list_eq, fun Q' q => dec_list (isList_type e.isList) (hI _ (by decide)) q⟩
    · rename_i kvs hx
      have z := dict_type I (r.obj _ _ hx)
      exact ⟨"dict", _, by decide, z, PySem.F.slot_dict_eq, fun Q' q => dec_dict z (hI _ (by decide)) q⟩
    · cases h
theorem cmo_ok {ne : Bool} (I : Inv X pins σ H s) (r : Rel F.W ρ G H) (rx : L2.RelV x v) (ry : L2.RelV y u) (ra : RV F.W.K ρ G.length H a x) (rb : RV F.W.K ρ G.length H b y)
    (h : Pst F.W w ρ G H σ (rlD F.W) (cmoR c ne a b G) Q) : wpAny (model X.prog X.w) X.A (compareOp (if ne then .NotEq else .Eq) v u) (EP X pins σ Q) X.xe s := by
  have hu : X.A.units + 1 < cLine := by have := unit65 g; omega
  have back : ∀ {s' : Shared} {u' : Value} {z : V} {H' : Hp}, True := fun {_ _ _ _} => trivial
  unfold cmoR at h
  split at h
  · -- the left one has an own ==
    rename_i sh ho
    obtain ⟨i, rfl⟩ := own_ref g ho
    obtain ⟨kc, fs, cl, hx, hcl, hsh⟩ := own_at g ho
    obtain ⟨q, hq, hks, EC, hall⟩ := g.T.eqc kc cl sh hcl hsh
    have ra0 := ra
    cases ra with
    | ref _ hi =>
      obtain ⟨dx, od, hobj, J⟩ := ins_at g I r hx
      cases rx
      rw [← g.hK] at EC
      split at h
      · rename_i hc
        have tyb : ∃ tb, PySem.W.Looks (model X.prog X.w) s.heap (typeOf u) tb ∧ (tb = .ref (F.W.cA kc) ∨ subIn X.K tb (.ref (F.W.cA kc)) = some false) := by
          rw [Bool.or_eq_true] at hc
          rcases hc with hc | hc
          · obtain ⟨T, hT, z⟩ := plain_type g.hK I r rb ry hc
            exact ⟨_, looks_type z, .inr (EC.up T hT)⟩
          · cases rb with
            | ref j hj =>
              simp only [insV, g.P] at hc
              split at hc
              · rename_i k2 fs2 hy
                obtain ⟨cl2, hcl2⟩ := Option.isSome_iff_exists.mp hc
                obtain ⟨dx2, od2, _, J2⟩ := ins_at g I r hy
                cases ry
                refine ⟨_, J2.type, ?_⟩
                rcases hall k2 cl2 hcl2 with z | z
                · exact .inl (by rw [z])
                · exact .inr (by rw [g.hK]; exact z)
              · cases hc
            | _ => simp [insV] at hc
        obtain ⟨tb, hb, hn⟩ := tyb
        cases ne with
        | true =>
          simp only [if_true] at h
          refine ne_left hu I.kIn J EC hb hn (wpAny_mono (callM_ok g hq hks I r (vs := [V.ref (ρ i), y]) (us := [.ref (ρ i), u]) (.cons rfl (.cons ry .nil)) (.cons ra0 (.cons rb .nil)) (fin_pstF h)) (fun v' s' z => ?_) fun _ _ e => e)
          obtain ⟨z', H', I', rz, bb, rfl, qz⟩ := z
          cases rz
          exact ⟨bb, rfl, .bl (!bb), H', I', rfl, by cases bb <;> exact qz⟩
        | false =>
          simp only [Bool.false_eq_true, if_false] at h
          refine eq_left (by omega) I.kIn J EC hb hn (wpAny_mono (callS_ok0 g hq hks I r (vs := [V.ref (ρ i), y]) (us := [.ref (ρ i), u]) (.cons rfl (.cons ry .nil)) (.cons ra0 (.cons rb .nil)) (fin_pst h)) (fun v' s' z => ?_) fun _ _ e => e)
          obtain ⟨z', H', I', rz, bb, rfl, qz⟩ := z
          cases rz
          exact ⟨bb, rfl, .bl bb, H', I', rfl, by cases bb <;> exact qz⟩
      · exact h.elim
  · split at h
    · rename_i sh ho
      obtain ⟨i, rfl⟩ := own_ref g ho
      obtain ⟨kc, fs, cl, hx, hcl, hsh⟩ := own_at g ho
      obtain ⟨q, hq, hks, EC, hall⟩ := g.T.eqc kc cl sh hcl hsh
      have rb0 := rb
      cases rb with
      | ref _ hi =>
        obtain ⟨dx, od, hobj, J⟩ := ins_at g I r hx
        cases ry
        rw [← g.hK] at EC
        split at h
        · rename_i hc
          rw [Bool.and_eq_true] at hc
          have e0 : ne = false := by simpa using hc.2
          subst e0
          obtain ⟨T, id, hT, ty, sl, hd⟩ := dec_ok g I r ra rx hc.1 hobj J EC
          refine eq_right (by omega) I.kIn J EC ty hT sl hd (wpAny_mono (callS_ok0 g hq hks I r (vs := [V.ref (ρ i), x]) (us := [.ref (ρ i), v]) (.cons rfl (.cons rx .nil)) (.cons rb0 (.cons ra .nil)) (fin_pst h)) (fun v' s' z => ?_) fun _ _ e => e)
          obtain ⟨z', H', I', rz, bb, rfl, qz⟩ := z
          cases rz
          exact ⟨bb, rfl, .bl bb, H', I', rfl, by cases bb <;> exact qz⟩
        · exact h.elim
    · split at h
      · rename_i hs
        unfold eqSame at hs
        split at hs
        · rename_i i j
          split at hs
          · rename_i xs ys hx hy
            rw [Bool.and_eq_true] at hs
            have exy := of_decide_eq_true hs.1
            subst exy
            cases ra; cases rb
            obtain ⟨vs, q1, q2⟩ := r.obj _ _ hx
            obtain ⟨zs, q3, q4⟩ := r.obj _ _ hy
            cases rx
            cases ry
            obtain ⟨its, r1, p1, _⟩ := I.list (.of q1)
            obtain ⟨its2, r2, p2, _⟩ := I.list (.of q3)
            have l1 : its.length = xs.length := by rw [← r1.length, ← q2.length]
            have l2 : its2.length = xs.length := by rw [← r2.length, ← q4.length]
            have hsz : its.toArray.size = its2.toArray.size := by rw [List.size_toArray, List.size_toArray, l1, l2]
            have items : ∀ j (h1 : j < its.toArray.size) (h2 : j < its2.toArray.size), SeqAt.EqAt X.A.in1 s its.toArray[j] its2.toArray[j] true := fun j h1 h2 => by
              have g1 : its[j]? = some its.toArray[j] := by
                have h1' : j < its.length := by simpa using h1
                rw [List.getElem?_eq_getElem h1'] <;> simp
              have g2 : its2[j]? = some its2.toArray[j] := by
                have h2' : j < its2.length := by simpa using h2
                rw [List.getElem?_eq_getElem h2'] <;> simp
              have kx : j < xs.length := by rw [← l1]; simpa using h1
              obtain ⟨a1, ha1, ra1⟩ := q2.get (List.getElem?_eq_getElem kx)
              obtain ⟨a2, ha2, ra2⟩ := q4.get (List.getElem?_eq_getElem kx)
              obtain ⟨b1, hb1, rb1⟩ := r1.get ha1
              obtain ⟨b2, hb2, rb2⟩ := r2.get ha2
              rw [g1] at hb1; rw [g2] at hb2
              rw [Option.some.inj hb1, Option.some.inj hb2]
              exact eqAt_sameD g.hK I 8 X.A.in1 (by show X.A.units + 1 + 8 < cLine; have := unit65 g; omega) _ _ _ _ _ (List.all_eq_true.mp hs.2 _ (List.getElem_mem kx)) ra1 ra2 rb1 rb2
            have hall : ((List.range its.toArray.size).all fun _ => true) = true := List.all_eq_true.mpr fun _ _ => rfl
            have fin := fin_ok r h (.bl (!ne))
            cases ne with
            | true =>
              have z := SeqAt.RcNeAt.lists (A := X.A) (e := fun _ => true) p1.isList p2.isList hsz (by omega) items X.prog X.w X.xe (EP X pins σ Q)
              rw [hall] at z
              exact z ⟨.bl false, H, I, rfl, fin⟩
            | false =>
              have z := SeqAt.RcAt.lists (A := X.A) (e := fun _ => true) p1.isList p2.isList hsz (by omega) items X.prog X.w X.xe (EP X pins σ Q)
              rw [hall] at z
              exact z ⟨.bl true, H, I, rfl, fin⟩
          · cases hs
        · cases hs
      · split at h
        · rename_i hs
          unfold lensNe at hs
          split at hs
          · rename_i i j
            split at hs
            · rename_i xs ys hx hy
              have hne : ¬ xs.length = ys.length := by simpa using hs
              cases ra; cases rb
              obtain ⟨vs, q1, q2⟩ := r.obj _ _ hx
              obtain ⟨zs, q3, q4⟩ := r.obj _ _ hy
              cases rx
              cases ry
              obtain ⟨its, r1, p1, _⟩ := I.list (.of q1)
              obtain ⟨its2, r2, p2, _⟩ := I.list (.of q3)
              have l1 : its.length = xs.length := by rw [← r1.length, ← q2.length]
              have l2 : its2.length = ys.length := by rw [← r2.length, ← q4.length]
              have hsz : (its.toArray.size != its2.toArray.size) = true := by rw [List.size_toArray, List.size_toArray, l1, l2]; simpa using hne
              have fin := fin_ok r h (.bl ne)
              cases ne with
              | true => exact SeqAt.RcNeAt.lists_lengths (A := X.A) p1.isList p2.isList hsz (by omega) X.prog X.w X.xe (EP X pins σ Q) ⟨.bl true, H, I, rfl, fin⟩
              | false => exact SeqAt.RcAt.lists_lengths (A := X.A) p1.isList p2.isList hsz (by omega) X.prog X.w X.xe (EP X pins σ Q) ⟨.bl false, H, I, rfl, fin⟩
            · cases hs
          · cases hs
        cases ne with
        | true => exact cmpR_ok g.hK (unit65 g) I r rx ry ra rb h
        | false => exact cmpR_ok g.hK (unit65 g) I r rx ry ra rb h
variable {ea eb : Expr} {pos : Pos} {m1 m2 : Sl → Hh → R D}
theorem s_cmo {ne : Bool} (hb0 : setB eb = false) (ha : PE X ea (tE F.W w m1)) (hb : PE X eb (tE F.W w m2)) : PE X (.Compare ea [if ne then .NotEq else .Eq] [eb] pos) (tE F.W w (fun s G => (m1 s G).bind fun x G1 => (m2 s G1).bind fun y G2 => cmoR c ne x y G2)) := by
  refine ⟨fun pins s σ H Q I ⟨ρ, sl, G, r, S, h⟩ => ?_⟩
  refine wpAny_Compare1 (runE ha I r S h fun u s1 ρ1 G1 H1 d1 v I1 rv st1 rd S1 _ h1 => ?_) (behind_no hb0)
  refine runE hb I1 st1.rel S1 h1 fun u2 s2 ρ2 G2 H2 d2 v2 I2 rv2 st2 rd2 S2 _ h2 => ?_
  exact cmo_ok g I2 st2.rel rv rv2 (st2.rv rd) rd2 h2
theorem t_cmo {ne : Bool} (hb0 : setB eb = false) (ha : PE X ea (tE F.W w m1)) (hb : PE X eb (tE F.W w m2)) : PT X (.Compare ea [if ne then .NotEq else .Eq] [eb] pos) (tT F.W w (fun s G => (m1 s G).bind fun x G1 => (m2 s G1).bind fun y G2 => (cmoR c ne x y G2).bind asB)) := by
  refine ⟨fun pins s σ H Q I ⟨ρ, sl, G, r, S, h⟩ => ?_⟩
  refine wpAny_isTrue_Compare1 (runE ha I r S h fun u s1 ρ1 G1 H1 d1 v I1 rv st1 rd S1 _ h1 => ?_) (behind_no hb0)
  refine runE hb I1 st1.rel S1 h1 fun u2 s2 ρ2 G2 H2 d2 v2 I2 rv2 st2 rd2 S2 _ h2 => ?_
  refine thn (cmo_ok (Q := fun z H' => ∃ cc, z = .bl cc ∧ Q cc H') g I2 st2.rel rv rv2 (st2.rv rd) rd2 ?_) fun z s3 ⟨v3, H3, I3, r3, cc, e3, q3⟩ => ?_
  · cases hr : cmoR c ne d1 d2 G2 with
    | ok d G3 =>
      rw [hr] at h2
      cases d with
      | bl cc => exact fun ρ' H' bb st rb => by cases rb; exact ⟨cc, rfl, h2 ρ' H' cc st rfl⟩
      | _ => exact h2.elim
    | exc c1 f1 G3 => rw [hr] at h2; exact h2
    | bad => rw [hr] at h2; exact h2.elim
  · subst e3
    cases r3
    exact wpAny_truthy_bool ⟨H3, I3, q3⟩
end
end Eng
end
section
set_option Elab.async false
set_option linter.all false
set_option maxRecDepth 100000
set_option maxHeartbeats 1000000
/-! The engine: built-in functions, 1. Own work. -/
namespace Eng
open PySem PySem.Spec PyProof.Rows L2

def pmS : Pm → String
  | .len => "len" | .abs => "abs" | .int => "int" | .max2 => "max" | .min2 => "min" | .maxL => "max" | .minL => "min" | .sum => "sum" | .list => "list" | .tuple => "tuple" | .sorted => "sorted" | .repr => "repr"
def pmTy : Pm → Bool
  | .int => true | .list => true | .tuple => true | _ => false
def pmV (p : Pm) : Value := if pmTy p then .type (pmS p) else .builtin (pmS p)
section
variable {X : Cx} {W : Wd} {ρ : Nat → Addr} {G : Hh} {H : Hp} {Q : VK} {E : XK} {xs : List D} {vs : List V} {x : D} {v : V}
theorem rvs1 (h : RVs W.K ρ G.length H [x] vs) : ∃ v, vs = [v] ∧ RV W.K ρ G.length H x v := by
  cases h with
  | cons a b => cases b; exact ⟨_, rfl, a⟩
theorem rvs2 {y : D} (h : RVs W.K ρ G.length H [x, y] vs) : ∃ v u, vs = [v, u] ∧ RV W.K ρ G.length H x v ∧ RV W.K ρ G.length H y u := by
  cases h with
  | cons a b => cases b with
    | cons b c => cases c; exact ⟨_, _, rfl, a, b⟩
theorem finF {d : D} {v : V} (r : Rel W ρ G H) (h : PstF W ρ G H (.ok d G) Q E) (rd : RV W.K ρ G.length H d v) : Q v H := h ρ H v (.refl r) rd
theorem layF {xs : List D} {vs : List V} (r : Rel W ρ G H) (h : PstF W ρ G H (alloc (.lst xs) G) Q E) (rd : RVs W.K ρ G.length H xs vs) {p : Addr} (hp : H p = none) : Q (.ref p) (upd H p (.lst vs)) := by
  have st := Step.lay r hp rd
  have q := h _ _ (.ref (ext ρ G.length p G.length)) st (.ref G.length (by rw [List.length_append, List.length_singleton]; omega))
  rw [ext_at] at q
  exact q
/-- a list, as it stands -/
theorem list_of (r : Rel W ρ G H) (rd : RV W.K ρ G.length H x v) (e : listOf G x = some xs) : ∃ a vs, v = .ref a ∧ RVs W.K ρ G.length H xs vs ∧ SqL W.K H a vs := by
  cases rd with
  | ref i hi =>
    simp only [listOf] at e
    split at e
    · rename_i zs hz
      cases e
      obtain ⟨vs, q1, q2⟩ := r.obj _ _ hz
      exact ⟨_, vs, rfl, q2, .of q1⟩
    · cases e
  | scr h =>
    simp only [listOf, Option.some.injEq] at e
    subst e
    exact ⟨_, _, rfl, .ints, h.sq⟩
  | non => cases e
  | bl _ => cases e
  | int _ => cases e
  | str _ => cases e
  | tup _ _ => cases e
theorem ints_list {ns : List Int} (r : Rel W ρ G H) (rd : RV W.K ρ G.length H x v) (e : (listOf G x).bind intsOf = some ns) : ∃ a, v = .ref a ∧ SqL W.K H a (ns.map V.int) := by
  rw [Option.bind_eq_some_iff] at e
  obtain ⟨xs, e1, e2⟩ := e
  obtain ⟨a, vs, rfl, h1, h2⟩ := list_of r rd e1
  rw [intsOf_eq e2] at h1
  rw [h1.ints_of] at h2
  exact ⟨a, rfl, h2⟩
theorem maxI_mem : ∀ {ns : List Int}, ns ≠ [] → maxI ns ∈ ns ∧ ∀ y ∈ ns, y ≤ maxI ns
  | [], h => absurd rfl h
  | [x], _ => ⟨List.mem_singleton.mpr rfl, fun y hy => by rw [List.mem_singleton.mp hy]; exact Int.le_refl _⟩
  | x :: z :: r, _ => by
    obtain ⟨h1, h2⟩ := maxI_mem (ns := z :: r) (by simp)
    show max x (maxI (z :: r)) ∈ _ ∧ ∀ y ∈ _, y ≤ max x (maxI (z :: r))
    refine ⟨?_, fun y hy => ?_⟩
    · by_cases hh : x ≤ maxI (z :: r)
      · rw [Int.max_eq_right hh]; exact List.mem_cons_of_mem _ h1
      · rw [Int.max_eq_left (by omega)]; exact List.mem_cons_self
    · rcases List.mem_cons.mp hy with e | e
      · subst e; omega
      · have := h2 y e; omega
theorem minI_mem : ∀ {ns : List Int}, ns ≠ [] → minI ns ∈ ns ∧ ∀ y ∈ ns, minI ns ≤ y
  | [], h => absurd rfl h
  | [x], _ => ⟨List.mem_singleton.mpr rfl, fun y hy => by rw [List.mem_singleton.mp hy]; exact Int.le_refl _⟩
  | x :: z :: r, _ => by
    obtain ⟨h1, h2⟩ := minI_mem (ns := z :: r) (by simp)
    show min x (minI (z :: r)) ∈ _ ∧ ∀ y ∈ _, min x (minI (z :: r)) ≤ y
    refine ⟨?_, fun y hy => ?_⟩
    · by_cases hh : x ≤ minI (z :: r)
      · rw [Int.min_eq_left hh]; exact List.mem_cons_self
      · rw [Int.min_eq_right (by omega)]; exact List.mem_cons_of_mem _ h1
    · rcases List.mem_cons.mp hy with e | e
      · subst e; omega
      · have := h2 y e; omega
theorem sumI_sum : ∀ ns : List Int, sumI ns = ns.sum
  | [] => rfl
  | x :: r => by rw [List.sum_cons, ← sumI_sum r]; rfl
/-! sorting -/
theorem ins1_perm {α : Type} (le : α → α → Bool) (x : α) : ∀ l : List α, (ins1 le x l).Perm (x :: l)
  | [] => .refl _
  | y :: ys => by
    unfold ins1
    split
    · exact .refl _
    · exact (List.Perm.cons y (ins1_perm le x ys)).trans (List.Perm.swap x y ys)
theorem isort_perm {α : Type} (le : α → α → Bool) : ∀ l : List α, (isort le l).Perm l
  | [] => .refl _
  | x :: xs => (ins1_perm le x _).trans (List.Perm.cons x (isort_perm le xs))
theorem ins1_sorted {α : Type} {le : α → α → Bool} (tot : ∀ a b, le a b = true ∨ le b a = true) (tr : ∀ a b c, le a b = true → le b c = true → le a c = true) (x : α) : ∀ l : List α, l.Pairwise (fun a b => le a b = true) → (ins1 le x l).Pairwise (fun a b => le a b = true)
  | [], _ => List.pairwise_singleton _ _
  | y :: ys, h => by
    unfold ins1
    split
    · rename_i hxy
      refine List.pairwise_cons.mpr ⟨fun z hz => ?_, h⟩
      rcases List.mem_cons.mp hz with e | e
      · rw [e]; exact hxy
      · exact tr _ _ _ hxy ((List.pairwise_cons.mp h).1 z e)
    · rename_i hxy
      obtain ⟨h1, h2⟩ := List.pairwise_cons.mp h
      refine List.pairwise_cons.mpr ⟨fun z hz => ?_, ins1_sorted tot tr x ys h2⟩
      rcases List.mem_cons.mp ((ins1_perm le x ys).mem_iff.mp hz) with e | e
      · rw [e]; exact (tot y x).resolve_right hxy
      · exact h1 z e
theorem isort_sorted {α : Type} {le : α → α → Bool} (tot : ∀ a b, le a b = true ∨ le b a = true) (tr : ∀ a b c, le a b = true → le b c = true → le a c = true) : ∀ l : List α, (isort le l).Pairwise (fun a b => le a b = true)
  | [] => .nil
  | x :: xs => ins1_sorted tot tr x _ (isort_sorted tot tr xs)
theorem sorted_unique {α : Type} {le : α → α → Bool} (anti : ∀ a b, le a b = true → le b a = true → a = b) : ∀ {l m : List α}, l.Perm m → l.Pairwise (fun a b => le a b = true) → m.Pairwise (fun a b => le a b = true) → l = m
  | [], m, p, _, _ => (List.nil_perm.mp p).symm ▸ rfl
  | a :: l, [], p, _, _ => by cases (List.perm_nil.mp p)
  | a :: l, b :: m, p, hl, hm => by
    obtain ⟨h1, h2⟩ := List.pairwise_cons.mp hl
    obtain ⟨h3, h4⟩ := List.pairwise_cons.mp hm
    have e : a = b := by
      rcases List.mem_cons.mp (p.mem_iff.mp (List.mem_cons_self (a := a))) with e | e
      · exact e
      · rcases List.mem_cons.mp (p.symm.mem_iff.mp (List.mem_cons_self (a := b))) with e2 | e2
        · exact e2.symm
        · exact anti _ _ (h1 b e2) (h3 a e)
    subst e
    rw [sorted_unique anti p.cons_inv h2 h4]
theorem intLe_tot (a b : Int) : intLe a b = true ∨ intLe b a = true := by simp only [intLe, decide_eq_true_eq]; omega
theorem intLe_tr (a b c : Int) (h : intLe a b = true) (h2 : intLe b c = true) : intLe a c = true := by simp only [intLe, decide_eq_true_eq] at *; omega
theorem intLe_anti (a b : Int) (h : intLe a b = true) (h2 : intLe b a = true) : a = b := by simp only [intLe, decide_eq_true_eq] at *; omega
theorem lexLe_tot : ∀ a b : List Int, lexLe a b = true ∨ lexLe b a = true
  | [], _ => .inl (by simp [lexLe])
  | _ :: _, [] => .inr (by simp [lexLe])
  | a :: as, b :: bs => by
    simp only [lexLe, Bool.or_eq_true, Bool.and_eq_true, decide_eq_true_eq]
    rcases lexLe_tot as bs with h | h <;> rcases Int.lt_trichotomy a b with q | q | q <;> simp [h, q]
theorem lexLe_anti : ∀ a b : List Int, lexLe a b = true → lexLe b a = true → a = b
  | [], [], _, _ => rfl
  | [], _ :: _, _, h => by simp [lexLe] at h
  | _ :: _, [], h, _ => by simp [lexLe] at h
  | a :: as, b :: bs, h, h2 => by
    simp only [lexLe, Bool.or_eq_true, Bool.and_eq_true, decide_eq_true_eq] at h h2
    rcases h with h | ⟨e, h⟩
    · rcases h2 with h2 | ⟨e2, h2⟩ <;> omega
    · rcases h2 with h2 | ⟨e2, h2⟩
      · omega
      · rw [e, lexLe_anti as bs h h2]
theorem lexLe_tr : ∀ a b c : List Int, lexLe a b = true → lexLe b c = true → lexLe a c = true
  | [], _, _, _, _ => by simp [lexLe]
  | _ :: _, [], _, h, _ => by simp [lexLe] at h
  | _ :: _, _ :: _, [], _, h => by simp [lexLe] at h
  | a :: as, b :: bs, c :: cs, h, h2 => by
    simp only [lexLe, Bool.or_eq_true, Bool.and_eq_true, decide_eq_true_eq] at h h2 ⊢
    rcases h with h | ⟨e, h⟩
    · rcases h2 with h2 | ⟨e2, h2⟩
      · left; omega
      · left; omega
    · rcases h2 with h2 | ⟨e2, h2⟩
      · left; omega
      · right; exact ⟨by omega, lexLe_tr as bs cs h h2⟩
end

def rPf (W : Wd) (f : List D → Hh → R D) : List V → Hp → VK → Prop := fun vs H Q => ∃ ρ G xs, Rel W ρ G H ∧ RVs W.K ρ G.length H xs vs ∧ PstF W ρ G H (f xs G) Q (fun _ _ _ => False)
section
variable {X : Cx} {W : Wd}
theorem pf_one {f : D → Hh → R D} {u : Value} (h : ∀ (pins : List (Addr × Obj)) (s : Shared) (σ : L2.St) (H : Hp) (x : V) (v : Value) (Q : VK) (ρ : Nat → Addr) (G : Hh) (d : D), Inv X pins σ H s → L2.RelV x v → Rel W ρ G H → RV W.K ρ G.length H d x → PstF W ρ G H (f d G) Q (fun _ _ _ => False) →
    wpAny (model X.prog X.w) X.A (call u [v]) (EP X pins σ Q) X.xe s) : CallR X u (rPf W (one1 f)) := by
  rintro pins s σ H vs us Q I r ⟨ρ, G, xs, rl, rx, hh⟩
  cases rx with
  | nil => exact hh.elim
  | cons a b => cases b with
    | cons _ _ => exact hh.elim
    | nil =>
      obtain ⟨v, rfl, rv⟩ := vals1 r
      exact h pins s σ H _ v Q ρ G _ I rv rl a hh
theorem pf_two {f : D → D → Hh → R D} {u : Value} (h : ∀ (pins : List (Addr × Obj)) (s : Shared) (σ : L2.St) (H : Hp) (x y : V) (v w : Value) (Q : VK) (ρ : Nat → Addr) (G : Hh) (d e : D), Inv X pins σ H s → L2.RelV x v → L2.RelV y w → Rel W ρ G H → RV W.K ρ G.length H d x → RV W.K ρ G.length H e y → PstF W ρ G H (f d e G) Q (fun _ _ _ => False) →
    wpAny (model X.prog X.w) X.A (call u [v, w]) (EP X pins σ Q) X.xe s) : CallR X u (rPf W (two2 f)) := by
  rintro pins s σ H vs us Q I r ⟨ρ, G, xs, rl, rx, hh⟩
  cases rx with
  | nil => exact hh.elim
  | cons a b => cases b with
    | nil => exact hh.elim
    | cons b c => cases c with
      | cons _ _ => exact hh.elim
      | nil =>
        obtain ⟨v, w, rfl, rv, rw'⟩ := vals2 r
        exact h pins s σ H _ _ v w Q ρ G _ _ I rv rw' rl a b hh
theorem prm_len (hK : X.K = W.K) : CallR X (.builtin "len") (rPf W (one1 pLen)) := pf_one fun pins s σ H x v Q ρ G d I rv rl rd h => by
  unfold pLen at h
  split at h
  · split at h
    · rename_i hz
      cases rd
      exact call_len pins s σ H _ [v] Q I (.cons rv .nil) ⟨_, _, rfl, ⟨hz, rfl⟩, finF rl h (.int _)⟩
    · exact h.elim
  · split at h
    · rename_i xs hxs
      obtain ⟨a, vs, rfl, h1, h2⟩ := rl.seq rd hxs
      have hl := h1.length
      rw [← hK] at h2
      refine call_len pins s σ H _ [v] Q I (.cons rv .nil) ⟨_, vs.length, rfl, ?_, by rw [← hl]; exact finF rl h (.int _)⟩
      rcases h2 with h2 | h2
      · exact .inl ⟨_, h2, rfl⟩
      · exact .inr ⟨_, h2, rfl⟩
    · exact h.elim
theorem prm_abs : CallR X (.builtin "abs") (rPf W (one1 pAbs)) := pf_one fun pins s σ H x v Q ρ G d I rv rl rd h => by
  cases d <;> simp only [pAbs] at h <;> try exact h.elim
  cases rd
  exact call_abs pins s σ H _ [v] Q I (.cons rv .nil) ⟨_, rfl, finF rl h (.int _)⟩
theorem prm_int : CallR X (.type "int") (rPf W (one1 pInt)) := pf_one fun pins s σ H x v Q ρ G d I rv rl rd h => by
  cases d <;> simp only [pInt] at h <;> try exact h.elim
  · cases rd
    exact call_int1 pins s σ H _ [v] Q I (.cons rv .nil) (.inr ⟨_, rfl, finF rl h (.int _)⟩)
  · cases rd
    exact call_int1 pins s σ H _ [v] Q I (.cons rv .nil) (.inl ⟨_, rfl, finF rl h (.int _)⟩)
theorem prm_max2 (hc : X.calm = true) : CallR X (.builtin "max") (rPf W (two2 pMax2)) := pf_two fun pins s σ H x y v w Q ρ G d e I rv rw' rl rd re h => by
  cases d <;> cases e <;> simp only [pMax2] at h <;> try exact h.elim
  cases rd; cases re
  exact call_max2 hc pins s σ H _ [v, w] Q I (.cons rv (.cons rw' .nil)) ⟨_, _, rfl, finF rl h (.int _)⟩
theorem prm_min2 (hc : X.calm = true) : CallR X (.builtin "min") (rPf W (two2 pMin2)) := pf_two fun pins s σ H x y v w Q ρ G d e I rv rw' rl rd re h => by
  cases d <;> cases e <;> simp only [pMin2] at h <;> try exact h.elim
  cases rd; cases re
  exact call_min2 hc pins s σ H _ [v, w] Q I (.cons rv (.cons rw' .nil)) ⟨_, _, rfl, finF rl h (.int _)⟩
theorem prm_maxL (hK : X.K = W.K) (hc : X.calm = true) : CallR X (.builtin "max") (rPf W (one1 pMaxL)) := pf_one fun pins s σ H x v Q ρ G d I rv rl rd h => by
  unfold pMaxL at h
  split at h
  · rename_i n ns hn
    obtain ⟨a, rfl, h2⟩ := ints_list rl rd hn
    rw [← hK] at h2
    obtain ⟨m1, m2⟩ := maxI_mem (ns := n :: ns) (by simp)
    refine cr_max hc pins s σ H _ [v] Q I (.cons rv .nil) ⟨a, n :: ns, rfl, h2, by simp, fun m e1 e2 => ?_⟩
    have : m = maxI (n :: ns) := Int.le_antisymm (m2 m e1) (e2 _ m1)
    rw [this]
    exact finF rl h (.int _)
  · exact h.elim
theorem prm_minL (hK : X.K = W.K) (hc : X.calm = true) : CallR X (.builtin "min") (rPf W (one1 pMinL)) := pf_one fun pins s σ H x v Q ρ G d I rv rl rd h => by
  unfold pMinL at h
  split at h
  · rename_i n ns hn
    obtain ⟨a, rfl, h2⟩ := ints_list rl rd hn
    rw [← hK] at h2
    obtain ⟨m1, m2⟩ := minI_mem (ns := n :: ns) (by simp)
    refine cr_min hc pins s σ H _ [v] Q I (.cons rv .nil) ⟨a, n :: ns, rfl, h2, by simp, fun m e1 e2 => ?_⟩
    have : m = minI (n :: ns) := Int.le_antisymm (e2 _ m1) (m2 m e1)
    rw [this]
    exact finF rl h (.int _)
  · exact h.elim
theorem prm_sum (hK : X.K = W.K) (hc : X.calm = true) : CallR X (.builtin "sum") (rPf W (one1 pSum)) := pf_one fun pins s σ H x v Q ρ G d I rv rl rd h => by
  unfold pSum at h
  split at h
  · rename_i ns hn
    obtain ⟨a, rfl, h2⟩ := ints_list rl rd hn
    rw [← hK] at h2
    refine cr_sum hc pins s σ H _ [v] Q I (.cons rv .nil) ⟨a, ns, rfl, h2, ?_⟩
    rw [← sumI_sum]
    exact finF rl h (.int _)
  · exact h.elim
theorem prm_list (hK : X.K = W.K) : CallR X (.type "list") (rPf W (one1 pList)) := pf_one fun pins s σ H x v Q ρ G d I rv rl rd h => by
  unfold pList at h
  split at h
  · rename_i xs hxs
    obtain ⟨a, vs, rfl, h1, h2⟩ := rl.seq rd hxs
    rw [← hK] at h2
    exact call_list_of pins s σ H _ [v] Q I (.cons rv .nil) ⟨a, vs, rfl, h2, fun l hl => layF rl h h1 hl⟩
  · exact h.elim
theorem tupF {Q : VK} {E : XK} {ρ : Nat → Addr} {G : Hh} {H : Hp} {xs : List D} {vs : List V} (r : Rel W ρ G H) (h : PstF W ρ G H (.ok (.tup xs) G) Q E) (rd : RVs W.K ρ G.length H xs vs) {p : Addr} (hp : H p = none) : Q (.ref p) (upd H p (.tup vs)) :=
  h ρ _ _ (Step.side r hp) (.tup (.of upd_same) (rd.mono (Nat.le_refl _) (fun _ _ => rfl) (.new hp)))
theorem prm_tuple (hK : X.K = W.K) : CallR X (.type "tuple") (rPf W (one1 pTuple)) := pf_one fun pins s σ H x v Q ρ G d I rv rl rd h => by
  unfold pTuple at h
  split at h
  · rename_i xs hxs
    obtain ⟨a, vs, rfl, h1, h2⟩ := rl.seq rd hxs
    refine call_tuple_of pins s σ H _ [v] Q I (.cons rv .nil) ⟨a, vs, rfl, ?_⟩
    rcases h2 with h2 | h2
    · exact .inl ⟨by rw [hK]; exact h2, fun l hl => tupF rl h h1 hl⟩
    · exact .inr ⟨by rw [hK]; exact h2, finF rl h (.tup h2 h1)⟩
  · exact h.elim
end
end Eng
end
section
set_option Elab.async false
set_option linter.all false
set_option maxRecDepth 100000
set_option maxHeartbeats 1000000
/-! The engine: sorted. Own work. -/
namespace Eng
open PySem PySem.Spec PyProof.Rows L2

theorem tupsOf_eq : ∀ {xs : List D} {ts : List (List Int)}, tupsOf xs = some ts → xs = ts.map (fun t => D.tup (t.map .int)) ∧ ∀ t ∈ ts, t ≠ []
  | [], ts, h => by simp only [tupsOf, Option.some.injEq] at h; subst h; exact ⟨rfl, fun t h => by cases h⟩
  | .tup ys :: r, ts, h => by
    simp only [tupsOf] at h
    split at h
    · rename_i n ns us h1 h2
      cases h
      obtain ⟨e1, e2⟩ := tupsOf_eq h2
      refine ⟨by rw [List.map_cons, ← e1, intsOf_eq h1], fun t ht => ?_⟩
      rcases List.mem_cons.mp ht with e | e
      · rw [e]; simp
      · exact e2 t e
    · cases h
  | .non :: _, _, h => by simp [tupsOf] at h
  | .bl _ :: _, _, h => by simp [tupsOf] at h
  | .int _ :: _, _, h => by simp [tupsOf] at h
  | .str _ :: _, _, h => by simp [tupsOf] at h
  | .ref _ :: _, _, h => by simp [tupsOf] at h
  | .scr _ :: _, _, h => by simp [tupsOf] at h

/-- a value that is a tuple of ints -/
def TIn (K : PySem.W.Frag) (H : Hp) (ns : List Int) (v : V) : Prop := ∃ t, v = .ref t ∧ SqT K H t (ns.map V.int)
section
variable {W : Wd} {ρ : Nat → Addr} {n : Nat} {H : Hp}
inductive TIs (K : PySem.W.Frag) (H : Hp) : List (List Int) → List V → Prop
  | nil : TIs K H [] []
  | cons {t : List Int} {v : V} {ts : List (List Int)} {vs : List V} : TIn K H t v → TIs K H ts vs → TIs K H (t :: ts) (v :: vs)
theorem tis_of : ∀ {ts : List (List Int)} {vs : List V}, RVs W.K ρ n H (ts.map fun t => D.tup (t.map .int)) vs → TIs W.K H ts vs
  | [], _, .nil => .nil
  | t :: ts, _, .cons h r => by
    refine .cons ?_ (tis_of r)
    cases h with
    | tup h1 h2 =>
      rw [h2.ints_of] at h1
      exact ⟨_, rfl, h1⟩
theorem rvs_of_tis : ∀ {ts : List (List Int)} {vs : List V}, TIs W.K H ts vs → RVs W.K ρ n H (ts.map fun t => D.tup (t.map .int)) vs
  | _, _, .nil => .nil
  | _, _, .cons ⟨_, e, h⟩ r => by subst e; exact .cons (.tup h .ints) (rvs_of_tis r)
end
/-- the ints in a tuple of the heap -/
def nsOf (h : Heap) (v : Value) : List Int := match G.tupKeyC h (fun _ => false) v with
  | some l => l.map fun | .inl i => i | .inr _ => 0
  | none => []
theorem items_ints : ∀ {ns : List Int} {us : List Value} (j : Nat), Vals (ns.map V.int) us → tupItems (fun _ => false) j us = some (ns.map Sum.inl)
  | [], _, _, .nil => rfl
  | n :: ns, _, j, .cons ⟨t, e⟩ r => by
    subst e
    unfold tupItems
    rw [if_neg (by decide), items_ints (j + 1) r]
    rfl
theorem key_of {X : Cx} {pins : List (Addr × Obj)} {σ : L2.St} {H : Hp} {s : Shared} {t : Addr} {ns : List Int} (I : Inv X pins σ H s) (h : SqT X.K H t (ns.map V.int)) :
    G.tupKeyC s.heap (fun _ => false) (.ref t) = some (ns.map Sum.inl) ∧ (ns ≠ [] → ∃ f, TupOf s.heap (fun _ => false) (.ref t) f) := by
  obtain ⟨its, r, ⟨o, ho, hc, k, hd⟩, _⟩ := I.tuple h
  refine ⟨?_, fun hne => ?_⟩
  · unfold G.tupKeyC G.isTupObj tupKey
    simp only [ho, hc, hd]
    rw [if_pos (by decide)]
    exact items_ints 0 r
  · cases ns with
    | nil => exact absurd rfl hne
    | cons a as =>
      cases r with
      | cons ra rr =>
        obtain ⟨tk, e⟩ := id ra
        subst e
        exact ⟨.int a tk, t, o, _, k, rfl, ho, hc, hd, rfl, fun _ => ⟨a, tk, rfl⟩, fun z => by cases z⟩
theorem map_inl : ∀ ns : List Int, (ns.map (Sum.inl (β := List Nat))).map (fun | .inl i => i | .inr _ => 0) = ns
  | [] => rfl
  | n :: r => by rw [List.map_cons, List.map_cons, map_inl r]
theorem lex_of : ∀ a b : List Int, lexLt itemOrd (b.map Sum.inl) (a.map Sum.inl) = false → lexLe a b = true
  | [], _, _ => by simp [lexLe]
  | _ :: _, [], h => by simp [PyProof.Rows.lexLt] at h
  | x :: a, y :: b, h => by
    simp only [List.map_cons, PyProof.Rows.lexLt, Bool.or_eq_false_iff, Bool.and_eq_false_iff, Bool.not_eq_false'] at h
    obtain ⟨h1, h2⟩ := h
    have h1' : ¬ (y < x) := of_decide_eq_false (show decide (y < x) = false from h1)
    simp only [lexLe, Bool.or_eq_true, Bool.and_eq_true, decide_eq_true_eq]
    rcases h2 with h2 | h2
    · left
      exact of_decide_eq_true (show decide (x < y) = true from h2)
    · by_cases e : x = y
      · exact .inr ⟨e, lex_of a b h2⟩
      · left; omega
section
variable {X : Cx} {pins : List (Addr × Obj)} {σ : L2.St} {H : Hp} {s : Shared}
theorem tis_vals (I : Inv X pins σ H s) : ∀ {ts : List (List Int)} {vs : List V} {its : List Value}, TIs X.K H ts vs → Vals vs its → (∀ t ∈ ts, t ≠ []) →
    (∃ fs, TupsOf s.heap (fun _ => false) its fs) ∧ (∀ v ∈ its, ∃ l, G.tupKeyC s.heap (fun _ => false) v = some l) ∧ its.map (nsOf s.heap) = ts ∧ (∀ v ∈ its, TIn X.K H (nsOf s.heap v) (backV v) ∧ (∃ a, v = Value.ref a) ∧ G.tupKeyC s.heap (fun _ => false) v = some ((nsOf s.heap v).map Sum.inl))
  | _, _, _, .nil, .nil, _ => ⟨⟨[], .nil⟩, fun v h => by (cases h), rfl, fun v h => by cases h⟩
  | ns :: _, _, _, .cons ⟨t, e, h⟩ r, .cons rv rr, hne => by
    subst e
    obtain rfl := (show _ = Value.ref t from rv)
    obtain ⟨⟨fs, h1⟩, h2, h3, h4⟩ := tis_vals I r rr fun t ht => hne t (List.mem_cons_of_mem _ ht)
    obtain ⟨k1, k2⟩ := key_of I h
    obtain ⟨f, hf⟩ := k2 (hne _ List.mem_cons_self)
    have en : nsOf s.heap (.ref t) = ns := by
      unfold nsOf
      rw [k1]
      exact map_inl _
    refine ⟨⟨f :: fs, .cons hf h1⟩, fun v hv => ?_, by rw [List.map_cons, h3, en], fun v hv => ?_⟩
    · rcases List.mem_cons.mp hv with e | e
      · exact ⟨_, by rw [e]; exact k1⟩
      · exact h2 v e
    · rcases List.mem_cons.mp hv with e | e
      · rw [e, en]; exact ⟨⟨t, rfl, h⟩, ⟨t, rfl⟩, k1⟩
      · exact h4 v e
theorem tis_out {f : Value → List Int} : ∀ {out : List Value}, (∀ v ∈ out, TIn X.K H (f v) (backV v)) → TIs X.K H (out.map f) (out.map backV)
  | [], _ => .nil
  | v :: r, h => .cons (h v List.mem_cons_self) (tis_out fun u hu => h u (List.mem_cons_of_mem _ hu))
/-- sorted(xs), xs a list of tuples of ints -/
theorem sorted_tis {l : Addr} {ts : List (List Int)} {vs : List V} {Q : VK} (I : Inv X pins σ H s) (hs : SqL X.K H l vs) (ht : TIs X.K H ts vs) (hne : ∀ t ∈ ts, t ≠ [])
    (q : ∀ ys p, TIs X.K H (isort lexLe ts) ys → H p = none → Q (.ref p) (upd H p (.lst ys))) : wpAny (model X.prog X.w) X.A (call (.builtin "sorted") [.ref l]) (EP X pins σ Q) X.xe s := by
  obtain ⟨its, rv, hl, hz⟩ := I.list hs
  obtain ⟨⟨fs, h1⟩, h2, h3, h4⟩ := tis_vals I ht rv hne
  refine G.sorted_tups (shape := fun _ => false) hl.isList h1 h2 (by rw [← rv.length]; exact hz) fun st' p1 p2 _ => ?_
  have pz : ∀ p ∈ (arrOf st').toList, p.1 = p.2 ∧ p.1 ∈ its := fun p hp => by
    have := (Array.perm_iff_toList_perm.mp p1).mem_iff.mp hp
    rw [pairsOf_toList] at this
    exact mem_zip_self this
  have eo : ((arrOf st').map (·.2)).toList.Perm its := by
    have := (Array.perm_iff_toList_perm.mp p1).map (·.2)
    rw [pairsOf_toList, List.map_snd_zip (by omega)] at this
    rw [Array.toList_map]
    exact this
  obtain ⟨ep, he'⟩ := PyProof.Rows.sortedAll_at s.heap its ((arrOf st').map (·.2))
  have hm : ∀ v ∈ ((arrOf st').map (·.2)).toList, v ∈ its := fun v hv => eo.mem_iff.mp hv
  have es : isort lexLe ts = ((arrOf st').map (·.2)).toList.map (nsOf s.heap) := by
    refine sorted_unique lexLe_anti ((isort_perm lexLe ts).trans ?_) (isort_sorted lexLe_tot lexLe_tr ts) ?_
    · rw [← h3]
      exact (eo.map _).symm
    · rw [List.pairwise_map, Array.toList_map, List.pairwise_map, List.pairwise_iff_getElem]
      intro i j hi hj hij
      have hi' : i < (arrOf st').size := by simpa using hi
      have hj' : j < (arrOf st').size := by simpa using hj
      have hsz : (arrOf st').size = (pairsOf its).size := by
        have := (Array.perm_iff_toList_perm.mp p1).length_eq
        simpa using this
      have k := p2 i j (Nat.le_of_lt hij) (by rw [← hsz]; exact hj')
      have a1 := pz _ (List.getElem_mem hi)
      have a2 := pz _ (List.getElem_mem hj)
      obtain ⟨_, _, b1⟩ := h4 _ a1.2
      obtain ⟨_, _, b2⟩ := h4 _ a2.2
      have e1 : KK (G.tupKindC s.heap (fun _ => false)) (arrOf st') i = (nsOf s.heap (arrOf st').toList[i].1).map Sum.inl := by
        unfold KK
        rw [Array.getElem?_eq_getElem hi']
        show (G.tupKeyC s.heap (fun _ => false) (arrOf st')[i].1).getD [] = _
        rw [show (arrOf st')[i] = (arrOf st').toList[i] from rfl, b1]; rfl
      have e2 : KK (G.tupKindC s.heap (fun _ => false)) (arrOf st') j = (nsOf s.heap (arrOf st').toList[j].1).map Sum.inl := by
        unfold KK
        rw [Array.getElem?_eq_getElem hj']
        show (G.tupKeyC s.heap (fun _ => false) (arrOf st')[j].1).getD [] = _
        rw [show (arrOf st')[j] = (arrOf st').toList[j] from rfl, b2]; rfl
      rw [e1, e2] at k
      rw [← a1.1, ← a2.1]
      exact lex_of _ _ k
  have hti : TIs X.K H (isort lexLe ts) (((arrOf st').map (·.2)).toList.map backV) := by
    rw [es]
    exact tis_out fun v hv => (h4 v (hm v hv)).1
  have hlen : (((arrOf st').map (·.2)).toList.map backV).length ≤ sizeLine := by
    rw [List.length_map, eo.length_eq, ← rv.length]; exact hz
  exact ⟨.ref _, upd H (s.heap.objs.size + 1) (.lst _), I.laid (t' := s.toks) (fun _ _ => PyProof.Rows.sortedAll_old) (Nat.le_succ _) ⟨hlen, ((arrOf st').map (·.2)).toList, ep, vals_back (fun v hv => (h4 v (hm v hv)).2.1), he'⟩, rfl, q _ _ hti (I.hok.fresh (Nat.le_succ _))⟩
end
section
variable {X : Cx} {W : Wd}
theorem prm_sorted (hK : X.K = W.K) : CallR X (.builtin "sorted") (rPf W (one1 pSorted)) := pf_one fun pins s σ H x v Q ρ G d I rv rl rd h => by
  unfold pSorted at h
  split at h
  · rename_i xs hxs
    rw [Option.bind_eq_some_iff] at hxs
    obtain ⟨zs, e1, e2⟩ := hxs
    obtain ⟨a, vs, rfl, h1, h2⟩ := list_of rl rd e1
    obtain rfl : v = Value.ref a := rv
    unfold sortD at e2
    split at e2
    · rename_i ns hn
      cases e2
      rw [intsOf_eq hn] at h1
      rw [h1.ints_of] at h2
      refine cr_sortedI pins s σ H _ [.ref a] Q I (.cons (show L2.RelV (.ref a) (.ref a) from rfl) .nil) ⟨a, ns, rfl, by rw [hK]; exact h2, fun ns' p hp hs hf => ?_⟩
      have e : ns' = isort intLe ns := sorted_unique intLe_anti (hp.trans (isort_perm intLe ns).symm) (hs.imp fun {a b} h => decide_eq_true h) (isort_sorted intLe_tot intLe_tr ns)
      rw [e]
      exact layF rl h .ints hf
    · split at e2
      · rename_i ts hts
        cases e2
        obtain ⟨q1, q2⟩ := tupsOf_eq hts
        rw [q1] at h1
        have ht := tis_of h1
        rw [← hK] at ht h2
        refine sorted_tis I h2 ht q2 fun ys p hy hp => layF rl h (rvs_of_tis (by rw [hK] at hy; exact hy)) hp
      · cases e2
  · exact h.elim
end
end Eng
end
section
set_option Elab.async false
set_option linter.all false
set_option maxRecDepth 100000
set_option maxHeartbeats 1000000
/-! What is shown: signs in range, length. Own work. -/
namespace Eng
open PySem PyData

theorem strOk_app {a b : Str} : strOk (a ++ b) = (strOk a && strOk b) := by
  show (a.cps ++ b.cps).all _ = _
  rw [Array.all_append]
  rfl
theorem strOk_of (x : String) : strOk (Str.ofString x) = true := by
  rw [Str.ofString_eq_toList]
  show ((x.toList.map Char.toNat).toArray).all _ = true
  rw [List.all_toArray, List.all_map, List.all_eq_true]
  intro c _
  show decide (c.toNat < 0x110000) = true
  rw [decide_eq_true_eq]
  have := c.valid
  have h2 : c.toNat = c.val.toNat := rfl
  rw [h2]
  rcases this with h | ⟨_, h⟩
  · have : c.val.toNat < 0xd800 := h
    omega
  · exact h
theorem len_app {a b : Str} : (a ++ b).length = a.length + b.length := by
  show (a.cps ++ b.cps).size = _
  rw [Array.size_append]
  rfl
theorem len_of (x : String) : (Str.ofString x).length = x.length := by
  rw [Str.ofString_eq_toList]
  show ((x.toList.map Char.toNat).toArray).size = _
  rw [List.size_toArray, List.length_map]
  rfl
def sumL : List Str → Nat
  | [] => 0
  | t :: r => t.length + 2 + sumL r
theorem textFrom_ok : ∀ (ts : List Str) (k : Nat) (acc : Str), strOk acc = true → (∀ t ∈ ts, strOk t = true) → strOk (textFrom k acc ts) = true ∧ (textFrom k acc ts).length ≤ acc.length + sumL ts
  | [], k, acc, h, _ => ⟨h, Nat.le_refl _⟩
  | t :: r, k, acc, h, hs => by
    have h1 : strOk (acc ++ (if k > 0 then ", " else "" : String) ++ t) = true := by
      rw [strOk_app, strOk_app, h, strOk_of, hs t List.mem_cons_self]; rfl
    obtain ⟨q1, q2⟩ := textFrom_ok r (k + 1) _ h1 fun u hu => hs u (List.mem_cons_of_mem _ hu)
    refine ⟨q1, Nat.le_trans q2 ?_⟩
    rw [len_app, len_app, len_of]
    show _ ≤ acc.length + (t.length + 2 + sumL r)
    have : (if k > 0 then ", " else "" : String).length ≤ 2 := by split <;> decide
    omega
theorem join_ok : ∀ (ts : List Str), (∀ t ∈ ts, strOk t = true) → strOk (Str.join ", " ts) = true ∧ (Str.join ", " ts).length ≤ sumL ts
  | [], _ => ⟨by decide +kernel, Nat.zero_le _⟩
  | [x], h => ⟨h x List.mem_cons_self, by show x.length ≤ x.length + 2 + 0; omega⟩
  | x :: y :: r, h => by
    obtain ⟨q1, q2⟩ := join_ok (y :: r) fun u hu => h u (List.mem_cons_of_mem _ hu)
    have e : Str.join ", " (x :: y :: r) = x ++ ", " ++ Str.join ", " (y :: r) := rfl
    rw [e]
    refine ⟨by rw [strOk_app, strOk_app, h x List.mem_cons_self, strOk_of, q1]; rfl, ?_⟩
    rw [len_app, len_app, len_of]
    show _ ≤ x.length + 2 + sumL (y :: r)
    have : (", " : String).length = 2 := by decide
    omega
theorem listText_ok {ts : List Str} (h : ∀ t ∈ ts, strOk t = true) : strOk (listText ts) = true ∧ (listText ts).length ≤ 2 + sumL ts := by
  obtain ⟨q1, q2⟩ := textFrom_ok ts 0 "[" (strOk_of _) h
  unfold listText
  refine ⟨by rw [strOk_app, q1, strOk_of]; rfl, ?_⟩
  rw [len_app, len_of]
  rw [len_of] at q2
  have e1 : ("[" : String).length = 1 := by decide
  have e2 : ("]" : String).length = 1 := by decide
  omega
theorem tupText_ok {ts : List Str} (h : ∀ t ∈ ts, strOk t = true) : strOk (tupleText ts) = true ∧ (tupleText ts).length ≤ 3 + sumL ts := by
  obtain ⟨q1, q2⟩ := join_ok ts h
  unfold tupleText
  refine ⟨by rw [strOk_app, strOk_app, strOk_of, q1, strOk_of]; rfl, ?_⟩
  rw [len_app, len_app, len_of, len_of]
  have e1 : ("(" : String).length = 1 := by decide
  have e2 : (if ts.length == 1 then ",)" else ")" : String).length ≤ 2 := by split <;> decide
  omega
theorem dicText_ok {ts : List Str} (h : ∀ t ∈ ts, strOk t = true) : strOk (dictText ts) = true ∧ (dictText ts).length ≤ 2 + sumL ts := by
  obtain ⟨q1, q2⟩ := join_ok ts h
  unfold dictText
  refine ⟨by rw [strOk_app, strOk_app, strOk_of, q1, strOk_of]; rfl, ?_⟩
  rw [len_app, len_app, len_of, len_of]
  have e1 : ("{" : String).length = 1 := by decide
  have e2 : ("}" : String).length = 1 := by decide
  omega
mutual
theorem shown_ok : ∀ p : PyData, shP p = true → p.showable = true ∧ strOk p.shown = true ∧ p.shown.length ≤ szP p
  | .none, _ => ⟨rfl, by simp only [PyData.shown]; exact strOk_of _, by simp only [PyData.shown, szP]; rw [len_of]; decide⟩
  | .bool b, _ => by
    refine ⟨rfl, by simp only [PyData.shown]; cases b <;> exact strOk_of _, ?_⟩
    simp only [PyData.shown, szP]
    cases b <;> (simp only [if_true, Bool.false_eq_true, if_false]; rw [len_of]; decide)
  | .int i, h => by
    have h1 : i.natAbs.log2 < 1920 := by simpa [shP] using h
    refine ⟨by simpa [PyData.showable] using h1, by simp only [PyData.shown]; exact strOk_of _, ?_⟩
    simp only [PyData.shown, szP]
    show (Str.ofString (toString i)).length ≤ _
    rw [len_of]
    exact int_text_length_le (by decide) h1
  | .str x, h => ⟨rfl, by simpa [shP, PyData.shown] using h, by simp [PyData.shown, szP]⟩
  | .list xs, h => by
    obtain ⟨h1, h2, h3⟩ := shown_oks xs (by simpa [shP] using h)
    obtain ⟨q1, q2⟩ := listText_ok h2
    exact ⟨by simpa [PyData.showable] using h1, by simpa [PyData.shown] using q1, by simp only [PyData.shown, szP]; omega⟩
  | .tuple xs, h => by
    obtain ⟨h1, h2, h3⟩ := shown_oks xs (by simpa [shP] using h)
    obtain ⟨q1, q2⟩ := tupText_ok h2
    exact ⟨by simpa [PyData.showable] using h1, by simpa [PyData.shown] using q1, by simp only [PyData.shown, szP]; omega⟩
  | .dict kvs, h => by
    obtain ⟨h1, h2, h3⟩ := shown_okk kvs (by simpa [shP] using h)
    obtain ⟨q1, q2⟩ := dicText_ok h2
    exact ⟨by simpa [PyData.showable] using h1, by simpa [PyData.shown] using q1, by simp only [PyData.shown, szP]; omega⟩
theorem shown_oks : ∀ xs : List PyData, shPs xs = true → PyData.showableAll xs = true ∧ (∀ t ∈ PyData.shownAll xs, strOk t = true) ∧ sumL (PyData.shownAll xs) ≤ szPs xs
  | [], _ => ⟨rfl, fun t h => by simp [PyData.shownAll] at h, Nat.zero_le _⟩
  | x :: xs, h => by
    have h' : shP x = true ∧ shPs xs = true := by simpa [shPs] using h
    obtain ⟨a1, a2, a3⟩ := shown_ok x h'.1
    obtain ⟨b1, b2, b3⟩ := shown_oks xs h'.2
    refine ⟨by simp [PyData.showableAll, a1, b1], fun t ht => ?_, ?_⟩
    · simp only [PyData.shownAll, List.mem_cons] at ht
      rcases ht with e | e
      · rw [e]; exact a2
      · exact b2 t e
    · simp only [PyData.shownAll, sumL, szPs]
      omega
theorem shown_okk : ∀ kvs : List (PyData × PyData), shPk kvs = true → PyData.showableKv kvs = true ∧ (∀ t ∈ PyData.shownKv kvs, strOk t = true) ∧ sumL (PyData.shownKv kvs) ≤ szPk kvs
  | [], _ => ⟨rfl, fun t h => by simp [PyData.shownKv] at h, Nat.zero_le _⟩
  | (k, v) :: r, h => by
    have h' : (shP k = true ∧ shP v = true) ∧ shPk r = true := by simpa [shPk] using h
    obtain ⟨a1, a2, a3⟩ := shown_ok k h'.1.1
    obtain ⟨c1, c2, c3⟩ := shown_ok v h'.1.2
    obtain ⟨b1, b2, b3⟩ := shown_okk r h'.2
    refine ⟨by simp [PyData.showableKv, a1, b1, c1], fun t ht => ?_, ?_⟩
    · simp only [PyData.shownKv, List.mem_cons] at ht
      rcases ht with e | e
      · rw [e, strOk_app, strOk_app, a2, c2, strOk_of]
        rfl
      · exact b2 t e
    · simp only [PyData.shownKv, sumL, szPk]
      rw [len_app, len_app, len_of]
      have : (": " : String).length = 2 := by decide
      omega
end
end Eng
end
section
set_option Elab.async false
set_option linter.all false
set_option maxRecDepth 100000
set_option maxHeartbeats 1000000
/-! The engine: repr, sorted(set(..)). Own work. -/
namespace Eng
open PySem PySem.Spec PyProof.Rows L2

section
variable {X : Cx} {pins : List (Addr × Obj)} {σ : L2.St} {H : Hp} {s : Shared} {W : Wd} {ρ : Nat → Addr} {G : Hh}
theorem not_sys (I : Inv X pins σ H s) (hs : (X.K.lookup sysModules).isSome = true) {a : Addr} {o : HO} (h : H a = some o) : a ≠ sysModules := by
  intro e
  subst e
  obtain ⟨ob, ho⟩ := Option.isSome_iff_exists.mp hs
  have := (I.bs _ _ (I.mod.kin _ _ ho)).2
  rw [this] at h
  cases h
theorem readsL {f : D → Option PyData} (hf : ∀ d v u p, RV W.K ρ G.length H d v → L2.RelV v u → f d = some p → ∃ as, Reads s.heap u p as ∧ ∀ a ∈ as, a ≠ sysModules) :
    ∀ (xs : List D) (vs : List V) (us : List Value) (ps : List PyData), RVs W.K ρ G.length H xs vs → Vals vs us → datL f xs = some ps → ∃ as, ReadsAll s.heap us ps as ∧ ∀ a ∈ as, a ≠ sysModules
  | [], _, _, ps, .nil, .nil, e => by
    simp only [datL, Option.some.injEq] at e
    subst e
    exact ⟨_, .nil, fun a h => by cases h⟩
  | x :: xs, _, _, ps, .cons h r, .cons rv rr, e => by
    simp only [datL] at e
    split at e
    · cases e
    · rename_i y hy
      split at e
      · cases e
      · rename_i ys hys
        cases e
        obtain ⟨as, q1, q2⟩ := hf _ _ _ _ h rv hy
        obtain ⟨bs, q3, q4⟩ := readsL hf xs _ _ _ r rr hys
        exact ⟨_, .cons q1 q3, fun a ha => (List.mem_append.mp ha).elim (q2 a) (q4 a)⟩
theorem key_reads {k : Key} {u : Value} {p : PyData} (h : keyIs k u = true) (e : keyDat (kD k) = some p) : Reads s.heap u p [] := by
  rcases keyIs_shape h with ⟨i, t, rfl, rfl⟩ | ⟨x, t, rfl, rfl⟩
  · cases e; exact .int i t
  · cases e; exact .str x t
theorem readsKv {f : D → Option PyData} (hf : ∀ d v u p, RV W.K ρ G.length H d v → L2.RelV v u → f d = some p → ∃ as, Reads s.heap u p as ∧ ∀ a ∈ as, a ≠ sysModules) :
    ∀ (kvs : List (D × D)) (ks : List (Key × V)) (vs : List (Key × Value)) (es : List DictEntry) (ps : List (PyData × PyData)), RDk W.K ρ G.length H kvs ks → KV ks vs → Pairs (mixKind X.prog X.w) es vs → datKv f kvs = some ps →
      ∃ bs, ReadsAll s.heap (es.map (·.key)) (ps.map (·.1)) [] ∧ ReadsAll s.heap (es.map (·.val)) (ps.map (·.2)) bs ∧ ∀ a ∈ bs, a ≠ sysModules := by
  intro kvs
  induction kvs with
  | nil =>
    intro ks vs es ps h1 h2 h3 e
    cases h1; cases h2; cases h3
    simp only [datKv, Option.some.injEq] at e
    subst e
    exact ⟨[], .nil, .nil, fun a h => by cases h⟩
  | cons x r ih =>
    intro ks vs es ps h1 h2 h3 e
    cases h1 with
    | cons hd hr =>
      cases h2 with
      | cons q2 r2 =>
        cases h3 with
        | cons q3 q3' r3 =>
          simp only [datKv] at e
          split at e
          · rename_i k v r' e1 e2 e3
            cases e
            obtain ⟨bs, b1, b2, b3⟩ := ih _ _ _ _ hr r2 r3 e3
            obtain ⟨as, a1, a2⟩ := hf _ _ _ _ hd q2.2 e2
            have q3b := q3
            rw [← q2.1] at q3b
            have k1 := key_reads (s := s) q3b e1
            rw [← q3'] at a1
            exact ⟨_, .cons k1 b1, .cons a1 b2, fun a ha => (List.mem_append.mp ha).elim (a2 a) (b3 a)⟩
          · cases e
theorem reads_of (hK : X.K = W.K) (I : Inv X pins σ H s) (rl : Rel W ρ G H) (hs : (X.K.lookup sysModules).isSome = true) :
    ∀ (n : Nat) (d : D) (v : V) (u : Value) (p : PyData), RV W.K ρ G.length H d v → L2.RelV v u → datR G n d = some p → ∃ as, Reads s.heap u p as ∧ ∀ a ∈ as, a ≠ sysModules
  | 0, _, _, _, _, _, _, e => by cases e
  | n + 1, d, v, u, p, rd, rv, e => by
    have ih := reads_of hK I rl hs n
    cases rd with
    | non => cases e; cases rv; exact ⟨_, .none, fun a h => by cases h⟩
    | bl b => cases e; cases rv; exact ⟨_, .bool b, fun a h => by cases h⟩
    | int i => cases e; obtain ⟨t, rfl⟩ := rv; exact ⟨_, .int i t, fun a h => by cases h⟩
    | str x => cases e; obtain ⟨t, rfl⟩ := rv; exact ⟨_, .str x t, fun a h => by cases h⟩
    | scr _ => cases e
    | tup h1 h2 =>
      simp only [datR] at e
      split at e
      · cases e
      · rename_i ys hys
        cases e
        obtain rfl := (show _ = Value.ref _ from rv)
        rw [← hK] at h1
        obtain ⟨its, r, ⟨o, ho, hc, k, hd⟩, _⟩ := I.tuple h1
        obtain ⟨as, q1, q2⟩ := readsL ih _ _ _ _ h2 r hys
        exact ⟨_, .tuple ho hc hd q1, q2⟩
    | ref i hi =>
      obtain rfl := (show _ = Value.ref _ from rv)
      simp only [datR] at e
      split at e
      · rename_i xs hx
        split at e
        · cases e
        · rename_i ys hys
          cases e
          obtain ⟨vs, q1, q2⟩ := rl.obj _ _ hx
          obtain ⟨z, its, k, r, ho⟩ := I.hok _ _ q1
          obtain ⟨as, a1, a2⟩ := readsL ih _ _ _ _ q2 r hys
          exact ⟨_, .list ho rfl rfl a1, fun a ha => (List.mem_cons.mp ha).elim (fun e => by rw [e]; exact not_sys I hs q1) (a2 a)⟩
      · rename_i kvs hx
        split at e
        · cases e
        · rename_i ys hys
          cases e
          rcases rl.obj _ _ hx with ⟨ks, q1, q2⟩ | ⟨ks, q1, q2, q2n⟩
          · obtain ⟨z, zs, vs, r, o, es, ep, ho, hx, hd, hke, hp, hn⟩ := I.hok _ _ q1
            obtain ⟨bs, b1, b2, b3⟩ := readsKv ih _ _ _ _ _ q2 r hp hys
            exact ⟨_, .dict ho hx.1 hd b1 b2, fun a ha => by
              simp only [List.cons_append, List.nil_append, List.mem_cons] at ha
              exact ha.elim (fun e => by rw [e]; exact not_sys I hs q1) (b3 a)⟩
          · cases q2 with
            | nil => exact absurd rfl q2n
            | cons h r => simp [datKv, keyDat] at hys
      · cases e
theorem prm_repr (hK : X.K = W.K) (hu : X.A.units + 65 < cLine) (hg : X.A.guards = some []) (hs : (X.K.lookup sysModules).isSome = true) : CallR X (.builtin "repr") (rPf W (one1 pRepr)) := pf_one fun pins s σ H x v Q ρ G d I rv rl rd h => by
  unfold pRepr reprD at h
  split at h
  · rename_i p hp
    split at h
    · rename_i hc
      obtain ⟨c0, c4, c3⟩ := hc
      obtain ⟨c1, _, c5⟩ := shown_ok p c0
      have c2 := Nat.le_trans c5 c4
      obtain ⟨as, r1, r2⟩ := reads_of hK I rl hs dfuel d x v p rd rv hp
      have fin : ∀ h' u tk, (∀ b o, s.heap.get? b = some o → h'.get? b = some o) → EP X pins σ Q (.str p.shown u) { s with heap := h', toks := tk } := fun h' u tk k =>
        ⟨.str p.shown, H, I.kept k, ⟨_, rfl⟩, finF rl h (.str _)⟩
      have t0 : ∀ b o, s.heap.get? b = some o → s.heap.get? b = some o := fun _ _ e => e
      cases r1 with
      | none => exact PySem.P.repr_of_none (fin s.heap _ _ t0)
      | bool b => exact PySem.P.repr_of_bool (fin s.heap _ _ t0)
      | int i t => exact PySem.P.repr_of_int (by simpa [PyData.showable] using c1) (fin s.heap _ _ t0)
      | str z t => exact PySem.P.repr_of_str (fin s.heap _ _ t0) c2
      | list h1 h2 h3 h4 => exact PySem.repr_of_reads' (.list h1 h2 h3 h4) c1 (fun _ hm => r2 _ hm rfl) hg (by omega) t0 fin c2
      | tuple h1 h2 h3 h4 => exact PySem.repr_of_reads' (.tuple h1 h2 h3 h4) c1 (fun _ hm => r2 _ hm rfl) hg (by omega) t0 fin c2
      | dict h1 h2 h3 h4 h5 => exact PySem.repr_of_reads' (.dict h1 h2 h3 h4 h5) c1 (fun _ hm => r2 _ hm rfl) hg (by omega) t0 fin c2
    · exact h.elim
  · exact h.elim
end
/-! ### sorted(set(..)) -/
theorem code_lexLe {B : Int} : ∀ a b : List Int, a.length = b.length → TS.Bd B a → TS.Bd B b → TS.code B a ≤ TS.code B b → lexLe a b = true
  | [], _, _, _, _, _ => by simp [lexLe]
  | x :: a, [], h, _, _, _ => by simp at h
  | x :: a, y :: b, hl, h1, h2, h => by
    have hl' : a.length = b.length := by simpa using hl
    simp only [lexLe, Bool.or_eq_true, Bool.and_eq_true, decide_eq_true_eq]
    rcases Int.lt_trichotomy x y with q | q | q
    · exact .inl q
    · subst q
      refine .inr ⟨rfl, code_lexLe a b hl' h1.tail h2.tail ?_⟩
      have hs := TS.code_same (B := B) (d := x) hl'.symm
      by_cases z : TS.code B b < TS.code B a
      · have := hs.mpr z
        omega
      · omega
    · have := TS.code_lt hl'.symm h2.tail h1.tail q
      omega
theorem bound_of : ∀ ts : List (List Int), (∀ t ∈ ts, ∀ n ∈ t, 0 ≤ n) → ∃ B : Int, ∀ t ∈ ts, TS.Bd B t
  | [], _ => ⟨0, fun t h => by cases h⟩
  | t :: ts, h => by
    obtain ⟨B, hB⟩ := bound_of ts fun t ht => h t (List.mem_cons_of_mem _ ht)
    have hb : ∀ l : List Int, ∃ C : Int, ∀ n ∈ l, n < C := by
      intro l
      induction l with
      | nil => exact ⟨0, fun n h => by cases h⟩
      | cons n l ih =>
        obtain ⟨C, hC⟩ := ih
        refine ⟨max (n + 1) C, fun m hm => ?_⟩
        rcases List.mem_cons.mp hm with e | e
        · omega
        · have := hC m e; omega
    obtain ⟨C, hC⟩ := hb t
    refine ⟨max B C, fun u hu m hm => ⟨h u hu m hm, ?_⟩⟩
    rcases List.mem_cons.mp hu with e | e
    · rw [e] at hm; have := hC m hm; omega
    · have := (hB u e m hm).2; omega
theorem dedup_mem {t : List Int} : ∀ {ts : List (List Int)}, t ∈ dedup ts ↔ t ∈ ts
  | [] => Iff.rfl
  | u :: ts => by
    unfold dedup
    split
    · rename_i hc
      rw [dedup_mem]
      refine ⟨fun h => List.mem_cons_of_mem _ h, fun h => ?_⟩
      rcases List.mem_cons.mp h with e | e
      · rw [e]; exact dedup_mem.mp (by simpa using hc)
      · exact e
    · rw [List.mem_cons, List.mem_cons, dedup_mem]
theorem dedup_nodup : ∀ ts : List (List Int), (dedup ts).Nodup
  | [] => .nil
  | u :: ts => by
    unfold dedup
    split
    · exact dedup_nodup ts
    · rename_i hc
      exact List.nodup_cons.mpr ⟨by simpa using hc, dedup_nodup ts⟩
def pairsA : List (List Int) → List V → List (Addr × List Int)
  | t :: ts, .ref a :: vs => (a, t) :: pairsA ts vs
  | _, _ => []
theorem pairsA_ok {K : PySem.W.Frag} {H : Hp} : ∀ {ts : List (List Int)} {vs : List V}, TIs K H ts vs → (pairsA ts vs).map (fun p => V.ref p.1) = vs ∧ (pairsA ts vs).map (·.2) = ts ∧ (∀ p ∈ pairsA ts vs, SqT K H p.1 (p.2.map V.int)) ∧ (pairsA ts vs).length = ts.length
  | _, _, .nil => ⟨rfl, rfl, fun p h => (by cases h), rfl⟩
  | t :: ts, _, .cons ⟨a, e, h⟩ r => by
    subst e
    obtain ⟨h1, h2, h3, h4⟩ := pairsA_ok r
    refine ⟨by unfold pairsA; rw [List.map_cons, h1], by unfold pairsA; rw [List.map_cons, h2], fun p hp => ?_, by unfold pairsA; rw [List.length_cons, List.length_cons, h4]⟩
    unfold pairsA at hp
    rcases List.mem_cons.mp hp with e | e
    · rw [e]; exact h
    · exact h3 p e
theorem tis_pairs {K : PySem.W.Frag} {H : Hp} : ∀ {L : List (Addr × List Int)}, (∀ p ∈ L, SqT K H p.1 (p.2.map V.int)) → TIs K H (L.map (·.2)) (L.map fun p => V.ref p.1)
  | [], _ => .nil
  | p :: L, h => .cons ⟨_, rfl, h p List.mem_cons_self⟩ (tis_pairs fun q hq => h q (List.mem_cons_of_mem _ hq))
section
variable {t : Tb} {F : Wf} {c : Cfg} {X : Cx} {w : WX} {N : List Str} {sc : Scope} {k : Nat}
theorem s_srtset (g : Gd t F c X w N sc k) {e : Expr} {p p2 pos pos2 : Pos} {m : Sl → Hh → R D} (h0 : starB e = false) (he : PE X e (tE F.W w m)) (hg1 : glB sc "sorted" = true) (hg2 : glB sc "set" = true) (hf1 : ("sorted" : Str) ∈ t.free) (hf2 : ("set" : Str) ∈ t.free) :
    PE X (.Call (.Name "sorted" p) [.Call (.Name "set" p2) [e] [] pos2] [] pos) (tE F.W w (fun s G => (m s G).bind fun x G1 => pSrtset x G1)) := by
  have hA : PA X [e] (tA F.W w (fun s G => (m s G).bind fun x G1 => .ok [x] G1)) := a_cons g h0 he (a_nil g)
  have P1 := pe_callTy (T := "set") (p := p2) (pos := pos2) (cr_setOfT g.calm (by have := g.rm.un; omega)) (g.gl hg2).1 (g.T.fr _ hf2) (by first | rfl | kernel_rfl) hA (he := star_cons h0)
  have P2 := pe_callB (id := "sorted") (p := p) (pos := pos) (cr_sortedT g.calm) (g.gl hg1).1 (g.T.fr _ hf1) (by first | rfl | kernel_rfl) (pa_cons P1 pa_nil)
  refine P2.imp fun σ H Q ⟨ρ, sl, G, r, S, h⟩ => ⟨ρ, sl, G, r, S, ?_⟩
  dsimp only at h ⊢
  cases hm : m sl G with
  | bad => rw [hm] at h; exact h.elim
  | exc c f G1 => rw [hm] at h; exact h
  | ok d G1 =>
    rw [hm] at h
    intro ρ1 H1 vs st rvs
    have h : Pst F.W w ρ G H σ (rlD F.W) (pSrtset d G1) Q := h
    cases rvs with
    | cons rd rn =>
      cases rn
      rename_i v
      unfold pSrtset at h
      split at h
      · rename_i ts hts
        split at h
        · rename_i hok
          rw [Option.bind_eq_some_iff] at hts
          obtain ⟨xs, e1, e2⟩ := hts
          obtain ⟨a, us, rfl, h1, h2⟩ := list_of st.rel rd e1
          obtain ⟨q1, q2⟩ := tupsOf_eq e2
          rw [q1] at h1
          have ht := tis_of h1
          obtain ⟨k1, k2, k3, k4⟩ := pairsA_ok ht
          simp only [setOk, Bool.and_eq_true, decide_eq_true_eq] at hok
          obtain ⟨o1, o2⟩ := hok
          rw [← g.hK] at h2 k3
          refine ⟨a, pairsA ts us, rfl, by rw [k1]; exact h2, k3, by rw [k4]; exact o1, fun b L hb l1 l2 => ?_⟩
          have st2 := st.trans (Step.side (o := SetTO X.prog X.w b L) st.rel hb)
          have kp : Kp F.W.K H1 (upd H1 b (SetTO X.prog X.w b L)) := .new hb
          have hL : ∀ p ∈ L, SqT X.K (upd H1 b (SetTO X.prog X.w b L)) p.1 (p.2.map V.int) := fun p hp => by
            have := k3 p (l1 p hp)
            rw [g.hK] at this ⊢
            exact kp.t _ _ this
          have hmem : ∀ u, u ∈ L.map (·.2) ↔ u ∈ ts := fun u => by
            refine ⟨fun hu => ?_, fun hu => ?_⟩
            · obtain ⟨p, hp, e⟩ := List.mem_map.mp hu
              rw [← e, ← k2]
              exact List.mem_map_of_mem (l1 p hp)
            · rw [← k2] at hu
              obtain ⟨p, hp, e⟩ := List.mem_map.mp hu
              rw [← e]
              exact l2 p hp
          have key : ∃ (dd : Nat) (B : Int), 1 ≤ dd ∧ ∀ u ∈ ts, u.length = dd ∧ TS.Bd B u := by
            cases ts with
            | nil => exact ⟨1, 0, Nat.le_refl _, fun u h => by cases h⟩
            | cons t0 tr =>
              simp only [Bool.and_eq_true, List.all_eq_true] at o2
              obtain ⟨o3, o4⟩ := o2
              obtain ⟨B, hB⟩ := bound_of (t0 :: tr) fun u hu n hn => by simpa using o4 u hu n hn
              refine ⟨t0.length, B, ?_, fun u hu => ⟨?_, hB u hu⟩⟩
              · have := q2 t0 List.mem_cons_self
                cases t0 with
                | nil => exact absurd rfl this
                | cons _ _ => simp
              · rcases List.mem_cons.mp hu with e | e
                · rw [e]
                · simpa using o3 u e
          obtain ⟨dd, B, hdd, hB⟩ := key
          refine ⟨b, L, dd, B, rfl, upd_same, hL, hdd, fun p hp => hB _ ((hmem _).mp (List.mem_map_of_mem hp)), fun L' p pm nd _ pw hp => ?_⟩
          have es : isort lexLe (dedup ts) = L'.map (·.2) := by
            refine sorted_unique lexLe_anti ((isort_perm _ _).trans ?_) (isort_sorted lexLe_tot lexLe_tr _) ?_
            · refine (List.perm_ext_iff_of_nodup (dedup_nodup ts) nd).mpr fun u => ?_
              rw [dedup_mem, (pm.map (·.2)).mem_iff, hmem]
            · rw [List.pairwise_map]
              refine (List.Pairwise.and_mem.mp pw).imp fun {x y} ⟨hx, hy, h⟩ => ?_
              have bx := hB x.2 ((hmem _).mp (List.mem_map_of_mem (pm.mem_iff.mp hx)))
              have bY := hB y.2 ((hmem _).mp (List.mem_map_of_mem (pm.mem_iff.mp hy)))
              exact code_lexLe _ _ (by rw [bx.1, bY.1]) bx.2 bY.2 h
          have hti := tis_pairs (L := L') fun q hq => hL q (pm.mem_iff.mp hq)
          rw [← es, g.hK] at hti
          have st3 := Step.lay st2.rel hp (rvs_of_tis hti)
          have q := h _ _ (.ref (ext ρ1 G1.length p G1.length)) (st2.trans st3) (.ref G1.length (by rw [List.length_append, List.length_singleton]; omega))
          rw [ext_at] at q
          exact q
        · exact h.elim
      · exact h.elim
end
end Eng
end
section
set_option Elab.async false
set_option linter.all false
set_option maxRecDepth 100000
set_option maxHeartbeats 2000000
/-! The engine: own exceptions as values; {"k": v}. Own work. -/
namespace Eng
open PySem PySem.Spec PyProof.Rows L2
section
variable {t : Tb} {F : Wf} {c : Cfg} {X : Cx} {w : WX} {N : List Str} {sc : Scope} {k : Nat}
theorem step_exc {W : Wd} {ρ : Nat → Addr} {G : Hh} {H : Hp} {xi fl : Nat} {d : D} {v : V} {a dx : Addr} (r : Rel W ρ G H) (hf : (W.P.exs[xi]?.bind (·.fld)) = some fl) (rv : RV W.K ρ G.length H d v) (ha : H a = none) (hd : H dx = none) (hda : dx ≠ a) :
    Step W ρ G H (ext ρ G.length a) (G ++ [.exc xi (some d)]) (upd (upd H dx (.xd [(W.nm fl, v)])) a (exE (W.xA xi) a dx)) := by
  have st1 := Step.side (o := .xd [(W.nm fl, v)]) r hd
  have ha1 : upd H dx (.xd [(W.nm fl, v)]) a = none := by rw [upd_ne (Ne.symm hda)]; exact ha
  have nx0 : ∀ b u, upd H dx (.xd [(W.nm fl, v)]) b = some u → upd (upd H dx (.xd [(W.nm fl, v)])) a (exE (W.xA xi) a dx) b = some u := fun b u e => by rw [upd_ne (ne_of_none e ha1)]; exact e
  refine st1.trans (Step.new st1.rel ha1 (.new ha1) nx0 ?_)
  refine ⟨dx, fl, v, upd_same, hf, nx0 _ _ upd_same, fun i hi z => ?_, (st1.rv rv).mono (Nat.le_succ _) (fun i h => ext_lt h) (.new ha1)⟩
  by_cases e : i = G.length
  · rw [e, ext_at] at z
    exact hda z.symm
  · rw [ext_lt (by omega)] at z
    obtain ⟨u, hu⟩ := r.has (i := i) (by omega)
    rw [z, hd] at hu
    cases hu
theorem exc_made {pins : List (Addr × Obj)} {s : Shared} {σ : L2.St} {H : Hp} {C a dx : Addr} {f : Str} {v : V} (I : Inv X pins σ (upd (upd H dx (exd dx [(f, v)])) a (exo a C (some dx))) s) (hd : H dx = none) (ha : H a = none) (hda : dx ≠ a) :
    Inv X pins σ (upd (upd H dx (.xd [(f, v)])) a (exE C a dx)) s := by
  have hDx : (upd (upd H dx (exd dx [(f, v)])) a (exo a C (some dx))) dx = some (exd dx [(f, v)]) := by rw [upd_ne hda, upd_same]
  obtain ⟨t1, he⟩ := exo_at I.hok (C := C) (e := a) (d := some dx) upd_same
  obtain ⟨mA, hns, hr⟩ := exd_at I.hok hDx
  have I1 := I.write (x := a) (e := a) (o := exE C a dx) (h' := s.heap) (t' := s.toks) (by rw [upd_same]; exact True.intro) (.inl rfl) (fun b u _ e => e) ⟨_, he⟩ ⟨⟨_, _, he, rfl, rfl, rfl⟩, ⟨_, he⟩, fun h1 h2 ⟨oe, vs, q1, q2⟩ kk => ⟨oe, vs, kk _ q1, q2⟩⟩
  have I2 := I1.write (x := dx) (e := dx) (o := .xd [(f, v)]) (h' := s.heap) (t' := s.toks) (by rw [upd_ne hda, hDx]; exact True.intro) (.inl rfl) (fun b u _ e => e) (by obtain ⟨o, _, _, ho, _⟩ := hns; exact ⟨o, ho⟩) ⟨mA, hns, hr⟩
  have eH : upd (upd (upd (upd H dx (exd dx [(f, v)])) a (exo a C (some dx))) a (exE C a dx)) dx (.xd [(f, v)]) = upd (upd H dx (.xd [(f, v)])) a (exE C a dx) := by
    funext b
    by_cases hb : b = dx
    · rw [hb, upd_same, upd_ne hda, upd_same]
    · rw [upd_ne hb]
      by_cases hba : b = a
      · rw [hba, upd_same, upd_same]
      · rw [upd_ne hba, upd_ne hba, upd_ne hb, upd_ne hba, upd_ne hb]
  rw [eH] at I2
  exact I2
section
variable {ρ : Nat → Addr} {G : Hh} {H : Hp} {σ : L2.St} {pins : List (Addr × Obj)} {s : Shared} {Q : VK}
/-- the class called: the argument is bound to the field -/
theorem exf_ok (g : Gd t F c X w N sc k) {xi fl : Nat} {d : D} {v : V} {u : Value} {pos : List Value} {kws : List (Str × Value)} (hf : (t.P.exs[xi]?.bind (·.fld)) = some fl) (I : Inv X pins σ H s) (r : Rel F.W ρ G H) (rv : RV F.W.K ρ G.length H d v) (ru : RelV v u)
    (hpos : pos.length ≤ sizeLine) (hB : ∀ fI cc cda fd, XCl X.prog F.W.K X.mg (F.W.xA xi) fI cc cda fd (F.W.nm fl) → Binds F.W.K fd ["self", F.W.nm fl] [] → BindX F.W.K fd (F.W.nm fl) → ∀ (s : Shared) (a : Value), F.W.K.In s.heap → BindsTo s fd ⟨a :: pos, kws⟩ ((["self", F.W.nm fl] : List Str).zip [a, u]))
    (h : Pst F.W w ρ G H σ (rlD F.W) (alloc (.exc xi (some d)) G) Q) : wpAny (model X.prog X.w) X.A (call (.ref (F.W.xA xi)) pos kws) (EP X pins σ Q) X.xe s := by
  obtain ⟨hfl, _, fI, cc, cda, fd, T, hB0, hBX⟩ := g.T.xc xi fl hf
  have hB1 := hB fI cc cda fd T hB0 hBX
  rw [← g.hK] at T hB1
  obtain ⟨nm, q, Nn, bs, bm, sn, sub, ab, col, dd, k0, k1, k2, k3, k5, hC, hbm⟩ := T.ox.cls
  have ha0 : H (s.heap.objs.size + 1) = none := I.hok.fresh (Nat.le_succ _)
  obtain ⟨hp, gs, dr, tk, osx⟩ := s
  have I2 := I.laid (h' := (hp.push (PySem.W.kdv_tup pos)).push (PySem.HandSPX.excO (F.W.xA xi) hp.objs.size)) (t' := tk) (a := hp.objs.size + 1) (o := exo (hp.objs.size + 1) (F.W.xA xi) none)
    (fun b o e => Heap.get?_push_of_some _ (Heap.get?_push_of_some _ e)) (Nat.le_succ _) (exo_ok (by heap_get))
  refine wpAny_call (kw_call PySem.F.excBase_ValueError (fun Y => PySem.HandSPX.refsVE_contains Y bm hbm) (I.kIn _ _ hC) (PySem.W.looks_findIn I.kIn T.ini) (fun self => PySem.W.bind_fn I.kIn self T.tyI) hpos (codeAny_mono
    ((xinit_ok (w := X.w) (base := X.base) T).run _ X.stack _ _ ⟨.ref (hp.objs.size + 1) :: pos, kws⟩ [.ref (hp.objs.size + 1), u] [.ref (hp.objs.size + 1), v] (fun x H' => x = .non ∧ ∃ dx, H dx = none ∧ dx ≠ hp.objs.size + 1 ∧ H' = upd (upd H dx (exd dx [(F.W.nm fl, v)])) (hp.objs.size + 1) (exo (hp.objs.size + 1) (F.W.xA xi) (some dx))) (fun _ _ _ => False)
      ((g.rm.mono (j := 2) (by omega)).make (F.W.xA xi) pos kws) (I2.env0.make (F.W.xA xi) pos kws) (hB1 _ (.ref (hp.objs.size + 1)) I2.kIn) (.cons rfl (.cons ru .nil)) ⟨hp.objs.size + 1, v, rfl, upd_same, fun dx hdx hda => ⟨rfl, dx, by rw [upd_ne hda] at hdx; exact hdx, hda, by
        funext b
        by_cases hb : b = hp.objs.size + 1
        · rw [hb, upd_same, upd_same]
        · rw [upd_ne hb, upd_ne hb]
          by_cases hbd : b = dx
          · rw [hbd, upd_same, upd_same]
          · rw [upd_ne hbd, upd_ne hb, upd_ne hbd]⟩⟩) fun r' s' hq' => ?_))
  · cases r' with
    | error e => exact absurd hq' (fun z => by obtain ⟨_, _, _, _, _, _, _, _, _, _, _, _, z⟩ := z; exact z)
    | ok fl =>
      cases fl with
      | ret u =>
        obtain ⟨v', H', I3, rv', ev, dx, hd, hda, rfl⟩ := I2.after hq'
        subst ev
        refine ⟨rv', ⟨V.ref (hp.objs.size + 1), _, exc_made I3 hd ha0 hda, rfl, ?_⟩⟩
        have q := h _ _ (.ref (ext ρ G.length (hp.objs.size + 1) G.length)) (step_exc r (by rw [g.T.hP]; exact hf) rv ha0 hd hda) (.ref G.length (by rw [List.length_append, List.length_singleton]; omega))
        rw [ext_at] at q
        exact q
      | next => exact False.elim hq'
      | brk => exact False.elim hq'
      | cont => exact False.elim hq'
/-- the class of an exception without a field, called -/
theorem exn_ok (g : Gd t F c X w N sc k) {xi : Nat} {q : Ex} (hq : t.P.exs[xi]? = some q) (hf : q.fld = none) (I : Inv X pins σ H s) (r : Rel F.W ρ G H)
    (h : Pst F.W w ρ G H σ (rlD F.W) (alloc (.exc xi none) G) Q) : wpAny (model X.prog X.w) X.A (call (.ref (F.W.xA xi)) []) (EP X pins σ Q) X.xe s := by
  obtain ⟨q1, q2⟩ := g.T.xo xi q hq hf
  rw [← g.hK] at q1
  obtain ⟨bm, Nn, nm, qn, bs, hdct, sn, sub, ab, col, dd, k0, k1, k2, k3, k5, mN, hC, hN, hni, T⟩ := exc_obj I.kIn q1
  refine wpAny_call_exc_subT PySem.F.excBase_ValueError T hC hN hni (fun h' a hm => ?_) (by show 0 ≤ sizeLine; omega)
  have hn : H a = none := I.hok.gone hm.new
  obtain ⟨t1, ht, _, _⟩ := hm.there
  have st : Step F.W ρ G H (ext ρ G.length a) (G ++ [.exc xi none]) (upd H a (exN (F.W.xA xi) a)) := Step.new r hn (.new hn) (fun b u e => by rw [upd_ne (ne_of_none e hn)]; exact e) upd_same
  refine ⟨.ref a, upd H a (exN (F.W.xA xi) a), I.laidN hm.keeps hm.new hn ⟨⟨_, _, ht, rfl, rfl, rfl⟩, ⟨_, ht⟩, fun h1 h2 ⟨oe, vs, q1, q2⟩ kk => ⟨oe, vs, kk _ q1, q2⟩⟩, rfl, ?_⟩
  have q := h _ _ (.ref (ext ρ G.length a G.length)) st (.ref G.length (by rw [List.length_append, List.length_singleton]; omega))
  rw [ext_at] at q
  exact q
end
theorem s_exn (g : Gd t F c X w N sc k) {xi : Nat} {q : Ex} {x : Str} {kw : Bool} {es : List Expr} {kws : List Keyword} {ks : List Str} {p pos : Pos} {m1 m2 : Sl → Hh → R (List D)} (hx : t.xnm[xi]? = some x) (hq : t.P.exs[xi]? = some q) (hks : ks = if kw = true then [F.W.nm (q.fld.getD 0)] else [])
    (hg : glB sc x = true) (he : plainB es = true) (hk : kwB kws ks = true) (ha : PA X es (tA F.W w m1)) (h0 : es = [] → m1 = fun _ G => .ok [] G) (hb : PK X kws (tA F.W w m2)) :
    PE X (.Call (.Name x p) es kws pos) (tE F.W w (fun s G => (m1 s G).bind fun xs G1 => (m2 s G1).bind fun ys G2 => exnD c.P xi kw xs ys G2)) := by
  refine ⟨fun pins s σ H Q I ⟨ρ, sl, G, r, S, h⟩ => ?_⟩
  obtain ⟨g1, g2, _⟩ := g.gl hg
  have kC : PySem.W.keepIn F.W.K (.ref (F.W.xA xi)) = true := by
    cases hf : q.fld with
    | none => exact (g.T.xo xi q hq hf).2
    | some fl =>
      obtain ⟨_, _, fI, cc, cda, fd, T, _, _⟩ := g.T.xc xi fl (by rw [hq]; exact hf)
      exact T.ox.kC
  refine wpAny_Call_Name_kw (ld_glob I g1 (g.T.xn xi x hx) ?_ g2)
  refine callW g.hK (by rw [g.hK]; exact kC) he hk ha h0 hb I r S h fun us ws s2 ρ2 G2 H2 xs ys vs zs I2 rv rz st rx ry h2 => ?_
  unfold exnD at h2
  rw [g.P, hq] at h2
  dsimp only at h2
  split at h2
  · rename_i fl d hf _
    cases rx with
    | cons rd rn =>
      cases rn; cases ry; cases rz
      cases rv with
      | cons ru rn =>
        cases rn
        rename_i u0
        subst hks
        exact exf_ok g (by rw [hq]; exact hf) I2 st.rel rd ru (by rw [sizeLine_eq]; exact (by decide : 1 ≤ 16777216)) (fun fI cc cda fd T hB hX s a hK => by
          have b := hB s [a, u0] hK (by rfl)
          rw [List.append_nil] at b
          exact b) h2
  · rename_i fl d hf _
    cases ry with
    | cons rd rn =>
      cases rn; cases rx; cases rv
      cases rz with
      | cons ru rn =>
        cases rn
        subst hks
        rw [hf]
        exact exf_ok g (by rw [hq]; exact hf) I2 st.rel rd ru (by rw [sizeLine_eq]; exact (by decide : 0 ≤ 16777216)) (fun fI cc cda fd T hB hX s a hK => (hX s a _ hK).1) h2
  · rename_i fl hf _
    cases rx; cases ry; cases rv; cases rz
    subst hks
    exact exf_ok g (d := .non) (v := .non) (u := .none) (by rw [hq]; exact hf) I2 st.rel .non rfl (by rw [sizeLine_eq]; exact (by decide : 0 ≤ 16777216)) (fun fI cc cda fd T hB hX s a hK => (hX s a .none hK).2) h2
  · rename_i hf _
    cases rx; cases ry; cases rv; cases rz
    subst hks
    exact exn_ok g hq hf I2 st.rel h2
  · exact h2.elim
/-! ### dicts -/
theorem rdk_any {K : PySem.W.Frag} {ρ : Nat → Addr} {n : Nat} {H : Hp} {x : Str} : ∀ {kvs : List (D × D)} {ks : List (Key × V)}, RDk K ρ n H kvs ks → (kvs.any fun kv => decide (kv.1 = .str x)) = ks.any fun kv => decide (kv.1 = .inr x)
  | _, _, .nil => rfl
  | _, _, .cons (k := k) h r => by
    rw [List.any_cons, List.any_cons, rdk_any r]
    cases k with
    | inl i => simp [kD]
    | inr z => simp [kD]
theorem rdk_map {K : PySem.W.Frag} {ρ : Nat → Addr} {n : Nat} {H : Hp} {x : Str} {d : D} {v : V} (rv : RV K ρ n H d v) : ∀ {kvs : List (D × D)} {ks : List (Key × V)}, RDk K ρ n H kvs ks →
    RDk K ρ n H (kvs.map (fun kv => if kv.1 = .str x then (kv.1, d) else kv)) (ks.map (fun kv => if kv.1 = .inr x then (kv.1, v) else kv))
  | _, _, .nil => .nil
  | _, _, .cons (k := k) h r => by
    rw [List.map_cons, List.map_cons]
    cases k with
    | inl i =>
      rw [if_neg (by simp [kD]), if_neg (by simp)]
      exact .cons (k := .inl i) h (rdk_map rv r)
    | inr z =>
      by_cases e : z = x
      · subst e
        rw [if_pos (show (kD (Sum.inr z), _).1 = D.str z from rfl), if_pos (show ((Sum.inr z : Key), _).1 = Sum.inr z from rfl)]
        exact .cons (k := .inr z) rv (rdk_map rv r)
      · rw [if_neg (by simp [kD, e]), if_neg (by simp [e])]
        exact .cons (k := .inr z) h (rdk_map rv r)
theorem rdk_snoc {K : PySem.W.Frag} {ρ : Nat → Addr} {n : Nat} {H : Hp} {x : Str} {d : D} {v : V} (rv : RV K ρ n H d v) : ∀ {kvs : List (D × D)} {ks : List (Key × V)}, RDk K ρ n H kvs ks → RDk K ρ n H (kvs ++ [(.str x, d)]) (ks ++ [(.inr x, v)])
  | _, _, .nil => .cons (k := .inr x) rv .nil
  | _, _, .cons h r => .cons h (rdk_snoc rv r)
theorem rdk_put {K : PySem.W.Frag} {ρ : Nat → Addr} {n : Nat} {H : Hp} {x : Str} {d : D} {v : V} {kvs : List (D × D)} {ks : List (Key × V)} (rv : RV K ρ n H d v) (r : RDk K ρ n H kvs ks) : RDk K ρ n H (putD kvs (.str x) d) (putK ks (.inr x) v) := by
  unfold putD putK
  rw [rdk_any r]
  split
  · exact rdk_map rv r
  · exact rdk_snoc rv r
theorem rdk_len {K : PySem.W.Frag} {ρ : Nat → Addr} {n : Nat} {H : Hp} : ∀ {kvs : List (D × D)} {ks : List (Key × V)}, RDk K ρ n H kvs ks → kvs.length = ks.length
  | _, _, .nil => rfl
  | _, _, .cons h r => by rw [List.length_cons, List.length_cons, rdk_len r]
/-- a dict that is made with one text as its key -/
theorem s_dsp {x : Str} {j : Nat} {p2 pos : Pos} {e : Expr} {m : Sl → Hh → R D} (he : PE X e (tE F.W w m)) :
    PE X (.Dict [some (.Constant (.str x) j p2)] [e] pos) (tE F.W w (fun s G => (m s (G ++ [.dic []])).bind fun y G1 => dspD G.length x y G1)) := by
  refine (pe_disp (pps_cons (k := .Constant (.str x) j p2) pe_str he pps_nil) rfl rfl (by simp) (by show 1 ≤ 15; omega)).imp fun σ H Q ⟨ρ, sl, G, r, S, h⟩ => fun p hp => ?_
  have st : Step F.W ρ G H (ext ρ G.length p) (G ++ [.dic []]) (upd H p (.dK [])) := Step.new r hp (.new hp) (fun b u e => by rw [upd_ne (ne_of_none e hp)]; exact e) (.inl ⟨[], upd_same, .nil⟩)
  refine ⟨_, sl, _, st.rel, st.rs S, (Pst.move st h).mid fun ρ2 G2 H2 d v _ st2 rv hh => ?_⟩
  unfold dspD at hh
  split at hh
  · rename_i kvs hk
    split at hh
    · rename_i he
      have e0 : kvs = [] := List.isEmpty_iff.mp he
      subst e0
      have eρ : ρ2 G.length = p := by
        rw [st2.ex G.length (by rw [List.length_append, List.length_singleton]; omega), ext_at]
      have ho := st2.rel.obj _ _ hk
      rw [eρ] at ho
      rcases ho with ⟨ks, q1, q2⟩ | ⟨ks, q1, q2, q3⟩
      · cases q2
        refine ⟨q1, [(.inr x, v)], rfl, by show 1 ≤ 15; omega, ?_⟩
        have hi := (List.getElem?_eq_some_iff.mp hk).1
        have q1' : H2 (ρ2 G.length) = some (.dK []) := by rw [eρ]; exact q1
        have st3 : Step F.W ρ2 G2 H2 ρ2 (G2.set G.length (.dic [(.str x, d)])) (upd H2 (ρ2 G.length) (.dK [(.inr x, v)])) :=
          Step.put st2.rel hi q1' trivial (fun fs => HO.noConfusion) (.inl ⟨_, upd_same, .cons (k := .inr x) (rv.mono (Nat.le_refl _) (fun _ _ => rfl) (.put q1' trivial)) .nil⟩)
        have q := hh ρ2 _ (.ref (ρ2 G.length)) st3 (.ref _ (by rw [List.length_set]; exact hi))
        rw [eρ] at q
        exact q
      · exact absurd rfl q3
    · exact hh.elim
  · exact hh.elim
end
end Eng
end
section
set_option Elab.async false
set_option linter.all false
set_option maxRecDepth 100000
set_option maxHeartbeats 1000000
/-! The engine: calls of built-in functions and methods, slices, items set. Own work. -/
namespace Eng
open PySem PySem.Spec PyProof.Rows L2

section
variable {X : Cx} {W : Wd} {ρ : Nat → Addr} {G : Hh} {H : Hp} {Q : VK} {E : XK}
/-- a method of a built-in type, by values -/
def rBf (W : Wd) (f : D → List D → Hh → R D) : V → List V → Hp → VK → Prop := fun v vs H Q => ∃ ρ G x xs, Rel W ρ G H ∧ RV W.K ρ G.length H x v ∧ RVs W.K ρ G.length H xs vs ∧ PstF W ρ G H (f x xs G) Q (fun _ _ _ => False)
theorem put_lst {i : Nat} {xs zs : List D} {vs us : List V} (r : Rel W ρ G H) (h : G[i]? = some (.lst zs)) (e : H (ρ i) = some (.lst us)) (rd : RVs W.K ρ G.length H xs vs) : Step W ρ G H ρ (G.set i (.lst xs)) (upd H (ρ i) (.lst vs)) :=
  Step.put (u := .lst us) r (List.getElem?_eq_some_iff.mp h).1 e trivial (fun _ z => nomatch z) ⟨vs, upd_same, rd.mono (Nat.le_refl _) (fun _ _ => rfl) (.put (u := .lst us) e trivial)⟩
theorem rvs_drop : ∀ {xs : List D} {vs : List V}, RVs W.K ρ G.length H xs vs → RVs W.K ρ G.length H xs.dropLast vs.dropLast
  | _, _, .nil => .nil
  | _, _, .cons _ .nil => .nil
  | _, _, .cons a (.cons b c) => .cons a (rvs_drop (.cons b c))
theorem rvs_erase : ∀ {xs : List D} {vs : List V} (i : Nat), RVs W.K ρ G.length H xs vs → RVs W.K ρ G.length H (xs.eraseIdx i) (vs.eraseIdx i)
  | _, _, _, .nil => .nil
  | _, _, 0, .cons _ r => r
  | _, _, i + 1, .cons a r => .cons a (rvs_erase i r)
theorem rvs_setI : ∀ {xs : List D} {vs : List V} (i : Nat) {d : D} {v : V}, RVs W.K ρ G.length H xs vs → RV W.K ρ G.length H d v → RVs W.K ρ G.length H (xs.set i d) (vs.set i v)
  | _, _, _, _, _, .nil, _ => .nil
  | _, _, 0, _, _, .cons _ r, h => .cons h r
  | _, _, i + 1, _, _, .cons a r, h => .cons a (rvs_setI i r h)
theorem rvs_dropN : ∀ {xs : List D} {vs : List V} (i : Nat), RVs W.K ρ G.length H xs vs → RVs W.K ρ G.length H (xs.drop i) (vs.drop i)
  | _, _, 0, r => r
  | _, _, _ + 1, .nil => .nil
  | _, _, i + 1, .cons _ r => rvs_dropN i r
theorem rvs_takeN : ∀ {xs : List D} {vs : List V} (i : Nat), RVs W.K ρ G.length H xs vs → RVs W.K ρ G.length H (xs.take i) (vs.take i)
  | _, _, 0, _ => .nil
  | _, _, _ + 1, .nil => .nil
  | _, _, i + 1, .cons a r => .cons a (rvs_takeN i r)
theorem rvs_cut {xs : List D} {vs : List V} {lo hi : Option Int} (r : RVs W.K ρ G.length H xs vs) : RVs W.K ρ G.length H (cutD xs lo hi) (cutV vs lo hi) := by
  unfold cutD cutV
  rw [r.length]
  exact rvs_takeN _ (rvs_dropN _ r)
theorem bf_some1 {f : D → D → Hh → R D} {id : String} (h : ∀ (pins : List (Addr × Obj)) (s : Shared) (σ : L2.St) (H : Hp) (x y : V) (v w : Value) (Q : VK) (ρ : Nat → Addr) (G : Hh) (d e : D), Inv X pins σ H s → L2.RelV x v → L2.RelV y w → Rel W ρ G H → RV W.K ρ G.length H d x → RV W.K ρ G.length H e y → PstF W ρ G H (f d e G) Q (fun _ _ _ => False) →
    wpAny (model X.prog X.w) X.A (call (.builtin id) [v, w]) (EP X pins σ Q) X.xe s) : MtR X id (rBf W (some1 f)) := by
  rintro pins s σ H x xs v us Q I rx rxs ⟨ρ, G, d, ds, rl, rd, rds, hh⟩
  cases rds with
  | nil => exact hh.elim
  | cons a b => cases b with
    | cons _ _ => exact hh.elim
    | nil =>
      obtain ⟨w, rfl, rw'⟩ := vals1 rxs
      exact h pins s σ H _ _ v w Q ρ G _ _ I rx rw' rl rd a hh
theorem bf_none0 {f : D → Hh → R D} {id : String} (h : ∀ (pins : List (Addr × Obj)) (s : Shared) (σ : L2.St) (H : Hp) (x : V) (v : Value) (Q : VK) (ρ : Nat → Addr) (G : Hh) (d : D), Inv X pins σ H s → L2.RelV x v → Rel W ρ G H → RV W.K ρ G.length H d x → PstF W ρ G H (f d G) Q (fun _ _ _ => False) →
    wpAny (model X.prog X.w) X.A (call (.builtin id) [v]) (EP X pins σ Q) X.xe s) : MtR X id (rBf W (none0 f)) := by
  rintro pins s σ H x xs v us Q I rx rxs ⟨ρ, G, d, ds, rl, rd, rds, hh⟩
  cases rds with
  | cons a b => exact hh.elim
  | nil =>
    cases rxs
    exact h pins s σ H _ v Q ρ G _ I rx rl rd hh
theorem bm_append : MtR X "list.append" (rBf W (some1 mAppend)) := bf_some1 fun pins s σ H x y v w Q ρ G d e I rv rw' rl rd re h => by
  cases d <;> simp only [mAppend] at h <;> try exact h.elim
  rename_i i
  split at h
  · rename_i xs hx
    split at h
    · rename_i hz
      cases rd
      obtain ⟨vs, q1, q2⟩ := rl.obj _ _ hx
      have q3 : RVs W.K ρ G.length H (xs ++ [e]) (vs ++ [y]) := q2.append (.cons re .nil)
      exact mt_append pins s σ H _ [y] v [w] Q I rv (.cons rw' .nil) ⟨_, vs, y, rfl, rfl, q1, by rw [← q2.length]; exact hz, h ρ _ _ (put_lst rl hx q1 q3) .non⟩
    · exact h.elim
  · exact h.elim
theorem bm_pop : MtR X "list.pop" (rBf W (none0 mPop)) := bf_none0 fun pins s σ H x v Q ρ G d I rv rl rd h => by
  cases d <;> simp only [mPop] at h <;> try exact h.elim
  rename_i i
  split at h
  · rename_i xs hx
    split at h
    · rename_i y hy
      cases rd
      obtain ⟨vs, q1, q2⟩ := rl.obj _ _ hx
      obtain ⟨z, hz, rz⟩ := q2.get hy
      have st := put_lst rl hx q1 (rvs_drop q2)
      exact mt_pop pins s σ H _ [] v [] Q I rv .nil ⟨_, vs, z, rfl, rfl, q1, by rw [← q2.length]; exact hz, h ρ _ _ st (st.rv rz)⟩
    · exact h.elim
  · exact h.elim
theorem bm_popAt : MtR X "list.pop" (rBf W (some1 mPopAt)) := bf_some1 fun pins s σ H x y v w Q ρ G d e I rv rw' rl rd re h => by
  cases d <;> cases e <;> simp only [mPopAt] at h <;> try exact h.elim
  rename_i i k
  split at h
  · rename_i xs hx
    split at h
    · rename_i hb
      split at h
      · rename_i j hj
        split at h
        · rename_i y hy
          cases rd; cases re
          obtain ⟨vs, q1, q2⟩ := rl.obj _ _ hx
          obtain ⟨z, hz, rz⟩ := q2.get hy
          have st := put_lst rl hx q1 (rvs_erase j q2)
          exact mt_popAt pins s σ H _ _ v [w] Q I rv (.cons rw' .nil) ⟨_, vs, k, j, z, rfl, rfl, q1, hb.1, hb.2, by rw [← q2.length]; exact (ixN_seq hj).1, hz, h ρ _ _ st (st.rv rz)⟩
        · exact h.elim
      · exact h.elim
    · exact h.elim
  · exact h.elim
theorem bm_bits : MtR X "int.bit_length" (rBf W (none0 mBits)) := bf_none0 fun pins s σ H x v Q ρ G d I rv rl rd h => by
  cases d <;> simp only [mBits] at h <;> try exact h.elim
  cases rd
  obtain ⟨t, rfl⟩ := rv
  exact call_int_bit_length ⟨.int _, H, I.tok _, ⟨_, rfl⟩, finF rl h (.int _)⟩
theorem idxP_ok {y : PyData} : ∀ {ds : List PyData} {j : Nat}, idxP y ds = some j → ∃ z, ds[j]? = some z ∧ PyData.eqv z y = true ∧ ∀ (m : Nat) (z' : PyData), m < j → ds[m]? = some z' → PyData.eqv z' y = false
  | [], j, h => by cases h
  | d :: ds, j, h => by
    unfold idxP at h
    split at h
    · rename_i hd
      cases h
      exact ⟨d, rfl, hd, fun m z' hm => absurd hm (Nat.not_lt_zero _)⟩
    · rename_i hd
      rw [Option.map_eq_some_iff] at h
      obtain ⟨j', h, rfl⟩ := h
      obtain ⟨z, h1, h2, h3⟩ := idxP_ok h
      refine ⟨z, by simpa using h1, h2, fun m z' hm e => ?_⟩
      cases m with
      | zero => simp at e; subst e; simpa using hd
      | succ m => exact h3 m z' (by omega) (by simpa using e)
theorem bm_index (hK : X.K = W.K) (hu : X.A.units + 65 < cLine) : MtR X "list.index" (rBf W (some1 mIndex)) := bf_some1 fun pins s σ H x y v w Q ρ G d e I rv rw' rl rd re h => by
  unfold mIndex at h
  split at h
  · rename_i xs p hx hp
    split at h
    · rename_i ds hds
      split at h
      · rename_i cc
        rw [Bool.and_eq_true] at cc
        split at h
        · rename_i j hj
          obtain ⟨a, vs, rfl, h1, h2⟩ := list_of rl rd hx
          obtain ⟨z, z1, z2, z3⟩ := idxP_ok hj
          refine mt_indexD hu pins s σ H _ _ v [w] Q I rv (.cons rw' .nil) ⟨a, y, p, ds, j, z, rfl, rfl, ?_, ?_, datL_shaped hds cc.2, dat_shaped hp cc.1, z1, z2, z3, finF rl h (.int _)⟩
          · rw [hK]
            exact .lst h2 (datL_dp (fun d v p => dat_dp rl _ d v p) _ _ _ h1 hds)
          · rw [hK]
            exact dat_dp rl _ _ _ _ re hp
        · exact h.elim
      · exact h.elim
    · exact h.elim
  · exact h.elim
end
def bmNm : Bm → String
  | .append => "append" | .pop => "pop" | .popAt => "pop" | .bits => "bit_length" | .index => "index"
def bmId : Bm → String
  | .append => "list.append" | .pop => "list.pop" | .popAt => "list.pop" | .bits => "int.bit_length" | .index => "list.index"
theorem bm_all {X : Cx} {W : Wd} (hK : X.K = W.K) (hu : X.A.units + 65 < cLine) : ∀ m : Bm, PlainAttrs (bmTy m) ∧ Slot (bmTy m) (bmNm m) (bmId m) ∧ typeOf (.builtin (bmId m)) = pure (.type "method_descriptor") ∧ MtR X (bmId m) (rBf W (bmD m))
  | .append => ⟨F.plainAttrs_list, F.slot_list_append, F.type_list_append, bm_append⟩
  | .pop => ⟨F.plainAttrs_list, F.slot_list_pop, F.type_list_pop, bm_pop⟩
  | .popAt => ⟨F.plainAttrs_list, F.slot_list_pop, F.type_list_pop, bm_popAt⟩
  | .bits => ⟨F.plainAttrs_int, PyProof.Rows.slot_int_bit_length, PyProof.Rows.type_int_bit_length, bm_bits⟩
  | .index => ⟨F.plainAttrs_list, F.slot_list_index, F.type_list_index, bm_index hK hu⟩
theorem bmOk_ty {W : Wd} {ρ : Nat → Addr} {G : Hh} {H : Hp} {m : Bm} {x : D} {v : V} (r : Rel W ρ G H) (rd : RV W.K ρ G.length H x v) (h : bmOk m G x = true) : L2.tyV W.K (bmTy m) v H := by
  unfold bmOk at h
  split at h
  · rename_i e
    obtain ⟨xs, hx⟩ := Option.isSome_iff_exists.mp h
    obtain ⟨a, vs, rfl, h1, h2⟩ := list_of r rd hx
    exact .inl ⟨e, vs, h2⟩
  · split at h
    · cases rd
      show bmTy m = "int"
      exact of_decide_eq_true h
    · cases h
section
variable {t : Tb} {F : Wf} {c : Cfg} {X : Cx} {w : WX} {N : List Str} {sc : Scope} {k : Nat} (g : Gd t F c X w N sc k)
variable {e a b o : Expr} {es : List Expr} {pos p p2 apos : Pos} {m m1 m2 m3 : Sl → Hh → R D} {ms : Sl → Hh → R (List D)}
include g
theorem prm_all : ∀ p : Pm, CallR X (pmV p) (rPf F.W (primD p)) := by
  have hs : (X.K.lookup sysModules).isSome = true := by rw [g.hK]; exact g.T.sm
  intro p
  cases p with
  | len => exact prm_len g.hK
  | abs => exact prm_abs
  | int => exact prm_int
  | max2 => exact prm_max2 g.calm
  | min2 => exact prm_min2 g.calm
  | maxL => exact prm_maxL g.hK g.calm
  | minL => exact prm_minL g.hK g.calm
  | sum => exact prm_sum g.hK g.calm
  | list => exact prm_list g.hK
  | tuple => exact prm_tuple g.hK
  | sorted => exact prm_sorted g.hK
  | repr => exact prm_repr g.hK (unit65 g) g.gu hs
omit g in
theorem pm_boot : ∀ p : Pm, bootBuiltins (pmS p) = some (pmV p) ∧ (Str.ofString (pmS p)) ≠ "__name__" ∧ ((Str.ofString (pmS p)) == ("__debug__" : Str)) = false := by
  intro p
  cases p <;> refine ⟨by first | rfl | kernel_rfl, by decide, by decide⟩
omit g in
theorem prim_noexc : ∀ (p : Pm) (xs : List D) (G : Hh) (c : Nat) (f : Option D) (G' : Hh), primD p xs G ≠ .exc c f G' := by
  intro p xs G c f G' e
  have o1 : ∀ (f1 : D → Hh → R D), (∀ x, f1 x G ≠ .exc c f G') → one1 f1 xs G ≠ .exc c f G' := by
    intro f1 h e
    unfold one1 at e
    split at e
    · exact h _ e
    · cases e
  have o2 : ∀ (f1 : D → D → Hh → R D), (∀ x y, f1 x y G ≠ .exc c f G') → two2 f1 xs G ≠ .exc c f G' := by
    intro f1 h e
    unfold two2 at e
    split at e
    · exact h _ _ e
    · cases e
  cases p with
  | len => exact o1 _ (fun x z => by unfold pLen at z; repeat' (first | (cases z; done) | split at z)) e
  | abs => exact o1 _ (fun x z => by unfold pAbs at z; repeat' (first | (cases z; done) | split at z)) e
  | int => exact o1 _ (fun x z => by unfold pInt at z; repeat' (first | (cases z; done) | split at z)) e
  | max2 => exact o2 _ (fun x y z => by unfold pMax2 at z; repeat' (first | (cases z; done) | split at z)) e
  | min2 => exact o2 _ (fun x y z => by unfold pMin2 at z; repeat' (first | (cases z; done) | split at z)) e
  | maxL => exact o1 _ (fun x z => by unfold pMaxL at z; repeat' (first | (cases z; done) | split at z)) e
  | minL => exact o1 _ (fun x z => by unfold pMinL at z; repeat' (first | (cases z; done) | split at z)) e
  | sum => exact o1 _ (fun x z => by unfold pSum at z; repeat' (first | (cases z; done) | split at z)) e
  | list => exact o1 _ (fun x z => by unfold pList alloc at z; repeat' (first | (cases z; done) | split at z)) e
  | tuple => exact o1 _ (fun x z => by unfold pTuple at z; repeat' (first | (cases z; done) | split at z)) e
  | sorted => exact o1 _ (fun x z => by unfold pSorted alloc at z; repeat' (first | (cases z; done) | split at z)) e
  | repr => exact o1 _ (fun x z => by unfold pRepr reprD at z; repeat' (first | (cases z; done) | split at z)) e
omit g in
theorem bm_noexc : ∀ (p : Bm) (x : D) (xs : List D) (G : Hh) (c : Nat) (f : Option D) (G' : Hh), bmD p x xs G ≠ .exc c f G' := by
  intro p x xs G c f G' e
  cases p <;> simp only [bmD] at e <;> (first | unfold some1 at e | unfold none0 at e) <;> split at e <;> try (cases e; done)
  · unfold mAppend at e; repeat' (first | (cases e; done) | split at e)
  · unfold mPop at e; repeat' (first | (cases e; done) | split at e)
  · unfold mPopAt at e; repeat' (first | (cases e; done) | split at e)
  · unfold mBits at e; repeat' (first | (cases e; done) | split at e)
  · unfold mIndex at e; repeat' (first | (cases e; done) | split at e)
theorem s_prm {pm : Pm} (hg : glB sc (pmS pm) = true) (hf : (Str.ofString (pmS pm)) ∈ t.free) (h0 : starB e = false) (hpl : plainB es = true) (ha : PA X (e :: es) (tA F.W w ms)) :
    PE X (.Call (.Name (pmS pm) p) (e :: es) [] pos) (tE F.W w (fun s G => (ms s G).bind fun xs G1 => primD pm xs G1)) := by
  obtain ⟨b1, b2, b3⟩ := pm_boot pm
  have hc := prm_all g pm
  have key : PE X (.Call (.Name (pmS pm) p) (e :: es) [] pos) (tCB (rPf F.W (primD pm)) (tA F.W w ms)) := by
    unfold pmV at b1 hc
    by_cases ht : pmTy pm = true
    · rw [if_pos ht] at b1 hc
      exact pe_callTy hc (g.gl hg).1 (g.T.fr _ hf) b1 ha b2 b3 (star_cons h0) (plain_any es hpl)
    · rw [if_neg ht] at b1 hc
      exact pe_callB hc (g.gl hg).1 (g.T.fr _ hf) b1 ha b2 b3 (star_cons h0) (plain_any es hpl)
  refine key.imp fun σ H Q ⟨ρ, sl, G, r, S, h⟩ => ⟨ρ, sl, G, r, S, h.mid fun ρ1 G1 H1 xs vs _ st rv hh => ?_⟩
  refine ⟨ρ1, G1, xs, st.rel, rv, ?_⟩
  cases hpr : primD pm xs G1 with
  | ok d G2 => rw [hpr] at hh; exact hh
  | exc c f G2 => exact absurd hpr (prim_noexc _ _ _ _ _ _)
  | bad => rw [hpr] at hh; exact hh
/-- a method of a built-in type -/
theorem s_bme0 {bm : Bm} (hcb : callB o = false) (hl : (apos.endLine == pos.line) = true) (ho : PE X o (tE F.W w m)) :
    PE X (.Call (.Attribute o (bmNm bm) apos) [] [] pos) (tE F.W w (fun s G => (m s G).bind fun x G0 => if bmOk bm G0 x then ((fun (_ : Sl) G => R.ok [] G) s G0).bind fun xs G1 => bmD bm x xs G1 else .bad)) := by
  obtain ⟨b1, b2, b3, b4⟩ := bm_all (X := X) (W := F.W) g.hK (unit65 g) bm
  refine (pe_bm0 (cpos := pos) (apos := apos) b1 b2 b3 b4 ho (attr_base hcb) hl).imp fun σ H Q ⟨ρ, sl, G, r, S, h⟩ => ⟨ρ, sl, G, r, S, h.mid fun ρ1 G1 H1 x v _ st rv hh => ?_⟩
  dsimp only at hh
  split at hh
  · rename_i hok
    refine ⟨by rw [g.hK]; exact bmOk_ty st.rel rv hok, ρ1, G1, x, [], st.rel, rv, .nil, ?_⟩
    have hh : Pst F.W w ρ1 G1 H1 σ (rlD F.W) (bmD bm x [] G1) Q := hh
    cases hpr : bmD bm x [] G1 with
    | ok d G2 => rw [hpr] at hh; exact hh
    | exc c f G2 => exact absurd hpr (bm_noexc _ _ _ _ _ _ _)
    | bad => rw [hpr] at hh; exact hh
  · exact hh.elim
theorem s_bme {bm : Bm} (hcb : callB o = false) (hl : (apos.endLine == pos.line) = true) (h0 : starB e = false) (hpl : plainB es = true) (hfew : (e :: es).length < 30) (ho : PE X o (tE F.W w m)) (ha : PA X (e :: es) (tA F.W w ms)) :
    PE X (.Call (.Attribute o (bmNm bm) apos) (e :: es) [] pos) (tE F.W w (fun s G => (m s G).bind fun x G0 => if bmOk bm G0 x then (ms s G0).bind fun xs G1 => bmD bm x xs G1 else .bad)) := by
  obtain ⟨b1, b2, b3, b4⟩ := bm_all (X := X) (W := F.W) g.hK (unit65 g) bm
  have hpl2 : plainB (e :: es) = true := by
    unfold plainB at hpl ⊢
    rw [List.all_cons, hpl, h0]; rfl
  have hf : ((backTo pos (starEach (e :: es) X.env)).all (fun x => !x.1) && (backToKw pos (keywordEach [] X.env)).all (fun x => x.1.isSome)
      && decide ((e :: es).length + ([] : List Keyword).length + (if ([] : List Keyword).isEmpty then 0 else 1) < 30)) = true := by
    have h1 : (backTo pos (starEach (e :: es) X.env)).all (fun x => !x.1) = true := by
      have q := plain_any (env := X.env) (pos := pos) (e :: es) hpl2
      rw [List.any_eq_false] at q
      rw [List.all_eq_true]
      intro x hx
      have := q x hx
      simpa using this
    rw [h1, Bool.true_and, Bool.and_eq_true]
    exact ⟨rfl, decide_eq_true hfew⟩
  refine (pe_bm (cpos := pos) (apos := apos) b1 b2 b3 b4 ho ha (attr_base hcb) hf hl (star_cons h0) (plain_any es hpl)).imp fun σ H Q ⟨ρ, sl, G, r, S, h⟩ => ⟨ρ, sl, G, r, S, h.mid fun ρ1 G1 H1 x v _ st rv hh => ?_⟩
  split at hh
  · rename_i hok
    refine ⟨by rw [g.hK]; exact bmOk_ty st.rel rv hok, ρ1, sl, G1, st.rel, st.rs S, hh.mid fun ρ2 G2 H2 xs vs _ st2 rvs h3 => ?_⟩
    refine ⟨ρ2, G2, x, xs, st2.rel, st2.rv rv, rvs, ?_⟩
    cases hpr : bmD bm x xs G2 with
    | ok d G2 => rw [hpr] at h3; exact h3
    | exc c f G2 => exact absurd hpr (bm_noexc _ _ _ _ _ _ _)
    | bad => rw [hpr] at h3; exact h3
  · exact hh.elim
theorem s_dnw : PE X (.Dict [] [] pos) (tE F.W w (fun _ G => alloc (.dic []) G)) := by
  refine pe_dnewK.imp fun σ H Q ⟨ρ, sl, G, r, S, h⟩ => fun p hp => ?_
  have st : Step F.W ρ G H (ext ρ G.length p) (G ++ [.dic []]) (upd H p (.dK [])) := Step.new r hp (.new hp) (fun b u e => by rw [upd_ne (ne_of_none e hp)]; exact e) (.inl ⟨[], upd_same, .nil⟩)
  have q := h _ _ (.ref (ext ρ G.length p G.length)) st (.ref G.length (by rw [List.length_append, List.length_singleton]; omega))
  rw [ext_at] at q
  exact q
/-- slices -/
def tPo (W : Wd) (w : WX) (m : Sl → Hh → R (Option Int)) : TO := fun σ H Q => ∃ ρ sl G, Rel W ρ G H ∧ RS W ρ G.length H sl σ ∧ Pst W w ρ G H σ (fun _ _ _ (a b : Option Int) => a = b) (m sl G) Q
omit g in
theorem po_no : PO X none (tPo F.W w (fun _ G => .ok none G)) := ⟨fun pins s σ H Q I ⟨ρ, sl, G, r, S, h⟩ => po_none.run pins s σ H Q I (h ρ H none (.refl r) rfl)⟩
omit g in
theorem po_yes (he : PE X e (tE F.W w m)) : PO X (some e) (tPo F.W w (fun s G => (m s G).bind fun x G1 => match x with
    | .int i => .ok (some i) G1
    | _ => .bad)) := ⟨fun pins s σ H Q I ⟨ρ, sl, G, r, S, h⟩ => (po_some he).run pins s σ H Q I ⟨ρ, sl, G, r, S, h.mid fun ρ1 G1 H1 x v _ st rv hh => by
    split at hh
    · cases rv
      exact ⟨_, rfl, hh ρ1 H1 _ (.refl st.rel) rfl⟩
    · exact hh.elim⟩⟩
theorem s_slc {lo hi : Option Expr} {ml mh : Sl → Hh → R (Option Int)} (ha : PE X a (tE F.W w m)) (hl : PO X lo (tPo F.W w ml)) (hh : PO X hi (tPo F.W w mh)) :
    PE X (.Subscript a (.Slice lo hi none p2) pos) (tE F.W w (fun s G => (m s G).bind fun x G0 => (ml s G0).bind fun l G1 => (mh s G1).bind fun h G2 => slcD G2 x l h)) := by
  refine (pe_slice (sl_list.or sl_tup) ha hl hh).imp fun σ H Q ⟨ρ, sl, G, r, S, h⟩ => ⟨ρ, sl, G, r, S, h.mid fun ρ1 G1 H1 x v _ st rv h1 => ?_⟩
  refine ⟨ρ1, sl, G1, st.rel, st.rs S, h1.mid fun ρ2 G2 H2 l l' _ st2 el h2 => ?_⟩
  subst el
  refine ⟨ρ2, sl, G2, st2.rel, st2.rs (st.rs S), h2.mid fun ρ3 G3 H3 u u' _ st3 eu h3 => ?_⟩
  subst eu
  have rv3 := st3.rv (st2.rv rv)
  unfold slcD at h3
  split at h3
  · cases rv3 with
    | tup t1 r1 =>
      split at h3
      · exact h3.elim
      · rename_i hw
        rw [r1.length] at hw
        refine .inr ⟨_, _, rfl, by rw [g.hK]; exact t1, hw, fun p hp => ?_⟩
        exact h3 ρ3 _ _ (Step.side st3.rel hp) (.tup (.of upd_same) ((rvs_cut r1).mono (Nat.le_refl _) (fun _ _ => rfl) (.new hp)))
  · split at h3
    · rename_i xs hx
      obtain ⟨aa, vs, rfl, q1, q2⟩ := list_of st3.rel rv3 hx
      exact .inl ⟨aa, vs, rfl, by rw [g.hK]; exact q2, lay_ok st3.rel h3 (rvs_cut q1)⟩
    · exact h3.elim
end
section
variable {t : Tb} {F : Wf} {c : Cfg} {X : Cx} {w : WX} {N : List Str} {sc : Scope} {k : Nat} (g : GdS t F c X w N sc k)
variable {e a b o i : Expr} {es : List Expr} {pos p p2 apos : Pos} {m m1 m2 m3 : Sl → Hh → R D} {ms : Sl → Hh → R (List D)}
include g
omit g in
def rSetB : TSet := fun o i v H Q => rSetL o i v H Q ∨ rSetD o i v H Q
omit g in
theorem set_both (hu : X.A.units + 1 < cLine) : PSet X rSetB := by
  intro pins s σ H o i v ov iv u Q I ro ri rv h
  rcases h with h | h
  · exact set_list pins s σ H o i v ov iv u Q I ro ri rv h
  · exact set_dict hu pins s σ H o i v ov iv u Q I ro ri rv h
theorem x_sst (hc : compB e = false) (ho : PE X o (tE F.W w m1)) (hi : PE X i (tE F.W w m2)) (he : PE X e (tE F.W w m)) (hsl : slcB i = false) :
    PS X (.Assign [.Subscript o i p] e pos) (tS F.W w (fun s G => (m s G).st s fun v G1 => (m1 s G1).st s fun x G2 => (m2 s G2).st s fun y G3 => match setD G3 x y v with
    | some G4 => .nx s G4
    | none => .bad)) := by
  have hset : PG X (.Subscript o i p) (gSub (tE F.W w m1) (tE F.W w m2) rSetB) := pg_sub ho hi (set_both (by have := g.rm.un; omega)) (by intro _; cases i <;> first | rfl | (simp [slcB] at hsl))
  have h1 : swappedStores [.Subscript o i p] e X.env = pure none := by cases e <;> rfl
  refine (ps_asg he hset (show swapsWithSole [.Subscript o i p] e pos.line X.env = pure false from sw_no (tg := some (.Subscript o i p)) (l := pos.line) (env := X.env) hc) h1 rfl).imp fun D σ H ⟨ρ, sl, G, r, S, h⟩ => ⟨ρ, sl, G, r, S, h.mid S fun ρ1 G1 H1 d v _ st rv h1 => ?_⟩
  refine ⟨ρ1, sl, G1, st.rel, st.rs S, h1.mid (st.rs S) fun ρ2 G2 H2 x xv _ st2 rx h2 => ?_⟩
  refine ⟨ρ2, sl, G2, st2.rel, st2.rs (st.rs S), h2.mid (st2.rs (st.rs S)) fun ρ3 G3 H3 y yv _ st3 ry h3 => ?_⟩
  cases hs : setD G3 x y d with
  | none => rw [hs] at h3; exact h3.elim
  | some G4 =>
    rw [hs] at h3
    unfold setD at hs
    split at hs
    · split at hs
      · rename_i xs hxs
        rw [Option.map_eq_some_iff] at hs
        obtain ⟨j, hj, rfl⟩ := hs
        have rx3 := st3.rv rx
        cases rx3; cases ry
        obtain ⟨vs, q1, q2⟩ := st3.rel.obj _ _ hxs
        have st4 := put_lst st3.rel hxs q1 (rvs_setI j q2 (st3.rv (st2.rv rv)))
        refine .inl ⟨_, vs, _, j, rfl, rfl, q1, by rw [← q2.length]; exact hj, ?_⟩
        exact h3 ρ3 _ σ st4 (st4.rs (st3.rs (st2.rs (st.rs S))))
      · cases hs
    · split at hs
      · rename_i kvs hkv
        split at hs
        · rename_i hc
          cases hs
          have rx3 := st3.rv rx
          cases rx3; cases ry
          have hi := (List.getElem?_eq_some_iff.mp hkv).1
          rcases st3.rel.obj _ _ hkv with ⟨ks, q1, q2⟩ | ⟨ks, q1, q2, q3⟩
          · have rv3 := st3.rv (st2.rv rv)
            have hp : Kp F.W.K H3 (upd H3 _ (.dK (putK ks (.inr ‹Str›) v))) := .put q1 trivial
            have st4 := Step.put (o := .dic (putD kvs (.str ‹Str›) d)) (u' := .dK (putK ks (.inr ‹Str›) v)) st3.rel hi q1 trivial (fun fs => HO.noConfusion) (.inl ⟨_, upd_same, (rdk_put rv3 q2).mono (Nat.le_refl _) (fun _ _ => rfl) hp⟩)
            refine .inr ⟨_, upd H3 _ (.dK (putK ks (.inr ‹Str›) v)), rfl, .inl ⟨ks, .inr ‹Str›, q1, rfl, by rw [← rdk_len q2]; exact hc.1, rfl⟩, ?_⟩
            exact h3 ρ3 _ σ st4 (st4.rs (st3.rs (st2.rs (st.rs S))))
          · cases q2 with
            | nil => exact absurd rfl q3
            | cons h r => have := hc.2; simp [keysB, keyDat] at this
        · cases hs
      · cases hs
    · cases hs
def parB (x y : Str) (px py : Pos) (a b : Expr) : Bool := !starB a && !starB b && !([a, b].all (foldedForSure 8)) && !([a, b].all (constantsAlone 8)) && !(x == y) && px.line == py.line
theorem x_par {i j : Nat} {x y : Str} {px py pt pt2 : Pos} {kt k2 : Nat} (hi : N[i]? = some x) (hj : N[j]? = some y) (hx : sc.names.lookup x = some .local) (hy : sc.names.lookup y = some .local) (hp : parB x y px py a b = true) (ha : PE X a (tE F.W w m1)) (hb : PE X b (tE F.W w m2)) :
    PS X (.Assign [.Tuple [.Name x px, .Name y py] kt pt] (.Tuple [a, b] k2 pt2) pos) (tS F.W w (fun s G => (m1 s G).st s fun x G1 => (m2 s G1).st s fun y G2 => .nx ((s.set i (some x)).set j (some y)) G2)) := by
  unfold parB at hp
  simp only [Bool.and_eq_true, Bool.not_eq_true'] at hp
  obtain ⟨⟨⟨⟨⟨p1, p2⟩, p3⟩, p4⟩, p5⟩, p6⟩ := hp
  have hx' : X.env.scope.names.lookup x = some .local := by rw [g.hsc]; exact hx
  have hy' : X.env.scope.names.lookup y = some .local := by rw [g.hsc]; exact hy
  have hij : i ≠ j := by
    intro e
    rw [e, hj] at hi
    cases hi
    simp at p5
  have hbk : X.env.blockKind = .function := by
    unfold Env.blockKind
    rw [g.knd]; rfl
  have hw : swappedStores [.Tuple [.Name x px, .Name y py] kt pt] (.Tuple [a, b] k2 pt2) X.env = pure (some [x, y]) := by
    unfold swappedStores
    have hne : (y == x) = false := by
      rw [Bool.eq_false_iff] at p5 ⊢
      intro z
      exact p5 (by rw [beq_iff_eq] at z ⊢; exact z.symm)
    have e2 : ([x, y] : List Str).eraseDups = [x, y] := by
      simp [List.eraseDups_cons, List.filter_cons, hne]
    have p6' : (py.line == px.line) = true := by rw [beq_iff_eq] at p6 ⊢; exact p6.symm
    simp only [hbk, List.any_cons, List.any_nil, List.length_cons, List.length_nil, List.head?_cons, Option.map_some, Option.getD_some, Expr.pos, List.filterMap_cons, List.filterMap_nil, Env.kindOf, hx', hy', e2, p3, p4, p6', beq_self_eq_true, Bool.and_self, if_true]
    refine (if_neg (by decide)).trans ((if_neg ?_).trans rfl)
    intro z
    simp only [Bool.or_eq_true, Bool.or_false] at z
    rcases z with z | z
    · cases a <;> first | (cases z; done) | (simp [starB] at p1; done)
    · cases b <;> first | (cases z; done) | (simp [starB] at p2; done)
  have hA : PA X [a, b] (tCons (tE F.W w m1) (tCons (tE F.W w m2) tNil)) := pa_cons ha (pa_cons hb pa_nil (star_cons p2)) (star_cons p1)
  refine (ps_par g.calm (by rw [g.hN]; exact g.nd) (by rw [g.hN]; exact hi) (by rw [g.hN]; exact hj) hij hx' hy' hA hw).imp fun D σ H ⟨ρ, sl, G, r, S, h⟩ => ⟨ρ, sl, G, r, S, h.mid S fun ρ1 G1 H1 d v _ st rv h1 => ?_⟩
  refine ⟨ρ1, sl, G1, st.rel, st.rs S, h1.mid (st.rs S) fun ρ2 G2 H2 d2 v2 _ st2 rv2 h2 => ?_⟩
  exact ⟨v, v2, rfl, h2 ρ2 H2 _ (.refl st2.rel) (((st2.rs (st.rs S)).set (st2.rv rv) i).set rv2 j)⟩
end
end Eng
end
section
set_option Elab.async false
set_option linter.all false
set_option maxRecDepth 100000
set_option maxHeartbeats 2000000
/-! The engine: the checker and what it promises. Own work. -/
namespace Eng
open PySem PySem.Spec PyProof.Rows L2

/-! ### isinstance, as it is written -/
def btB (n : String) : Bool := match bootBuiltins (Str.ofString n) with
  | some (.type m) => decide (m = n)
  | _ => false
def tyB (t : Tb) (sc : Scope) (ty : Ty) (x : Str) : Bool := glB sc x && match ty with
  | .b n => decide (x = Str.ofString n) && decide (x ∈ t.free) && btB n
  | .c k => decide (t.cnm[k]? = some x)
  | .x e => decide (t.xnm[e]? = some x)
section
variable {t : Tb} {F : Wf} {c : Cfg} {X : Cx} {w : WX} {N : List Str} {sc : Scope} {k : Nat} (g : Gd t F c X w N sc k)
variable {a : Expr} {p p2 pos : Pos} {m : Sl → Hh → R D}
include g
theorem pe_ty {ty : Ty} {x : Str} (h : tyB t sc ty x = true) : ∃ v, PE X (.Name x p) (tC v) ∧ ∀ u, L2.RelV v u → u = tyV F.W ty := by
  unfold tyB at h
  rw [Bool.and_eq_true] at h
  obtain ⟨h1, h2⟩ := h
  obtain ⟨g1, g2, g3⟩ := g.gl h1
  cases ty with
  | b n =>
    simp only [Bool.and_eq_true, decide_eq_true_eq] at h2
    obtain ⟨⟨e1, e2⟩, e3⟩ := h2
    subst e1
    unfold btB at e3
    split at e3
    · rename_i mm hm
      have e4 := of_decide_eq_true e3
      subst e4
      exact ⟨.ty mm, pe_bltn g1 (g.T.fr _ e2) hm rfl g3 g2, fun u e => e⟩
    · cases e3
  | c kk =>
    have e := of_decide_eq_true h2
    exact ⟨.ref (F.W.cA kk), pe_glob g1 (g.T.cn kk x e).1 rfl g2, fun u e => e⟩
  | x kk =>
    have e := of_decide_eq_true h2
    exact ⟨.ref (F.W.xA kk), pe_glob g1 (g.T.xn kk x e) rfl g2, fun u e => e⟩
theorem s_isi {ty : Ty} {x : Str} (hg : glB sc "isinstance" = true) (hf : ("isinstance" : Str) ∈ t.free) (h0 : starB a = false) (ht : tyB t sc ty x = true) (ha : PE X a (tE F.W w m)) :
    PE X (.Call (.Name "isinstance" p) [a, .Name x p2] [] pos) (tE F.W w (fun s G => (m s G).bind fun x G1 => match isin c.P G1 ty x with
      | some b => .ok (.bl b) G1
      | none => .bad)) := by
  obtain ⟨v, h1, h2⟩ := pe_ty g (p := p2) ht
  have key : CallR X (.builtin "isinstance") (fun vs H Q => ∃ ρ G d b x y, vs = [x, y] ∧ Rel F.W ρ G H ∧ RV F.W.K ρ G.length H d x ∧ y = v ∧ isin c.P G ty d = some b ∧ Q (.bl b) H) := by
    rintro pins s σ H vs us Q I r ⟨ρ, G, d, b, x, y, rfl, rl, rd, rfl, e, q⟩
    obtain ⟨u1, u2, rfl, r1, r2⟩ := vals2 r
    rw [h2 _ r2]
    exact isi_ok g I rl r1 rd e q
  refine (pe_callB key (g.gl hg).1 (g.T.fr _ hf) (by first | rfl | kernel_rfl) (pa_cons ha (pa_cons h1 pa_nil) (star_cons h0)) (he := star_cons h0)).imp fun σ H Q ⟨ρ, sl, G, r, S, h⟩ => ⟨ρ, sl, G, r, S, h.mid fun ρ1 G1 H1 d x _ st rd hh => ?_⟩
  split at hh
  · rename_i b hb
    exact ⟨ρ1, G1, d, b, x, v, rfl, st.rel, rd, rfl, hb, fin_ok st.rel hh (.bl _)⟩
  · exact hh.elim
end

/-! ### the checker -/
def ownP (N : List Str) (own : List Nat) : List (Str × Nat) := own.map fun i => (N.getD i Str.empty, i)
theorem ownP_snd (N : List Str) (own : List Nat) : (ownP N own).map (·.2) = own := by
  unfold ownP
  rw [List.map_map]
  have : ((fun x : Str × Nat => x.2) ∘ fun i => (N.getD i Str.empty, i)) = id := rfl
  rw [this, List.map_id]
def blkB (N : List Str) (sc scope : Scope) (own : List (Str × Nat)) : Bool :=
  decide (scope.kind = .function) && scope.names.all (fun y => decide (scope.names.lookup y.1 = some y.2)) && own.all (fun p => decide (N[p.2]? = some p.1)) &&
  scope.names.all (fun y => !decide (y.2 = .free) || decide (sc.names.lookup y.1 = some .cell) || decide (sc.names.lookup y.1 = some .free)) &&
  scope.names.all (fun y => !(decide (y.2 = .local) || decide (y.2 = .cell)) || decide (y.1 ∈ own.map (·.1)) || !decide (y.1 ∈ N))
theorem blkB_ok {N : List Str} {sc scope : Scope} {own : List (Str × Nat)} (h : blkB N sc scope own = true) : BlkOk N sc scope own := by
  simp only [blkB, Bool.and_eq_true, List.all_eq_true, decide_eq_true_eq, Bool.or_eq_true, Bool.not_eq_true', decide_eq_false_iff_not, Bool.or_eq_false_iff] at h
  obtain ⟨⟨⟨⟨h1, h2⟩, h3⟩, h4⟩, h5⟩ := h
  refine ⟨h1, h2, h3, fun y hy e => ?_, fun y hy e => ?_⟩
  · rcases h4 y hy with (h | h) | h
    · exact absurd e h
    · exact .inl h
    · exact .inr h
  · rcases h5 y hy with (h | h) | h
    · rcases e with e | e
      · exact absurd e h.1
      · exact absurd e h.2
    · exact .inl h
    · exact .inr h
def shpAt (t : Tb) (sh : Nat) : Option Shp := t.P.shs[sh]?
/-- a call: positional values, keywords -/
def argB (es : List Expr) (kws : List Keyword) (ks : List Str) : Bool := plainB es && kwB kws ks
mutual
def chE (t : Tb) (N : List Str) : E → Scope → Expr → Bool
  | .var i => fun sc a => match a with
    | .Name x _ => decide (N[i]? = some x) && visB sc x && okn x
    | _ => false
  | .con d => fun sc a => match a with
    | .Constant k _ _ => conB d k
    | _ => false
  | .glo x d => fun sc a => match a with
    | .Name y _ => decide (x = y) && glB sc x && decide ((x, d) ∈ t.cst)
    | _ => false
  | .bin op a b => fun sc e => match e with
    | .BinOp x o y _ => decide (o = op) && chE t N a sc x && chE t N b sc y
    | _ => false
  | .neg a => fun sc e => match e with
    | .UnaryOp .USub x _ => chE t N a sc x
    | _ => false
  | .cmp op a b => fun sc e => match e with
    | .Compare x [o] [y] _ => decide (o = op) && !setB y && chE t N a sc x && chE t N b sc y
    | _ => false
  | .cmo ne a b => fun sc e => match e with
    | .Compare x [o] [y] _ => decide (o = if ne then .NotEq else .Eq) && !setB y && chE t N a sc x && chE t N b sc y
    | _ => false
  | .chn o1 o2 a b d => fun sc e => match e with
    | .Compare x [p1, p2] [y, z] _ => decide (p1 = o1) && decide (p2 = o2) && !setB z && chE t N a sc x && chE t N b sc y && chE t N d sc z
    | _ => false
  | .and a b => fun sc e => match e with
    | .BoolOp .And (x :: y :: r) p => chE t N a sc x && chE t N b sc (.BoolOp .And (y :: r) p)
    | _ => false
  | .or a b => fun sc e => match e with
    | .BoolOp .Or (x :: y :: r) p => chE t N a sc x && chE t N b sc (.BoolOp .Or (y :: r) p)
    | _ => false
  | .one a => fun sc e => match e with
    | .BoolOp _ [x] _ => chE t N a sc x
    | _ => false
  | .not a => fun sc e => match e with
    | .UnaryOp .Not x _ => chE t N a sc x
    | _ => false
  | .ite q a b => fun sc e => match e with
    | .IfExp x y z _ => chB t N q sc x && chE t N a sc y && chE t N b sc z
    | _ => false
  | .val a => fun sc e => chE t N a sc e
  | .tup es => fun sc e => match e with
    | .Tuple xs _ _ => chEs t N es sc xs
    | _ => false
  | .lst es => fun sc e => match e with
    | .List xs _ => chEs t N es sc xs
    | _ => false
  | .sub a i => fun sc e => match e with
    | .Subscript x y _ => !slcB y && chE t N a sc x && chE t N i sc y
    | _ => false
  | .fld a f => fun sc e => match e with
    | .Attribute x nm _ => decide (nm = t.P.names.getD f Str.empty) && !callB x && chE t N a sc x
    | _ => false
  | .cal sh es ks => fun sc e => match e with
    | .Call (.Name x _) xs kws _ => (match shpAt t sh with
      | some q => decide (t.fnm[q.f]? = some (some x)) && glB sc x && plainB xs && kwB kws q.ks && chEs t N es sc xs && chK t N ks sc kws
      | none => false)
    | _ => false
  | .new kc sh es ks => fun sc e => match e with
    | .Call (.Name x _) xs kws _ => (match shpAt t sh, t.P.cls[kc]? with
      | some q, some _ => decide (t.cnm[kc]? = some x) && glB sc x && plainB xs && kwB kws q.ks && chEs t N es sc xs && chK t N ks sc kws
      | _, _ => false)
    | _ => false
  | .mth a m sh es ks => fun sc e => match e with
    | .Call (.Attribute o nm apos) xs kws pos => (match shpAt t sh with
      | some q => decide (nm = t.P.names.getD m Str.empty) && decide (m < t.P.names.length) && !callB o && (apos.endLine == pos.line) && decide (xs.length + kws.length < 29) && plainB xs && kwB kws q.ks && chE t N a sc o && chEs t N es sc xs && chK t N ks sc kws
      | none => false)
    | _ => false
  | .prm p es => fun sc e => match e with
    | .Call (.Name x _) (y :: ys) [] _ => decide (x = Str.ofString (pmS p)) && glB sc x && decide (x ∈ t.free) && !starB y && plainB ys && chEs t N es sc (y :: ys)
    | _ => false
  | .bme m a es => fun sc e => match e with
    | .Call (.Attribute o nm apos) xs [] pos => decide (nm = Str.ofString (bmNm m)) && !callB o && (apos.endLine == pos.line) && plainB xs && decide (xs.length < 30) && chE t N a sc o && chEs t N es sc xs
    | _ => false
  | .slc a lo hi => fun sc e => match e with
    | .Subscript x (.Slice l h none _) _ => chE t N a sc x && chP t N lo sc l && chP t N hi sc h
    | _ => false
  | .dnw => fun sc e => match e with
    | .Dict [] [] _ => true
    | _ => false
  | .exn xi kw es ks => fun sc e => match e with
    | .Call (.Name x _) xs kws _ => (match t.P.exs[xi]? with
      | some q => decide (t.xnm[xi]? = some x) && glB sc x && plainB xs && kwB kws (if kw = true then [t.P.names.getD (q.fld.getD 0) Str.empty] else []) && chEs t N es sc xs && chK t N ks sc kws
      | none => false)
    | _ => false
  | .dsp x v => fun sc e => match e with
    | .Dict [some (.Constant (.str y) _ _)] [z] _ => decide (x = y) && chE t N v sc z
    | _ => false
  | .srs a => fun sc e => match e with
    | .Call (.Name x _) [.Call (.Name x2 _) [z] [] _] [] _ => decide (x = ("sorted" : Str)) && decide (x2 = ("set" : Str)) && glB sc ("sorted" : Str) && glB sc ("set" : Str) && decide (("sorted" : Str) ∈ t.free) && decide (("set" : Str) ∈ t.free) && !starB z && chE t N a sc z
    | _ => false
  | .isi a ty => fun sc e => match e with
    | .Call (.Name x _) [y, .Name z _] [] _ => decide (x = ("isinstance" : Str)) && glB sc x && decide (x ∈ t.free) && !starB y && tyB t sc ty z && chE t N a sc y
    | _ => false
  | .lc el tt it q own => fun sc e => match e with
    | .ListComp x [⟨tg, iter, ifs, 0⟩] scope _ => chI t N it sc iter && blkB N sc scope (ownP N own) && chT N scope tt tg && inB own tt && !setB iter && chQ t N q (relS scope sc) ifs && chE t N el (relS scope sc) x
    | _ => false
def chB (t : Tb) (N : List Str) : E → Scope → Expr → Bool
  | .and a b => fun sc e => match e with
    | .BoolOp .And (x :: y :: r) p => chB t N a sc x && chB t N b sc (.BoolOp .And (y :: r) p)
    | _ => false
  | .or a b => fun sc e => match e with
    | .BoolOp .Or (x :: y :: r) p => chB t N a sc x && chB t N b sc (.BoolOp .Or (y :: r) p)
    | _ => false
  | .one a => fun sc e => match e with
    | .BoolOp _ [x] _ => chB t N a sc x
    | _ => false
  | .not a => fun sc e => match e with
    | .UnaryOp .Not x _ => chB t N a sc x
    | _ => false
  | .cmp op a b => fun sc e => match e with
    | .Compare x [o] [y] _ => decide (o = op) && !setB y && chE t N a sc x && chE t N b sc y
    | _ => false
  | .cmo ne a b => fun sc e => match e with
    | .Compare x [o] [y] _ => decide (o = if ne then .NotEq else .Eq) && !setB y && chE t N a sc x && chE t N b sc y
    | _ => false
  | .chn o1 o2 a b d => fun sc e => match e with
    | .Compare x [p1, p2] [y, z] _ => decide (p1 = o1) && decide (p2 = o2) && !setB z && chE t N a sc x && chE t N b sc y && chE t N d sc z
    | _ => false
  | .val a => fun sc e => !formB e && chE t N a sc e
  | _ => fun _ _ => false
def chEs (t : Tb) (N : List Str) : Es → Scope → List Expr → Bool
  | .nil => fun _ l => match l with
    | [] => true
    | _ => false
  | .cons e es => fun sc l => match l with
    | x :: xs => !starB x && chE t N e sc x && chEs t N es sc xs
    | _ => false
def chK (t : Tb) (N : List Str) : Es → Scope → List Keyword → Bool
  | .nil => fun _ l => match l with
    | [] => true
    | _ => false
  | .cons e es => fun sc l => match l with
    | ⟨_, x, _⟩ :: xs => chE t N e sc x && chK t N es sc xs
    | _ => false
def chQ (t : Tb) (N : List Str) : Eo → Scope → List Expr → Bool
  | .no => fun _ l => match l with
    | [] => true
    | _ => false
  | .yes e => fun sc l => match l with
    | [x] => chB t N e sc x
    | _ => false
def chP (t : Tb) (N : List Str) : Eo → Scope → Option Expr → Bool
  | .no => fun _ l => match l with
    | none => true
    | _ => false
  | .yes e => fun sc l => match l with
    | some x => chE t N e sc x
    | _ => false
def chI (t : Tb) (N : List Str) : I → Scope → Expr → Bool
  | .e x => fun sc a => chE t N x sc a
  | .r1 a => fun sc e => match e with
    | .Call (.Name x _) [y] [] _ => decide (x = ("range" : Str)) && glB sc x && decide (x ∈ t.free) && !starB y && chE t N a sc y
    | _ => false
  | .r2 a b => fun sc e => match e with
    | .Call (.Name x _) [y, z] [] _ => decide (x = ("range" : Str)) && glB sc x && decide (x ∈ t.free) && !starB y && !starB z && chE t N a sc y && chE t N b sc z
    | _ => false
end
end Eng
end
section
set_option Elab.async false
set_option linter.all false
set_option maxRecDepth 100000
set_option maxHeartbeats 4000000
/-! The engine: what is checked is sound: expressions. Own work. -/
namespace Eng
open PySem PySem.Spec PyProof.Rows L2

section
variable {t : Tb} {F : Wf} {c : Cfg} {N : List Str} {k : Nat}
theorem nm_eq {X : Cx} {w : WX} {sc : Scope} (g : Gd t F c X w N sc k) (i : Nat) : t.P.names.getD i Str.empty = F.W.nm i := by
  unfold Wd.nm
  rw [g.T.hP]
theorem nil_ev {es : Es} {sc : Scope} {xs : List Expr} (h : chEs t N es sc xs = true) (e : xs = []) : evs c es = fun _ G => .ok [] G := by
  subst e
  cases es with
  | nil => rfl
  | cons _ _ => simp [chEs] at h
theorem pts_no {X : Cx} {W : Wd} {w : WX} : PTs X [] (tT W w (fun _ G => .ok true G)) := ⟨fun pins s σ H Q I ⟨ρ, sl, G, r, S, h⟩ => pts_nil.run pins s σ H Q I (h ρ H true (.refl r) rfl)⟩
mutual
theorem okE : ∀ (e : E) {X : Cx} {w : WX} {sc : Scope} (g : Gd t F c X w N sc k) (a : Expr), chE t N e sc a = true → PE X a (tE F.W w (ev c e))
  | .var i, X, w, sc, g, a, h => by
    simp only [chE] at h
    split at h
    · simp only [Bool.and_eq_true, decide_eq_true_eq] at h
      exact s_var g h.1.1 h.1.2 h.2
    · cases h
  | .con d, X, w, sc, g, a, h => by
    simp only [chE] at h
    split at h
    · exact s_con g h
    · cases h
  | .glo x d, X, w, sc, g, a, h => by
    simp only [chE] at h
    split at h
    · simp only [Bool.and_eq_true, decide_eq_true_eq] at h
      obtain ⟨⟨rfl, h2⟩, h3⟩ := h
      exact s_glo g h2 h3
    · cases h
  | .bin op a b, X, w, sc, g, e, h => by
    simp only [chE] at h
    split at h
    · simp only [Bool.and_eq_true, decide_eq_true_eq] at h
      obtain ⟨⟨rfl, h2⟩, h3⟩ := h
      exact s_bin g (okE a g _ h2) (okE b g _ h3)
    · cases h
  | .neg a, X, w, sc, g, e, h => by
    simp only [chE] at h
    split at h
    · exact s_neg g (okE a g _ h)
    · cases h
  | .cmp op a b, X, w, sc, g, e, h => by
    simp only [chE] at h
    split at h
    · simp only [Bool.and_eq_true, decide_eq_true_eq, Bool.not_eq_true'] at h
      obtain ⟨⟨⟨rfl, h1⟩, h2⟩, h3⟩ := h
      exact s_cmp g h1 (okE a g _ h2) (okE b g _ h3)
    · cases h
  | .cmo ne a b, X, w, sc, g, e, h => by
    simp only [chE] at h
    split at h
    · simp only [Bool.and_eq_true, decide_eq_true_eq, Bool.not_eq_true'] at h
      obtain ⟨⟨⟨rfl, h1⟩, h2⟩, h3⟩ := h
      exact s_cmo g h1 (okE a g _ h2) (okE b g _ h3)
    · cases h
  | .chn o1 o2 a b d, X, w, sc, g, e, h => by
    simp only [chE] at h
    split at h
    · simp only [Bool.and_eq_true, decide_eq_true_eq, Bool.not_eq_true'] at h
      obtain ⟨⟨⟨⟨⟨rfl, rfl⟩, h1⟩, h2⟩, h3⟩, h4⟩ := h
      exact s_chn g h1 (okE a g _ h2) (okE b g _ h3) (okE d g _ h4)
    · cases h
  | .and a b, X, w, sc, g, e, h => by
    simp only [chE] at h
    split at h
    · simp only [Bool.and_eq_true] at h
      exact s_and g (okE a g _ h.1) (okE b g _ h.2)
    · cases h
  | .or a b, X, w, sc, g, e, h => by
    simp only [chE] at h
    split at h
    · simp only [Bool.and_eq_true] at h
      exact s_or g (okE a g _ h.1) (okE b g _ h.2)
    · cases h
  | .one a, X, w, sc, g, e, h => by
    simp only [chE] at h
    split at h
    · exact s_one g (okE a g _ h)
    · cases h
  | .not a, X, w, sc, g, e, h => by
    simp only [chE] at h
    split at h
    · exact s_not g (okE a g _ h)
    · cases h
  | .ite q a b, X, w, sc, g, e, h => by
    simp only [chE] at h
    split at h
    · simp only [Bool.and_eq_true] at h
      exact s_ite g (okB q g _ h.1.1) (okE a g _ h.1.2) (okE b g _ h.2)
    · cases h
  | .val a, X, w, sc, g, e, h => by
    simp only [chE] at h
    exact okE a g _ h
  | .tup es, X, w, sc, g, e, h => by
    simp only [chE] at h
    split at h
    · exact s_tup g (okEs es g _ h)
    · cases h
  | .lst es, X, w, sc, g, e, h => by
    simp only [chE] at h
    split at h
    · exact s_lst g (okEs es g _ h)
    · cases h
  | .sub a i, X, w, sc, g, e, h => by
    simp only [chE] at h
    split at h
    · simp only [Bool.and_eq_true, Bool.not_eq_true'] at h
      exact s_sub g h.1.1 (okE a g _ h.1.2) (okE i g _ h.2)
    · cases h
  | .fld a f, X, w, sc, g, e, h => by
    simp only [chE] at h
    split at h
    · simp only [Bool.and_eq_true, decide_eq_true_eq, Bool.not_eq_true'] at h
      obtain ⟨⟨rfl, h1⟩, h2⟩ := h
      rw [nm_eq g]
      exact s_fld g h1 (okE a g _ h2)
    · cases h
  | .cal sh es ks, X, w, sc, g, e, h => by
    simp only [chE] at h
    split at h
    · split at h
      · rename_i q hq
        simp only [Bool.and_eq_true, decide_eq_true_eq] at h
        obtain ⟨⟨⟨⟨⟨h1, h2⟩, h3⟩, h4⟩, h5⟩, h6⟩ := h
        exact s_cal g hq h1 h2 h3 h4 (okEs es g _ h5) (nil_ev h5) (okK ks g _ h6)
      · cases h
    · cases h
  | .new kc sh es ks, X, w, sc, g, e, h => by
    simp only [chE] at h
    split at h
    · split at h
      · rename_i q cl hq hcl
        simp only [Bool.and_eq_true, decide_eq_true_eq] at h
        obtain ⟨⟨⟨⟨⟨h1, h2⟩, h3⟩, h4⟩, h5⟩, h6⟩ := h
        exact s_new g hq hcl h1 h2 h3 h4 (okEs es g _ h5) (nil_ev h5) (okK ks g _ h6)
      · cases h
    · cases h
  | .mth a m sh es ks, X, w, sc, g, e, h => by
    simp only [chE] at h
    split at h
    · split at h
      · rename_i q hq
        simp only [Bool.and_eq_true, decide_eq_true_eq, Bool.not_eq_true'] at h
        obtain ⟨⟨⟨⟨⟨⟨⟨⟨⟨rfl, h1⟩, h2⟩, h3⟩, h4⟩, h5⟩, h6⟩, h7⟩, h8⟩, h9⟩ := h
        exact s_mth g hq (nm_eq g m) h5 h6 (okE a g _ h7) (okEs es g _ h8) (nil_ev h8) (okK ks g _ h9) (mcall_eq (attr_base h2) (form_ok h5 h6 h4) h3) h1
      · cases h
    · cases h
  | .prm p es, X, w, sc, g, e, h => by
    simp only [chE] at h
    split at h
    · simp only [Bool.and_eq_true, decide_eq_true_eq, Bool.not_eq_true'] at h
      obtain ⟨⟨⟨⟨⟨rfl, h1⟩, h2⟩, h3⟩, h4⟩, h5⟩ := h
      exact s_prm g h1 h2 h3 h4 (okEs es g _ h5)
    · cases h
  | .bme m a es, X, w, sc, g, e, h => by
    simp only [chE] at h
    split at h
    · simp only [Bool.and_eq_true, decide_eq_true_eq, Bool.not_eq_true'] at h
      obtain ⟨⟨⟨⟨⟨⟨rfl, h1⟩, h2⟩, h3⟩, h4⟩, h5⟩, h6⟩ := h
      rename_i o apos xs pos
      cases xs with
      | nil =>
        have e := nil_ev (c := c) h6 rfl
        have q := s_bme0 (bm := m) g h1 h2 (okE a g _ h5)
        show PE X _ (tE F.W w (fun s G => (ev c a s G).bind fun x G0 => if bmOk m G0 x then (evs c es s G0).bind fun xs G1 => bmD m x xs G1 else .bad))
        rw [e]
        exact q
      | cons y ys =>
        unfold plainB at h3
        rw [List.all_cons, Bool.and_eq_true, Bool.not_eq_true'] at h3
        exact s_bme g h1 h2 h3.1 h3.2 h4 (okE a g _ h5) (okEs es g _ h6)
    · cases h
  | .slc a lo hi, X, w, sc, g, e, h => by
    simp only [chE] at h
    split at h
    · simp only [Bool.and_eq_true] at h
      exact s_slc g (okE a g _ h.1.1) (okP lo g _ h.1.2) (okP hi g _ h.2)
    · cases h
  | .dnw, X, w, sc, g, e, h => by
    simp only [chE] at h
    split at h
    · exact s_dnw g
    · cases h
  | .exn xi kw es ks, X, w, sc, g, e, h => by
    simp only [chE] at h
    split at h
    · split at h
      · rename_i q hq
        simp only [Bool.and_eq_true, decide_eq_true_eq] at h
        obtain ⟨⟨⟨⟨⟨h1, h2⟩, h3⟩, h4⟩, h5⟩, h6⟩ := h
        exact s_exn g h1 hq (by unfold Wd.nm; rw [g.T.hP]) h2 h3 h4 (okEs es g _ h5) (nil_ev h5) (okK ks g _ h6)
      · cases h
    · cases h
  | .dsp x v, X, w, sc, g, e, h => by
    simp only [chE] at h
    split at h
    · simp only [Bool.and_eq_true, decide_eq_true_eq] at h
      obtain ⟨rfl, h1⟩ := h
      exact s_dsp (okE v g _ h1)
    · cases h
  | .srs a, X, w, sc, g, e, h => by
    simp only [chE] at h
    split at h
    · simp only [Bool.and_eq_true, decide_eq_true_eq, Bool.not_eq_true'] at h
      obtain ⟨⟨⟨⟨⟨⟨⟨rfl, rfl⟩, h1⟩, h2⟩, h3⟩, h4⟩, h5⟩, h6⟩ := h
      exact s_srtset g h5 (okE a g _ h6) h1 h2 h3 h4
    · cases h
  | .isi a ty, X, w, sc, g, e, h => by
    simp only [chE] at h
    split at h
    · simp only [Bool.and_eq_true, decide_eq_true_eq, Bool.not_eq_true'] at h
      obtain ⟨⟨⟨⟨⟨rfl, h1⟩, h2⟩, h3⟩, h4⟩, h5⟩ := h
      exact s_isi g h1 h2 h3 h4 (okE a g _ h5)
    · cases h
  | .lc el tt it q own, X, w, sc, g, e, h => by
    simp only [chE] at h
    split at h
    · simp only [Bool.and_eq_true, Bool.not_eq_true'] at h
      obtain ⟨⟨⟨⟨⟨⟨h1, h2⟩, h3⟩, h4⟩, h5⟩, h6⟩, h7⟩ := h
      rename_i lx ltg liter lifs lscope lpos
      have key := s_lc g (pos := lpos) (own := ownP N own) (okI it g _ _ h1) (blkB_ok h2) h3 (by rw [ownP_snd]; exact h4) (fun s H C cl fp => okQ q g.blk _ h6) (fun s H C cl fp => okE el g.blk _ h7) h5
      rw [ownP_snd] at key
      exact key
    · cases h
theorem okB : ∀ (e : E) {X : Cx} {w : WX} {sc : Scope} (g : Gd t F c X w N sc k) (a : Expr), chB t N e sc a = true → PT X a (tT F.W w (tst c e))
  | .and a b, X, w, sc, g, e, h => by
    simp only [chB] at h
    split at h
    · simp only [Bool.and_eq_true] at h
      exact t_and g (okB a g _ h.1) (okB b g _ h.2)
    · cases h
  | .or a b, X, w, sc, g, e, h => by
    simp only [chB] at h
    split at h
    · simp only [Bool.and_eq_true] at h
      exact t_or g (okB a g _ h.1) (okB b g _ h.2)
    · cases h
  | .one a, X, w, sc, g, e, h => by
    simp only [chB] at h
    split at h
    · exact t_one g (okB a g _ h)
    · cases h
  | .not a, X, w, sc, g, e, h => by
    simp only [chB] at h
    split at h
    · exact t_not g (okB a g _ h)
    · cases h
  | .cmp op a b, X, w, sc, g, e, h => by
    simp only [chB] at h
    split at h
    · simp only [Bool.and_eq_true, decide_eq_true_eq, Bool.not_eq_true'] at h
      obtain ⟨⟨⟨rfl, h1⟩, h2⟩, h3⟩ := h
      exact t_cmp g h1 (okE a g _ h2) (okE b g _ h3)
    · cases h
  | .cmo ne a b, X, w, sc, g, e, h => by
    simp only [chB] at h
    split at h
    · simp only [Bool.and_eq_true, decide_eq_true_eq, Bool.not_eq_true'] at h
      obtain ⟨⟨⟨rfl, h1⟩, h2⟩, h3⟩ := h
      exact t_cmo g h1 (okE a g _ h2) (okE b g _ h3)
    · cases h
  | .chn o1 o2 a b d, X, w, sc, g, e, h => by
    simp only [chB] at h
    split at h
    · simp only [Bool.and_eq_true, decide_eq_true_eq, Bool.not_eq_true'] at h
      obtain ⟨⟨⟨⟨⟨rfl, rfl⟩, h1⟩, h2⟩, h3⟩, h4⟩ := h
      exact t_chn g h1 (okE a g _ h2) (okE b g _ h3) (okE d g _ h4)
    · cases h
  | .val a, X, w, sc, g, e, h => by
    simp only [chB, Bool.and_eq_true, Bool.not_eq_true'] at h
    exact s_val g (okE a g _ h.2) h.1
  | .var _, _, _, _, _, _, h => by simp only [chB] at h; cases h
  | .con _, _, _, _, _, _, h => by simp only [chB] at h; cases h
  | .glo _ _, _, _, _, _, _, h => by simp only [chB] at h; cases h
  | .bin _ _ _, _, _, _, _, _, h => by simp only [chB] at h; cases h
  | .neg _, _, _, _, _, _, h => by simp only [chB] at h; cases h
  | .ite _ _ _, _, _, _, _, _, h => by simp only [chB] at h; cases h
  | .tup _, _, _, _, _, _, h => by simp only [chB] at h; cases h
  | .lst _, _, _, _, _, _, h => by simp only [chB] at h; cases h
  | .sub _ _, _, _, _, _, _, h => by simp only [chB] at h; cases h
  | .fld _ _, _, _, _, _, _, h => by simp only [chB] at h; cases h
  | .cal _ _ _, _, _, _, _, _, h => by simp only [chB] at h; cases h
  | .new _ _ _ _, _, _, _, _, _, h => by simp only [chB] at h; cases h
  | .mth _ _ _ _ _, _, _, _, _, _, h => by simp only [chB] at h; cases h
  | .prm _ _, _, _, _, _, _, h => by simp only [chB] at h; cases h
  | .bme _ _ _, _, _, _, _, _, h => by simp only [chB] at h; cases h
  | .slc _ _ _, _, _, _, _, _, h => by simp only [chB] at h; cases h
  | .dnw, _, _, _, _, _, h => by simp only [chB] at h; cases h
  | .srs _, _, _, _, _, _, h => by simp only [chB] at h; cases h
  | .exn _ _ _ _, _, _, _, _, _, h => by simp only [chB] at h; cases h
  | .dsp _ _, _, _, _, _, _, h => by simp only [chB] at h; cases h
  | .isi _ _, _, _, _, _, _, h => by simp only [chB] at h; cases h
  | .lc _ _ _ _ _, _, _, _, _, _, h => by simp only [chB] at h; cases h
theorem okEs : ∀ (es : Es) {X : Cx} {w : WX} {sc : Scope} (g : Gd t F c X w N sc k) (a : List Expr), chEs t N es sc a = true → PA X a (tA F.W w (evs c es))
  | .nil, X, w, sc, g, a, h => by
    simp only [chEs] at h
    split at h
    · exact a_nil g
    · cases h
  | .cons e es, X, w, sc, g, a, h => by
    simp only [chEs] at h
    split at h
    · simp only [Bool.and_eq_true, Bool.not_eq_true'] at h
      exact a_cons g h.1.1 (okE e g _ h.1.2) (okEs es g _ h.2)
    · cases h
theorem okK : ∀ (es : Es) {X : Cx} {w : WX} {sc : Scope} (g : Gd t F c X w N sc k) (a : List Keyword), chK t N es sc a = true → PK X a (tA F.W w (evs c es))
  | .nil, X, w, sc, g, a, h => by
    simp only [chK] at h
    split at h
    · exact k_nil g
    · cases h
  | .cons e es, X, w, sc, g, a, h => by
    simp only [chK] at h
    split at h
    · simp only [Bool.and_eq_true] at h
      exact k_cons g (okE e g _ h.1) (okK es g _ h.2)
    · cases h
theorem okQ : ∀ (q : Eo) {X : Cx} {w : WX} {sc : Scope} (g : Gd t F c X w N sc k) (a : List Expr), chQ t N q sc a = true → PTs X a (tT F.W w (evo c q))
  | .no, X, w, sc, g, a, h => by
    simp only [chQ] at h
    split at h
    · exact pts_no
    · cases h
  | .yes e, X, w, sc, g, a, h => by
    simp only [chQ] at h
    split at h
    · exact pts_one (okB e g _ h)
    · cases h
theorem okP : ∀ (q : Eo) {X : Cx} {w : WX} {sc : Scope} (g : Gd t F c X w N sc k) (a : Option Expr), chP t N q sc a = true → PO X a (tPo F.W w (evp c q))
  | .no, X, w, sc, g, a, h => by
    simp only [chP] at h
    split at h
    · exact po_no
    · cases h
  | .yes e, X, w, sc, g, a, h => by
    simp only [chP] at h
    split at h
    · exact po_yes (okE e g _ h)
    · cases h
theorem okI : ∀ (i : I) {X : Cx} {w : WX} {sc : Scope} (g : Gd t F c X w N sc k) (tg a : Expr), chI t N i sc a = true → PI X tg a (tI F.W w (evI c i))
  | .e x, X, w, sc, g, tg, a, h => by
    simp only [chI] at h
    exact i_e g.hK (okE x g _ h)
  | .r1 a, X, w, sc, g, tg, e, h => by
    simp only [chI] at h
    split at h
    · simp only [Bool.and_eq_true, decide_eq_true_eq, Bool.not_eq_true'] at h
      obtain ⟨⟨⟨⟨rfl, h1⟩, h2⟩, h3⟩, h4⟩ := h
      exact i_r1 g h1 h2 h3 (okE a g _ h4)
    · cases h
  | .r2 a b, X, w, sc, g, tg, e, h => by
    simp only [chI] at h
    split at h
    · simp only [Bool.and_eq_true, decide_eq_true_eq, Bool.not_eq_true'] at h
      obtain ⟨⟨⟨⟨⟨⟨rfl, h1⟩, h2⟩, h3⟩, h4⟩, h5⟩, h6⟩ := h
      exact i_r2 g h1 h2 h3 h4 (okE a g _ h5) (okE b g _ h6)
    · cases h
end
end
end Eng
end
section
set_option Elab.async false
set_option linter.all false
set_option maxRecDepth 100000
set_option maxHeartbeats 4000000
/-! The engine: what is checked is sound: statements; defs, level by level. Own work. -/
namespace Eng
open PySem PySem.Spec PyProof.Rows L2

def lcB (t : Tb) (N : List Str) (sc : Scope) (el : E) (tt : T) (it : I) (q : Eo) (own : List Nat) (x tg iter : Expr) (ifs : List Expr) (scope : Scope) : Bool :=
  chI t N it sc iter && blkB N sc scope (ownP N own) && chT N scope tt tg && inB own tt && !setB iter && chQ t N q (relS scope sc) ifs && chE t N el (relS scope sc) x
def setLB (t : Tb) (N : List Str) (sc : Scope) (i : Nat) (e : E) (x tg : Expr) : Bool := match e with
  | .lc el tt it q own => (match x, tg with
    | .ListComp y [⟨tg2, iter, ifs, 0⟩] scope p, .Name z py => decide (N[i]? = some z) && decide (sc.names.lookup z = some .local) && (py.line == p.line) && !(scope.names.any fun (n, k) => n == z && (k == .local || k == .cell)) &&
        lcB t N sc el tt it q own y tg2 iter ifs scope
    | _, _ => false)
  | _ => false
def rseB (t : Tb) (N : List Str) (sc : Scope) (xi : Nat) (e : Eo) (a : Option Expr) : Bool := match e with
  | .yes e => (match a with
    | some (.Call (.Name x _) [y] [] _) => decide (t.xnm[xi]? = some x) && (t.P.exs[xi]?.bind (·.fld)).isSome && glB sc x && !starB y && chE t N e sc y
    | _ => false)
  | .no => false
mutual
def chS (t : Tb) (N : List Str) (sc : Scope) : S → Stmt → Bool
  | .exp e => fun st => match st with
    | .Expr x _ => !compB x && chE t N e sc x
    | _ => false
  | .ret e => fun st => match st with
    | .Return (some x) _ => chE t N e sc x
    | _ => false
  | .rt0 => fun st => match st with
    | .Return none _ => true
    | _ => false
  | .set i e => fun st => match st with
    | .Assign [tg] x _ => (!compB x && nmB N sc i tg && chE t N e sc x) || setLB t N sc i e x tg
    | _ => false
  | .par i j a b => fun st => match st with
    | .Assign [.Tuple [.Name x px, .Name y py] _ _] (.Tuple [u, v] _ _) _ => decide (N[i]? = some x) && decide (N[j]? = some y) && decide (sc.names.lookup x = some .local) && decide (sc.names.lookup y = some .local) && parB x y px py u v && chE t N a sc u && chE t N b sc v
    | _ => false
  | .tpl is e => fun st => match st with
    | .Assign [tg] x _ => chT N sc (.tp is) tg && !compB x && !tupB' x && chE t N e sc x
    | _ => false
  | .fst o f e => fun st => match st with
    | .Assign [.Attribute y nm _] x _ => decide (nm = t.P.names.getD f Str.empty) && !compB x && chE t N o sc y && chE t N e sc x
    | _ => false
  | .sst o i e => fun st => match st with
    | .Assign [.Subscript y z _] x _ => !compB x && !slcB z && chE t N o sc y && chE t N i sc z && chE t N e sc x
    | _ => false
  | .ife c a b => fun st => match st with
    | .If x p q _ => chB t N c sc x && chSs t N sc a p && chSs t N sc b q
    | _ => false
  | .lop tt it b => fun st => match st with
    | .For tg iter body [] _ => !setB iter && chT N sc tt tg && chI t N it sc iter && chSs t N sc b body
    | _ => false
  | .whl c b => fun st => match st with
    | .While x body [] _ => chB t N c sc x && chSs t N sc b body
    | _ => false
  | .rse x e => fun st => match st with
    | .Raise a none _ => rseB t N sc x e a
    | _ => false
  | .tryAs b x err cau => fun st => match st with
    | .Try body [.ExceptHandler (some (.Name y _)) (some n) [.Assign [tg] e1 _] _] [] [] _ => decide (t.xnm[x]? = some y) && glB sc y && decide (N[err]? = some n) && decide (sc.names.lookup n = some .local) && nmB N sc cau tg && nmB N sc err e1 && okn n && decide (err ≠ cau) && chSs t N sc b body
    | _ => false
  | .brk => fun st => match st with
    | .Break _ => true
    | _ => false
  | .cnt => fun st => match st with
    | .Continue _ => true
    | _ => false
  | .pas => fun st => match st with
    | .Pass _ => true
    | _ => false
def chSs (t : Tb) (N : List Str) (sc : Scope) : Ss → List Stmt → Bool
  | .nil => fun l => match l with
    | [] => true
    | _ => false
  | .cons s ss => fun l => match l with
    | x :: xs => chS t N sc s x && chSs t N sc ss xs
    | _ => false
end
section
variable {t : Tb} {F : Wf} {c : Cfg} {N : List Str} {sc : Scope} {k : Nat}
theorem okSetL {X : Cx} {w : WX} {i : Nat} {e : E} {x tg : Expr} {pos : Pos} (g : GdS t F c X w N sc k) (h : setLB t N sc i e x tg = true) : PS X (.Assign [tg] x pos) (tS F.W w (ex c (.set i e))) := by
  unfold setLB at h
  split at h
  · rename_i el tt it q own
    split at h
    · simp only [Bool.and_eq_true, decide_eq_true_eq, Bool.not_eq_true', lcB] at h
      obtain ⟨⟨⟨⟨h1, h2⟩, h3⟩, h4⟩, ⟨⟨⟨⟨⟨⟨h5, h6⟩, h7⟩, h8⟩, h9⟩, h10⟩, h11⟩⟩ := h
      have key := x_setLc (pos := pos) g (own := ownP N own) h1 h2 h3 h4 (okI it g.toGd _ _ h5) (blkB_ok h6) h7 (by rw [ownP_snd]; exact h8) (fun s H C cl fp => okQ q g.toGd.blk _ h10) (fun s H C cl fp => okE el g.toGd.blk _ h11) h9
      rw [ownP_snd] at key
      exact key
    · cases h
  · cases h
mutual
theorem okS : ∀ (st : S) {X : Cx} {w : WX} (g : GdS t F c X w N sc k) (a : Stmt), chS t N sc st a = true → PS X a (tS F.W w (ex c st))
  | .exp e, X, w, g, a, h => by
    simp only [chS] at h
    split at h
    · simp only [Bool.and_eq_true, Bool.not_eq_true'] at h
      exact x_exp g h.1 (okE e g.toGd _ h.2)
    · cases h
  | .ret e, X, w, g, a, h => by
    simp only [chS] at h
    split at h
    · exact x_ret g (okE e g.toGd _ h)
    · cases h
  | .rt0, X, w, g, a, h => by
    simp only [chS] at h
    split at h
    · exact x_rt0 g
    · cases h
  | .set i e, X, w, g, a, h => by
    simp only [chS] at h
    split at h
    · rw [Bool.or_eq_true] at h
      rcases h with h | h
      · simp only [Bool.and_eq_true, Bool.not_eq_true'] at h
        exact x_set g h.1.2 h.1.1 (okE e g.toGd _ h.2)
      · exact okSetL g h
    · cases h
  | .par i j a b, X, w, g, st, h => by
    simp only [chS] at h
    split at h
    · simp only [Bool.and_eq_true, decide_eq_true_eq] at h
      obtain ⟨⟨⟨⟨⟨⟨h1, h2⟩, h3⟩, h4⟩, h5⟩, h6⟩, h7⟩ := h
      exact x_par g h1 h2 h3 h4 h5 (okE a g.toGd _ h6) (okE b g.toGd _ h7)
    · cases h
  | .tpl is e, X, w, g, st, h => by
    simp only [chS] at h
    split at h
    · simp only [Bool.and_eq_true, Bool.not_eq_true'] at h
      exact x_tpl g h.1.1.1 h.1.1.2 h.1.2 (okE e g.toGd _ h.2)
    · cases h
  | .fst o f e, X, w, g, st, h => by
    simp only [chS] at h
    split at h
    · simp only [Bool.and_eq_true, decide_eq_true_eq, Bool.not_eq_true'] at h
      obtain ⟨⟨⟨rfl, h1⟩, h2⟩, h3⟩ := h
      rw [nm_eq g.toGd]
      exact x_fst g h1 (okE o g.toGd _ h2) (okE e g.toGd _ h3)
    · cases h
  | .sst o i e, X, w, g, st, h => by
    simp only [chS] at h
    split at h
    · simp only [Bool.and_eq_true, Bool.not_eq_true'] at h
      obtain ⟨⟨⟨⟨h1, h2⟩, h3⟩, h4⟩, h5⟩ := h
      exact x_sst g h1 (okE o g.toGd _ h3) (okE i g.toGd _ h4) (okE e g.toGd _ h5) h2
    · cases h
  | .ife q a b, X, w, g, st, h => by
    simp only [chS] at h
    split at h
    · simp only [Bool.and_eq_true] at h
      exact x_ife g (okB q g.toGd _ h.1.1) (okSs a g _ h.1.2) (okSs b g _ h.2)
    · cases h
  | .lop tt it b, X, w, g, st, h => by
    simp only [chS] at h
    split at h
    · simp only [Bool.and_eq_true, Bool.not_eq_true'] at h
      obtain ⟨⟨⟨h1, h2⟩, h3⟩, h4⟩ := h
      exact x_lop g h1 h2 (okI it g.toGd _ _ h3) (okSs b g _ h4)
    · cases h
  | .whl q b, X, w, g, st, h => by
    simp only [chS] at h
    split at h
    · simp only [Bool.and_eq_true] at h
      exact x_whl g (okB q g.toGd _ h.1) (okSs b g _ h.2)
    · cases h
  | .rse x e, X, w, g, st, h => by
    simp only [chS] at h
    split at h
    · unfold rseB at h
      split at h
      · rename_i e
        split at h
        · simp only [Bool.and_eq_true, decide_eq_true_eq, Bool.not_eq_true'] at h
          obtain ⟨⟨⟨⟨h1, h2⟩, h3⟩, h4⟩, h5⟩ := h
          obtain ⟨fl, hfl⟩ := Option.isSome_iff_exists.mp h2
          exact x_rse g h1 hfl h3 h4 (okE e g.toGd _ h5)
        · cases h
      · cases h
    · cases h
  | .tryAs b x err cau, X, w, g, st, h => by
    simp only [chS] at h
    split at h
    · simp only [Bool.and_eq_true, decide_eq_true_eq] at h
      obtain ⟨⟨⟨⟨⟨⟨⟨⟨h1, h2⟩, h3⟩, h4⟩, h5⟩, h6⟩, h7⟩, h8⟩, h9⟩ := h
      exact x_try g h1 h2 h3 h4 h5 h6 h7 h8 (fun W pn xe tk ow => okSs b (g.tr tk ow) _ h9)
    · cases h
  | .brk, X, w, g, st, h => by
    simp only [chS] at h
    split at h
    · exact x_brk g
    · cases h
  | .cnt, X, w, g, st, h => by
    simp only [chS] at h
    split at h
    · exact x_cnt g
    · cases h
  | .pas, X, w, g, st, h => by
    simp only [chS] at h
    split at h
    · exact x_pas g
    · cases h
theorem okSs : ∀ (ss : Ss) {X : Cx} {w : WX} (g : GdS t F c X w N sc k) (a : List Stmt), chSs t N sc ss a = true → PSs X a (tS F.W w (exs c ss))
  | .nil, X, w, g, a, h => by
    simp only [chSs] at h
    split at h
    · exact xs_nil g
    · cases h
  | .cons s ss, X, w, g, a, h => by
    simp only [chSs] at h
    split at h
    · simp only [Bool.and_eq_true] at h
      exact xs_cons g (okS s g _ h.1) (okSs ss g _ h.2)
    · cases h
end
end
end Eng
end
section
set_option Elab.async false
set_option linter.all false
set_option maxRecDepth 100000
set_option maxHeartbeats 4000000
/-! The engine: defs, level by level; the law's end. Own work. -/
namespace Eng
open PySem PySem.Spec PyProof.Rows L2

def Rs.res : Rs → R D
  | .nx _ G => .ok .non G
  | .rt d G => .ok d G
  | .exc c f _ G => .exc c f G
  | _ => .bad
def bodyR (c : Cfg) (q : Fn) (as : List D) (G : Hh) : R D := if as.length = q.np then (exs c q.body (as.map some ++ List.replicate (q.nn - q.np) none) G).res else .bad
def noMake : Nat → List D → Hh → R D := fun _ _ _ => .bad
/-- calls that go down k levels -/
def callF (P : Prg) (Fu : Nat) : Nat → (Nat → List D → Hh → R D) × (Nat → List D → Hh → R D)
  | 0 => (noMake, noMake)
  | k + 1 => (fun f as G => match P.fns[f]? with
    | some q => bodyR ⟨P, (callF P Fu k).1, (callF P Fu k).2, Fu⟩ q as G
    | none => .bad, (callF P Fu k).1)
def cfg (P : Prg) (Fu k : Nat) : Cfg := ⟨P, (callF P Fu k).1, (callF P Fu k).2, Fu⟩
/-- a def, as it lies in the heap, checked -/
structure FnFact (t : Tb) (F : Wf) (f : Nat) (q : Fn) : Prop where
  ex : ∃ (name qual : Str) (params : Arguments) (body : List Stmt) (scope : Scope) (dV kV doc pm cdv ct oc : Value) (an od : Option Addr) (osl : Array (Option Value)) (N : List Str),
    F.W.K.lookup (F.fA f) = some ⟨oc, od, .func (PySem.W.fnOf name qual params body scope dV kV doc pm an cdv ct), osl⟩ ∧ F.fd f = PySem.W.fnOf name qual params body scope dV kV doc pm an cdv ct ∧ PySem.W.codeIn F.W.K cdv qual = true ∧ FnScope N (F.ps f) scope ∧
    N.length = q.nn ∧ (F.ps f).length = q.np ∧ chSs t N scope q.body body = true
section
variable {t : Tb} {F : Wf} {P : Program} {w : World} {mg : Str → Option Value} {base : Heap} {Fu : Nat}
theorem sp_len {W : Wd} {n : Nat} {cf : List D → Hh → R D} : ∀ vs H Q E, spI W n cf vs H Q E → vs.length = n := fun _ _ _ _ h => h.1
theorem fnG_bad {k : Nat} {f : Nat} (h : ∀ as G, (callF t.P Fu k).1 f as G = .bad) : FnG P w F.W.K mg base k (F.fA f) (F.fd f) (F.ps f) (spI F.W (F.ps f).length ((callF t.P Fu k).1 f)) := by
  refine ⟨sp_len, fun A outer s H args us vs Q E hg hr e0 hb r hsp => ?_⟩
  obtain ⟨_, ρ, G, as, _, _, hp⟩ := hsp
  rw [h] at hp
  exact hp.elim
theorem start_rs {W : Wd} {ρ : Nat → Addr} {n : Nat} {H : Hp} {as : List D} {vs : List V} {N : List Str} {m : Nat} (r : RVs W.K ρ n H as vs) (hm : N.length - vs.length = m) : RS W ρ n H (as.map some ++ List.replicate m none) (L2.start N vs) := by
  unfold L2.start
  rw [hm]
  refine ⟨by rw [List.length_append, List.length_append, List.length_map, List.length_map, List.length_replicate, List.length_replicate, r.length], fun i d e => ?_⟩
  have hl := r.length
  by_cases hi : i < as.length
  · rw [List.getElem?_append_left (by simpa using hi), List.getElem?_map] at e
    cases ha : as[i]? with
    | none => rw [ha] at e; cases e
    | some d' =>
      rw [ha] at e
      cases e
      obtain ⟨v, hv, rv⟩ := r.get ha
      exact ⟨v, by rw [List.getElem?_append_left (by rw [List.length_map]; omega), List.getElem?_map, hv]; rfl, rv⟩
  · rw [List.getElem?_append_right (by simpa using hi), List.getElem?_replicate] at e
    split at e <;> cases e
theorem fnG_all (T : Tx t F P mg) (hf : ∀ f q, t.P.fns[f]? = some q → FnFact t F f q) : ∀ (k f : Nat), FnG P w F.W.K mg base k (F.fA f) (F.fd f) (F.ps f) (spI F.W (F.ps f).length ((callF t.P Fu k).1 f))
  | 0, f => fnG_bad fun _ _ => rfl
  | k + 1, f => by
    cases hq : t.P.fns[f]? with
    | none => exact fnG_bad fun as G => by unfold callF; dsimp only; rw [hq]
    | some q =>
      have ihk := fnG_all T hf k
      have ihm : ∀ j f', k = j + 1 → FnG P w F.W.K mg base j (F.fA f') (F.fd f') (F.ps f') (spI F.W (F.ps f').length ((callF t.P Fu k).2 f')) := fun j f' e => by
        subst e
        exact fnG_all T hf j f'
      obtain ⟨name, qual, params, body, scope, dV, kV, doc, pm, cdv, ct, oc, an, od, osl, N, lk, hfd, hcd, S, hnn, hnp, hch⟩ := (hf f q hq).ex
      have esp : (callF t.P Fu (k + 1)).1 f = bodyR (cfg t.P Fu k) q := by
        funext as G
        show (match t.P.fns[f]? with | some q => _ | none => _) = _
        rw [hq]
        rfl
      rw [esp, hfd]
      refine ⟨sp_len, fun A outer s H args us vs Q E hg hr e0 hb r hsp => ?_⟩
      have hl := sp_len _ _ _ _ hsp
      have KX : F.W.K.In s.heap := e0.mod.kin.keeps fun b o e => (e0.bs b o e).1
      have lim : s.heap.NoLimit := e0.mod.nolimit.keeps fun b o e => (e0.bs b o e).1
      have hkind : ∀ y ∈ (F.ps f).zip us, scope.names.lookup y.1 = some .local ∨ (scope.names.lookup y.1 = some .cell ∧ ((cellsFrom (s.heap.objs.size + 1) scope.names []).lookup y.1).isSome = true) := fun ⟨n, v⟩ hy => by
        rcases S.par n (List.of_mem_zip hy).1 with z | z
        · exact .inl z
        · exact .inr ⟨z, PySem.W.cellsFrom_some _ _ _ (.inl z)⟩
      refine codeAny_call_function hr.depth (KX _ _ lk) rfl S.co S.gen rfl (PySem.W.codeRec_of KX hcd) (hb _ _ _ _ ?_)
      refine wpAny_newFunctionEnv_cells S.kind hkind fun env he s1 x => ?_
      subst he
      refine ⟨lim.keeps x.toInCall.keep, codeAny_func ?_⟩
      have I : Inv (cxOf (L2.CX P w) P w F.W.K mg base N qual scope (F.fA f) cdv A outer s H E) [] (L2.start N vs) H s1 := inv_start S hr.hd e0 hl r x
      have rm : Room (k + 2) (A.deeper (envOfC qual scope s.heap.objs.size (F.fA f) cdv)) := hr.deeper _
      have tk := takes_of (X := cxOf (L2.CX P w) P w F.W.K mg base N qual scope (F.fA f) cdv A outer s H E) (E := E) (E₁ := fun e' s'' => L2.CX P w outer H s E e' s'') rfl rfl rfl rfl
      have own : PassesOwn (model P w) (A.deeper (envOfC qual scope s.heap.objs.size (F.fA f) cdv)) (envOfC qual scope s.heap.objs.size (F.fA f) cdv) (cxOf (L2.CX P w) P w F.W.K mg base N qual scope (F.fA f) cdv A outer s H E).xe :=
        passes_of (X := cxOf (L2.CX P w) P w F.W.K mg base N qual scope (F.fA f) cdv A outer s H E) (K := fun e s'' => L2.CX P w outer H s E e s'') (E₁ := fun e' s'' => L2.CX P w outer H s E e' s'') rfl
      have G0 : GdS t F (cfg t.P Fu k) (cxOf (L2.CX P w) P w F.W.K mg base N qual scope (F.fA f) cdv A outer s H E) (fun cls d _ H => E cls d H) N scope k := {
        T := T
        hK := rfl
        P := rfl
        hN := rfl
        nd := S.nd
        hsc := rfl
        calm := rfl
        tk := tk
        rm := rm
        gu := by first | exact hg | simp [cxOf, Around.deeper, hg]
        fn := ihk
        mk_ := ihm
        k0 := fun e f as G => by subst e; rfl
        own := own
        stk := rfl
        frm := rfl
        so := fun x hx => ⟨locB_ok hx, .inl rfl⟩
        ex := rfl
        knd := S.kind }
      have hB := okSs q.body G0 body hch
      obtain ⟨hn0, ρ, G, as, rl, ra, hp⟩ := hsp
      have hal : as.length = q.np := by rw [ra.length, hn0, hnp]
      unfold bodyR at hp
      rw [if_pos hal] at hp
      have hnv : N.length - vs.length = q.nn - q.np := by rw [hnn, hn0, hnp]
      refine wpAny_mono (hB.run [] s1 (L2.start N vs) H { nx := fun _ H' => Q .non H', rt := Q } I ⟨ρ, _, G, rl, start_rs ra hnv, ?_⟩) (fun fl s' hs => ?_) fun e s' hs => hs
      · cases hx : exs (cfg t.P Fu k) q.body (as.map some ++ List.replicate (q.nn - q.np) none) G with
        | nx s' G' => rw [hx] at hp; exact fun ρ' H' σ' st S' => hp ρ' H' .non st .non
        | rt d G' => rw [hx] at hp; exact hp
        | exc c1 f1 s' G' => rw [hx] at hp; exact fun ρ' H' σ' cls dd st S' rx => hp ρ' H' cls dd st rx
        | bk s' G' => rw [hx] at hp; exact hp.elim
        | ct s' G' => rw [hx] at hp; exact hp.elim
        | bad => rw [hx] at hp; exact hp.elim
      · have fin : ∀ {σ' : L2.St} {H' : Hp} {v : V} {u : Value}, Inv (cxOf (L2.CX P w) P w F.W.K mg base N qual scope (F.fA f) cdv A outer s H E) [] σ' H' s' → L2.RelV v u → Q v H' → CE outer P w H s Q u s' :=
          fun {σ' H' v u} J rv q => ⟨v, H', J.os, J.bare, J.base, J.hok, rv, q⟩
        cases fl with
        | ret u =>
          obtain ⟨v, σ', H', J, rv, q⟩ := hs
          exact fin J rv q
        | next =>
          obtain ⟨σ', H', J, q⟩ := hs
          exact fin (v := V.non) (u := Value.none) J rfl q
        | brk =>
          obtain ⟨_, _, _, q⟩ := hs
          exact False.elim q
        | cont =>
          obtain ⟨_, _, _, q⟩ := hs
          exact False.elim q
end
end Eng
end
section
set_option Elab.async false
set_option linter.all false
set_option maxRecDepth 100000
set_option maxHeartbeats 4000000
/-! The engine: the law's end. Own work, along the lines of the layer's own end. -/
namespace Eng
open PySem PySem.Spec PyProof.Rows L2

/-- the script's list, seen by the engine -/
theorem scr_of {K : PySem.W.Frag} {H : Hp} {a : Addr} {xs : List V} (hO : Only H) (h : SqL K H a xs) : Scr K H a xs := by
  rcases h with (h | ⟨o, h⟩) | h
  · rcases hO a with z | ⟨o, zs, z⟩
    · rw [z] at h; cases h
    · rw [z] at h; cases h
  · exact .inl ⟨o, h⟩
  · exact .inr fun _ => .inr h
/-- the law's promise from the evaluator's answer -/
theorem sp_law {W : Wd} {cf : List D → Hh → R D} {H : Hp} {a : Addr} {ns : List Int} {G : Hh} (hO : Only H) (hS : SqL W.K H a (ns.map V.int)) (he : cf [.scr ns] [] = .ok (.bl true) G) :
    spI W 1 cf [.ref a] H (fun v _ => v = .bl true) (fun _ _ _ => False) := by
  refine ⟨rfl, fun _ => a, [], [.scr ns], ⟨fun i j h => absurd h (Nat.not_lt_zero _), fun i o h => by simp at h⟩, .cons (.scr (scr_of hO hS)) .nil, ?_⟩
  rw [he]
  intro ρ' H' v st rv
  cases rv
  rfl
/-- the law called, at the heap behind the top -/
theorem law_run {P : Program} {w : World} {K : PySem.W.Frag} {mg mb : Str → Option Value} {k : Nat} {fa a : Addr} {fd : FuncData} {x : Str} {sp : Sp} {s1 : Shared} {vs : List Value} {ns : List Int}
    (KX : K.In s1.heap) (hns : s1.heap.Ns mainGlobals mg) (hb : s1.heap.Ns builtinsNs mb) (hbb : ∀ x : Str, x ≠ "__name__" → mb x = bootBuiltins x) (hlim : s1.heap.NoLimit) (hg : s1.gens = #[])
    (ha : s1.heap.get? a = some { cls := .type "list", data := .seq vs.toArray }) (hi : IntsAre vs ns) (hl : ns.length ≤ sizeLine) (hr : Room (k + 2) callerA)
    (F : ∀ base : Heap, K.In base → base.Ns mainGlobals mg → FnG P w K mg base k fa fd [x] sp) (hbind : ∀ (s : Shared) (u : Value), BindsTo s fd ⟨[u], []⟩ [(x, u)])
    (hsp : ∀ H : Hp, Only H → SqL K H a (ns.map V.int) → sp [.ref a] H (fun v _ => v = .bl true) fun _ _ _ => False) :
    codeAny (model P w) callerA (.call (.ref fa) ⟨[.ref a], []⟩) (fun r s' => r = .ok (.ret (.bool true)) ∧ OldK s1.heap s'.heap ∧ s'.os = s1.os ∧ AllBare s'.gens) s1 := by
  have rvs := vals_ints hi
  have len := hi.length
  have go : ∀ H : Hp, Only H → SqL K H a (ns.map V.int) → HOk P w H s1.heap → (∀ b, H b ≠ none → b = a) → (H a ≠ none → K.lookup a = none) →
      codeAny (model P w) callerA (.call (.ref fa) ⟨[.ref a], []⟩) (fun r s' => r = .ok (.ret (.bool true)) ∧ OldK s1.heap s'.heap ∧ s'.os = s1.os ∧ AllBare s'.gens) s1 := by
    intro H hO hS hok hA hK
    have isA : ∀ {b : Addr} {u : HO}, H b = some u → b = a := fun {b u} q => hA b (by rw [q]; exact nofun)
    have hid : ∀ {b : Addr} {o : Obj}, s1.heap.get? b = some o → H b = none → (hidT s1.heap H).get? b = some o := fun e n => hidT_get e n
    have dictNone : ∀ {b : Addr} {o : Obj} {es : Array DictEntry} {ep : Nat}, s1.heap.get? b = some o → o.data = .dict es ep → H b = none := fun {b o es ep} e d => by
      cases q : H b with
      | none => rfl
      | some u =>
        obtain rfl := isA q
        rw [ha] at e
        cases e
        exact nomatch (show Data.seq vs.toArray _ = Data.dict es ep from d)
    have nsH : ∀ {b : Addr} {m : Str → Option Value}, s1.heap.Ns b m → (hidT s1.heap H).Ns b m := fun {b m} ⟨o, es, ep, e, d, r⟩ => ⟨o, es, ep, hid e (dictNone e d), d, r⟩
    have inB : K.In (hidT s1.heap H) := fun b o e => hid (KX b o e) (by
      cases q : H b with
      | none => rfl
      | some u =>
        obtain rfl := isA q
        rw [hK (by rw [q]; exact nofun)] at e
        cases e)
    have modB : Mod K mg (hidT s1.heap H) := ⟨inB, nsH hns, ⟨mb, nsH hb, hbb⟩, let ⟨mc, h1, h2⟩ := hlim; ⟨mc, nsH h1, h2⟩⟩
    have env : Env0 P w K mg (hidT s1.heap H) callerA [] s1 H := ⟨rfl, modB, fun b o e => of_hidT e, Nat.le_of_eq (hidT_size _ _), trivial, fun b hb => absurd hb (List.not_mem_nil), hok, .of_eq hg⟩
    refine codeAny_mono ((F _ inB (nsH hns)).run callerA [] s1 H ⟨[.ref a], []⟩ [.ref a] [.ref a] _ _ rfl hr env (hbind s1 (.ref a)) (.cons rfl .nil) (hsp H hO hS)) fun r s' h => ?_
    cases r with
    | error e =>
      obtain ⟨_, _, _, _, _, _, _, _, _, _, _, _, z⟩ := (show L2.CX P w [] H s1 (fun _ _ _ => False) e s' from h)
      exact z.elim
    | ok fl =>
      cases fl with
      | next => exact False.elim h
      | brk => exact False.elim h
      | cont => exact False.elim h
      | ret u =>
        obtain ⟨v, H', os, bare, un, hok', rv, q⟩ := h
        obtain rfl : v = .bl true := q
        obtain rfl : u = Value.bool true := rv
        refine ⟨rfl, OldK.of_keep fun b o e => ?_, os, bare⟩
        cases q : H b with
        | none => exact un.keep b o e q (List.not_mem_nil) (List.not_mem_nil)
        | some u =>
          rcases hO b with z | ⟨ob, zs, z⟩
          · rw [q] at z; cases z
          · obtain ⟨e1, _⟩ := hok b _ z
            obtain ⟨e2, _⟩ := hok' b _ (un.frzs b ob _ z)
            rw [e] at e1
            cases e1
            exact e2
  cases hk : K.lookup a with
  | some o =>
    have e := KX a o hk
    rw [ha] at e
    cases e
    exact go (fun _ => none) (fun _ => .inl rfl) (.inr ⟨_, vs.toArray, _, hk, rfl, rfl, rfl, by rw [List.size_toArray, len]; exact hl, by simpa using rvs⟩) (fun b u z => nomatch (show (none : Option HO) = some u from z)) (fun b z => absurd rfl z) (fun z => absurd rfl z)
  | none =>
    have at_ : ∀ b, b ≠ a → (fun b => if b = a then some (HO.frz { cls := .type "list", data := .seq vs.toArray } (.lst (ns.map V.int))) else none) b = none := fun b h => if_neg h
    refine go (fun b => if b = a then some (.frz { cls := .type "list", data := .seq vs.toArray } (.lst (ns.map V.int))) else none) (fun b => ?_) (.inl (.inr ⟨{ cls := .type "list", data := .seq vs.toArray }, if_pos rfl⟩)) (fun b u z => ?_) (fun b z => ?_) (fun _ => hk)
    · by_cases h : b = a
      · exact .inr ⟨_, _, if_pos h⟩
      · exact .inl (if_neg h)
    · by_cases h : b = a
      · subst h
        cases (if_pos rfl).symm.trans z
        exact ⟨ha, by rw [List.length_map]; exact hl, vs, _, rvs, ha⟩
      · exact nomatch (at_ b h).symm.trans z
    · exact Classical.byContradiction fun h => z (at_ b h)
/-- the goal that the head leaves -/
theorem walk_law {l : PySem.W.OpenLaw} {n k : Nat} {q : Program} {loose : List Str} {XP : (Str → Option Value) → Heap → Prop} {YP : World → Heap → Prop} {d : DefRec} {x : Str}
    (hn : l.most = some n) (hn2 : n ≤ sizeLine) (hdf : d.params.defaults = []) (hr : Room (k + 2) callerA)
    (F : ∀ (w : World) (mg : Str → Option Value) (fa : Addr) (h : Heap), YP w h → h.Ns mainGlobals mg → mg d.name = some (.ref fa) →
      ∃ (K : PySem.W.Frag) (fd : FuncData) (sp : Sp), K.In h ∧ (∀ (s : Shared) (u : Value), BindsTo s fd ⟨[u], []⟩ [(x, u)]) ∧
        (∀ (H : Hp) (a : Addr) (ns : List Int), ns.length ≤ n → Only H → SqL K H a (ns.map V.int) → sp [.ref a] H (fun v _ => v = .bl true) fun _ _ _ => False) ∧
        ∀ base : Heap, K.In base → base.Ns mainGlobals mg → FnG l.prog w K mg base k fa fd [x] sp) :
    PySem.W.WalkO q loose XP YP l.row.toRowW d [] (fun f vs => PySem.call f vs) := by
  refine Att.attach_call hn hdf fun w s0 s1 mg mb fa o pm cd doc a vs ns G Y ho hd hcd hmg hobj hints hlen hg => ?_
  obtain ⟨K, fd, sp, KX, hb, hsp, hF⟩ := F w mg fa _ Y G.T.g hmg
  exact law_run KX G.T.g G.T.b G.T.builtins G.T.nolimit hg hobj hints (Nat.le_trans hlen hn2) hr hF hb fun H hO hS => hsp H a ns hlen hO hS
end Eng
end
section
set_option Elab.async false
set_option linter.all false
set_option maxRecDepth 100000
set_option maxHeartbeats 4000000
/-! The engine: the head's facts, read by one test over a part of the heap. Own work. -/
namespace Eng
open PySem PySem.Spec PyProof.Rows L2 He PySem.W NdefX

def pNames (p : Arguments) : List Str := (p.posonlyargs ++ p.args ++ p.kwonlyargs).map (·.arg)
def atOf (ds : List DefD) (f : Nat) : Str × Option Str := match ds[f]? with
  | some d => d.at_
  | none => (Str.empty, none)
def noFd : FuncData := default
def fdOf (K : PySem.W.Frag) (a : Addr) : FuncData := match K.lookup a with
  | some ⟨_, _, .func fd, _⟩ => fd
  | _ => noFd
def wfOf (t : Tb) (ds : List DefD) (K : PySem.W.Frag) : Wf where
  W := ⟨t.P, K, fun k => ga K (t.cnm.getD k Str.empty), fun e => ga K (t.xnm.getD e Str.empty)⟩
  fA := fun f => fAd K (atOf ds f)
  fd := fun f => fdOf K (fAd K (atOf ds f))
  ps := fun f => match ds[f]? with
    | some d => pNames d.params
    | none => []

/-! ### exceptions -/
def xposOf : List Stmt → Option (Str × List Pos)
  | [.Expr (.Call (.Attribute (.Call (.Name s p0) [] [] p1) i p2) [.Name f p3] [] p4) p5, .Assign [.Attribute (.Name s2 p6) f2 p7] (.Name f3 p8) p9] =>
    if s = ("super" : Str) ∧ i = ("__init__" : Str) ∧ s2 = ("self" : Str) ∧ f2 = f ∧ f3 = f ∧ (p2.endLine == p4.line) = true then some (f, [p0, p1, p2, p3, p4, p5, p6, p7, p8, p9]) else none
  | _ => none
theorem xpos_ok {b : List Stmt} {f : Str} {ps : List Pos} (h : xposOf b = some (f, ps)) : XBody f ps b := by
  unfold xposOf at h
  split at h
  · split at h
    · rename_i hc
      obtain ⟨rfl, rfl, rfl, rfl, rfl, hl⟩ := hc
      cases h
      exact ⟨hl, rfl⟩
    · cases h
  · cases h
def oexB (K : PySem.W.Frag) (C : Addr) : Bool := (match K.lookup C with
  | some ⟨.type c, _, .cls cd, sl⟩ => decide (c = "type") && (match cd.mro, sl.toList with
    | .ref C' :: bm, [_, _, _, _, some (.builtin n), _] => decide (C' = C) && decide (n = "ValueError.__new__") && !cd.hasDel && cd.hasDict && PySem.HandSPX.refsVE bm
    | _, _ => false)
  | _ => false) && decide (PySem.W.findIn K (.ref C) "__setattr__" = some (some (.builtin "object.__setattr__"))) && decide (PySem.W.subIn K (.ref C) (.type "BaseException") = some true) && decide (PySem.W.typeIn K (.ref C) = some (.type "type")) && PySem.W.keepIn K (.ref C)
theorem oexB_ok {K : PySem.W.Frag} {C : Addr} (h : oexB K C = true) : OexC K C := by
  unfold oexB at h
  simp only [Bool.and_eq_true, decide_eq_true_eq] at h
  obtain ⟨⟨⟨⟨h0, h1⟩, h2⟩, h3⟩, h4⟩ := h
  refine ⟨?_, h1, h2, h3, h4⟩
  split at h0
  · rename_i c dd cd sl hl
    simp only [Bool.and_eq_true, decide_eq_true_eq] at h0
    obtain ⟨rfl, h0⟩ := h0
    split at h0
    · rename_i C' bm k0 k1 k2 k3 n k5 hm hs
      simp only [Bool.and_eq_true, decide_eq_true_eq, Bool.not_eq_true'] at h0
      obtain ⟨⟨⟨⟨rfl, rfl⟩, e1⟩, e2⟩, e3⟩ := h0
      obtain ⟨nm, bs, mro, ns, qn, hd, sn, sub, ab, col, del⟩ := cd
      dsimp only at hm e1 e2
      subst hm e1 e2
      have hsl : sl = #[k0, k1, k2, k3, some (.builtin "ValueError.__new__"), k5] := by
        obtain ⟨l⟩ := sl
        simp only at hs
        rw [hs]
      subst hsl
      exact ⟨nm, qn, ns, bs, bm, sn, sub, ab, col, dd, k0, k1, k2, k3, k5, hl, e3⟩
    · cases h0
  · cases h0
def fileB (K : PySem.W.Frag) (cda : Addr) (file : Str) : Bool := match K.lookup cda with
  | some ⟨_, _, .fields vs, _⟩ => (match (vs[2]? : Option Value) with
    | some (.str x _) => file == x
    | _ => false)
  | _ => false
def cellB (K : PySem.W.Frag) (cc C : Addr) : Bool := match K.lookup cc with
  | some ⟨_, _, .cell (some (.ref D)), _⟩ => decide (D = C)
  | _ => false
def parsB (p : Arguments) (f : Str) : Bool := match p with
  | ⟨[], [a, b], none, [], [], none, [_]⟩ => decide (a.arg = ("self" : Str)) && decide (b.arg = f) && (decide (f = ("value" : Str)) || decide (f = ("name" : Str)))
  | _ => false
def dflSeq (K : PySem.W.Frag) (v : Value) : Bool := match v with
  | .ref T => (match K.lookup T with
    | some ⟨_, _, .seq its _, _⟩ => (match its.toList with
      | [.none] => true
      | _ => false)
    | _ => false)
  | _ => false
/-- the function object of the __init__ of an own exception -/
def xfnB (P : Program) (K : PySem.W.Frag) (C : Addr) (f : Str) (fd : FuncData) : Bool := match fd with
  | ⟨name, qual, params, .stmts body, scope, gl, [(cn, cc)], dV, _, _, _, _, .ref cda, _, bl⟩ => decide (name = ("__init__" : Str)) && decide (gl = mainGlobals) && decide (bl = builtinsNs) && decide (cn = ("__class__" : Str)) && (match xposOf body with
      | some (g, _) => decide (g = f)
      | none => false) && nscB ["self", f, "__class__"] ["self", f] ["__class__"] scope && decide (scope.names.lookup ("super" : Str) = some .globalImplicit) && parsB params f && PySem.W.codeIn K (.ref cda) qual && fileB K cda P.main.file && cellB K cc C && dflSeq K dV
  | _ => false
def xclB (P : Program) (K : PySem.W.Frag) (C fI : Addr) (f : Str) : Bool := oexB K C && decide (PySem.W.findIn K (.ref C) "__init__" = some (some (.ref fI))) && decide (PySem.W.typeIn K (.ref fI) = some (.type "function")) && (match K.lookup fI with
    | some ⟨_, _, .func fd, _⟩ => xfnB P K C f fd
    | _ => false) && (match PySem.W.clsIn K C with
    | some cd => decide (PySem.W.alongIn K "__init__" ((cd.mro.dropWhile (· != .ref C)).drop 1) = some (some (.builtin "ValueError.__init__")))
    | none => false) && decide (PySem.W.mroIn K C (.ref C) = some true) && decide (PySem.W.nsIn K mainGlobals "super" = some none) && !(P.main.scope.names.lookup ("super" : Str)).isSome && decide (PySem.W.nsIn K cStatics "thirdparty.any" = some none) && decide (PySem.W.subIn K (.ref C) (.type "ValueError") = some true) &&
    decide (PySem.W.findIn K (.ref C) f = some none) && !(f == ("__debug__" : Str)) && !(f == ("__classdict__" : Str))
theorem bind2 {K : PySem.W.Frag} {qual : Str} {params : Arguments} {body : List Stmt} {scope : Scope} {dV kV doc pm cdv ct : Value} {an : Option Addr} {cc : Addr} {f : Str} (hp : parsB params f = true) (hd : dflSeq K dV = true) :
    Binds K (ksFn "__init__" qual params body scope dV kV doc pm an cdv ct cc) ["self", f] [] := by
  unfold parsB at hp
  split at hp
  · rename_i a b dflt
    simp only [Bool.and_eq_true, Bool.or_eq_true, decide_eq_true_eq] at hp
    obtain ⟨⟨ea, eb⟩, ec⟩ := hp
    obtain ⟨aa, an1, ap⟩ := a
    obtain ⟨ba, bn1, bp⟩ := b
    dsimp only at ea eb
    subst ea eb
    unfold dflSeq at hd
    split at hd
    · rename_i T
      split at hd
      · rename_i oc od its nn osl hT
        obtain ⟨l⟩ := its
        have hlen : l = [.none] := by
          clear hT
          split at hd
          · rename_i e; exact e
          · cases hd
        subst hlen
        intro s us X hl
        rw [List.append_nil] at hl ⊢
        match us, hl with
        | [u0, u1], _ =>
          refine BindsTo.of_looks fun M => ?_
          have e : ∃ k, bindArgs (ksFn "__init__" qual ⟨[], [⟨"self", an1, ap⟩, ⟨ba, bn1, bp⟩], none, [], [], none, [dflt]⟩ body scope (.ref T) kV doc pm an cdv ct cc) ⟨[u0, u1], []⟩ = seqItems? (.ref T) >>= k ∧ k (some [Value.none].toArray) = pure ((["self", ba] : List Str).zip [u0, u1]) := by
            rcases ec with ec | ec <;> subst ec <;> exact ⟨_, rfl, rfl⟩
          obtain ⟨k, e1, e2⟩ := e
          rw [e1]
          exact looks_items X hT rfl (.of_pure e2)
      · cases hd
    · cases hd
  · cases hp
theorem bind2x {K : PySem.W.Frag} {qual : Str} {params : Arguments} {body : List Stmt} {scope : Scope} {dV kV doc pm cdv ct : Value} {an : Option Addr} {cc : Addr} {f : Str} (hp : parsB params f = true) (hd : dflSeq K dV = true) :
    BindX K (ksFn "__init__" qual params body scope dV kV doc pm an cdv ct cc) f := by
  unfold parsB at hp
  split at hp
  · rename_i a b dflt
    simp only [Bool.and_eq_true, Bool.or_eq_true, decide_eq_true_eq] at hp
    obtain ⟨⟨ea, eb⟩, ec⟩ := hp
    obtain ⟨aa, an1, ap⟩ := a
    obtain ⟨ba, bn1, bp⟩ := b
    dsimp only at ea eb
    subst ea eb
    unfold dflSeq at hd
    split at hd
    · rename_i T
      split at hd
      · rename_i oc od its nn osl hT
        obtain ⟨l⟩ := its
        have hlen : l = [.none] := by
          clear hT
          split at hd
          · rename_i e; exact e
          · cases hd
        subst hlen
        intro s u0 u1 X
        constructor
        · refine BindsTo.of_looks fun M => ?_
          have e : ∃ k, bindArgs (ksFn "__init__" qual ⟨[], [⟨"self", an1, ap⟩, ⟨ba, bn1, bp⟩], none, [], [], none, [dflt]⟩ body scope (.ref T) kV doc pm an cdv ct cc) ⟨[u0], [(ba, u1)]⟩ = seqItems? (.ref T) >>= k ∧ k (some [Value.none].toArray) = pure ((["self", ba] : List Str).zip [u0, u1]) := by
            rcases ec with ec | ec <;> subst ec <;> exact ⟨_, rfl, rfl⟩
          obtain ⟨k, e1, e2⟩ := e
          rw [e1]
          exact looks_items X hT rfl (.of_pure e2)
        · refine BindsTo.of_looks fun M => ?_
          have e : ∃ k, bindArgs (ksFn "__init__" qual ⟨[], [⟨"self", an1, ap⟩, ⟨ba, bn1, bp⟩], none, [], [], none, [dflt]⟩ body scope (.ref T) kV doc pm an cdv ct cc) ⟨[u0], []⟩ = seqItems? (.ref T) >>= k ∧ k (some [Value.none].toArray) = pure ((["self", ba] : List Str).zip [u0, .none]) := by
            rcases ec with ec | ec <;> subst ec <;> exact ⟨_, rfl, rfl⟩
          obtain ⟨k, e1, e2⟩ := e
          rw [e1]
          exact looks_items X hT rfl (.of_pure e2)
      · cases hd
    · cases hd
  · cases hp
section
variable {P : Program} {K : PySem.W.Frag} {h : Heap} {mg : Str → Option Value} {C fI : Addr} {f : Str}
theorem xclB_ok (X : K.In h) (G : h.Ns mainGlobals mg) (q : xclB P K C fI f = true) : ∃ cc cda fd, XCl P K mg C fI cc cda fd f ∧ Binds K fd ["self", f] [] ∧ BindX K fd f := by
  unfold xclB at q
  simp only [Bool.and_eq_true, decide_eq_true_eq, Bool.not_eq_true'] at q
  obtain ⟨⟨⟨⟨⟨⟨⟨⟨⟨⟨⟨⟨q1, q2⟩, q3⟩, q4⟩, q5⟩, q6⟩, q7⟩, q8⟩, q9⟩, q10⟩, q11⟩, q12⟩, q13⟩ := q
  split at q4
  · rename_i oc od fd osl hl
    unfold xfnB at q4
    split at q4
    · rename_i name qual params body scope gl cn cc dV kV doc pm an cda ct bl
      simp only [Bool.and_eq_true, decide_eq_true_eq] at q4
      obtain ⟨⟨⟨⟨⟨⟨⟨⟨⟨⟨⟨rfl, rfl⟩, rfl⟩, rfl⟩, b1⟩, b2⟩, b3⟩, b4⟩, b5⟩, b6⟩, b7⟩, b8⟩ := q4
      split at b1
      · rename_i g ps hx
        have eg := of_decide_eq_true b1
        subst eg
        split at q5
        · rename_i cd hcd
          refine ⟨cc, cda, _, ⟨oexB_ok q1, q2, q3, ⟨oc, od, osl, hl⟩, ⟨qual, params, body, scope, dV, kV, doc, pm, an, ct, rfl, ⟨ps, xpos_ok hx⟩, nscope_by b2, b3, ?_, b5⟩, ?_, ?_, ⟨cd, hcd, of_decide_eq_true q5⟩, q6, mg_none_of X G q7, q8, q9, q10, q11, q12, q13⟩, bind2 b4 b8, bind2x b4 b8⟩
          · unfold parsB at b4
            split at b4
            · rename_i a b dflt
              simp only [Bool.and_eq_true, decide_eq_true_eq] at b4
              exact ⟨a, rfl, b4.1.1⟩
            · cases b4
          · unfold fileB at b6
            split at b6
            · rename_i c1 c2 vs c3 hc
              split at b6
              · rename_i file tf hv
                exact ⟨c1, c2, vs, c3, file, tf, hc, hv, b6⟩
              · cases b6
            · cases b6
          · unfold cellB at b7
            split at b7
            · rename_i c1 c2 D c3 hc
              have e := of_decide_eq_true b7
              subst e
              exact ⟨c1, c2, c3, hc⟩
            · cases b7
        · cases q5
      · cases b1
    · cases q4
  · cases q4
end

/-! ### what isinstance asks -/
def clcB (K : PySem.W.Frag) (D : Addr) : Bool := (PySem.W.clsIn K D).isSome && decide (PySem.W.findIn K (.ref D) "__class__" = some (some (.builtin "object.__class__"))) && decide (PySem.W.specialIn K (.builtin "object.__class__") "__get__" = some (some (.builtin "getset_descriptor.__get__"))) &&
  decide (PySem.W.takesIn K (.builtin "object.__class__") = some true) && decide (PySem.W.mroIn K D (.type "object") = some true)
theorem clcB_ok {K : PySem.W.Frag} {D : Addr} (h : clcB K D = true) : ClC K D := by
  unfold clcB at h
  simp only [Bool.and_eq_true, decide_eq_true_eq] at h
  obtain ⟨⟨⟨⟨h1, h2⟩, h3⟩, h4⟩, h5⟩ := h
  exact ⟨h1, h2, h3, h4, h5⟩
/-! ### the whole test -/
def nmAt (t : Tb) (i : Nat) : Str := t.P.names.getD i Str.empty
def ix {α : Type} (l : List α) (f : Nat → α → Bool) : Bool := (List.range l.length).all fun i => match l[i]? with
  | some x => f i x
  | none => true
theorem ix_ok {α : Type} {l : List α} {f : Nat → α → Bool} (h : ix l f = true) {i : Nat} {x : α} (e : l[i]? = some x) : f i x = true := by
  have q := List.all_eq_true.mp h i (List.mem_range.mpr (List.getElem?_eq_some_iff.mp e).1)
  rw [e] at q
  exact q
def eqcB (K : PySem.W.Frag) (C g : Addr) : Bool := decide (PySem.W.findIn K (.ref C) "__eq__" = some (some (.ref g))) && PySem.W.isFn K (.ref g) && decide (PySem.W.findIn K (.ref C) "__ne__" = some (some (.builtin "object.__ne__"))) && decide (PySem.W.subIn K (.ref C) (.type "object") = some true) &&
  ["NoneType", "bool", "int", "str", "tuple", "list", "dict"].all fun T => decide (PySem.W.subIn K (.ref C) (.type T) = some false) && decide (PySem.W.subIn K (.type T) (.ref C) = some false)
theorem eqcB_ok {K : PySem.W.Frag} {C g : Addr} (h : eqcB K C g = true) : EqC K C g := by
  unfold eqcB at h
  simp only [Bool.and_eq_true, decide_eq_true_eq, List.all_eq_true] at h
  obtain ⟨⟨⟨⟨h1, h2⟩, h3⟩, h4⟩, h5⟩ := h
  exact ⟨h1, h2, h3, h4, fun T hT => (h5 T hT).1, fun T hT => (h5 T hT).2⟩
def eqB (t : Tb) (ds : List DefD) (K : PySem.W.Frag) (x : Str) (o : Option Nat) : Bool := match o with
  | none => true
  | some sh => match t.P.shs[sh]? with
    | some q => q.ks.isEmpty && eqcB K (ga K x) (fAd K (atOf ds q.f)) && t.cnm.all fun y => decide (ga K y = ga K x) || decide (PySem.W.subIn K (.ref (ga K y)) (.ref (ga K x)) = some false)
    | none => false
def clzB (t : Tb) (ds : List DefD) (K : PySem.W.Frag) (k : Nat) (cl : Clz) : Bool := match t.cnm[k]? with
  | some x => eqB t ds K x cl.eq && (Fa.mkr x).ok K && (Fa.cls x).ok K && decide (atOf ds cl.init = (x, some ("__init__" : Str))) && cl.meths.all (fun p => (Fa.meth x (nmAt t p.1)).ok K && decide (atOf ds p.2 = (x, some (nmAt t p.1)))) && cl.flds.all (fun f => (Fa.noat x (nmAt t f)).ok K && decide (f < t.P.names.length))
  | none => false
def cstB (K : PySem.W.Frag) : Str × D → Bool
  | (x, .int i) => (Fa.int x i).ok K
  | (x, .str z) => (Fa.str x z).ok K
  | _ => false
def kindB (t : Tb) (ds : List DefD) (K : PySem.W.Frag) (a : Ty) : Bool := (match a with
  | .c k => (match t.cnm[k]? with
    | some x => clcB K (ga K x) && (Fa.cls x).ok K
    | none => false)
  | .x e => (match t.xnm[e]? with
    | some x => clcB K (ga K x) && xfB K (ga K x)
    | none => false)
  | .b _ => true) && t.P.kinds.all fun b => match isT t.P a b with
  | some r => decide (PySem.W.kitOne K (tyV (wfOf t ds K).W a) (tyV (wfOf t ds K).W b) = some r)
  | none => true
def excB (P : Program) (t : Tb) (K : PySem.W.Frag) (e : Nat) (q : Ex) : Bool := match t.xnm[e]? with
  | some x => (match q.fld with
    | some f => decide (f < t.P.names.length) && xfB K (ga K x) && xclB P K (ga K x) (ma K (ga K x) "__init__") (nmAt t f)
    | none => (Fa.exc x).ok K) && ix t.xnm fun j y => (Fa.exm x y (q.ups.contains j)).ok K
  | none => false
def txB (P : Program) (t : Tb) (ds : List DefD) (K : PySem.W.Frag) : Bool := (K.lookup sysModules).isSome && ix t.fnm (fun i o => match o with
    | some x => decide (atOf ds i = (x, none)) && (Fa.glo x).ok K && (Fa.keep x).ok K
    | none => true) && ix t.cnm (fun _ x => (Fa.glo x).ok K && (Fa.cls x).ok K && (Fa.keep x).ok K) && ix t.P.cls (clzB t ds K) && t.cst.all (cstB K) && t.free.all (fun x => (Fa.free x).ok K) && decide t.P.names.Nodup && t.P.kinds.all (kindB t ds K) && ix t.xnm (fun _ x => (Fa.glo x).ok K) && ix t.P.exs (excB P t K)
theorem getD_of {l : List Str} {k : Nat} {x : Str} (h : l[k]? = some x) : l.getD k Str.empty = x := by
  rw [List.getD_eq_getElem?_getD, h]
  rfl
theorem tx_of {P : Program} {t : Tb} {ds : List DefD} {K : PySem.W.Frag} {h : Heap} {mg : Str → Option Value} (X : K.In h) (G : h.Ns mainGlobals mg) (q : txB P t ds K = true) (hsh : ∀ (i : Nat) (p : Shp), t.P.shs[i]? = some p → ShOk (wfOf t ds K) p) : Tx t (wfOf t ds K) P mg := by
  unfold txB at q
  simp only [Bool.and_eq_true, decide_eq_true_eq] at q
  obtain ⟨⟨⟨⟨⟨⟨⟨⟨⟨q1, q2⟩, q3⟩, q4⟩, q5⟩, q6⟩, q7⟩, q8⟩, q9⟩, q10⟩ := q
  have cAe : ∀ {k : Nat} {x : Str}, t.cnm[k]? = some x → (wfOf t ds K).W.cA k = ga K x := fun e => by show ga K _ = _; rw [getD_of e]
  have xAe : ∀ {k : Nat} {x : Str}, t.xnm[k]? = some x → (wfOf t ds K).W.xA k = ga K x := fun e => by show ga K _ = _; rw [getD_of e]
  have clz : ∀ (k : Nat) (cl : Clz), t.P.cls[k]? = some cl → ∃ x, t.cnm[k]? = some x ∧ (Fa.mkr x).ok K = true ∧ (Fa.cls x).ok K = true ∧ atOf ds cl.init = (x, some ("__init__" : Str)) ∧ (∀ p ∈ cl.meths, (Fa.meth x (nmAt t p.1)).ok K = true ∧ atOf ds p.2 = (x, some (nmAt t p.1))) ∧ (∀ f ∈ cl.flds, (Fa.noat x (nmAt t f)).ok K = true ∧ f < t.P.names.length) ∧ eqB t ds K x cl.eq = true := fun k cl e => by
    have z := ix_ok q4 e
    unfold clzB at z
    split at z
    · rename_i x hx
      simp only [Bool.and_eq_true, decide_eq_true_eq, List.all_eq_true] at z
      obtain ⟨⟨⟨⟨⟨z0, z1⟩, z2⟩, z3⟩, z4⟩, z5⟩ := z
      exact ⟨x, hx, z1, z2, z3, z4, z5, z0⟩
    · cases z
  have lookM : ∀ {l : List (Nat × Nat)} {m f : Nat}, l.lookup m = some f → (m, f) ∈ l := by
    intro l m f e
    induction l with
    | nil => cases e
    | cons p r ih =>
      obtain ⟨a, b⟩ := p
      rw [List.lookup_cons] at e
      split at e
      · rename_i hq
        have := beq_iff_eq.mp hq
        cases e
        rw [this]
        exact List.mem_cons_self
      · exact List.mem_cons_of_mem _ (ih e)
  refine {
    hP := rfl
    sm := q1
    fn := fun i x e => ?_
    cn := fun k x e => ?_
    mk_ := fun k cl e => ?_
    mt := fun k cl m f e el => ?_
    eqc := fun k cl sh e es => ?_
    fl := fun k cl f e ef => ?_
    gl := fun x d e => ?_
    fr := fun x e => free_ok X G (List.all_eq_true.mp q6 x e)
    sh := hsh
    nn := q7
    is := fun a b r ha hb e => ?_
    ci := fun k e => ?_
    xi := fun k e => ?_
    xn := fun k x e => by rw [xAe e]; exact glo_ok X G (ix_ok q9 e)
    xc := fun k f e => ?_
    xo := fun k q e ef => ?_
    xm := fun e k x q hx hq => ?_ }
  · have z := ix_ok q2 e
    simp only [Bool.and_eq_true, decide_eq_true_eq] at z
    obtain ⟨⟨z1, z2⟩, z3⟩ := z
    have ef : (wfOf t ds K).fA i = ga K x := by
      show fAd K (atOf ds i) = _
      rw [z1]
      rfl
    rw [ef]
    exact ⟨glo_ok X G z2, z3⟩
  · have z := ix_ok q3 e
    simp only [Bool.and_eq_true] at z
    rw [cAe e]
    exact ⟨glo_ok X G z.1.1, cls_ok z.1.2, z.2⟩
  · obtain ⟨x, hx, z1, z2, z3, _, _, _⟩ := clz k cl e
    rw [cAe hx]
    have ef : (wfOf t ds K).fA cl.init = ma K (ga K x) "__init__" := by
      show fAd K (atOf ds cl.init) = _
      rw [z3]
      rfl
    rw [ef]
    exact ⟨mkr_ok z1, cls_ok z2⟩
  · obtain ⟨x, hx, _, _, _, z4, _, _⟩ := clz k cl e
    obtain ⟨z5, z6⟩ := z4 (m, f) (lookM el)
    rw [cAe hx]
    have ef : (wfOf t ds K).fA f = ma K (ga K x) (nmAt t m) := by
      show fAd K (atOf ds f) = _
      rw [z6]
      rfl
    rw [ef]
    exact meth_ok z5
  · obtain ⟨x, hx, _, _, _, _, _, z0⟩ := clz k cl e
    rw [es] at z0
    unfold eqB at z0
    dsimp only at z0
    split at z0
    · rename_i q hq
      simp only [Bool.and_eq_true, List.all_eq_true, Bool.or_eq_true, decide_eq_true_eq, List.isEmpty_iff] at z0
      obtain ⟨⟨z1, z2⟩, z3⟩ := z0
      refine ⟨q, hq, z1, ?_, fun j cl' ej => ?_⟩
      · rw [cAe hx]
        exact eqcB_ok z2
      · obtain ⟨y, hy, _⟩ := clz j cl' ej
        rw [cAe hx, cAe hy]
        exact z3 y (List.mem_of_getElem? hy)
    · cases z0
  · obtain ⟨x, hx, _, _, _, _, z5, _⟩ := clz k cl e
    obtain ⟨z6, z7⟩ := z5 f (by simpa using ef)
    rw [cAe hx]
    exact ⟨noat_ok z6, z7⟩
  · have z := List.all_eq_true.mp q5 _ e
    unfold cstB at z
    split at z
    · rename_i y i hy
      cases hy
      obtain ⟨tk, hm⟩ := int_ok X G z
      exact ⟨_, .int i, hm, ⟨tk, rfl⟩, fun _ _ _ => .int i⟩
    · rename_i y i hy
      cases hy
      obtain ⟨tk, hm⟩ := str_ok X G z
      exact ⟨_, .str i, hm, ⟨tk, rfl⟩, fun _ _ _ => .str i⟩
    · cases z
  · have z := List.all_eq_true.mp q8 a ha
    unfold kindB at z
    rw [Bool.and_eq_true] at z
    have z2 := List.all_eq_true.mp z.2 b hb
    rw [e] at z2
    exact of_decide_eq_true z2
  · have z := List.all_eq_true.mp q8 _ e
    unfold kindB at z
    rw [Bool.and_eq_true] at z
    have z1 := z.1
    dsimp only at z1
    split at z1
    · rename_i x hx
      rw [Bool.and_eq_true] at z1
      rw [cAe hx]
      exact ⟨clcB_ok z1.1, cls_ok z1.2⟩
    · cases z1
  · have z := List.all_eq_true.mp q8 _ e
    unfold kindB at z
    rw [Bool.and_eq_true] at z
    have z1 := z.1
    dsimp only at z1
    split at z1
    · rename_i x hx
      rw [Bool.and_eq_true] at z1
      rw [xAe hx]
      exact ⟨clcB_ok z1.1, xfB_ok z1.2⟩
    · cases z1
  · rw [Option.bind_eq_some_iff] at e
    obtain ⟨q, e1, e2⟩ := e
    have z := ix_ok q10 e1
    unfold excB at z
    split at z
    · rename_i x hx
      rw [Bool.and_eq_true] at z
      have z1 := z.1
      rw [e2] at z1
      simp only [Bool.and_eq_true, decide_eq_true_eq] at z1
      obtain ⟨⟨z2, z3⟩, z4⟩ := z1
      rw [xAe hx]
      obtain ⟨cc, cda, fd, h1, h2⟩ := xclB_ok X G z4
      exact ⟨z2, xfB_ok z3, _, cc, cda, fd, h1, h2⟩
    · cases z
  · have z := ix_ok q10 e
    unfold excB at z
    split at z
    · rename_i y hy
      rw [ef] at z
      rw [Bool.and_eq_true] at z
      rw [xAe hy]
      obtain ⟨h1, h2, _⟩ := exc_ok z.1
      exact ⟨h1, h2⟩
    · cases z
  · have z := ix_ok q10 hq
    unfold excB at z
    split at z
    · rename_i y hy
      rw [Bool.and_eq_true] at z
      rw [xAe hx, xAe hy]
      exact exm_ok (ix_ok z.2 hx)
    · cases z
end Eng
end
section
set_option Elab.async false
set_option linter.all false
set_option maxRecDepth 100000
set_option maxHeartbeats 4000000
/-! The engine: forms of calls; the hook; a law's last step. Own work. -/
namespace Eng
open PySem PySem.Spec PyProof.Rows L2 He

/-- the parameters' values: from the call, or what the def has -/
def fillV : List (Nat ⊕ D) → List Value → List Value → List Value
  | [], _, _ => []
  | .inl i :: r, us, qs => us.getD i .none :: fillV r us qs
  | .inr _ :: r, us, q :: qs => q :: fillV r us qs
  | .inr _ :: r, us, [] => .none :: fillV r us []
def inrs : List (Nat ⊕ D) → List D
  | [] => []
  | .inl _ :: r => inrs r
  | .inr d :: r => d :: inrs r
def dV : D → V
  | .bl b => .bl b
  | .int i => .int i
  | .str x => .str x
  | _ => .non
def smp : D → Bool
  | .non => true
  | .bl _ => true
  | .int _ => true
  | .str _ => true
  | _ => false
theorem smp_rv {K : PySem.W.Frag} {ρ : Nat → Addr} {n : Nat} {H : Hp} {d : D} (h : smp d = true) : RV K ρ n H d (dV d) := by
  cases d with
  | non => exact .non
  | bl b => exact .bl b
  | int i => exact .int i
  | str x => exact .str x
  | tup _ => cases h
  | ref _ => cases h
  | scr _ => cases h
theorem getD_some {us : List Value} {i : Nat} {u : Value} (h : us[i]? = some u) : us.getD i .none = u := by
  rw [List.getD_eq_getElem?_getD, h]
  rfl
theorem fill_ok {K : PySem.W.Frag} {ρ : Nat → Addr} {n : Nat} {H : Hp} {ds : List D} {vs : List V} {us : List Value} (r : RVs K ρ n H ds vs) (rv : Vals vs us) : ∀ (plan : List (Nat ⊕ D)) (qs : List Value) (as : List D), Vals ((inrs plan).map dV) qs → (inrs plan).all smp = true → planOf ds plan = some as →
    ∃ zs, RVs K ρ n H as zs ∧ Vals zs (fillV plan us qs)
  | [], qs, as, _, _, e => by
    simp only [planOf, Option.some.injEq] at e
    subst e
    exact ⟨[], .nil, .nil⟩
  | .inl i :: p, qs, as, hq, hs, e => by
    simp only [planOf] at e
    split at e
    · rename_i v ws e1 e2
      cases e
      obtain ⟨z, hz, rz⟩ := r.get e1
      obtain ⟨u, hu, ru⟩ := rv.get hz
      obtain ⟨zs, h1, h2⟩ := fill_ok r rv p qs ws hq hs e2
      refine ⟨z :: zs, .cons rz h1, ?_⟩
      show Vals (z :: zs) (us.getD i .none :: fillV p us qs)
      rw [getD_some hu]
      exact .cons ru h2
    · cases e
  | .inr d :: p, qs, as, hq, hs, e => by
    simp only [planOf, Option.map_eq_some_iff] at e
    obtain ⟨ws, e2, rfl⟩ := e
    have hs' : (smp d && (inrs p).all smp) = true := hs
    rw [Bool.and_eq_true] at hs'
    cases hq with
    | cons q1 q2 =>
      obtain ⟨zs, h1, h2⟩ := fill_ok r rv p _ ws q2 hs'.2 e2
      exact ⟨dV d :: zs, .cons (smp_rv hs'.1) h1, .cons q1 h2⟩
section
variable {t : Tb} {ds : List DefD} {K : PySem.W.Frag}
theorem fd_eq {i : Nat} {d : DefD} {fd : FuncData} {x qual : Str} {params : Arguments} {body : List Stmt} {scope : Scope} {dvs : List V} {kws : List (Str × V)} (hd : ds[i]? = some d) (F : FunD K x qual params body scope dvs kws (fAd K d.at_) fd) : (wfOf t ds K).fd i = fd ∧ (wfOf t ds K).fA i = fAd K d.at_ ∧ (wfOf t ds K).ps i = pNames d.params := by
  obtain ⟨oc, od, dVv, kV, doc, pm, an, cdv, ct, osl, e, lk, _⟩ := F.ex
  have ea : atOf ds i = d.at_ := by
    unfold atOf
    rw [hd]
  refine ⟨?_, by show fAd K (atOf ds i) = _; rw [ea], by show (match ds[i]? with | some d => pNames d.params | none => []) = _; rw [hd]⟩
  show fdOf K (fAd K (atOf ds i)) = _
  rw [ea]
  unfold fdOf
  rw [lk]
/-- a form of call with nothing left out -/
theorem sh_all {p : Shp} {d : DefD} (c : SaysD [] ds K) (hd : ds[p.f]? = some d) (hdf : d.dfl = []) (hlen : p.plan.length = (pNames d.params).length) (hno : inrs p.plan = [])
    (h : ∀ (kV doc pm : Value) (an : Option Addr) (cdv ct : Value) (us ws : List Value), us.length = p.n → ws.length = p.ks.length → bindArgs (PySem.W.fnOf d.name d.qual d.params d.body d.scope .none kV doc pm an cdv ct) ⟨us, p.ks.zip ws⟩ = pure ((pNames d.params).zip (fillV p.plan (us ++ ws) []))) : ShOk (wfOf t ds K) p := by
  obtain ⟨fd, F⟩ := c.def_ p.f hd
  obtain ⟨e1, e2, e3⟩ := fd_eq (t := t) hd F
  obtain ⟨oc, od, dVv, kV, doc, pm, an, cdv, ct, osl, rfl, lk, _, hD, hKw⟩ := F.ex
  have e0 : d.dvs K = [] := by unfold DefD.dvs; rw [hdf]; rfl
  rcases hD with ⟨_, rfl⟩ | ⟨z, _⟩
  · refine ⟨by rw [e3]; exact hlen, fun s us ws X l1 l2 => ⟨fillV p.plan (us ++ ws) [], by rw [e1, e3]; exact .of_eq (h kV doc pm an cdv ct us ws l1 l2), fun ρ n H zs as vs r rv hp => fill_ok r rv p.plan [] as (by rw [hno]; exact .nil) (by rw [hno]; rfl) hp⟩⟩
  · exact absurd e0 z
/-- keyword-only parameters are left out -/
theorem sh_kw {p : Shp} {d : DefD} (c : SaysD [] ds K) (ms : List (Str × Dv)) (hd : ds[p.f]? = some d) (hdf : d.dfl = []) (hlen : p.plan.length = (pNames d.params).length) (hms : ∀ q ∈ ms, q ∈ d.kwd) (hk : d.kwd ≠ []) (hs : (inrs p.plan).all smp = true) (hv : ∀ K, (inrs p.plan).map dV = ms.map fun q => q.2.v K)
    (h : ∀ (D : Addr) (doc pm : Value) (an : Option Addr) (cdv ct : Value) (us ws mv : List Value), us.length = p.n → ws.length = p.ks.length → mv.length = ms.length →
      KwChain D ((ms.map (·.1)).zip mv) (bindArgs (PySem.W.fnOf d.name d.qual d.params d.body d.scope .none (.ref D) doc pm an cdv ct) ⟨us, p.ks.zip ws⟩) ((pNames d.params).zip (fillV p.plan (us ++ ws) mv))) : ShOk (wfOf t ds K) p := by
  obtain ⟨fd, F⟩ := c.def_ p.f hd
  obtain ⟨e1, e2, e3⟩ := fd_eq (t := t) hd F
  obtain ⟨oc, od, dVv, kV, doc, pm, an, cdv, ct, osl, rfl, lk, _, hD, hKw⟩ := F.ex
  have e0 : d.dvs K = [] := by unfold DefD.dvs; rw [hdf]; rfl
  rcases hD with ⟨_, rfl⟩ | ⟨z, _⟩
  · rcases hKw with z | ⟨D, rfl, hq⟩
    · exact absurd (by unfold DefD.kws at z; simpa using z) hk
    · obtain ⟨mv, hl, rk, hks⟩ := kwd_vals (ms := ms.map fun q => (q.1, q.2.v K)) fun q hm => by
        obtain ⟨q', hq', rfl⟩ := List.mem_map.mp hm
        exact hq _ (List.mem_map.mpr ⟨q', hms q' hq', rfl⟩)
      have hl' : mv.length = ms.length := by rw [hl, List.length_map]
      have rk' : Vals ((inrs p.plan).map dV) mv := by
        rw [hv K]
        rw [List.map_map] at rk
        exact rk
      have hks' : ∀ q ∈ (ms.map (·.1)).zip mv, PySem.W.nsIn K D q.1 = some (some q.2) := by
        rw [List.map_map] at hks
        exact hks
      refine ⟨by rw [e3]; exact hlen, fun s us ws X l1 l2 => ⟨fillV p.plan (us ++ ws) mv, ?_, fun ρ n H zs as vs r rv hp => fill_ok r rv p.plan mv as rk' hs hp⟩⟩
      rw [e1, e3]
      exact BindsTo.of_looks fun M => KwChain.looks X hks' (h D doc pm an cdv ct us ws mv l1 l2 hl')
  · exact absurd e0 z
/-! ### the checked defs -/
def fnScB (N ps : List Str) (sc : Scope) : Bool := decide (sc.kind = .function) && !sc.isCoroutine && !sc.isGenerator && decide N.Nodup && decide (N.take ps.length = ps) && ps.all (fun x => decide (sc.names.lookup x = some .local) || decide (sc.names.lookup x = some .cell)) && sc.names.all fun y => !decide (y.2 = .free)
theorem fnScB_ok {N ps : List Str} {sc : Scope} (h : fnScB N ps sc = true) : FnScope N ps sc := by
  unfold fnScB at h
  simp only [Bool.and_eq_true, Bool.not_eq_true', decide_eq_true_eq, List.all_eq_true, Bool.or_eq_true, decide_eq_false_iff_not] at h
  obtain ⟨⟨⟨⟨⟨⟨h1, h2⟩, h3⟩, h4⟩, h5⟩, h6⟩, h7⟩ := h
  exact ⟨h1, h2, h3, h4, h5, h6, h7⟩
def defB (t : Tb) (ds : List DefD) (Ns : List (List Str)) (i : Nat) (q : Fn) : Bool := match ds[i]?, Ns[i]? with
  | some d, some N => fnScB N (pNames d.params) d.scope && decide (N.length = q.nn) && decide ((pNames d.params).length = q.np) && chSs t N d.scope q.body d.body
  | _, _ => false
theorem fact_of {Ns : List (List Str)} (c : SaysD [] ds K) (hst : ix t.P.fns (defB t ds Ns) = true) (i : Nat) (q : Fn) (hq : t.P.fns[i]? = some q) : FnFact t (wfOf t ds K) i q := by
  have z := ix_ok hst hq
  unfold defB at z
  split at z
  · rename_i d N hd hN
    simp only [Bool.and_eq_true, decide_eq_true_eq] at z
    obtain ⟨⟨⟨z1, z2⟩, z3⟩, z4⟩ := z
    obtain ⟨fd, F⟩ := c.def_ i hd
    obtain ⟨e1, e2, e3⟩ := fd_eq (t := t) hd F
    obtain ⟨oc, od, dVv, kV, doc, pm, an, cdv, ct, osl, rfl, lk, hcd, hD, hKw⟩ := F.ex
    exact ⟨d.name, d.qual, d.params, d.body, d.scope, dVv, kV, doc, pm, cdv, ct, oc, an, od, osl, N, by rw [e2]; exact lk, e1, hcd, by rw [e3]; exact fnScB_ok z1, z2, by rw [e3]; exact z3, z4⟩
  · cases z
end
/-! ### the hook -/
def asE (g : Addr → Option Obj) (n : Nat) : List Addr := sysModules :: cStatics :: asD g n
def obsE' (n : Nat) (ex : PySem.W.Frag → Bool) (fn : List DefD) (g : Addr → Option Obj) : AlD × Bool := (obsD [] fn (frG g (asE g n)), ex (frG g (asE g n)))
def hookG (n : Nat) (ex : PySem.W.Frag → Bool) (fn : List DefD) : PySem.W.Hook where
  α := AlD × Bool
  obs := fun s => obsE' n ex fn s.heap.get?
  val := fun _ => (valD fn, true)
  says := fun _ h => ∃ K : PySem.W.Frag, K.In h ∧ SaysD [] fn K ∧ ex K = true
  of := fun _ _ e => ⟨_, frG_in, congrArg (fun z : AlD × Bool => z.1) e, congrArg (fun z : AlD × Bool => z.2) e⟩
  keeps := fun _ _ _ ⟨K, hK, c⟩ k => ⟨K, PySem.W.Frag.In.keeps hK k, c⟩
def obG (n : Nat) (ex : PySem.W.Frag → Bool) (fn : List DefD) (s : PySem.W.SharedT) : AlD × Bool := obsE' n ex fn (HandSHeadRun.getT s)
theorem obG_eq {n : Nat} {ex : PySem.W.Frag → Bool} {fn : List DefD} (s : PySem.W.SharedT) : obG n ex fn s = (hookG n ex fn).obs s.abs := by
  have e : HandSHeadRun.getT s = s.abs.heap.get? := funext (HandSHeadRun.getT_eq s)
  show obsE' n ex fn _ = obsE' n ex fn _
  rw [e]
/-- the law's end, all of it -/
theorem law_end {l : PySem.W.OpenLaw} {n k n0 Fu li : Nat} {q : Program} {loose : List Str} {XP : (Str → Option Value) → Heap → Prop} {d : DefRec} {x : Str} {t : Tb} {ds : List DefD} {Ns : List (List Str)} {dl : DefD}
    (hn : l.most = some n) (hn2 : n ≤ sizeLine) (hdf : d.params.defaults = []) (hr : Room (k + 2) callerA) (hst : ix t.P.fns (defB t ds Ns) = true)
    (hsh : ∀ K : PySem.W.Frag, SaysD [] ds K → ∀ (i : Nat) (p : Shp), t.P.shs[i]? = some p → ShOk (wfOf t ds K) p)
    (hfn : t.fnm[li]? = some (some d.name)) (hdl : ds[li]? = some dl) (hpl : pNames dl.params = [x]) (hdd : dl.dfl = [])
    (hb : ∀ (kV doc pm : Value) (an : Option Addr) (cdv ct : Value) (u : Value), bindArgs (PySem.W.fnOf dl.name dl.qual dl.params dl.body dl.scope .none kV doc pm an cdv ct) ⟨[u], []⟩ = pure [(x, u)])
    (hev : ∀ ns : List Int, ns.length ≤ n → ∃ G, (callF t.P Fu k).1 li [.scr ns] [] = .ok (.bl true) G) :
    PySem.W.WalkO q loose XP (hookG n0 (txB l.prog t ds) ds).says l.row.toRowW d [] (fun f vs => PySem.call f vs) := by
  refine walk_law (k := k) (x := x) hn hn2 hdf hr fun w mg fa h Y G hmg => ?_
  obtain ⟨K, KX, c, hx⟩ := Y
  have T : Tx t (wfOf t ds K) l.prog mg := tx_of KX G hx (hsh K c)
  obtain ⟨f1, f2⟩ := T.fn li d.name hfn
  have ef : fa = (wfOf t ds K).fA li := by
    rw [hmg] at f1
    cases f1
    rfl
  obtain ⟨fd, F⟩ := c.def_ li hdl
  obtain ⟨e1, e2, e3⟩ := fd_eq (t := t) hdl F
  have eps : (wfOf t ds K).ps li = [x] := by rw [e3, hpl]
  refine ⟨K, (wfOf t ds K).fd li, spI (wfOf t ds K).W 1 ((callF t.P Fu k).1 li), KX, fun s u => ?_, fun H a ns hl hO hS => ?_, fun base hB hN => ?_⟩
  · rw [e1]
    obtain ⟨oc, od, dVv, kV, doc, pm, an, cdv, ct, osl, rfl, lk, hcd, hD, hKw⟩ := F.ex
    have e0 : dl.dvs K = [] := by unfold DefD.dvs; rw [hdd]; rfl
    rcases hD with ⟨_, rfl⟩ | ⟨z, _⟩
    · exact .of_eq (hb kV doc pm an cdv ct u)
    · exact absurd e0 z
  · obtain ⟨G', hG⟩ := hev ns hl
    exact sp_law hO hS hG
  · rw [ef]
    have TB : Tx t (wfOf t ds K) l.prog mg := T
    have q := fnG_all (w := w) (base := base) (Fu := Fu) TB (fun f q hq => fact_of c hst f q hq) k li
    rw [eps] at q
    exact q
end Eng
end
section
set_option Elab.async false
set_option linter.all false
set_option maxRecDepth 100000
set_option maxHeartbeats 2000000
/-! Conditions for the evaluator's answers: from behind, through the program. Own work. -/
namespace Eng
open PySem L2

abbrev QD := D → Hh → Prop
abbrev XD := Nat → Option D → Hh → Prop
def R.sp {α : Type} (r : R α) (Q : α → Hh → Prop) (X : XD) : Prop := match r with
  | .ok a G => Q a G
  | .exc c f G => X c f G
  | .bad => False
@[simp] theorem sp_okk {α : Type} {a : α} {G : Hh} {Q : α → Hh → Prop} {X : XD} : (R.ok a G).sp Q X = Q a G := rfl
@[simp] theorem sp_excc {α : Type} {c : Nat} {f : Option D} {G : Hh} {Q : α → Hh → Prop} {X : XD} : (R.exc c f G : R α).sp Q X = X c f G := rfl
@[simp] theorem sp_badd {α : Type} {Q : α → Hh → Prop} {X : XD} : (R.bad : R α).sp Q X = False := rfl
theorem R.sp_bind {α β : Type} {r : R α} {k : α → Hh → R β} {Q : β → Hh → Prop} {X : XD} (h : r.sp (fun a G => (k a G).sp Q X) X) : (r.bind k).sp Q X := by
  cases r with
  | ok a G => exact h
  | exc c f G => exact h
  | bad => exact h
theorem R.sp.imp {α : Type} {r : R α} {Q Q' : α → Hh → Prop} {X X' : XD} (h : r.sp Q X) (f : ∀ a G, Q a G → Q' a G) (g : ∀ c d G, X c d G → X' c d G) : r.sp Q' X' := by
  cases r with
  | ok a G => exact f _ _ h
  | exc c d G => exact g _ _ _ h
  | bad => exact h
theorem R.sp.then_ {α : Type} {r : R α} {Q Q' : α → Hh → Prop} {X : XD} (h : r.sp Q X) (f : ∀ a G, Q a G → Q' a G) : r.sp Q' X := h.imp f fun _ _ _ z => z
theorem R.sp_of_eq {α : Type} {r : R α} {a : α} {G : Hh} {Q : α → Hh → Prop} {X : XD} (e : r = .ok a G) (h : Q a G) : r.sp Q X := by rw [e]; exact h
/-- what an option must be -/
@[simp] def wO {α : Type} (o : Option α) (Q : α → Prop) : Prop := match o with
  | some a => Q a
  | none => False
def wBin (op : Operator) (a b : D) (G : Hh) (Q : QD) : Prop := match op, a, b with
  | .Add, .int i, .int j => Q (.int (i + j)) G
  | .Sub, .int i, .int j => Q (.int (i - j)) G
  | .Mult, .int i, .int j => ((-(2 ^ 64) < i ∧ i < 2 ^ 64) ∨ (-(2 ^ 64) < j ∧ j < 2 ^ 64)) ∧ Q (.int (i * j)) G
  | .Mod, .int i, .int j => j ≠ 0 ∧ Q (.int (i.fmod j)) G
  | .FloorDiv, .int i, .int j => (0 < j ∧ j.natAbs.log2 < 9000) ∧ Q (.int (i / j)) G
  | .Pow, .int i, .int j => ((0 ≤ j ∧ j ≤ 1000000 ∧ i.natAbs < 2 ^ 64) ∨ (1 ≤ j ∧ 2 ≤ i ∧ Builtin.Int.intTooBig (((Builtin.Int.intBits i : Nat) : Int) * j) = false)) ∧ Q (.int (i ^ j.toNat)) G
  | op, a, b => (binop op a b G).sp Q (fun _ _ _ => False)
@[simp] theorem wBin_add {i j : Int} {G : Hh} {Q : QD} : wBin .Add (.int i) (.int j) G Q = Q (.int (i + j)) G := rfl
@[simp] theorem wBin_sub {i j : Int} {G : Hh} {Q : QD} : wBin .Sub (.int i) (.int j) G Q = Q (.int (i - j)) G := rfl
@[simp] theorem wBin_mul {i j : Int} {G : Hh} {Q : QD} : wBin .Mult (.int i) (.int j) G Q = (((-(2 ^ 64) < i ∧ i < 2 ^ 64) ∨ (-(2 ^ 64) < j ∧ j < 2 ^ 64)) ∧ Q (.int (i * j)) G) := rfl
@[simp] theorem wBin_mod {i j : Int} {G : Hh} {Q : QD} : wBin .Mod (.int i) (.int j) G Q = (j ≠ 0 ∧ Q (.int (i.fmod j)) G) := rfl
@[simp] theorem wBin_fdiv {i j : Int} {G : Hh} {Q : QD} : wBin .FloorDiv (.int i) (.int j) G Q = ((0 < j ∧ j.natAbs.log2 < 9000) ∧ Q (.int (i / j)) G) := rfl
theorem wBin_pow {i j : Int} {G : Hh} {Q : QD} : wBin .Pow (.int i) (.int j) G Q = (((0 ≤ j ∧ j ≤ 1000000 ∧ i.natAbs < 2 ^ 64) ∨ (1 ≤ j ∧ 2 ≤ i ∧ Builtin.Int.intTooBig (((Builtin.Int.intBits i : Nat) : Int) * j) = false)) ∧ Q (.int (i ^ j.toNat)) G) := rfl
theorem wBin_ok {op : Operator} {a b : D} {G : Hh} {Q : QD} {X : XD} (h : wBin op a b G Q) : (binop op a b G).sp Q X := by
  unfold wBin at h
  split at h
  · exact h
  · exact h
  · show R.sp (if _ then _ else _) Q X
    rw [if_pos h.1]
    exact h.2
  · show R.sp (if _ then _ else _) Q X
    rw [if_pos h.1]
    exact h.2
  · rename_i i j
    show R.sp (if j ≠ 0 ∧ j.natAbs < 1073741824 then R.ok (.int (i.fdiv j)) G else if 0 < j ∧ j.natAbs.log2 < 9000 then R.ok (.int (i / j)) G else .bad) Q X
    have e : i.fdiv j = i / j := Int.fdiv_eq_ediv_of_nonneg _ (by have := h.1.1; omega)
    split
    · show Q _ _
      rw [e]
      exact h.2
    · rw [if_pos h.1]
      exact h.2
  · rename_i i j
    show R.sp (if 0 ≤ j ∧ j ≤ 1000000 ∧ i.natAbs < 2 ^ 64 then R.ok (.int (i ^ j.toNat)) G
      else if 1 ≤ j ∧ 2 ≤ i ∧ Builtin.Int.intTooBig (((Builtin.Int.intBits i : Nat) : Int) * j) = false then R.ok (.int (i ^ j.toNat)) G else .bad) Q X
    split
    · exact h.2
    · rename_i hn
      rw [if_pos (h.1.resolve_left hn)]
      exact h.2
  · exact h.imp (fun _ _ z => z) (fun _ _ _ z => z.elim)
/-- the steps of a comprehension, of a loop, by name -/
def lcSt (t : T) (own : List Nat) (mq : Sl → Hh → R Bool) (me : Sl → Hh → R D) (s : Sl) : D → Hh → R (Option D) := fun d G => match bindT t d (wipeD s own) with
  | none => .bad
  | some s2 => (mq s2 G).bind fun b G' => if b then (me s2 G').bind fun y G'' => .ok (some y) G'' else .ok none G'
def forSt (t : T) (f : Sl → Hh → Rs) : D → Sl → Hh → Rs := fun d s G => match bindT t d s with
  | some s2 => f s2 G
  | none => .bad
mutual
@[simp] def wE (c : Cfg) (X : XD) : E → Sl → Hh → QD → Prop
  | .var i => fun s G Q => match s[i]? with
    | some (some d) => Q d G
    | _ => False
  | .con d => fun _ G Q => Q d G
  | .glo _ d => fun _ G Q => Q d G
  | .bin op a b => fun s G Q => wE c X a s G fun x G1 => wE c X b s G1 fun y G2 => wBin op x y G2 Q
  | .neg a => fun s G Q => wE c X a s G fun x G1 => match x with
    | .int i => Q (.int (-i)) G1
    | _ => False
  | .cmp op a b => fun s G Q => wE c X a s G fun x G1 => wE c X b s G1 fun y G2 => wO (cmpop op x y G2) fun z => Q (.bl z) G2
  | .cmo ne a b => fun s G Q => wE c X a s G fun x G1 => wE c X b s G1 fun y G2 => (cmoR c ne x y G2).sp Q X
  | .chn o1 o2 a b d => fun s G Q => wE c X a s G fun x G1 => wE c X b s G1 fun y G2 => wO (cmpop o1 x y G2) fun z => if z = true then (wE c X d s G2 fun u G4 => wO (cmpop o2 y u G4) fun z => Q (.bl z) G4) else Q (.bl false) G2
  | .and a b => fun s G Q => wE c X a s G fun x G1 => match x with
    | .bl z => if z = true then wE c X b s G1 Q else Q (.bl false) G1
    | _ => False
  | .or a b => fun s G Q => wE c X a s G fun x G1 => match x with
    | .bl z => if z = true then Q (.bl true) G1 else wE c X b s G1 Q
    | _ => False
  | .one a => wE c X a
  | .val a => wE c X a
  | .not a => fun s G Q => wE c X a s G fun x G1 => wO (truthy G1 x) fun b => Q (.bl (!b)) G1
  | .ite t a b => fun s G Q => wT c X t s G fun x G1 => if x = true then wE c X a s G1 Q else wE c X b s G1 Q
  | .tup es => fun s G Q => wEs c X es s G fun xs G1 => xs.length ≤ sizeLine ∧ Q (.tup xs) G1
  | .lst es => fun s G Q => wEs c X es s G fun xs G1 => xs.length ≤ sizeLine ∧ Q (.ref G1.length) (G1 ++ [.lst xs])
  | .sub a i => fun s G Q => wE c X a s G fun x G1 => wE c X i s G1 fun y G2 => (subD G2 x y).sp Q (fun _ _ _ => False)
  | .fld a f => fun s G Q => wE c X a s G fun x G1 => R.sp (match x with
    | .ref r => (match G1[r]? with
      | some (.ins k fs) => (match c.P.cls[k]?, fs.lookup f with
        | some cl, some v => if cl.flds.contains f then .ok v G1 else .bad
        | _, _ => .bad)
      | some (.exc e (some v)) => (match c.P.exs[e]? with
        | some q => if q.fld = some f then .ok v G1 else .bad
        | none => .bad)
      | _ => .bad)
    | _ => .bad) Q X
  | .cal sh es ks => fun s G Q => wEs c X es s G fun xs G1 => wEs c X ks s G1 fun ys G2 => (callS c sh xs ys G2).sp Q X
  | .new k sh es ks => fun s G Q => wEs c X es s G fun xs G1 => wEs c X ks s G1 fun ys G2 => (newS c k sh xs ys G2).sp Q X
  | .mth a m sh es ks => fun s G Q => wE c X a s G fun x G0 => mthOk c G0 x m sh = true ∧ wEs c X es s G0 fun xs G1 => wEs c X ks s G1 fun ys G2 => (callS c sh (x :: xs) ys G2).sp Q X
  | .prm p es => fun s G Q => wEs c X es s G fun xs G1 => (primD p xs G1).sp Q X
  | .bme m a es => fun s G Q => wE c X a s G fun x G0 => bmOk m G0 x = true ∧ wEs c X es s G0 fun xs G1 => (bmD m x xs G1).sp Q X
  | .slc a lo hi => fun s G Q => wE c X a s G fun x G0 => (evp c lo s G0).sp (fun l G1 => (evp c hi s G1).sp (fun h G2 => (slcD G2 x l h).sp Q X) X) X
  | .srs a => fun s G Q => wE c X a s G fun x G1 => (pSrtset x G1).sp Q X
  | .dnw => fun _ G Q => Q (.ref G.length) (G ++ [.dic []])
  | .exn x kw es ks => fun s G Q => wEs c X es s G fun xs G1 => wEs c X ks s G1 fun ys G2 => (exnD c.P x kw xs ys G2).sp Q X
  | .dsp x v => fun s G Q => wE c X v s (G ++ [.dic []]) fun y G1 => (dspD G.length x y G1).sp Q X
  | .isi a t => fun s G Q => wE c X a s G fun x G1 => wO (isin c.P G1 t x) fun b => Q (.bl b) G1
  | .lc el t it q own => fun s G Q => wI c X it s G fun J G1 => (lcLoop J.ok G1.length (lcSt t own (evo c q) (ev c el) s) J.items (G1 ++ [.lst []])).sp (fun _ G2 => Q (.ref G1.length) G2) X
@[simp] def wT (c : Cfg) (X : XD) : E → Sl → Hh → (Bool → Hh → Prop) → Prop
  | .and a b => fun s G Q => wT c X a s G fun x G1 => if x = true then wT c X b s G1 Q else Q false G1
  | .or a b => fun s G Q => wT c X a s G fun x G1 => if x = true then Q true G1 else wT c X b s G1 Q
  | .one a => wT c X a
  | .not a => fun s G Q => wT c X a s G fun x G1 => Q (!x) G1
  | .cmp op a b => fun s G Q => wE c X a s G fun x G1 => wE c X b s G1 fun y G2 => wO (cmpop op x y G2) fun z => Q z G2
  | .cmo ne a b => fun s G Q => wE c X a s G fun x G1 => wE c X b s G1 fun y G2 => (cmoR c ne x y G2).sp (fun z G3 => match z with
    | .bl r => Q r G3
    | _ => False) X
  | .chn o1 o2 a b d => fun s G Q => wE c X a s G fun x G1 => wE c X b s G1 fun y G2 => wO (cmpop o1 x y G2) fun z => if z = true then (wE c X d s G2 fun u G4 => wO (cmpop o2 y u G4) fun z => Q z G4) else Q false G2
  | .val a => fun s G Q => wE c X a s G fun x G1 => wO (truthy G1 x) fun b => Q b G1
  | _ => fun _ _ _ => False
@[simp] def wEs (c : Cfg) (X : XD) : Es → Sl → Hh → (List D → Hh → Prop) → Prop
  | .nil => fun _ G Q => Q [] G
  | .cons e es => fun s G Q => wE c X e s G fun x G1 => wEs c X es s G1 fun xs G2 => Q (x :: xs) G2
@[simp] def wI (c : Cfg) (X : XD) : I → Sl → Hh → (It → Hh → Prop) → Prop
  | .e x => fun s G Q => wE c X x s G fun d G1 => match d with
    | .tup xs => Q ⟨xs, none⟩ G1
    | .scr ns => Q ⟨ns.map .int, none⟩ G1
    | .ref r => wO (seqOf G1 (.ref r)) fun xs => Q ⟨xs, some r⟩ G1
    | _ => False
  | .r1 a => fun s G Q => wE c X a s G fun d G1 => match d with
    | .int j => (-(2 ^ 62) ≤ j ∧ j < 2 ^ 62) ∧ Q ⟨rangeD 0 j.toNat, none⟩ G1
    | _ => False
  | .r2 a b => fun s G Q => wE c X a s G fun d G1 => wE c X b s G1 fun d2 G2 => match d, d2 with
    | .int i, .int j => (-(2 ^ 62) ≤ i ∧ i < 2 ^ 62 ∧ -(2 ^ 62) ≤ j ∧ j < 2 ^ 62) ∧ Q ⟨rangeD i (j - i).toNat, none⟩ G2
    | _, _ => False
end
theorem wO_bl {o : Option Bool} {Q : Bool → Prop} {k : Option Bool → R D} {P : QD} {X : XD} (h : wO o Q) (f : ∀ b, Q b → (k (some b)).sp P X) : (k o).sp P X := by
  cases o with
  | none => exact h.elim
  | some b => exact f b h
section
variable {c : Cfg} {X : XD}
theorem sp_cmpR {op : CmpOp} {x y : D} {G : Hh} {Q : QD} (h : wO (cmpop op x y G) fun z => Q (.bl z) G) : (cmpR op x y G).sp Q X := by
  unfold cmpR
  cases e : cmpop op x y G with
  | none => rw [e] at h; exact h.elim
  | some b => rw [e] at h; exact h
theorem sp_tru {x : D} {G : Hh} {Q : Bool → Hh → Prop} (h : wO (truthy G x) fun z => Q z G) : (tru G x).sp Q X := by
  unfold tru
  cases e : truthy G x with
  | none => rw [e] at h; exact h.elim
  | some b => rw [e] at h; exact h
mutual
theorem wE_ok : ∀ (e : E) (s : Sl) (G : Hh) (Q : QD), wE c X e s G Q → (ev c e s G).sp Q X
  | .var i, s, G, Q, h => by
    simp only [wE] at h
    simp only [ev]
    split at h
    · rename_i d hd
      try rw [hd]
      exact h
    · exact h.elim
  | .con d, s, G, Q, h => h
  | .glo _ d, s, G, Q, h => h
  | .bin op a b, s, G, Q, h => R.sp_bind ((wE_ok a s G _ h).then_ fun x G1 h1 => R.sp_bind ((wE_ok b s G1 _ h1).then_ fun y G2 h2 => wBin_ok h2))
  | .neg a, s, G, Q, h => R.sp_bind ((wE_ok a s G _ h).then_ fun x G1 h1 => by
    try dsimp only at h1 ⊢
    split at h1
    · exact h1
    · exact h1.elim)
  | .cmp op a b, s, G, Q, h => R.sp_bind ((wE_ok a s G _ h).then_ fun x G1 h1 => R.sp_bind ((wE_ok b s G1 _ h1).then_ fun y G2 h2 => sp_cmpR h2))
  | .cmo ne a b, s, G, Q, h => R.sp_bind ((wE_ok a s G _ h).then_ fun x G1 h1 => R.sp_bind ((wE_ok b s G1 _ h1).then_ fun y G2 h2 => h2))
  | .chn o1 o2 a b d, s, G, Q, h => R.sp_bind ((wE_ok a s G _ h).then_ fun x G1 h1 => R.sp_bind ((wE_ok b s G1 _ h1).then_ fun y G2 h2 => R.sp_bind (by
    unfold cmpR
    cases e : cmpop o1 x y G2 with
    | none => rw [e] at h2; exact h2.elim
    | some z =>
      rw [e] at h2
      cases z with
      | true => exact R.sp_bind ((wE_ok d s G2 _ h2).then_ fun u G4 h4 => sp_cmpR h4)
      | false => exact h2)))
  | .and a b, s, G, Q, h => R.sp_bind ((wE_ok a s G _ h).then_ fun x G1 h1 => by
    cases x with
    | bl z => cases z with
      | true => exact wE_ok b s G1 _ h1
      | false => exact h1
    | non => exact h1.elim
    | int _ => exact h1.elim
    | str _ => exact h1.elim
    | tup _ => exact h1.elim
    | ref _ => exact h1.elim
    | scr _ => exact h1.elim)
  | .or a b, s, G, Q, h => R.sp_bind ((wE_ok a s G _ h).then_ fun x G1 h1 => by
    cases x with
    | bl z => cases z with
      | true => exact h1
      | false => exact wE_ok b s G1 _ h1
    | non => exact h1.elim
    | int _ => exact h1.elim
    | str _ => exact h1.elim
    | tup _ => exact h1.elim
    | ref _ => exact h1.elim
    | scr _ => exact h1.elim)
  | .one a, s, G, Q, h => wE_ok a s G Q h
  | .val a, s, G, Q, h => wE_ok a s G Q h
  | .not a, s, G, Q, h => R.sp_bind ((wE_ok a s G _ h).then_ fun x G1 h1 => R.sp_bind (sp_tru h1))
  | .ite t a b, s, G, Q, h => R.sp_bind ((wT_ok t s G _ h).then_ fun x G1 h1 => by
    cases x with
    | true => exact wE_ok a s G1 _ h1
    | false => exact wE_ok b s G1 _ h1)
  | .tup es, s, G, Q, h => R.sp_bind ((wEs_ok es s G _ h).then_ fun xs G1 h1 => by
    try dsimp only
    rw [if_pos h1.1]
    exact h1.2)
  | .lst es, s, G, Q, h => R.sp_bind ((wEs_ok es s G _ h).then_ fun xs G1 h1 => by
    try dsimp only
    rw [if_pos h1.1]
    exact h1.2)
  | .sub a i, s, G, Q, h => R.sp_bind ((wE_ok a s G _ h).then_ fun x G1 h1 => R.sp_bind ((wE_ok i s G1 _ h1).then_ fun y G2 h2 => h2.imp (fun _ _ z => z) (fun _ _ _ z => z.elim)))
  | .fld a f, s, G, Q, h => R.sp_bind ((wE_ok a s G _ h).then_ fun x G1 h1 => h1)
  | .cal sh es ks, s, G, Q, h => R.sp_bind ((wEs_ok es s G _ h).then_ fun x G1 h1 => R.sp_bind ((wEs_ok ks s G1 _ h1).then_ fun y G2 h2 => h2))
  | .new k sh es ks, s, G, Q, h => R.sp_bind ((wEs_ok es s G _ h).then_ fun x G1 h1 => R.sp_bind ((wEs_ok ks s G1 _ h1).then_ fun y G2 h2 => h2))
  | .mth a m sh es ks, s, G, Q, h => R.sp_bind ((wE_ok a s G _ h).then_ fun x G0 h0 => by
    try dsimp only
    rw [if_pos h0.1]
    exact R.sp_bind ((wEs_ok es s G0 _ h0.2).then_ fun xs G1 h1 => R.sp_bind ((wEs_ok ks s G1 _ h1).then_ fun ys G2 h2 => h2)))
  | .prm p es, s, G, Q, h => R.sp_bind ((wEs_ok es s G _ h).then_ fun x G1 h1 => h1)
  | .bme m a es, s, G, Q, h => R.sp_bind ((wE_ok a s G _ h).then_ fun x G0 h0 => by
    try dsimp only
    rw [if_pos h0.1]
    exact R.sp_bind ((wEs_ok es s G0 _ h0.2).then_ fun xs G1 h1 => h1))
  | .slc a lo hi, s, G, Q, h => R.sp_bind ((wE_ok a s G _ h).then_ fun x G0 h0 => R.sp_bind (h0.then_ fun l G1 h1 => R.sp_bind (h1.then_ fun u G2 h2 => h2)))
  | .srs a, s, G, Q, h => R.sp_bind ((wE_ok a s G _ h).then_ fun x G1 h1 => h1)
  | .dnw, s, G, Q, h => h
  | .exn x kw es ks, s, G, Q, h => R.sp_bind ((wEs_ok es s G _ h).then_ fun x G1 h1 => R.sp_bind ((wEs_ok ks s G1 _ h1).then_ fun y G2 h2 => h2))
  | .dsp x v, s, G, Q, h => R.sp_bind ((wE_ok v s _ _ h).then_ fun y G1 h1 => h1)
  | .isi a t, s, G, Q, h => R.sp_bind ((wE_ok a s G _ h).then_ fun x G1 h1 => by
    try dsimp only at h1 ⊢
    cases e : isin c.P G1 t x with
    | none => rw [e] at h1; exact h1.elim
    | some b => rw [e] at h1; exact h1)
  | .lc el t it q own, s, G, Q, h => R.sp_bind ((wI_ok it s G _ h).then_ fun J G1 h1 => R.sp_bind h1)
theorem wT_ok : ∀ (e : E) (s : Sl) (G : Hh) (Q : Bool → Hh → Prop), wT c X e s G Q → (tst c e s G).sp Q X
  | .and a b, s, G, Q, h => R.sp_bind ((wT_ok a s G _ h).then_ fun x G1 h1 => by
    cases x with
    | true => exact wT_ok b s G1 _ h1
    | false => exact h1)
  | .or a b, s, G, Q, h => R.sp_bind ((wT_ok a s G _ h).then_ fun x G1 h1 => by
    cases x with
    | true => exact h1
    | false => exact wT_ok b s G1 _ h1)
  | .one a, s, G, Q, h => wT_ok a s G Q h
  | .not a, s, G, Q, h => R.sp_bind ((wT_ok a s G _ h).then_ fun x G1 h1 => h1)
  | .cmp op a b, s, G, Q, h => R.sp_bind ((wE_ok a s G _ h).then_ fun x G1 h1 => R.sp_bind ((wE_ok b s G1 _ h1).then_ fun y G2 h2 => R.sp_bind (sp_cmpR h2)))
  | .cmo ne a b, s, G, Q, h => R.sp_bind ((wE_ok a s G _ h).then_ fun x G1 h1 => R.sp_bind ((wE_ok b s G1 _ h1).then_ fun y G2 h2 => R.sp_bind (h2.then_ fun z G3 h3 => by
    cases z with
    | bl r => exact h3
    | _ => exact h3.elim)))
  | .chn o1 o2 a b d, s, G, Q, h => R.sp_bind ((wE_ok a s G _ h).then_ fun x G1 h1 => R.sp_bind ((wE_ok b s G1 _ h1).then_ fun y G2 h2 => R.sp_bind (by
    unfold cmpR
    cases e : cmpop o1 x y G2 with
    | none => rw [e] at h2; exact h2.elim
    | some z =>
      rw [e] at h2
      cases z with
      | true => exact R.sp_bind ((wE_ok d s G2 _ h2).then_ fun u G4 h4 => R.sp_bind (sp_cmpR h4))
      | false => exact h2)))
  | .val a, s, G, Q, h => R.sp_bind ((wE_ok a s G _ h).then_ fun x G1 h1 => sp_tru h1)
  | .var _, _, _, _, h => h.elim
  | .con _, _, _, _, h => h.elim
  | .glo _ _, _, _, _, h => h.elim
  | .bin _ _ _, _, _, _, h => h.elim
  | .neg _, _, _, _, h => h.elim
  | .ite _ _ _, _, _, _, h => h.elim
  | .tup _, _, _, _, h => h.elim
  | .lst _, _, _, _, h => h.elim
  | .sub _ _, _, _, _, h => h.elim
  | .fld _ _, _, _, _, h => h.elim
  | .cal _ _ _, _, _, _, h => h.elim
  | .new _ _ _ _, _, _, _, h => h.elim
  | .mth _ _ _ _ _, _, _, _, h => h.elim
  | .prm _ _, _, _, _, h => h.elim
  | .bme _ _ _, _, _, _, h => h.elim
  | .slc _ _ _, _, _, _, h => h.elim
  | .srs _, _, _, _, h => h.elim
  | .dnw, _, _, _, h => h.elim
  | .exn _ _ _ _, _, _, _, h => h.elim
  | .dsp _ _, _, _, _, h => h.elim
  | .isi _ _, _, _, _, h => h.elim
  | .lc _ _ _ _ _, _, _, _, h => h.elim
theorem wEs_ok : ∀ (e : Es) (s : Sl) (G : Hh) (Q : List D → Hh → Prop), wEs c X e s G Q → (evs c e s G).sp Q X
  | .nil, s, G, Q, h => h
  | .cons e es, s, G, Q, h => R.sp_bind ((wE_ok e s G _ h).then_ fun x G1 h1 => R.sp_bind ((wEs_ok es s G1 _ h1).then_ fun xs G2 h2 => h2))
theorem wI_ok : ∀ (e : I) (s : Sl) (G : Hh) (Q : It → Hh → Prop), wI c X e s G Q → (evI c e s G).sp Q X
  | .e x, s, G, Q, h => R.sp_bind ((wE_ok x s G _ h).then_ fun d G1 h1 => by
    cases d with
    | tup xs => exact h1
    | scr ns => exact h1
    | ref r =>
      have h1 : wO (seqOf G1 (.ref r)) fun xs => Q ⟨xs, some r⟩ G1 := h1
      show R.sp (match seqOf G1 (.ref r) with | some xs => _ | none => _) Q X
      cases e : seqOf G1 (.ref r) with
      | none => rw [e] at h1; exact h1.elim
      | some xs => rw [e] at h1; exact h1
    | non => exact h1.elim
    | bl _ => exact h1.elim
    | int _ => exact h1.elim
    | str _ => exact h1.elim)
  | .r1 a, s, G, Q, h => R.sp_bind ((wE_ok a s G _ h).then_ fun d G1 h1 => by
    cases d with
    | int j =>
      try dsimp only at h1 ⊢
      rw [if_pos h1.1]
      exact h1.2
    | tup _ => exact h1.elim
    | scr _ => exact h1.elim
    | ref _ => exact h1.elim
    | non => exact h1.elim
    | bl _ => exact h1.elim
    | str _ => exact h1.elim)
  | .r2 a b, s, G, Q, h => R.sp_bind ((wE_ok a s G _ h).then_ fun d G1 h1 => R.sp_bind ((wE_ok b s G1 _ h1).then_ fun d2 G2 h2 => by
    try dsimp only at h2 ⊢
    split at h2
    · try dsimp only
      rw [if_pos h2.1]
      exact h2.2
    · exact h2.elim))
end
end
end Eng
end
section
set_option Elab.async false
set_option linter.all false
set_option maxRecDepth 100000
set_option maxHeartbeats 2000000
/-! Conditions for the evaluator's answers: statements, loops, calls. Own work. -/
namespace Eng
open PySem L2

structure K5 where
  nx : Sl → Hh → Prop
  rt : D → Hh → Prop
  xc : Nat → Option D → Sl → Hh → Prop
  bk : Sl → Hh → Prop := fun _ _ => False
  ct : Sl → Hh → Prop := fun _ _ => False
def Rs.sp (r : Rs) (K : K5) : Prop := match r with
  | .nx s G => K.nx s G
  | .rt d G => K.rt d G
  | .exc c f s G => K.xc c f s G
  | .bk s G => K.bk s G
  | .ct s G => K.ct s G
  | .bad => False
theorem sp_st {α : Type} {r : R α} {s : Sl} {k : α → Hh → Rs} {K : K5} (h : r.sp (fun a G => (k a G).sp K) (fun c f G => K.xc c f s G)) : (r.st s k).sp K := by
  cases r with
  | ok a G => exact h
  | exc c f G => exact h
  | bad => exact h
@[simp] def wFst (c : Cfg) (f : Nat) (v x : D) (s : Sl) (G : Hh) (K : K5) : Prop := match x with
  | .ref r => (match G[r]? with
    | some (.ins k fs) => (match c.P.cls[k]? with
      | some cl => (fs.length < 1000 ∧ cl.flds.contains f = true) ∧ K.nx s (G.set r (.ins k (setF f v fs)))
      | none => False)
    | _ => False)
  | _ => False
mutual
@[simp] def wS (c : Cfg) : S → Sl → Hh → K5 → Prop
  | .exp e => fun s G K => wE c (fun k f G => K.xc k f s G) e s G fun _ G1 => K.nx s G1
  | .ret e => fun s G K => wE c (fun k f G => K.xc k f s G) e s G fun d G1 => K.rt d G1
  | .rt0 => fun _ G K => K.rt .non G
  | .set i e => fun s G K => wE c (fun k f G => K.xc k f s G) e s G fun d G1 => K.nx (s.set i (some d)) G1
  | .par i j a b => fun s G K => wE c (fun k f G => K.xc k f s G) a s G fun x G1 => wE c (fun k f G => K.xc k f s G) b s G1 fun y G2 => K.nx ((s.set i (some x)).set j (some y)) G2
  | .tpl is e => fun s G K => wE c (fun k f G => K.xc k f s G) e s G fun d G1 => wO (bindT (.tp is) d s) fun s2 => K.nx s2 G1
  | .fst o f e => fun s G K => wE c (fun k f G => K.xc k f s G) e s G fun v G1 => wE c (fun k f G => K.xc k f s G) o s G1 fun x G2 => wFst c f v x s G2 K
  | .sst o i e => fun s G K => wE c (fun k f G => K.xc k f s G) e s G fun v G1 => wE c (fun k f G => K.xc k f s G) o s G1 fun x G2 => wE c (fun k f G => K.xc k f s G) i s G2 fun y G3 => wO (setD G3 x y v) fun G4 => K.nx s G4
  | .ife t a b => fun s G K => wT c (fun k f G => K.xc k f s G) t s G fun x G1 => if x = true then wSs c a s G1 K else wSs c b s G1 K
  | .lop t it b => fun s G K => wI c (fun k f G => K.xc k f s G) it s G fun J G1 => (forLoop J.ok (forSt t (exs c b)) J.items s G1).sp K
  | .whl t b => fun s G K => (whlLoop (tst c t) (exs c b) c.F s G).sp K
  | .rse x e => fun s G K => match e with
    | .no => K.xc x none s G
    | .yes e => wE c (fun k f G => K.xc k f s G) e s G fun d G1 => K.xc x (some d) s G1
  | .tryAs b x err cau => fun s G K => wSs c b s G { K with xc := fun k f s' G' => wO (catches c.P x k) fun z => if z = true then K.nx ((s'.set cau (some (.ref G'.length))).set err none) (G' ++ [.exc k f]) else K.xc k f s' G' }
  | .brk => fun s G K => K.bk s G
  | .cnt => fun s G K => K.ct s G
  | .pas => fun s G K => K.nx s G
@[simp] def wSs (c : Cfg) : Ss → Sl → Hh → K5 → Prop
  | .nil => fun s G K => K.nx s G
  | .cons st r => fun s G K => wS c st s G { K with nx := fun s' G' => wSs c r s' G' K }
end
section
variable {c : Cfg}
theorem sp_seq {r : Rs} {k : Sl → Hh → Rs} {K : K5} (h : r.sp { K with nx := fun s' G' => (k s' G').sp K }) : (r.seq k).sp K := by
  cases r with
  | nx s G => exact h
  | rt d G => exact h
  | exc c f s G => exact h
  | bk s G => exact h
  | ct s G => exact h
  | bad => exact h
mutual
theorem wS_ok : ∀ (st : S) (s : Sl) (G : Hh) (K : K5), wS c st s G K → (ex c st s G).sp K
  | .exp e, s, G, K, h => sp_st ((wE_ok e s G _ h).then_ fun _ _ z => z)
  | .ret e, s, G, K, h => sp_st ((wE_ok e s G _ h).then_ fun _ _ z => z)
  | .rt0, s, G, K, h => h
  | .set i e, s, G, K, h => sp_st ((wE_ok e s G _ h).then_ fun _ _ z => z)
  | .par i j a b, s, G, K, h => sp_st ((wE_ok a s G _ h).then_ fun _ G1 z => sp_st ((wE_ok b s G1 _ z).then_ fun _ _ z => z))
  | .tpl is e, s, G, K, h => sp_st ((wE_ok e s G _ h).then_ fun d G1 z => by
    try dsimp only at z ⊢
    cases q : bindT (.tp is) d s with
    | none => rw [q] at z; exact z.elim
    | some s2 => rw [q] at z; exact z)
  | .fst o f e, s, G, K, h => sp_st ((wE_ok e s G _ h).then_ fun v G1 z => sp_st ((wE_ok o s G1 _ z).then_ fun x G2 z2 => by
    have z2 : wFst c f v x s G2 K := z2
    unfold wFst at z2
    split at z2
    · split at z2
      · rename_i hr
        split at z2
        · rename_i cl hcl
          try simp only [hr, hcl]
          rw [if_pos z2.1]
          exact z2.2
        · exact z2.elim
      · exact z2.elim
    · exact z2.elim))
  | .sst o i e, s, G, K, h => sp_st ((wE_ok e s G _ h).then_ fun v G1 z => sp_st ((wE_ok o s G1 _ z).then_ fun x G2 z2 => sp_st ((wE_ok i s G2 _ z2).then_ fun y G3 z3 => by
    try dsimp only at z3 ⊢
    cases q : setD G3 x y v with
    | none => rw [q] at z3; exact z3.elim
    | some G4 => rw [q] at z3; exact z3)))
  | .ife t a b, s, G, K, h => sp_st ((wT_ok t s G _ h).then_ fun x G1 z => by
    cases x with
    | true => exact wSs_ok a s G1 K z
    | false => exact wSs_ok b s G1 K z)
  | .lop t it b, s, G, K, h => sp_st ((wI_ok it s G _ h).then_ fun _ _ z => z)
  | .whl t b, s, G, K, h => h
  | .rse x e, s, G, K, h => by
    cases e with
    | no => exact h
    | yes e => exact sp_st ((wE_ok e s G _ h).then_ fun _ _ z => z)
  | .tryAs b x err cau, s, G, K, h => by
    have q := wSs_ok b s G _ h
    show Rs.sp (match exs c b s G with
      | .exc k f s' G' => _
      | r => r) K
    cases e : exs c b s G with
    | nx s G => rw [e] at q; exact q
    | rt d G => rw [e] at q; exact q
    | bk s G => rw [e] at q; exact q
    | ct s G => rw [e] at q; exact q
    | bad => rw [e] at q; exact q
    | exc k f s' G' =>
      rw [e] at q
      have q : wO (catches c.P x k) fun z => if z = true then K.nx ((s'.set cau (some (.ref G'.length))).set err none) (G' ++ [.exc k f]) else K.xc k f s' G' := q
      dsimp only
      cases hz : catches c.P x k with
      | none => rw [hz] at q; exact q.elim
      | some z =>
        rw [hz] at q
        cases z with
        | true => exact q
        | false => exact q
  | .brk, s, G, K, h => h
  | .cnt, s, G, K, h => h
  | .pas, s, G, K, h => h
theorem wSs_ok : ∀ (ss : Ss) (s : Sl) (G : Hh) (K : K5), wSs c ss s G K → (exs c ss s G).sp K
  | .nil, s, G, K, h => h
  | .cons st r, s, G, K, h => sp_seq (by
    have q := wS_ok st s G _ h
    cases e : ex c st s G with
    | nx s' G' => rw [e] at q; exact wSs_ok r s' G' K q
    | rt d G => rw [e] at q; exact q
    | exc k f s' G' => rw [e] at q; exact q
    | bk s G => rw [e] at q; exact q
    | ct s G => rw [e] at q; exact q
    | bad => rw [e] at q; exact q)
end
theorem Rs.sp.mono {r : Rs} {K K' : K5} (h : r.sp K) (h1 : ∀ s G, K.nx s G → K'.nx s G) (h2 : ∀ d G, K.rt d G → K'.rt d G) (h3 : ∀ c f s G, K.xc c f s G → K'.xc c f s G) (h4 : ∀ s G, K.bk s G → K'.bk s G) (h5 : ∀ s G, K.ct s G → K'.ct s G) : r.sp K' := by
  cases r with
  | nx s G => exact h1 _ _ h
  | rt d G => exact h2 _ _ h
  | exc c f s G => exact h3 _ _ _ _ h
  | bk s G => exact h4 _ _ h
  | ct s G => exact h5 _ _ h
  | bad => exact h
/-- a loop over items -/
theorem for_spR {ok : Hh → Bool} {t : T} {b : Ss} {K : K5} (I : List D → Sl → Hh → Prop)
    (hs : ∀ x xs s G, I (x :: xs) s G → ok G = true ∧ wO (bindT t x s) fun s2 => (exs c b s2 G).sp { nx := fun s' G' => I xs s' G', ct := fun s' G' => I xs s' G', bk := K.nx, rt := K.rt, xc := K.xc })
    (he : ∀ s G, I [] s G → ok G = true ∧ K.nx s G) : ∀ (xs : List D) (s : Sl) (G : Hh), I xs s G → (forLoop ok (forSt t (exs c b)) xs s G).sp K
  | [], s, G, h => by
    obtain ⟨h1, h2⟩ := he s G h
    unfold forLoop
    rw [if_pos h1]
    exact h2
  | x :: xs, s, G, h => by
    obtain ⟨h1, h2⟩ := hs x xs s G h
    unfold forLoop
    rw [if_pos h1]
    unfold forSt
    cases e : bindT t x s with
    | none => rw [e] at h2; exact h2.elim
    | some s2 =>
      rw [e] at h2
      have q : (exs c b s2 G).sp { nx := fun s' G' => I xs s' G', ct := fun s' G' => I xs s' G', bk := K.nx, rt := K.rt, xc := K.xc } := h2
      dsimp only
      cases e2 : exs c b s2 G with
      | nx s' G' => rw [e2] at q; exact for_spR I hs he xs s' G' q
      | ct s' G' => rw [e2] at q; exact for_spR I hs he xs s' G' q
      | bk s' G' => rw [e2] at q; exact q
      | rt d G' => rw [e2] at q; exact q
      | exc k f s' G' => rw [e2] at q; exact q
      | bad => rw [e2] at q; exact q
theorem for_sp {ok : Hh → Bool} {t : T} {b : Ss} {K : K5} (I : List D → Sl → Hh → Prop)
    (hs : ∀ x xs s G, I (x :: xs) s G → ok G = true ∧ wO (bindT t x s) fun s2 => wSs c b s2 G { nx := fun s' G' => I xs s' G', ct := fun s' G' => I xs s' G', bk := K.nx, rt := K.rt, xc := K.xc })
    (he : ∀ s G, I [] s G → ok G = true ∧ K.nx s G) (xs : List D) (s : Sl) (G : Hh) (h0 : I xs s G) : (forLoop ok (forSt t (exs c b)) xs s G).sp K := by
  refine for_spR I (fun x xs s G h => ?_) he xs s G h0
  obtain ⟨h1, h2⟩ := hs x xs s G h
  refine ⟨h1, ?_⟩
  cases e : bindT t x s with
  | none => rw [e] at h2; exact h2.elim
  | some s2 =>
    rw [e] at h2
    exact wSs_ok b s2 G _ h2
/-! ### loops over a range -/
theorem range_sp {t : T} {b : Ss} {K : K5} {lo hi : Int} {s : Sl} {G : Hh} (I : Int → Sl → Hh → Prop)
    (hs : ∀ i s G, lo ≤ i → i < hi → I i s G → wO (bindT t (.int i) s) fun s2 => wSs c b s2 G { nx := fun s' G' => I (i + 1) s' G', ct := fun s' G' => I (i + 1) s' G', bk := K.nx, rt := K.rt, xc := K.xc })
    (he : ∀ s G, I hi s G → K.nx s G) (hl : lo ≤ hi) (h0 : I lo s G) {n : Nat} (hn : (n : Int) = hi - lo) : (forLoop (It.ok ⟨rangeD lo n, none⟩) (forSt t (exs c b)) (rangeD lo n) s G).sp K := by
  refine for_spR (fun xs s G => ∃ (i : Int) (m : Nat), xs = rangeD i m ∧ i + m = hi ∧ lo ≤ i ∧ I i s G) ?_ ?_ _ _ _ ⟨lo, n, rfl, by omega, Int.le_refl _, h0⟩
  · rintro x xs s G ⟨i, m, e, h1, h2, h3⟩
    cases m with
    | zero => cases e
    | succ m =>
      have e' : x :: xs = .int i :: rangeD (i + 1) m := e
      cases e'
      refine ⟨rfl, ?_⟩
      have q := hs i s G h2 (by omega) h3
      cases hb : bindT t (.int i) s with
      | none => rw [hb] at q; exact q.elim
      | some s2 =>
        rw [hb] at q
        have k1 : ∀ s' G', I (i + 1) s' G' → ∃ (j : Int) (m' : Nat), rangeD (i + 1) m = rangeD j m' ∧ j + m' = hi ∧ lo ≤ j ∧ I j s' G' := fun s' G' z => ⟨i + 1, m, rfl, by omega, by omega, z⟩
        exact (wSs_ok b s2 G _ q).mono k1 (fun _ _ z => z) (fun _ _ _ _ z => z) (fun _ _ z => z) k1
  · rintro s G ⟨i, m, e, h1, h2, h3⟩
    cases m with
    | zero =>
      have e2 : i = hi := by omega
      subst e2
      exact ⟨rfl, he s G h3⟩
    | succ m => cases e
@[simp] def wQ (c : Cfg) (X : XD) : Eo → Sl → Hh → (Bool → Hh → Prop) → Prop
  | .no => fun _ G Q => Q true G
  | .yes e => wT c X e
theorem wQ_ok {X : XD} : ∀ (q : Eo) (s : Sl) (G : Hh) (Q : Bool → Hh → Prop), wQ c X q s G Q → (evo c q s G).sp Q X
  | .no, _, _, _, h => h
  | .yes e, s, G, Q, h => wT_ok e s G Q h
/-- a comprehension -/
theorem lc_sp {ok : Hh → Bool} {n : Nat} {t : T} {own : List Nat} {q : Eo} {el : E} {s : Sl} {Q : Hh → Prop} {X : XD} (I : List D → Hh → Prop)
    (hs : ∀ x xs G, I (x :: xs) G → ok G = true ∧ wO (bindT t x (wipeD s own)) fun s2 => wQ c (fun _ _ _ => False) q s2 G fun b G' => if b = true then (wE c (fun _ _ _ => False) el s2 G' fun y G'' => ∃ acc, G''[n]? = some (.lst acc) ∧ acc.length < sizeLine ∧ I xs (G''.set n (.lst (acc ++ [y])))) else I xs G')
    (he : ∀ G, I [] G → ok G = true ∧ Q G) : ∀ (xs : List D) (G : Hh), I xs G → (lcLoop ok n (lcSt t own (evo c q) (ev c el) s) xs G).sp (fun _ G2 => Q G2) X
  | [], G, h => by
    obtain ⟨h1, h2⟩ := he G h
    unfold lcLoop
    rw [if_pos h1]
    exact h2
  | x :: xs, G, h => by
    obtain ⟨h1, h2⟩ := hs x xs G h
    unfold lcLoop
    rw [if_pos h1]
    unfold lcSt
    cases e : bindT t x (wipeD s own) with
    | none => rw [e] at h2; exact h2.elim
    | some s2 =>
      rw [e] at h2
      have q1 := wQ_ok q s2 G _ h2
      dsimp only
      cases e1 : evo c q s2 G with
      | bad => rw [e1] at q1; exact q1.elim
      | exc k f G' => rw [e1] at q1; exact q1.elim
      | ok b G' =>
        rw [e1] at q1
        cases b with
        | false => exact lc_sp I hs he xs G' q1
        | true =>
          have q2 := wE_ok el s2 G' _ q1
          simp only [R.bind, if_true]
          cases e2 : ev c el s2 G' with
          | bad => rw [e2] at q2; exact q2.elim
          | exc k f G'' => rw [e2] at q2; exact q2.elim
          | ok y G'' =>
            rw [e2] at q2
            obtain ⟨acc, a1, a2, a3⟩ := q2
            simp only [R.bind, a1]
            rw [if_pos a2]
            exact lc_sp I hs he xs _ a3
end
/-- a def -/
theorem sp_call {P : Prg} {Fu k f : Nat} {q : Fn} {as : List D} {G : Hh} {Q : QD} {X : XD} (hq : P.fns[f]? = some q) (hl : as.length = q.np)
    (h : wSs (cfg P Fu k) q.body (as.map some ++ List.replicate (q.nn - q.np) none) G { nx := fun _ G' => Q .non G', rt := Q, xc := fun c d _ G' => X c d G' }) : ((callF P Fu (k + 1)).1 f as G).sp Q X := by
  have e : (callF P Fu (k + 1)).1 f as G = bodyR (cfg P Fu k) q as G := by
    show (match P.fns[f]? with | some q => _ | none => _) = _
    rw [hq]
    rfl
  rw [e]
  unfold bodyR
  rw [if_pos hl]
  have z := wSs_ok _ _ _ _ h
  cases e2 : exs (cfg P Fu k) q.body (as.map some ++ List.replicate (q.nn - q.np) none) G with
  | nx s G' => rw [e2] at z; exact z
  | rt d G' => rw [e2] at z; exact z
  | exc c f s G' => rw [e2] at z; exact z
  | bk s G' => rw [e2] at z; exact z.elim
  | ct s G' => rw [e2] at z; exact z.elim
  | bad => rw [e2] at z; exact z.elim
end Eng
end
section
set_option Elab.async false
set_option linter.all false
set_option maxRecDepth 100000
set_option maxHeartbeats 2000000
/-! Plain facts for the laws: heaps, built-ins, comparisons. Own work. -/
namespace Eng
open PySem L2

/-! ### heaps -/
/-- what stands stays -/
def Le (G G' : Hh) : Prop := ∀ (i : Nat) (o : O), G[i]? = some o → G'[i]? = some o
theorem Le.refl {G : Hh} : Le G G := fun _ _ h => h
theorem Le.trans {G G1 G2 : Hh} (a : Le G G1) (b : Le G1 G2) : Le G G2 := fun i o h => b i o (a i o h)
theorem Le.app {G J : Hh} : Le G (G ++ J) := fun i o h => by
  rw [List.getElem?_append_left (List.getElem?_eq_some_iff.mp h).1]
  exact h
/-- .. but at m -/
def LeX (m : Nat) (G G' : Hh) : Prop := G.length ≤ G'.length ∧ ∀ (i : Nat) (o : O), i ≠ m → G[i]? = some o → G'[i]? = some o
theorem LeX.refl {m : Nat} {G : Hh} : LeX m G G := ⟨Nat.le_refl _, fun _ _ _ h => h⟩
theorem LeX.trans {m : Nat} {G G1 G2 : Hh} (a : LeX m G G1) (b : LeX m G1 G2) : LeX m G G2 := ⟨Nat.le_trans a.1 b.1, fun i o h e => b.2 i o h (a.2 i o h e)⟩
theorem LeX.app {m : Nat} {G J : Hh} : LeX m G (G ++ J) := ⟨by rw [List.length_append]; omega, fun i o _ h => Le.app i o h⟩
theorem LeX.set {m : Nat} {G : Hh} {o : O} : LeX m G (G.set m o) := ⟨by rw [List.length_set]; omega, fun i u h e => by rw [List.getElem?_set_ne (fun z => h z.symm)]; exact e⟩
theorem LeX.set_new {m f : Nat} {G G' : Hh} {o : O} (h : LeX m G G') (hf : G.length ≤ f) : LeX m G (G'.set f o) := ⟨by rw [List.length_set]; exact h.1, fun i u hi e => by
  have hl : i < G.length := (List.getElem?_eq_some_iff.mp e).1
  rw [List.getElem?_set_ne (by omega)]
  exact h.2 i u hi e⟩
theorem Le.len {G G' : Hh} (h : Le G G') : G.length ≤ G'.length := by
  cases G with
  | nil => exact Nat.zero_le _
  | cons a r =>
    have e : (a :: r)[r.length]? = some ((a :: r)[r.length]'(by simp)) := List.getElem?_eq_getElem _
    have := (List.getElem?_eq_some_iff.mp (h _ _ e)).1
    show r.length + 1 ≤ G'.length
    exact this
theorem Le.x {m : Nat} {G G' : Hh} (h : Le G G') : LeX m G G' := ⟨h.len, fun i o _ e => h i o e⟩
theorem get_lt {G : Hh} {i : Nat} {o : O} (h : G[i]? = some o) : i < G.length := (List.getElem?_eq_some_iff.mp h).1
theorem get_app {G J : Hh} {i : Nat} {o : O} (h : G[i]? = some o) : (G ++ J)[i]? = some o := Le.app i o h
@[simp] theorem get_new {G : Hh} {o : O} : (G ++ [o])[G.length]? = some o := by simp
theorem get_set {G : Hh} {i : Nat} {o u : O} (h : G[i]? = some u) : (G.set i o)[i]? = some o := by rw [List.getElem?_set_self (get_lt h)]
theorem get_set_ne {G : Hh} {i j : Nat} {o u : O} (h : G[i]? = some u) (hn : j ≠ i) : (G.set j o)[i]? = some u := by rw [List.getElem?_set_ne hn]; exact h
@[simp] theorem szl : sizeLine = 16777216 := sizeLine_eq
@[simp] theorem cfg_P {P : Prg} {Fu k : Nat} : (cfg P Fu k).P = P := rfl
/-! ### comparisons -/
@[simp] theorem cmp_lt {i j : Int} {G : Hh} : cmpop .Lt (.int i) (.int j) G = some (decide (i < j)) := rfl
@[simp] theorem cmp_le {i j : Int} {G : Hh} : cmpop .LtE (.int i) (.int j) G = some (decide (i ≤ j)) := rfl
@[simp] theorem cmp_gt {i j : Int} {G : Hh} : cmpop .Gt (.int i) (.int j) G = some (decide (j < i)) := rfl
@[simp] theorem cmp_ge {i j : Int} {G : Hh} : cmpop .GtE (.int i) (.int j) G = some (decide (j ≤ i)) := rfl
@[simp] theorem cmp_is {a : D} {G : Hh} : cmpop .Is a .non G = some (decide (a = .non)) := rfl
@[simp] theorem cmp_isnot {a : D} {G : Hh} : cmpop .IsNot a .non G = some (!decide (a = .non)) := rfl
theorem eqD_of {a b : D} {G : Hh} {p q : PyData} (h1 : dat G dfuel a = some p) (h2 : dat G dfuel b = some q) (c1 : p.canLay0 = true) (c2 : q.canLay0 = true) : eqD G a b = some (PyData.eqv p q) := by
  unfold eqD
  rw [h1, h2]
  dsimp only
  rw [c1, c2]
  rfl
@[simp] theorem cmp_eqI {i j : Int} {G : Hh} : cmpop .Eq (.int i) (.int j) G = some (decide (i = j)) := by
  simp only [cmpop]
  rw [eqD_of (p := .int i) (q := .int j) rfl rfl rfl rfl]
  rw [PyData.eqv]
  rfl
@[simp] theorem cmp_neI {i j : Int} {G : Hh} : cmpop .NotEq (.int i) (.int j) G = some (!decide (i = j)) := by
  have e := cmp_eqI (i := i) (j := j) (G := G)
  simp only [cmpop] at e ⊢
  rw [e]
  rfl
/-- equal data -/
theorem eqD_same {a b : D} {G : Hh} {p : PyData} (h1 : dat G dfuel a = some p) (h2 : dat G dfuel b = some p) (c : p.canLay0 = true) : eqD G a b = some true := by
  rw [eqD_of h1 h2 c c, SeqAt.eqv_refl p c]
@[simp] theorem tru_bl {b : Bool} {G : Hh} : truthy G (.bl b) = some b := rfl
@[simp] theorem tru_int {i : Int} {G : Hh} : truthy G (.int i) = some (i != 0) := rfl
@[simp] theorem tru_non {G : Hh} : truthy G .non = some false := rfl
theorem set_self {G : Hh} {r : Nat} {o : O} (h : G[r]? = some o) : G.set r o = G := by
  apply List.ext_getElem?
  intro i
  by_cases e : r = i
  · subst e
    rw [get_set h, h]
  · rw [List.getElem?_set_ne e]
theorem setD_L {r : Nat} {xs : List D} {G : Hh} {i : Int} {v : D} (h : G[r]? = some (.lst xs)) : setD G (.ref r) (.int i) v = (ixN xs.length i).map fun j => G.set r (.lst (xs.set j v)) := by
  unfold setD
  simp only [h]
@[simp] theorem bits_ok {i : Int} {G : Hh} : bmOk .bits G (.int i) = true := rfl
@[simp] theorem bits_bm {i : Int} {G : Hh} : bmD .bits (.int i) [] G = .ok (.int (Builtin.Int.intBits i : Nat)) G := rfl
theorem bits_le {i : Int} {n : Nat} (h : i.natAbs.log2 < n) : Builtin.Int.intBits i ≤ n := by
  unfold Builtin.Int.intBits
  split <;> omega
theorem app_L {r : Nat} {xs : List D} {G : Hh} {y : D} (h : G[r]? = some (.lst xs)) (hz : xs.length < sizeLine) : bmD .append (.ref r) [y] G = .ok .non (G.set r (.lst (xs ++ [y]))) := by
  show mAppend (.ref r) y G = _
  unfold mAppend
  simp only [h]
  rw [if_pos hz]
theorem app_okL {r : Nat} {xs : List D} {G : Hh} (h : G[r]? = some (.lst xs)) : bmOk .append G (.ref r) = true := by
  unfold bmOk listOf
  simp only [h]
  rfl
/-! ### built-ins -/
@[simp] theorem primD_int {i : Int} {G : Hh} : primD .int [.int i] G = .ok (.int i) G := rfl
@[simp] theorem primD_intb {b : Bool} {G : Hh} : primD .int [.bl b] G = .ok (.int (if b then 1 else 0)) G := rfl
@[simp] theorem primD_abs {i : Int} {G : Hh} : primD .abs [.int i] G = .ok (.int (if i < 0 then -i else i)) G := rfl
@[simp] theorem primD_max2 {i j : Int} {G : Hh} : primD .max2 [.int i, .int j] G = .ok (.int (if j > i then j else i)) G := rfl
@[simp] theorem primD_lenS {ns : List Int} {G : Hh} : primD .len [.scr ns] G = .ok (.int ns.length) G := by
  show R.ok (D.int ((ns.map D.int).length : Int)) G = _
  rw [List.length_map]
@[simp] theorem primD_lenT {xs : List D} {G : Hh} : primD .len [.tup xs] G = .ok (.int xs.length) G := rfl
theorem primD_lenL {r : Nat} {xs : List D} {G : Hh} (h : G[r]? = some (.lst xs)) : primD .len [.ref r] G = .ok (.int xs.length) G := by
  show pLen (.ref r) G = _
  unfold pLen seqOf
  simp only [h]
theorem subD_L {r : Nat} {xs : List D} {G : Hh} {i : Int} (h : G[r]? = some (.lst xs)) : subD G (.ref r) (.int i) = match atI xs i with
  | some v => .ok v G
  | none => .bad := by
  unfold subD seqOf
  simp only [h]
  all_goals (cases atI xs i <;> rfl)
theorem atI_nat {α : Type} {xs : List α} {i : Int} (h0 : 0 ≤ i) (h1 : i < xs.length) : atI xs i = xs[i.toNat]? := by
  unfold atI ixN
  rw [if_pos h0, if_pos h1]
  rfl
theorem fmod_range {i j : Int} (h : 0 < j) : 0 ≤ i.fmod j ∧ i.fmod j < j := ⟨Int.fmod_nonneg_of_pos _ h, Int.fmod_lt_of_pos _ h⟩
theorem pow_lit {i j : Int} {v : Int} {G : Hh} {Q : QD} (h1 : decide ((0 ≤ j ∧ j ≤ 1000000 ∧ i.natAbs < 2 ^ 64) ∨ (1 ≤ j ∧ 2 ≤ i ∧ Builtin.Int.intTooBig (((Builtin.Int.intBits i : Nat) : Int) * j) = false)) = true) (h2 : i ^ j.toNat = v) (h : Q (.int v) G) : wBin .Pow (.int i) (.int j) G Q := by
  rw [wBin_pow]
  exact ⟨of_decide_eq_true h1, by rw [h2]; exact h⟩
end Eng
end
section
set_option Elab.async false
set_option linter.all false
set_option maxRecDepth 100000
set_option maxHeartbeats 2000000
/-! More plain facts for the laws: kinds, loops, sorted tuples, data. Own work. -/
namespace Eng
open PySem L2

/-! ### kinds -/
def isI : D → Bool
  | .int _ => true
  | _ => false
def isB : D → Bool
  | .bl _ => true
  | _ => false
def isTp : D → Bool
  | .tup _ => true
  | _ => false
def isSt : D → Bool
  | .str _ => true
  | _ => false
def isLs (G : Hh) : D → Bool
  | .ref r => match G[r]? with
    | some (.lst _) => true
    | _ => false
  | .scr _ => true
  | _ => false
def isDc (G : Hh) : D → Bool
  | .ref r => match G[r]? with
    | some (.dic _) => true
    | _ => false
  | _ => false
def isCl (k : Nat) (G : Hh) : D → Bool
  | .ref r => match G[r]? with
    | some (.ins j _) => decide (j = k)
    | _ => false
  | _ => false
section
variable {G : Hh} {d : D} {a : Ty}
theorem kd_int (h : kindD G d = some a) : isI d = decide (a = .b "int") := by
  cases d <;> try (cases h; first | rfl | decide)
  simp only [kindD] at h
  show false = _
  split at h <;> first | (cases h; rfl) | (cases h)
theorem kd_bool (h : kindD G d = some a) : isB d = decide (a = .b "bool") := by
  cases d <;> try (cases h; first | rfl | decide)
  simp only [kindD] at h
  show false = _
  split at h <;> first | (cases h; rfl) | (cases h)
theorem kd_tup (h : kindD G d = some a) : isTp d = decide (a = .b "tuple") := by
  cases d <;> try (cases h; first | rfl | decide)
  simp only [kindD] at h
  show false = _
  split at h <;> first | (cases h; rfl) | (cases h)
theorem kd_str (h : kindD G d = some a) : isSt d = decide (a = .b "str") := by
  cases d <;> try (cases h; first | rfl | decide)
  simp only [kindD] at h
  show false = _
  split at h <;> first | (cases h; rfl) | (cases h)
theorem kd_lst (h : kindD G d = some a) : isLs G d = decide (a = .b "list") := by
  cases d <;> try (cases h; first | rfl | decide)
  simp only [kindD] at h
  simp only [isLs]
  split at h <;> rename_i e <;> (try rw [e]) <;> first | (cases h; rfl) | (cases h)
theorem kd_dic (h : kindD G d = some a) : isDc G d = decide (a = .b "dict") := by
  cases d <;> try (cases h; first | rfl | decide)
  simp only [kindD] at h
  simp only [isDc]
  split at h <;> rename_i e <;> (try rw [e]) <;> first | (cases h; rfl) | (cases h)
theorem kd_cls {k : Nat} (h : kindD G d = some a) : isCl k G d = decide (a = .c k) := by
  cases d <;> try (cases h; first | rfl | (simp [isCl]; done))
  simp only [kindD] at h
  simp only [isCl]
  split at h <;> rename_i e <;> (try rw [e]) <;> first | (cases h; first | rfl | (simp; done)) | (cases h)
end
/-! ### loops -/
/-- one round of a loop -/
theorem for_cons {c : Cfg} {t : T} {b : Ss} {K : K5} {ok : Hh → Bool} {x : D} {xs : List D} {s : Sl} {G : Hh} (hok : ok G = true)
    (h : wO (bindT t x s) fun s2 => wSs c b s2 G { nx := fun s' G' => (forLoop ok (forSt t (exs c b)) xs s' G').sp K, ct := fun s' G' => (forLoop ok (forSt t (exs c b)) xs s' G').sp K, bk := K.nx, rt := K.rt, xc := K.xc }) : (forLoop ok (forSt t (exs c b)) (x :: xs) s G).sp K := by
  show Rs.sp (if ok G = true then (match forSt t (exs c b) x s G with
    | .nx s' G' => forLoop ok (forSt t (exs c b)) xs s' G'
    | .ct s' G' => forLoop ok (forSt t (exs c b)) xs s' G'
    | .bk s' G' => .nx s' G'
    | r => r) else .bad) K
  rw [if_pos hok]
  unfold forSt
  cases e : bindT t x s with
  | none => rw [e] at h; exact h.elim
  | some s2 =>
    rw [e] at h
    have q := wSs_ok b s2 G _ h
    dsimp only
    cases e2 : exs c b s2 G with
    | nx s' G' => rw [e2] at q; exact q
    | ct s' G' => rw [e2] at q; exact q
    | bk s' G' => rw [e2] at q; exact q
    | rt d G' => rw [e2] at q; exact q
    | exc k f s' G' => rw [e2] at q; exact q
    | bad => rw [e2] at q; exact q
theorem for_nil {c : Cfg} {t : T} {b : Ss} {K : K5} {ok : Hh → Bool} {s : Sl} {G : Hh} (hok : ok G = true) (h : K.nx s G) : (forLoop ok (forSt t (exs c b)) [] s G).sp K := by
  show Rs.sp (if ok G = true then .nx s G else .bad) K
  rw [if_pos hok]
  exact h
/-- a loop over values, each by its own reason -/
theorem for_all {c : Cfg} {t : T} {b : Ss} {K : K5} {ok : Hh → Bool} (P : D → Prop) (I : Sl → Hh → Prop) (hok : ∀ s G, I s G → ok G = true)
    (hs : ∀ x s G, P x → I s G → wO (bindT t x s) fun s2 => wSs c b s2 G { nx := I, ct := I, bk := K.nx, rt := K.rt, xc := K.xc })
    (he : ∀ s G, I s G → K.nx s G) (xs : List D) (s : Sl) (G : Hh) (hp : ∀ x ∈ xs, P x) (h0 : I s G) : (forLoop ok (forSt t (exs c b)) xs s G).sp K :=
  for_spR (t := t) (fun xs s G => (∀ x ∈ xs, P x) ∧ I s G) (fun x xs s G ⟨hp, hi⟩ => ⟨hok s G hi, by
    have q := hs x s G (hp x List.mem_cons_self) hi
    cases e : bindT t x s with
    | none => rw [e] at q; exact q.elim
    | some s2 =>
      rw [e] at q
      have k1 : ∀ s' G', I s' G' → (∀ y ∈ xs, P y) ∧ I s' G' := fun s' G' z => ⟨fun y hy => hp y (List.mem_cons_of_mem _ hy), z⟩
      exact (wSs_ok b s2 G _ q).mono k1 (fun _ _ z => z) (fun _ _ _ _ z => z) (fun _ _ z => z) k1⟩) (fun s G ⟨_, hi⟩ => ⟨hok s G hi, he s G hi⟩) xs s G ⟨hp, h0⟩
/-- while -/
theorem whl_sp {c : Cfg} {e : E} {b : Ss} {K : K5} (I : Nat → Sl → Hh → Prop)
    (hs : ∀ m s G, I m s G → wT c (fun k f G => K.xc k f s G) e s G fun x G1 => if x = true then ∃ m', m = m' + 1 ∧ wSs c b s G1 { nx := I m', ct := I m', bk := K.nx, rt := K.rt, xc := K.xc } else K.nx s G1) :
    ∀ (n m : Nat) (s : Sl) (G : Hh), m < n → I m s G → (whlLoop (tst c e) (exs c b) n s G).sp K
  | 0, m, _, _, h, _ => absurd h (Nat.not_lt_zero _)
  | n + 1, m, s, G, hm, h => by
    unfold whlLoop
    refine sp_st ((wT_ok e s G _ (hs m s G h)).then_ fun x G1 z => ?_)
    cases x with
    | false => exact z
    | true =>
      obtain ⟨m', rfl, z⟩ := z
      have q := wSs_ok b s G1 _ z
      simp only [if_true]
      cases e2 : exs c b s G1 with
      | nx s' G' => rw [e2] at q; exact whl_sp I hs n m' s' G' (by omega) q
      | ct s' G' => rw [e2] at q; exact whl_sp I hs n m' s' G' (by omega) q
      | bk s' G' => rw [e2] at q; exact q
      | rt d G' => rw [e2] at q; exact q
      | exc k f s' G' => rw [e2] at q; exact q
      | bad => rw [e2] at q; exact q
end Eng
end
section
set_option Elab.async false
set_option linter.all false
set_option maxRecDepth 100000
set_option maxHeartbeats 4000000
/-! Plain facts for the laws: tuples of ints in lists, what is shown, what is told. Own work. -/
namespace Eng
open PySem L2
abbrev tupI (t : List Int) : D := .tup (t.map .int)
theorem set_new {G : Hh} {x y : O} : (G ++ [x]).set G.length y = G ++ [y] := by
  rw [List.set_append_right _ _ (Nat.le_refl _), Nat.sub_self]
  rfl
/-- tuples of ints as data -/
theorem dat_tup {G : Hh} {n : Nat} (t : List Int) : dat G (n + 2) (tupI t) = some (.tuple (t.map .int)) := by
  have h : ∀ t : List Int, datL (dat G (n + 1)) (t.map D.int) = some (t.map PyData.int) := by
    intro t
    induction t with
    | nil => rfl
    | cons a r ih =>
      rw [List.map_cons, List.map_cons]
      unfold datL
      rw [ih]
      rfl
  show (match datL (dat G (n + 1)) (t.map D.int) with | none => none | some ys => some (PyData.tuple ys)) = _
  rw [h]
theorem datL_tups {G : Hh} {n : Nat} (L : List (List Int)) : datL (dat G (n + 2)) (L.map tupI) = some (L.map fun t => .tuple (t.map .int)) := by
  induction L with
  | nil => rfl
  | cons t r ih =>
    rw [List.map_cons, List.map_cons]
    unfold datL
    rw [dat_tup, ih]
theorem lay_ints (t : List Int) : PyData.canLayAll0 (t.map .int) = true := by
  induction t with
  | nil => rfl
  | cons a r ih => rw [List.map_cons, PyData.canLayAll0, ih]; rfl
theorem lay_tups (L : List (List Int)) : PyData.canLayAll0 (L.map fun t => .tuple (t.map .int)) = true := by
  induction L with
  | nil => rfl
  | cons t r ih => rw [List.map_cons, PyData.canLayAll0, ih, PyData.canLay0, lay_ints]; rfl
theorem eqv_ints : ∀ a b : List Int, PyData.eqvAll (a.map .int) (b.map .int) = decide (a = b)
  | [], [] => by rw [List.map_nil, PyData.eqvAll]; rfl
  | [], _ :: _ => by simp [PyData.eqvAll]
  | _ :: _, [] => by simp [PyData.eqvAll]
  | a :: as, b :: bs => by
    rw [List.map_cons, List.map_cons, PyData.eqvAll, eqv_ints as bs, PyData.eqv]
    by_cases h : a = b <;> by_cases h2 : as = bs <;> simp [h, h2]
theorem in_tups {G : Hh} {r : Nat} {F : List (List Int)} {t : List Int} (h : G[r]? = some (.lst (F.map tupI))) : cmpop .NotIn (tupI t) (.ref r) G = some (!decide (t ∈ F)) := by
  have e : inL G (tupI t) (F.map tupI) = some (decide (t ∈ F)) := by
    unfold inL
    have e1 : dat G dfuel (tupI t) = some (.tuple (t.map .int)) := dat_tup t
    have e2 : datL (dat G dfuel) (F.map tupI) = some (F.map fun t => .tuple (t.map .int)) := datL_tups F
    rw [e1, e2]
    dsimp only
    have e3 : (PyData.tuple (t.map .int)).canLay0 = true := by rw [PyData.canLay0]; exact lay_ints t
    rw [e3, lay_tups]
    simp only [Bool.and_self, if_true, Option.some.injEq]
    rw [List.any_map]
    induction F with
    | nil => rfl
    | cons u F ih =>
      rw [List.any_cons]
      have e4 : ((fun z => PyData.eqv z (PyData.tuple (t.map .int))) ∘ fun t => PyData.tuple (t.map .int)) u = decide (u = t) := by
        show PyData.eqv (.tuple (u.map .int)) (.tuple (t.map .int)) = _
        rw [PyData.eqv, eqv_ints]
      rw [e4]
      have ih' : (F.any ((fun z => PyData.eqv z (PyData.tuple (t.map .int))) ∘ fun t => PyData.tuple (t.map .int))) = decide (t ∈ F) := by
        clear h e2 e4 ih
        induction F with
        | nil => rfl
        | cons v F ih =>
          rw [List.any_cons, ih]
          have e5 : ((fun z => PyData.eqv z (PyData.tuple (t.map .int))) ∘ fun t => PyData.tuple (t.map .int)) v = decide (v = t) := by
            show PyData.eqv (.tuple (v.map .int)) (.tuple (t.map .int)) = _
            rw [PyData.eqv, eqv_ints]
          rw [e5]
          by_cases q : v = t <;> by_cases q2 : t ∈ F <;> simp [q, q2, eq_comm]
          exact fun z => q z.symm
      rw [ih']
      by_cases q : u = t <;> by_cases q2 : t ∈ F <;> simp [q, q2, eq_comm]
      exact fun z => q z.symm
  simp only [cmpop, h]
  rw [e]
  rfl
theorem ints_back (t : List Int) : intsOf (t.map .int) = some t := by
  induction t with
  | nil => rfl
  | cons a r ih => rw [List.map_cons, intsOf, ih]; rfl
theorem tups_back : ∀ (F : List (List Int)), (∀ t ∈ F, t ≠ []) → tupsOf (F.map tupI) = some F
  | [], _ => rfl
  | t :: F, h => by
    have ih := tups_back F fun u hu => h u (List.mem_cons_of_mem _ hu)
    have ht := h t List.mem_cons_self
    cases t with
    | nil => exact absurd rfl ht
    | cons a r =>
      rw [List.map_cons]
      show tupsOf (.tup ((a :: r).map .int) :: F.map tupI) = _
      unfold tupsOf
      rw [ints_back, ih]
theorem sort_tups {F : List (List Int)} (h : ∀ t ∈ F, t ≠ []) : sortD (F.map tupI) = some ((isort lexLe F).map tupI) := by
  cases F with
  | nil => rfl
  | cons t F =>
    unfold sortD
    have e : intsOf ((t :: F).map tupI) = none := rfl
    rw [e]
    dsimp only
    rw [tups_back _ h]
theorem sorted_L {G : Hh} {r : Nat} {F : List (List Int)} (h : G[r]? = some (.lst (F.map tupI))) (hne : ∀ t ∈ F, t ≠ []) : primD .sorted [.ref r] G = .ok (.ref G.length) (G ++ [.lst ((isort lexLe F).map tupI)]) := by
  show pSorted (.ref r) G = _
  unfold pSorted Eng.listOf
  simp only [h, Option.bind_some, sort_tups hne]
  rfl
theorem in_tups' {G : Hh} {r : Nat} {F : List (List Int)} {t : List Int} (h : G[r]? = some (.lst (F.map tupI))) : cmpop .In (tupI t) (.ref r) G = some (decide (t ∈ F)) := by
  have e := in_tups (t := t) h
  simp only [cmpop, h] at e ⊢
  rw [Option.map_eq_some_iff] at e
  obtain ⟨a, e1, e2⟩ := e
  rw [e1]
  cases a <;> cases hd : decide (t ∈ F) <;> simp [hd] at e2 ⊢
theorem max_L {G : Hh} {r : Nat} {n : Int} {ns : List Int} (h : G[r]? = some (.lst ((n :: ns).map D.int))) : primD .maxL [.ref r] G = .ok (.int (maxI (n :: ns))) G := by
  show pMaxL (.ref r) G = _
  unfold pMaxL Eng.listOf
  simp only [h, Option.bind_some]
  rw [ints_back]
theorem tuple_L {G : Hh} {r : Nat} {xs : List D} (h : G[r]? = some (.lst xs)) : primD .tuple [.ref r] G = .ok (.tup xs) G := by
  show pTuple (.ref r) G = _
  unfold pTuple seqOf
  simp only [h]
theorem add_LL {G : Hh} {a b : Nat} {xs ys : List D} {Q : QD} (h1 : G[a]? = some (.lst xs)) (h2 : G[b]? = some (.lst ys)) (hl : xs.length + ys.length ≤ sizeLine) (h : Q (.ref G.length) (G ++ [.lst (xs ++ ys)])) : wBin .Add (.ref a) (.ref b) G Q := by
  show R.sp (match G[a]?, G[b]? with
    | some (.lst xs), some (.lst ys) => if xs.length + ys.length ≤ sizeLine then Eng.alloc (.lst (xs ++ ys)) G else .bad
    | _, _ => .bad) Q _
  rw [h1, h2]
  dsimp only
  rw [if_pos hl]
  exact h
theorem it_ok {G : Hh} {n : Nat} {xs : List D} (h : G[n]? = some (.lst xs)) : (It.mk xs (some n)).ok G = true := by simp [It.ok, seqOf, h]
theorem ne_nil {G : Hh} {a b : Nat} (h1 : G[a]? = some (.lst [])) (h2 : G[b]? = some (.lst [])) : cmpop .NotEq (.ref a) (.ref b) G = some false := by
  have e : eqD G (.ref a) (.ref b) = some true := by
    refine eqD_same (p := .list []) ?_ ?_ rfl
    · show (match G[a]? with | some (.lst xs) => _ | _ => _) = _
      rw [h1]; rfl
    · show (match G[b]? with | some (.lst xs) => _ | _ => _) = _
      rw [h2]; rfl
  simp only [cmpop]
  rw [e]
  rfl
theorem sort_same {a b : List (List Int)} (h : ∀ t, t ∈ a ↔ t ∈ b) : isort lexLe (dedup a) = isort lexLe (dedup b) := by
  refine sorted_unique lexLe_anti ?_ (isort_sorted lexLe_tot lexLe_tr _) (isort_sorted lexLe_tot lexLe_tr _)
  refine ((isort_perm _ _).trans ?_).trans (isort_perm _ _).symm
  exact (List.perm_ext_iff_of_nodup (dedup_nodup a) (dedup_nodup b)).mpr fun t => by rw [dedup_mem, dedup_mem, h]
/-- what may be shown -/
structure Rp (G : Hh) (d : D) (p : PyData) : Prop where
  dat : datR G dfuel d = some p
  sh : shP p = true
  sz : szP p ≤ sizeLine
  dp : p.depth ≤ 40
theorem repr_rp {G : Hh} {d : D} {p : PyData} (h : Rp G d p) : primD .repr [d] G = .ok (.str p.shown) G := by
  show reprD G d = _
  unfold reprD
  rw [h.dat]
  dsimp only
  rw [if_pos ⟨h.sh, h.sz, h.dp⟩]
theorem datR_le {G G' : Hh} (l : Le G G') : ∀ (n : Nat) (d : D) (p : PyData), datR G n d = some p → datR G' n d = some p
  | 0, _, _, h => by cases h
  | n + 1, d, p, h => by
    have hL : ∀ (xs : List D) (ps : List PyData), datL (datR G n) xs = some ps → datL (datR G' n) xs = some ps := by
      intro xs
      induction xs with
      | nil => intro ps h; exact h
      | cons x xs ih =>
        intro ps h
        unfold datL at h ⊢
        cases e : datR G n x with
        | none => rw [e] at h; cases h
        | some y =>
          rw [e] at h
          rw [datR_le l n x y e]
          dsimp only at h ⊢
          cases e2 : datL (datR G n) xs with
          | none => rw [e2] at h; cases h
          | some ys => rw [e2] at h; rw [ih ys e2]; exact h
    have hK : ∀ (xs : List (D × D)) (ps : List (PyData × PyData)), datKv (datR G n) xs = some ps → datKv (datR G' n) xs = some ps := by
      intro xs
      induction xs with
      | nil => intro ps h; exact h
      | cons x xs ih =>
        intro ps h
        unfold datKv at h ⊢
        cases e0 : keyDat x.1 with
        | none => rw [e0] at h; cases h
        | some k =>
          cases e : datR G n x.2 with
          | none => rw [e0, e] at h; cases h
          | some y =>
            cases e2 : datKv (datR G n) xs with
            | none => rw [e0, e, e2] at h; cases h
            | some ys =>
              rw [e0, e, e2] at h
              rw [datR_le l n x.2 y e, ih ys e2]
              exact h
    cases d with
    | ref r =>
      unfold datR at h ⊢
      dsimp only at h ⊢
      cases e : G[r]? with
      | none => rw [e] at h; cases h
      | some o =>
        rw [e] at h
        rw [l _ _ e]
        cases o with
        | lst xs =>
          dsimp only at h ⊢
          cases e2 : datL (datR G n) xs with
          | none => rw [e2] at h; cases h
          | some ys => rw [e2] at h; rw [hL xs ys e2]; exact h
        | dic kvs =>
          dsimp only at h ⊢
          cases e2 : datKv (datR G n) kvs with
          | none => rw [e2] at h; cases h
          | some ys => rw [e2] at h; rw [hK kvs ys e2]; exact h
        | ins _ _ => cases h
        | exc _ _ => cases h
    | tup xs =>
      unfold datR at h ⊢
      dsimp only at h ⊢
      cases e2 : datL (datR G n) xs with
      | none => rw [e2] at h; cases h
      | some ys => rw [e2] at h; rw [hL xs ys e2]; exact h
    | non => exact h
    | bl _ => exact h
    | int _ => exact h
    | str _ => exact h
    | scr _ => exact h
theorem Rp.le {G G' : Hh} {d : D} {p : PyData} (h : Rp G d p) (l : Le G G') : Rp G' d p := ⟨datR_le l _ _ _ h.dat, h.sh, h.sz, h.dp⟩
theorem strOk_lay {p : PyData} (h : shP p = true) : PyData.strOk p.shown = true := (shown_ok p h).2.1
/-- what is told of a refusal is what is due -/
theorem told_due {G : Hh} {f g : Nat} {a b : Bool} {p : PyData} (h1 : G[f]? = some (.lst [.bl a, .bl b, .str p.shown])) (h2 : G[g]? = some (.lst [.bl a, .bl b, .str p.shown])) (hp : shP p = true) : cmpop .NotEq (.ref f) (.ref g) G = some false := by
  have e : eqD G (.ref f) (.ref g) = some true := by
    refine eqD_same (p := .list [.bool a, .bool b, .str p.shown]) ?_ ?_ ?_
    · show (match G[f]? with | some (.lst xs) => _ | _ => _) = _
      rw [h1]; rfl
    · show (match G[g]? with | some (.lst xs) => _ | _ => _) = _
      rw [h2]; rfl
    · rw [PyData.canLay0, PyData.canLayAll0, PyData.canLayAll0, PyData.canLayAll0, PyData.canLay0, PyData.canLay0, PyData.canLay0, strOk_lay hp, PyData.canLayAll0]
      rfl
  simp only [cmpop]
  rw [e]
  rfl
def mores (n : Nat) : List D := List.replicate n (.str "more")
def moresP (n : Nat) : List PyData := List.replicate n (.str "more")
theorem mores_succ (n : Nat) : mores n ++ [.str "more"] = mores (n + 1) := by
  show List.replicate n _ ++ [_] = List.replicate (n + 1) _
  rw [List.replicate_succ']
theorem datL_more (G : Hh) (k n : Nat) : datL (datR G (k + 1)) (mores n) = some (moresP n) := by
  induction n with
  | zero => rfl
  | succ n ih =>
    show datL _ (.str "more" :: mores n) = some (.str "more" :: moresP n)
    unfold datL
    rw [ih]
    rfl
theorem mores_sh (a b : Int) : ∀ n : Fin 65, shP (.list (moresP n)) = true ∧ szP (.list (moresP n)) ≤ 16777216 ∧ (PyData.list (moresP n)).depth ≤ 40 := by decide +kernel
theorem mores_sh1 : ∀ n : Fin 65, shP (.list (.int 1 :: moresP n)) = true ∧ szP (.list (.int 1 :: moresP n)) ≤ 16777216 ∧ (PyData.list (.int 1 :: moresP n)).depth ≤ 40 := by decide +kernel
theorem mores_sh2 : ∀ n : Fin 65, shP (.list (.int 0 :: .int 0 :: moresP n)) = true ∧ szP (.list (.int 0 :: .int 0 :: moresP n)) ≤ 16777216 ∧ (PyData.list (.int 0 :: .int 0 :: moresP n)).depth ≤ 40 := by decide +kernel
theorem rp_more0 {G : Hh} {r n : Nat} (h : G[r]? = some (.lst (mores n))) (hn : n < 65) : Rp G (.ref r) (.list (moresP n)) := by
  obtain ⟨a, b, c⟩ := mores_sh 0 0 ⟨n, hn⟩
  refine ⟨?_, a, by rw [szl]; exact b, c⟩
  unfold dfuel
  unfold datR
  dsimp only
  rw [h]
  dsimp only
  rw [datL_more]
theorem rp_more1 {G : Hh} {r n : Nat} (h : G[r]? = some (.lst (.int 1 :: mores n))) (hn : n < 65) : Rp G (.ref r) (.list (.int 1 :: moresP n)) := by
  obtain ⟨a, b, c⟩ := mores_sh1 ⟨n, hn⟩
  refine ⟨?_, a, by rw [szl]; exact b, c⟩
  unfold dfuel
  unfold datR
  dsimp only
  rw [h]
  dsimp only
  unfold datL
  rw [datL_more]
  rfl
theorem rp_more2 {G : Hh} {r n : Nat} (h : G[r]? = some (.lst (.int 0 :: .int 0 :: mores n))) (hn : n < 65) : Rp G (.ref r) (.list (.int 0 :: .int 0 :: moresP n)) := by
  obtain ⟨a, b, c⟩ := mores_sh2 ⟨n, hn⟩
  refine ⟨?_, a, by rw [szl]; exact b, c⟩
  unfold dfuel
  unfold datR
  dsimp only
  rw [h]
  dsimp only
  unfold datL
  unfold datL
  rw [datL_more]
  rfl
theorem it_okg {G : Hh} {g : Nat} {xs : List D} (h : G[g]? = some (.lst xs)) : It.ok ⟨xs, some g⟩ G = true := by
  simp [It.ok, seqOf, h]
theorem rp_ok {G : Hh} {d : D} {p : PyData} (h : datR G dfuel d = some p) (hc : (shP p && decide (szP p ≤ 16777216) && decide (p.depth ≤ 40)) = true) : Rp G d p := by
  simp only [Bool.and_eq_true, decide_eq_true_eq] at hc
  exact ⟨h, hc.1.1, by rw [szl]; exact hc.1.2, hc.2⟩
theorem dat_dic {G : Hh} {r : Nat} (h : G[r]? = some (.dic [])) (n : Nat) : datR G (n + 1) (.ref r) = some (.dict []) := by
  unfold datR
  simp only [h]
  rfl
theorem dat_lst0 {G : Hh} {r : Nat} (h : G[r]? = some (.lst [.int 0])) (n : Nat) : datR G (n + 2) (.ref r) = some (.list [.int 0]) := by
  unfold datR
  simp only [h]
  rfl
/-- a tuple of ints, a list of such, as data -/
def datT (t : List Int) : PyData := .tuple (t.map .int)
def datTs (T : List (List Int)) : PyData := .list (T.map datT)
theorem datL_ints (G : Hh) (n : Nat) : ∀ t : List Int, datL (datR G (n + 1)) (t.map .int) = some (t.map .int)
  | [] => rfl
  | x :: t => by
    show datL _ (.int x :: t.map .int) = _
    unfold datL
    rw [datL_ints G n t]
    rfl
theorem datLR_tups (G : Hh) (n : Nat) : ∀ T : List (List Int), datL (datR G (n + 2)) (T.map tupI) = some (T.map datT)
  | [] => rfl
  | t :: T => by
    show datL _ (tupI t :: T.map tupI) = _
    unfold datL
    rw [datLR_tups G n T]
    have e : datR G (n + 2) (tupI t) = some (datT t) := by
      show datR G (n + 2) (.tup (t.map .int)) = _
      unfold datR
      simp only [datL_ints]
      rfl
    rw [e]
    rfl
theorem dat_tups {G : Hh} {f : Nat} {T : List (List Int)} (h : G[f]? = some (.lst (T.map tupI))) : datR G dfuel (.ref f) = some (datTs T) := by
  unfold dfuel
  unfold datR
  simp only [h, datLR_tups]
  rfl
theorem log_lt {i : Int} (h : i.natAbs < 2 ^ 100) : i.natAbs.log2 < 1920 := by
  by_cases h0 : i.natAbs = 0
  · rw [h0]; decide +kernel
  · exact (Nat.log2_lt h0).mpr (Nat.lt_of_lt_of_le h (Nat.pow_le_pow_right (by decide) (by decide)))
/-- pairs of ints, none large -/
def Small (T : List (List Int)) : Prop := ∀ t ∈ T, ∃ x y : Int, t = [x, y] ∧ x.natAbs < 2 ^ 100 ∧ y.natAbs < 2 ^ 100
theorem sh_small : ∀ {T : List (List Int)}, Small T → shPs (T.map datT) = true
  | [], _ => rfl
  | t :: T, h => by
    obtain ⟨x, y, rfl, h1, h2⟩ := h t List.mem_cons_self
    have ih := sh_small (T := T) fun u hu => h u (List.mem_cons_of_mem _ hu)
    have e1 := log_lt h1
    have e2 := log_lt h2
    simp [datT, shP, shPs, ih, e1, e2]
theorem sz_small : ∀ {T : List (List Int)}, Small T → szPs (T.map datT) = 3851 * T.length
  | [], _ => rfl
  | t :: T, h => by
    obtain ⟨x, y, rfl, h1, h2⟩ := h t List.mem_cons_self
    have ih := sz_small (T := T) fun u hu => h u (List.mem_cons_of_mem _ hu)
    simp [datT, szP, szPs, ih]
    omega
theorem rp_small {G : Hh} {f : Nat} {T : List (List Int)} (h : G[f]? = some (.lst (T.map tupI))) (hs : Small T) (hl : T.length ≤ 60) (hd : (datTs T).depth ≤ 40) : Rp G (.ref f) (datTs T) := by
  refine ⟨dat_tups h, ?_, ?_, hd⟩
  · show shP (.list _) = true
    unfold shP
    exact sh_small hs
  · show szP (.list _) ≤ _
    unfold szP
    rw [sz_small hs, szl]
    omega
theorem le_set_new {G G' : Hh} {f : Nat} {o : O} (h : Le G G') (hf : G.length ≤ f) : Le G (G'.set f o) := fun i u e => by
  rw [List.getElem?_set_ne (by have := get_lt e; omega)]
  exact h _ _ e
theorem dep_small : ∀ {T : List (List Int)}, Small T → (datTs T).depth ≤ 40 := by
  intro T h
  unfold datTs
  induction T with
  | nil => decide +kernel
  | cons t T ih =>
    obtain ⟨x, y, rfl, h1, h2⟩ := h t List.mem_cons_self
    have ih := ih fun u hu => h u (List.mem_cons_of_mem _ hu)
    simp [PyData.depth, PyData.depthAll, datT] at ih ⊢
    omega
theorem tup_ne {G : Hh} {a b : Nat} {T : List (List Int)} (h1 : G[a]? = some (.lst (T.map tupI))) (h2 : G[b]? = some (.lst (T.map tupI))) : cmpop .NotEq (.ref a) (.ref b) G = some false := by
  have hd : ∀ {f : Nat}, G[f]? = some (.lst (T.map tupI)) → dat G dfuel (.ref f) = some (.list (T.map fun t => .tuple (t.map .int))) := fun {f} h => by
    unfold dfuel
    unfold dat
    simp only [h, datL_tups]
  have e : eqD G (.ref a) (.ref b) = some true := by
    refine eqD_same (hd h1) (hd h2) ?_
    rw [PyData.canLay0]
    exact lay_tups T
  simp only [cmpop]
  rw [e]
  rfl
theorem _root_.Eng.LeX.keep {m : Nat} {G G0 G' : Hh} (h : LeX m G0 G') (l : Le G G0) (hm : G.length ≤ m) : Le G G' := fun i o e => h.2 i o (by have := get_lt e; omega) (l _ _ e)
theorem str_ne {G : Hh} {p : PyData} (hp : shP p = true) : cmpop .NotEq (.str p.shown) (.str p.shown) G = some false := by
  have e : eqD G (.str p.shown) (.str p.shown) = some true := by
    refine eqD_same (p := .str p.shown) rfl rfl ?_
    rw [PyData.canLay0, strOk_lay hp]
  simp only [cmpop]
  rw [e]
  rfl
theorem add_i {a b : Int} {G : Hh} {Q : QD} (h : Q (.int (a + b)) G) : wBin .Add (.int a) (.int b) G Q := h
theorem new_sp {A : R D} {r : Nat} {Q : QD} {X : XD} (h : A.sp (fun d G => d = .non ∧ Q (.ref r) G) X) : (A.bind fun r' G3 => match r' with | .non => .ok (.ref r) G3 | _ => .bad).sp Q X := by
  cases A with
  | ok d G =>
    obtain ⟨rfl, q⟩ := h
    exact q
  | exc _ _ _ => exact h
  | bad => exact h
end Eng
end
section
set_option Elab.async false
set_option linter.all false
set_option maxRecDepth 100000
set_option maxHeartbeats 4000000
/-! Plain facts for the laws: comparisons that may ask an own ==. Own work. -/
namespace Eng
open PySem L2
theorem own_lst {P : Prg} {G : Hh} {a : Nat} {xs : List D} (h : G[a]? = some (.lst xs)) : ownEq P G (.ref a) = none := by
  simp only [ownEq, h]
theorem cmo_nil {c : Cfg} {G : Hh} {a b : Nat} {xs : List D} {ne : Bool} (h1 : G[a]? = some (.lst xs)) (h2 : G[b]? = some (.lst [])) : cmoR c ne (.ref a) (.ref b) G = .ok (.bl (xs.isEmpty != ne)) G := by
  unfold cmoR
  rw [own_lst h1, own_lst h2]
  simp only [eqSame, lensNe, h1, h2]
  cases xs with
  | nil => cases ne <;> simp
  | cons x xs => cases ne <;> simp
theorem cmo_same {c : Cfg} {G : Hh} {a b : Nat} {xs : List D} {ne : Bool} (h1 : G[a]? = some (.lst xs)) (h2 : G[b]? = some (.lst xs)) (h : xs.all (sameD 8) = true) : cmoR c ne (.ref a) (.ref b) G = .ok (.bl (!ne)) G := by
  unfold cmoR
  rw [own_lst h1, own_lst h2]
  simp only [eqSame, h1, h2, h]
  simp
theorem sames_ints : ∀ t : List Int, sameDs 7 (t.map .int) = true
  | [] => by simp [sameDs]
  | a :: r => by
    rw [List.map_cons, sameDs, sames_ints r]
    simp [sameD]
theorem same_tupI (t : List Int) : sameD 8 (tupI t) = true := by
  show sameD (7 + 1) (.tup (t.map .int)) = true
  rw [sameD]
  exact sames_ints t
theorem all_same (L : List (List Int)) : (L.map tupI).all (sameD 8) = true := by
  rw [List.all_eq_true]
  intro x hx
  obtain ⟨t, _, rfl⟩ := List.mem_map.mp hx
  exact same_tupI t
/-- an own ==, its answer -/
theorem cmo_left {c : Cfg} {G : Hh} {x y : D} {sh : Nat} {Q : QD} {X : XD} (ho : ownEq c.P G x = some sh) (hy : (plainV G y || insV c.P G y) = true) (h : (callS c sh [x, y] [] G).sp (fun d G' => ∃ b, d = .bl b ∧ Q (.bl b) G') (fun _ _ _ => False)) : (cmoR c false x y G).sp Q X := by
  unfold cmoR
  rw [ho]
  dsimp only
  rw [if_pos hy]
  cases e : callS c sh [x, y] [] G with
  | ok d G' =>
    rw [e] at h
    obtain ⟨b, rfl, h⟩ := h
    simp only [Bool.false_eq_true, if_false, finB]
    rw [show (b != false) = b by cases b <;> rfl]
    exact h
  | exc k f G' => rw [e] at h; exact h.elim
  | bad => rw [e] at h; exact h.elim
theorem cmo_leftN {c : Cfg} {G : Hh} {x y : D} {sh : Nat} {Q : QD} {X : XD} (ho : ownEq c.P G x = some sh) (hy : (plainV G y || insV c.P G y) = true) (h : (callM c sh [x, y] [] G).sp (fun d G' => ∃ b, d = .bl b ∧ Q (.bl (!b)) G') (fun _ _ _ => False)) : (cmoR c true x y G).sp Q X := by
  unfold cmoR
  rw [ho]
  dsimp only
  rw [if_pos hy]
  cases e : callM c sh [x, y] [] G with
  | ok d G' =>
    rw [e] at h
    obtain ⟨b, rfl, h⟩ := h
    simp only [if_true, finB]
    rw [show (b != true) = !b by cases b <;> rfl]
    exact h
  | exc k f G' => rw [e] at h; exact h.elim
  | bad => rw [e] at h; exact h.elim
theorem cmo_right {c : Cfg} {G : Hh} {x y : D} {sh : Nat} {Q : QD} {X : XD} (hx : ownEq c.P G x = none) (ho : ownEq c.P G y = some sh) (hp : plainV G x = true) (h : (callS c sh [y, x] [] G).sp (fun d G' => ∃ b, d = .bl b ∧ Q (.bl b) G') (fun _ _ _ => False)) : (cmoR c false x y G).sp Q X := by
  unfold cmoR
  rw [hx, ho]
  simp only [hp, Bool.not_false, Bool.and_self, if_true]
  cases e : callS c sh [y, x] [] G with
  | ok d G' =>
    rw [e] at h
    obtain ⟨b, rfl, h⟩ := h
    simp only [finB]
    rw [show (b != false) = b by cases b <;> rfl]
    exact h
  | exc k f G' => rw [e] at h; exact h.elim
  | bad => rw [e] at h; exact h.elim
theorem own_ins {P : Prg} {G : Hh} {a k : Nat} {fs : List (Nat × D)} {cl : Clz} (h : G[a]? = some (.ins k fs)) (hc : P.cls[k]? = some cl) : ownEq P G (.ref a) = cl.eq := by
  simp only [ownEq, h, hc]
theorem ins_ins {P : Prg} {G : Hh} {a k : Nat} {fs : List (Nat × D)} {cl : Clz} (h : G[a]? = some (.ins k fs)) (hc : P.cls[k]? = some cl) : insV P G (.ref a) = true := by
  simp only [insV, h, hc]
  rfl
end Eng
end
section
set_option Elab.async false
set_option linter.all false
set_option maxRecDepth 100000
set_option maxHeartbeats 4000000
/-! K01: the program in the small language, its facts. Printed by gen.py (own work). -/
namespace K01
open PySem PySem.Spec PyProof.Rows L2 He Eng
def b_law : Ss := (.cons (.set 1 (.cal 0 (.cons (.cal 1 (.cons (.var 0) (.cons (.con (.int 0)) .nil)) .nil) (.cons (.bin .Pow (.con (.int 10)) (.con (.int 12))) .nil)) .nil)) (.cons (.set 2 (.lst (.cons (.cal 2 (.cons (.var 1) .nil) .nil) (.cons (.cal 3 (.cons (.con (.str "elder")) .nil) .nil) .nil)))) (.cons (.lop (.nm 3) (.e (.lst (.cons (.var 1) (.cons (.bin .Sub (.con (.int 0)) (.var 1)) (.cons (.tup (.cons (.con (.int 1)) (.cons (.con (.int 2)) .nil))) (.cons (.tup .nil) (.cons (.lst (.cons (.con (.int 1)) .nil)) (.cons (.lst .nil) (.cons .dnw (.cons (.dsp "a" (.lst (.cons (.var 1) .nil))) (.cons (.con (.str "a b")) (.cons (.con (.str "")) (.cons (.con (.bl true)) (.cons (.con .non) (.cons (.tup (.cons (.con (.str "f")) (.cons (.con (.int 2)) .nil))) .nil))))))))))))))) (.cons (.par 4 5 (.cal 2 (.cons (.var 3) .nil) .nil) (.cal 3 (.cons (.var 3) .nil) .nil)) (.cons (.ife (.or (.not (.val (.cal 4 (.cons (.var 4) (.cons (.var 3) .nil)) .nil))) (.one (.not (.val (.cal 4 (.cons (.var 5) (.cons (.var 3) .nil)) .nil))))) (.cons (.ret (.con (.bl false))) .nil) .nil) (.cons (.ife (.val (.isi (.var 3) (.b "list"))) (.cons (.exp (.bme .append (.var 3) (.cons (.con (.str "more")) .nil))) .nil) .nil) (.cons (.ife (.val (.isi (.var 3) (.b "dict"))) (.cons (.sst (.var 3) (.con (.str "more")) (.lst (.cons (.con (.int 1)) .nil))) .nil) .nil) (.cons (.ife (.or (.not (.val (.cal 4 (.cons (.var 4) (.cons (.var 3) .nil)) .nil))) (.one (.not (.val (.cal 4 (.cons (.var 5) (.cons (.var 3) .nil)) .nil))))) (.cons (.ret (.con (.bl false))) .nil) .nil) .nil)))))) (.cons (.ife (.or (.not (.val (.cal 4 (.cons (.sub (.var 2) (.con (.int 0))) (.cons (.var 1) .nil)) .nil))) (.or (.not (.val (.cal 4 (.cons (.sub (.var 2) (.con (.int 1))) (.cons (.con (.str "elder")) .nil)) .nil))) (.one (.not (.val (.cal 4 (.cons (.cal 5 .nil .nil) (.cons (.con .non) .nil)) .nil)))))) (.cons (.ret (.con (.bl false))) .nil) .nil) (.cons (.ret (.cmp .Eq (.cal 6 (.cons (.exn 17 false .nil .nil) .nil) .nil) (.lst (.cons (.con (.int 16)) .nil)))) .nil)))))
abbrev f_law : Nat := 0
def b_law_random : Ss := (.cons (.ife (.cmp .Gt (.sub (.var 0) (.con (.int 0))) (.con (.int 0))) (.cons (.set 2 (.bin .Mod (.prm .int (.cons (.sub (.var 0) (.con (.int 0))) .nil)) (.var 1))) (.cons (.sst (.var 0) (.con (.int 0)) (.bin .FloorDiv (.sub (.var 0) (.con (.int 0))) (.var 1))) (.cons (.ret (.var 2)) .nil))) .nil) (.cons (.set 2 (.con (.int 0))) (.cons (.lop (.nm 3) (.r1 (.bin .Add (.con (.int 1)) (.bin .FloorDiv (.bme .bits (.var 1) .nil) (.con (.int 30))))) (.cons (.sst (.var 0) (.con (.int 2)) (.bin .Add (.sub (.var 0) (.con (.int 2))) (.con (.int 1)))) (.cons (.set 2 (.bin .Add (.bin .Mult (.var 2) (.con (.int 2147483587))) (.cal 7 (.cons (.sub (.var 0) (.con (.int 1))) (.cons (.sub (.var 0) (.con (.int 2))) .nil)) .nil))) .nil))) (.cons (.ret (.bin .Mod (.prm .int (.cons (.var 2) .nil)) (.var 1))) .nil))))
abbrev f_law_random : Nat := 1
def b_law_generator : Ss := (.cons (.set 2 (.cal 8 (.cons (.var 0) (.cons (.var 1) .nil)) .nil)) (.cons (.ret (.lst (.cons (.bin .Mod (.prm .int (.cons (.prm .max2 (.cons (.bin .Sub (.var 2) (.bin .Pow (.con (.int 10)) (.con (.int 18)))) (.cons (.con (.int 0)) .nil))) .nil)) (.bin .Pow (.bin .Pow (.con (.int 10)) (.con (.int 60))) (.con (.int 10)))) (.cons (.bin .Mod (.prm .int (.cons (.var 2) .nil)) (.con (.int 2147483647))) (.cons (.bin .Mult (.con (.int 1000)) (.var 1)) .nil))))) .nil))
abbrev f_law_generator : Nat := 2
def b_law_placed : Ss := (.cons (.set 1 (.lst (.cons (.exn 1 false (.cons (.var 0) .nil) .nil) (.cons (.exn 2 false (.cons (.var 0) .nil) .nil) (.cons (.exn 3 false (.cons (.var 0) .nil) .nil) (.cons (.exn 4 false (.cons (.var 0) .nil) .nil) (.cons (.exn 5 false (.cons (.var 0) .nil) .nil) .nil))))))) (.cons (.set 1 (.bin .Add (.var 1) (.lst (.cons (.exn 6 false (.cons (.var 0) .nil) .nil) (.cons (.exn 7 false (.cons (.var 0) .nil) .nil) (.cons (.exn 8 false (.cons (.var 0) .nil) .nil) (.cons (.exn 9 false (.cons (.var 0) .nil) .nil) .nil))))))) (.cons (.set 1 (.bin .Add (.var 1) (.lst (.cons (.exn 10 false (.cons (.var 0) .nil) .nil) (.cons (.exn 11 false (.cons (.var 0) .nil) .nil) (.cons (.exn 12 false (.cons (.var 0) .nil) .nil) (.cons (.exn 13 false (.cons (.var 0) .nil) .nil) .nil))))))) (.cons (.ret (.bin .Add (.var 1) (.lst (.cons (.exn 14 false (.cons (.var 0) .nil) .nil) (.cons (.exn 15 false (.cons (.var 0) .nil) .nil) (.cons (.exn 16 false (.cons (.var 0) .nil) .nil) .nil)))))) .nil))))
abbrev f_law_placed : Nat := 3
def b_law_named : Ss := (.cons (.set 1 (.lst (.cons (.exn 1 true .nil (.cons (.var 0) .nil)) (.cons (.exn 2 true .nil (.cons (.var 0) .nil)) (.cons (.exn 3 true .nil (.cons (.var 0) .nil)) (.cons (.exn 4 true .nil (.cons (.var 0) .nil)) .nil)))))) (.cons (.set 1 (.bin .Add (.var 1) (.lst (.cons (.exn 5 true .nil (.cons (.var 0) .nil)) (.cons (.exn 6 true .nil (.cons (.var 0) .nil)) (.cons (.exn 7 true .nil (.cons (.var 0) .nil)) .nil)))))) (.cons (.set 1 (.bin .Add (.var 1) (.lst (.cons (.exn 8 true .nil (.cons (.var 0) .nil)) (.cons (.exn 9 true .nil (.cons (.var 0) .nil)) (.cons (.exn 10 true .nil (.cons (.var 0) .nil)) .nil)))))) (.cons (.set 1 (.bin .Add (.var 1) (.lst (.cons (.exn 11 true .nil (.cons (.var 0) .nil)) (.cons (.exn 12 true .nil (.cons (.var 0) .nil)) (.cons (.exn 13 true .nil (.cons (.var 0) .nil)) .nil)))))) (.cons (.ret (.bin .Add (.var 1) (.lst (.cons (.exn 14 true .nil (.cons (.var 0) .nil)) (.cons (.exn 15 true .nil (.cons (.var 0) .nil)) (.cons (.exn 16 true .nil (.cons (.var 0) .nil)) .nil)))))) .nil)))))
abbrev f_law_named : Nat := 4
def b_law_right : Ss := (.cons (.ife (.cmp .NotEq (.lc (.cal 6 (.cons (.var 3) .nil) .nil) (.nm 3) (.e (.var 0)) .no [3]) (.lc (.lst (.cons (.var 4) .nil)) (.nm 4) (.r1 (.con (.int 16))) .no [4])) (.cons (.ret (.con (.bl false))) .nil) .nil) (.cons (.set 2 (.bin .Add (.lc (.fld (.var 3) 5) (.nm 3) (.e (.slc (.var 0) .no (.yes (.con (.int 13))))) .no [3]) (.lc (.fld (.var 3) 6) (.nm 3) (.e (.slc (.var 0) (.yes (.con (.int 13))) .no)) .no [3]))) (.cons (.ret (.cmp .Eq (.prm .repr (.cons (.var 2) .nil)) (.prm .repr (.cons (.bin .Mult (.lst (.cons (.var 1) .nil)) (.con (.int 16))) .nil)))) .nil)))
abbrev f_law_right : Nat := 5
def b_law_bare : Ss := (.cons (.set 0 (.lst (.cons (.exn 1 false .nil .nil) (.cons (.exn 2 false .nil .nil) (.cons (.exn 3 false .nil .nil) (.cons (.exn 4 false .nil .nil) (.cons (.exn 5 false .nil .nil) (.cons (.exn 6 false .nil .nil) .nil)))))))) (.cons (.set 0 (.bin .Add (.var 0) (.lst (.cons (.exn 7 false .nil .nil) (.cons (.exn 8 false .nil .nil) (.cons (.exn 9 false .nil .nil) (.cons (.exn 10 false .nil .nil) (.cons (.exn 11 false .nil .nil) (.cons (.exn 12 false .nil .nil) .nil))))))))) (.cons (.ret (.bin .Add (.var 0) (.lst (.cons (.exn 13 false .nil .nil) (.cons (.exn 14 false .nil .nil) (.cons (.exn 15 false .nil .nil) (.cons (.exn 16 false .nil .nil) .nil))))))) .nil)))
abbrev f_law_bare : Nat := 6
def b_law_kinds : Ss := (.cons (.set 1 (.lst (.cons (.isi (.var 0) (.x 1)) (.cons (.isi (.var 0) (.x 2)) (.cons (.isi (.var 0) (.x 3)) .nil))))) (.cons (.set 1 (.bin .Add (.var 1) (.lst (.cons (.isi (.var 0) (.x 4)) (.cons (.isi (.var 0) (.x 5)) (.cons (.isi (.var 0) (.x 6)) .nil)))))) (.cons (.set 1 (.bin .Add (.var 1) (.lst (.cons (.isi (.var 0) (.x 7)) (.cons (.isi (.var 0) (.x 8)) .nil))))) (.cons (.set 1 (.bin .Add (.var 1) (.lst (.cons (.isi (.var 0) (.x 9)) (.cons (.isi (.var 0) (.x 10)) .nil))))) (.cons (.set 1 (.bin .Add (.var 1) (.lst (.cons (.isi (.var 0) (.x 11)) (.cons (.isi (.var 0) (.x 12)) (.cons (.isi (.var 0) (.x 13)) .nil)))))) (.cons (.set 1 (.bin .Add (.var 1) (.lst (.cons (.isi (.var 0) (.x 14)) (.cons (.isi (.var 0) (.x 15)) (.cons (.isi (.var 0) (.x 16)) .nil)))))) (.cons (.ife (.or (.not (.val (.isi (.var 0) (.x 0)))) (.one (.not (.val (.isi (.var 0) (.b "ValueError")))))) (.cons (.ret (.lst .nil)) .nil) .nil) (.cons (.ret (.lc (.var 2) (.nm 2) (.r1 (.con (.int 17))) (.yes (.val (.sub (.bin .Add (.var 1) (.lst (.cons (.isi (.var 0) (.x 17)) .nil))) (.var 2)))) [2])) .nil))))))))
abbrev f_law_kinds : Nat := 7
def b_law_hash : Ss := (.cons (.set 2 (.bin .Mod (.prm .int (.cons (.bin .Add (.bin .Add (.bin .Add (.bin .Mult (.var 0) (.con (.int 1103515245))) (.bin .Mult (.bin .Mult (.con (.int 7919)) (.var 1)) (.var 1))) (.var 1)) (.con (.int 1))) .nil)) (.con (.int 2147483647)))) (.cons (.set 2 (.bin .Mod (.prm .int (.cons (.bin .Add (.bin .Mult (.var 2) (.var 2)) (.con (.int 69621))) .nil)) (.con (.int 2147483629)))) (.cons (.ret (.bin .Mod (.prm .int (.cons (.bin .Mult (.var 2) (.con (.int 48271))) .nil)) (.con (.int 2147483587)))) .nil)))
abbrev f_law_hash : Nat := 8
def b_law_cell : Ss := (.cons (.ife (.cmp .Lt (.var 1) (.prm .len (.cons (.var 0) .nil))) (.cons (.ret (.sub (.var 0) (.var 1))) .nil) .nil) (.cons (.ret (.con (.int 0))) .nil))
abbrev f_law_cell : Nat := 9
def fnL : List Fn := [⟨1, 6, b_law⟩, ⟨2, 4, b_law_random⟩, ⟨2, 3, b_law_generator⟩, ⟨1, 2, b_law_placed⟩, ⟨1, 2, b_law_named⟩, ⟨2, 5, b_law_right⟩, ⟨0, 1, b_law_bare⟩, ⟨1, 3, b_law_kinds⟩, ⟨2, 3, b_law_hash⟩, ⟨2, 2, b_law_cell⟩]
def prg : Prg where
  kinds := [.b "NoneType", .b "bool", .b "int", .b "str", .b "tuple", .b "list", .b "dict", .b "ValueError", .x 0, .x 1, .x 2, .x 3, .x 4, .x 5, .x 6, .x 7, .x 8, .x 9, .x 10, .x 11, .x 12, .x 13, .x 14, .x 15, .x 16, .x 17]
  names := ["audible", "hears", "places", "links", "reach", "value", "name"]
  fns := fnL
  cls := []
  exs := [⟨none, [0]⟩, ⟨some 5, [1, 0]⟩, ⟨some 5, [2, 0]⟩, ⟨some 5, [3, 0]⟩, ⟨some 5, [4, 0]⟩, ⟨some 5, [5, 0]⟩, ⟨some 5, [6, 0]⟩, ⟨some 5, [7, 0]⟩, ⟨some 5, [8, 0]⟩, ⟨some 5, [9, 0]⟩, ⟨some 5, [10, 0]⟩, ⟨some 5, [11, 0]⟩, ⟨some 5, [12, 0]⟩, ⟨some 5, [13, 0]⟩, ⟨some 6, [14, 0]⟩, ⟨some 6, [15, 0]⟩, ⟨some 6, [16, 0]⟩, ⟨none, [17, 0]⟩]
  shs := [⟨1, 2, [], [.inl 0, .inl 1]⟩, ⟨2, 2, [], [.inl 0, .inl 1]⟩, ⟨3, 1, [], [.inl 0]⟩, ⟨4, 1, [], [.inl 0]⟩, ⟨5, 2, [], [.inl 0, .inl 1]⟩, ⟨6, 0, [], []⟩, ⟨7, 1, [], [.inl 0]⟩, ⟨8, 2, [], [.inl 0, .inl 1]⟩, ⟨9, 2, [], [.inl 0, .inl 1]⟩]
def tb : Tb where
  P := prg
  fnm := [some "law", some "_law_random", some "_law_generator", some "_law_placed", some "_law_named", some "_law_right", some "_law_bare", some "_law_kinds", some "_law_hash", some "_law_cell"]
  cnm := []
  xnm := ["WatchError", "InvalidNumber", "InvalidList", "InvalidItem", "InvalidWeb", "InvalidSpot", "InvalidPlan", "InvalidNeeds", "InvalidHeard", "InvalidRule", "InvalidPrices", "InvalidText", "Taken", "Vacant", "InvalidName", "TakenName", "UnknownName", "NothingToUndo"]
  cst := []
  free := ["ValueError", "dict", "int", "isinstance", "len", "list", "max", "range", "repr"]
def top (i : Nat) : Stmt := PySem.Challenge.pw_hearunlike_k01_errors.main.body.getD i (.Pass ⟨0, 0, 0, 0⟩)
def inn (i j : Nat) : Stmt := match top i with
  | .ClassDef _ _ _ b _ _ _ _ _ _ _ => b.getD j (.Pass ⟨0, 0, 0, 0⟩)
  | s => s
def d0 : DefD := ⟨("law", none), "law", "law", defArgs (top 29), defBody (top 29), defScope (top 29), [], []⟩
def d1 : DefD := ⟨("_law_random", none), "_law_random", "_law_random", defArgs (top 23), defBody (top 23), defScope (top 23), [], []⟩
def d2 : DefD := ⟨("_law_generator", none), "_law_generator", "_law_generator", defArgs (top 22), defBody (top 22), defScope (top 22), [], []⟩
def d3 : DefD := ⟨("_law_placed", none), "_law_placed", "_law_placed", defArgs (top 26), defBody (top 26), defScope (top 26), [], []⟩
def d4 : DefD := ⟨("_law_named", none), "_law_named", "_law_named", defArgs (top 27), defBody (top 27), defScope (top 27), [], []⟩
def d5 : DefD := ⟨("_law_right", none), "_law_right", "_law_right", defArgs (top 25), defBody (top 25), defScope (top 25), [], []⟩
def d6 : DefD := ⟨("_law_bare", none), "_law_bare", "_law_bare", defArgs (top 28), defBody (top 28), defScope (top 28), [], []⟩
def d7 : DefD := ⟨("_law_kinds", none), "_law_kinds", "_law_kinds", defArgs (top 24), defBody (top 24), defScope (top 24), [], []⟩
def d8 : DefD := ⟨("_law_hash", none), "_law_hash", "_law_hash", defArgs (top 21), defBody (top 21), defScope (top 21), [], []⟩
def d9 : DefD := ⟨("_law_cell", none), "_law_cell", "_law_cell", defArgs (top 20), defBody (top 20), defScope (top 20), [], []⟩
def ds : List DefD := [d0, d1, d2, d3, d4, d5, d6, d7, d8, d9]
def Ns : List (List Str) := [["script", "number", "elder", "given", "first", "second"], ["generator", "bound", "drawn", "turn"], ["script", "index", "seed"], ["given", "found"], ["given", "found"], ["errors", "given", "fields", "error", "at"], ["found"], ["error", "classes", "at"], ["seed", "index", "mixed"], ["script", "index"]]
theorem static : ix tb.P.fns (defB tb ds Ns) = true := by decide +kernel
theorem shapes (K : PySem.W.Frag) (c : SaysD [] ds K) : ∀ (i : Nat) (p : Shp), tb.P.shs[i]? = some p → ShOk (wfOf tb ds K) p
  | 0, _, rfl => sh_all c rfl rfl rfl rfl (fun kV doc pm an cdv ct us ws h1 h2 => match us, ws, h1, h2 with | [u0, u1], [], _, _ => rfl)
  | 1, _, rfl => sh_all c rfl rfl rfl rfl (fun kV doc pm an cdv ct us ws h1 h2 => match us, ws, h1, h2 with | [u0, u1], [], _, _ => rfl)
  | 2, _, rfl => sh_all c rfl rfl rfl rfl (fun kV doc pm an cdv ct us ws h1 h2 => match us, ws, h1, h2 with | [u0], [], _, _ => rfl)
  | 3, _, rfl => sh_all c rfl rfl rfl rfl (fun kV doc pm an cdv ct us ws h1 h2 => match us, ws, h1, h2 with | [u0], [], _, _ => rfl)
  | 4, _, rfl => sh_all c rfl rfl rfl rfl (fun kV doc pm an cdv ct us ws h1 h2 => match us, ws, h1, h2 with | [u0, u1], [], _, _ => rfl)
  | 5, _, rfl => sh_all c rfl rfl rfl rfl (fun kV doc pm an cdv ct us ws h1 h2 => match us, ws, h1, h2 with | [], [], _, _ => rfl)
  | 6, _, rfl => sh_all c rfl rfl rfl rfl (fun kV doc pm an cdv ct us ws h1 h2 => match us, ws, h1, h2 with | [u0], [], _, _ => rfl)
  | 7, _, rfl => sh_all c rfl rfl rfl rfl (fun kV doc pm an cdv ct us ws h1 h2 => match us, ws, h1, h2 with | [u0, u1], [], _, _ => rfl)
  | 8, _, rfl => sh_all c rfl rfl rfl rfl (fun kV doc pm an cdv ct us ws h1 h2 => match us, ws, h1, h2 with | [u0, u1], [], _, _ => rfl)
  | n + 9, _, e => by simp [tb, prg] at e
@[simp] theorem cs0 (k : Nat) (u0 u1 : D) (G : Hh) : callS (cfg tb.P 200 k) 0 [u0, u1] [] G = (callF tb.P 200 k).1 f_law_random [u0, u1] G := rfl
@[simp] theorem cs1 (k : Nat) (u0 u1 : D) (G : Hh) : callS (cfg tb.P 200 k) 1 [u0, u1] [] G = (callF tb.P 200 k).1 f_law_generator [u0, u1] G := rfl
@[simp] theorem cs2 (k : Nat) (u0 : D) (G : Hh) : callS (cfg tb.P 200 k) 2 [u0] [] G = (callF tb.P 200 k).1 f_law_placed [u0] G := rfl
@[simp] theorem cs3 (k : Nat) (u0 : D) (G : Hh) : callS (cfg tb.P 200 k) 3 [u0] [] G = (callF tb.P 200 k).1 f_law_named [u0] G := rfl
@[simp] theorem cs4 (k : Nat) (u0 u1 : D) (G : Hh) : callS (cfg tb.P 200 k) 4 [u0, u1] [] G = (callF tb.P 200 k).1 f_law_right [u0, u1] G := rfl
@[simp] theorem cs5 (k : Nat) (G : Hh) : callS (cfg tb.P 200 k) 5 [] [] G = (callF tb.P 200 k).1 f_law_bare [] G := rfl
@[simp] theorem cs6 (k : Nat) (u0 : D) (G : Hh) : callS (cfg tb.P 200 k) 6 [u0] [] G = (callF tb.P 200 k).1 f_law_kinds [u0] G := rfl
@[simp] theorem cs7 (k : Nat) (u0 u1 : D) (G : Hh) : callS (cfg tb.P 200 k) 7 [u0, u1] [] G = (callF tb.P 200 k).1 f_law_hash [u0, u1] G := rfl
@[simp] theorem cs8 (k : Nat) (u0 u1 : D) (G : Hh) : callS (cfg tb.P 200 k) 8 [u0, u1] [] G = (callF tb.P 200 k).1 f_law_cell [u0, u1] G := rfl
@[simp] theorem ex0 : tb.P.exs[0]? = some ⟨none, [0]⟩ := rfl
@[simp] theorem ex1 : tb.P.exs[1]? = some ⟨some 5, [1, 0]⟩ := rfl
@[simp] theorem ex2 : tb.P.exs[2]? = some ⟨some 5, [2, 0]⟩ := rfl
@[simp] theorem ex3 : tb.P.exs[3]? = some ⟨some 5, [3, 0]⟩ := rfl
@[simp] theorem ex4 : tb.P.exs[4]? = some ⟨some 5, [4, 0]⟩ := rfl
@[simp] theorem ex5 : tb.P.exs[5]? = some ⟨some 5, [5, 0]⟩ := rfl
@[simp] theorem ex6 : tb.P.exs[6]? = some ⟨some 5, [6, 0]⟩ := rfl
@[simp] theorem ex7 : tb.P.exs[7]? = some ⟨some 5, [7, 0]⟩ := rfl
@[simp] theorem ex8 : tb.P.exs[8]? = some ⟨some 5, [8, 0]⟩ := rfl
@[simp] theorem ex9 : tb.P.exs[9]? = some ⟨some 5, [9, 0]⟩ := rfl
@[simp] theorem ex10 : tb.P.exs[10]? = some ⟨some 5, [10, 0]⟩ := rfl
@[simp] theorem ex11 : tb.P.exs[11]? = some ⟨some 5, [11, 0]⟩ := rfl
@[simp] theorem ex12 : tb.P.exs[12]? = some ⟨some 5, [12, 0]⟩ := rfl
@[simp] theorem ex13 : tb.P.exs[13]? = some ⟨some 5, [13, 0]⟩ := rfl
@[simp] theorem ex14 : tb.P.exs[14]? = some ⟨some 6, [14, 0]⟩ := rfl
@[simp] theorem ex15 : tb.P.exs[15]? = some ⟨some 6, [15, 0]⟩ := rfl
@[simp] theorem ex16 : tb.P.exs[16]? = some ⟨some 6, [16, 0]⟩ := rfl
@[simp] theorem ex17 : tb.P.exs[17]? = some ⟨none, [17, 0]⟩ := rfl
theorem q_law : tb.P.fns[f_law]? = some ⟨1, 6, b_law⟩ := rfl
theorem q_law_random : tb.P.fns[f_law_random]? = some ⟨2, 4, b_law_random⟩ := rfl
theorem q_law_generator : tb.P.fns[f_law_generator]? = some ⟨2, 3, b_law_generator⟩ := rfl
theorem q_law_placed : tb.P.fns[f_law_placed]? = some ⟨1, 2, b_law_placed⟩ := rfl
theorem q_law_named : tb.P.fns[f_law_named]? = some ⟨1, 2, b_law_named⟩ := rfl
theorem q_law_right : tb.P.fns[f_law_right]? = some ⟨2, 5, b_law_right⟩ := rfl
theorem q_law_bare : tb.P.fns[f_law_bare]? = some ⟨0, 1, b_law_bare⟩ := rfl
theorem q_law_kinds : tb.P.fns[f_law_kinds]? = some ⟨1, 3, b_law_kinds⟩ := rfl
theorem q_law_hash : tb.P.fns[f_law_hash]? = some ⟨2, 3, b_law_hash⟩ := rfl
theorem q_law_cell : tb.P.fns[f_law_cell]? = some ⟨2, 2, b_law_cell⟩ := rfl
end K01
end
section
set_option Elab.async false
set_option linter.all false
set_option maxRecDepth 100000
set_option maxHeartbeats 0
/-! K01: the head. Printed by gen.py (own work). -/
namespace K01
open PySem PySem.Spec PyProof.Rows L2 He Eng
def nm0 : List Str := ["WatchError", "InvalidNumber", "InvalidList", "InvalidItem", "InvalidWeb", "InvalidSpot", "InvalidPlan", "InvalidNeeds", "InvalidHeard", "InvalidRule", "InvalidPrices", "InvalidText", "Taken", "Vacant", "InvalidName", "TakenName", "UnknownName", "NothingToUndo", "_law_cell", "_law_hash", "_law_generator", "_law_random", "_law_kinds", "_law_right", "_law_placed", "_law_named", "_law_bare"]
def loose : List Str := nm0
abbrev rwR : PySem.W.OpenRow := PySem.W.OpenLaw.row PySem.Challenge.rw_hearunlike_k01_errors
abbrev qv : Program := PySem.W.view rwR.prog [29]
abbrev hk : PySem.W.Hook := hookG 6 (txB PySem.Challenge.rw_hearunlike_k01_errors.prog tb ds) ds
abbrev ob : PySem.W.SharedT → AlD × Bool := obG 6 (txB PySem.Challenge.rw_hearunlike_k01_errors.prog tb ds) ds
theorem run (w : World) : HandSHeadRun.RunEq rwR qv hk ob 30000 loose w := by
  intro os
  kernel_rfl
end K01
end
section
set_option Elab.async false
set_option linter.all false
set_option maxRecDepth 100000
set_option maxHeartbeats 4000000
namespace K01
open PySem Eng L2
abbrev cf (k : Nat) := (callF tb.P 200 k).1
theorem cell_sp {k : Nat} {G : Hh} {ns : List Int} {i : Int} (h0 : 0 ≤ i) {Q : QD} {X : XD} (h : ∀ v : Int, Q (.int v) G) : (cf (k+1) f_law_cell [.scr ns, .int i] G).sp Q X := by
  refine sp_call q_law_cell rfl ?_
  simp [b_law_cell]
  split
  · rename_i hl
    have e : atI (ns.map D.int) i = (ns.map D.int)[i.toNat]? := atI_nat h0 (by simpa using hl)
    have hn : i.toNat < ns.length := by omega
    show R.sp (match atI (ns.map D.int) i with | some v => _ | none => _) _ _
    rw [e, List.getElem?_map, List.getElem?_eq_getElem hn]
    exact h _
  · exact h 0
theorem hash_sp {k : Nat} {G : Hh} {seed c : Int} (h1 : 0 ≤ c ∧ c < 2 ^ 60) {Q : QD} {X : XD} (h : ∀ v : Int, 0 ≤ v → v < 2147483587 → Q (.int v) G) : (cf (k+1) f_law_hash [.int seed, .int c] G).sp Q X := by
  refine sp_call q_law_hash rfl ?_
  simp [b_law_hash]
  refine ⟨by omega, ?_, ?_⟩
  · have := fmod_range (i := seed * 1103515245 + 7919 * c * c + c + 1) (j := 2147483647) (by decide)
    omega
  · have := fmod_range (i := ((seed * 1103515245 + 7919 * c * c + c + 1).fmod 2147483647 * (seed * 1103515245 + 7919 * c * c + c + 1).fmod 2147483647 + 69621).fmod 2147483629 * 48271) (j := 2147483587) (by decide)
    exact h _ this.1 this.2
theorem gen_sp {k : Nat} {G : Hh} {ns : List Int} {i : Int} (h0 : 0 ≤ i) {Q : QD} {X : XD} (h : ∀ a b : Int, 0 ≤ a → Q (.ref G.length) (G ++ [.lst [.int a, .int b, .int (1000 * i)]])) : (cf (k+2) f_law_generator [.scr ns, .int i] G).sp Q X := by
  refine sp_call q_law_generator rfl ?_
  simp [b_law_generator]
  refine cell_sp h0 fun v => ?_
  refine pow_lit (v := 10 ^ 18) (by decide +kernel) rfl ?_
  simp
  refine pow_lit (v := 10 ^ 60) (by decide +kernel) rfl ?_
  refine pow_lit (v := 10 ^ 600) (by decide +kernel) (by decide +kernel) ?_
  simp
  exact ⟨by decide +kernel, h _ _ (Int.fmod_nonneg_of_pos _ (by decide +kernel))⟩
theorem rnd_sp {k : Nat} {G : Hh} {r : Nat} {a b c bound : Int} (hg : G[r]? = some (.lst [.int a, .int b, .int c])) (ha : 0 ≤ a) (hc : 0 ≤ c ∧ c < 2 ^ 50) (hb : 0 < bound) (hb2 : bound.natAbs.log2 < 90) {Q : QD} {X : XD}
    (h : ∀ v a' c' : Int, 0 ≤ v → v < bound → 0 ≤ a' → c ≤ c' → c' ≤ c + 10 → Q (.int v) (G.set r (.lst [.int a', .int b, .int c']))) : (cf (k+2) f_law_random [.ref r, .int bound] G).sp Q X := by
  refine sp_call q_law_random rfl ?_
  simp [b_law_random, subD_L hg, atI, ixN, setD_L hg]
  have n1 := bits_le hb2
  split
  · refine ⟨by omega, ⟨hb, by omega⟩, ?_⟩
    have q := fmod_range (i := a) hb
    exact h _ _ _ q.1 q.2 (Int.ediv_nonneg ha (by omega)) (Int.le_refl _) (by omega)
  · have hj : 0 ≤ ((Builtin.Int.intBits bound : Nat) : Int) / 30 ∧ ((Builtin.Int.intBits bound : Nat) : Int) / 30 ≤ 3 := by omega
    refine ⟨by decide +kernel, ⟨by omega, by omega⟩, ?_⟩
    have hlen : ∀ (n : Nat) (lo : Int), (rangeD lo n).length = n := by
      intro n
      induction n with
      | zero => intro lo; rfl
      | succ n ih => intro lo; show (rangeD (lo + 1) n).length + 1 = _; rw [ih]
    refine for_sp (t := .nm 3) (fun xs s G' => ∃ (c' d : Int) (t : Option D), s = [some (.ref r), some (.int bound), some (.int d), t] ∧ G'[r]? = some (.lst [.int a, .int b, .int c']) ∧ (∀ o, G'.set r o = G.set r o) ∧ 0 ≤ d ∧ c ≤ c' ∧ c' + xs.length ≤ c + 4) ?_ ?_ _ _ _ ?_
    · rintro x xs s G' ⟨c', d, t, rfl, h1, h2, h3, h4, h5⟩
      refine ⟨rfl, ?_⟩
      have hl : c' + 1 + (xs.length : Int) ≤ c + 4 := by
        have : ((x :: xs).length : Int) = xs.length + 1 := by simp
        omega
      have g2 : (G'.set r (.lst [.int a, .int b, .int (c' + 1)]))[r]? = some (.lst [.int a, .int b, .int (c' + 1)]) := get_set h1
      simp [bindT, subD_L h1, atI, ixN, setD_L h1, subD_L g2]
      refine hash_sp ⟨by omega, by omega⟩ fun v v0 v1 => ?_
      simp
      exact ⟨c' + 1, g2, fun o => by first | exact h2 o | (rw [List.set_set]; exact h2 o), by omega, by omega, by omega⟩
    · rintro s G' ⟨c', d, t, rfl, h1, h2, h3, h4, h5⟩
      refine ⟨rfl, ?_⟩
      simp
      have q := fmod_range (i := d) hb
      refine ⟨by omega, ?_⟩
      have e : G' = G.set r (.lst [.int a, .int b, .int c']) := by rw [← h2, set_self h1]
      rw [e]
      exact h _ _ _ q.1 q.2 ha h4 (by simp at h5; omega)
    · refine ⟨c, 0, none, rfl, hg, fun o => rfl, Int.le_refl _, Int.le_refl _, ?_⟩
      rw [hlen]
      omega
end K01
end
section
set_option Elab.async false
set_option linter.all false
set_option maxRecDepth 100000
set_option maxHeartbeats 4000000
namespace K01
open PySem Eng L2
/-- sixteen errors, one of each class, with the field d -/
def Errs (G : Hh) (r : Nat) (d : D) : Prop := ∃ es : List Nat, es.length = 16 ∧ G[r]? = some (.lst (es.map .ref)) ∧ ∀ (i e : Nat), es[i]? = some e → G[e]? = some (.exc (i + 1) (some d))
theorem ev1 {G : Hh} {d : D} : exnD tb.P 1 false [d] [] G = .ok (.ref G.length) (G ++ [.exc 1 (some d)]) := rfl
theorem ek1 {G : Hh} {d : D} : exnD tb.P 1 true [] [d] G = .ok (.ref G.length) (G ++ [.exc 1 (some d)]) := rfl
theorem e01 {G : Hh} : exnD tb.P 1 false [] [] G = .ok (.ref G.length) (G ++ [.exc 1 (some .non)]) := rfl
theorem ev2 {G : Hh} {d : D} : exnD tb.P 2 false [d] [] G = .ok (.ref G.length) (G ++ [.exc 2 (some d)]) := rfl
theorem ek2 {G : Hh} {d : D} : exnD tb.P 2 true [] [d] G = .ok (.ref G.length) (G ++ [.exc 2 (some d)]) := rfl
theorem e02 {G : Hh} : exnD tb.P 2 false [] [] G = .ok (.ref G.length) (G ++ [.exc 2 (some .non)]) := rfl
theorem ev3 {G : Hh} {d : D} : exnD tb.P 3 false [d] [] G = .ok (.ref G.length) (G ++ [.exc 3 (some d)]) := rfl
theorem ek3 {G : Hh} {d : D} : exnD tb.P 3 true [] [d] G = .ok (.ref G.length) (G ++ [.exc 3 (some d)]) := rfl
theorem e03 {G : Hh} : exnD tb.P 3 false [] [] G = .ok (.ref G.length) (G ++ [.exc 3 (some .non)]) := rfl
theorem ev4 {G : Hh} {d : D} : exnD tb.P 4 false [d] [] G = .ok (.ref G.length) (G ++ [.exc 4 (some d)]) := rfl
theorem ek4 {G : Hh} {d : D} : exnD tb.P 4 true [] [d] G = .ok (.ref G.length) (G ++ [.exc 4 (some d)]) := rfl
theorem e04 {G : Hh} : exnD tb.P 4 false [] [] G = .ok (.ref G.length) (G ++ [.exc 4 (some .non)]) := rfl
theorem ev5 {G : Hh} {d : D} : exnD tb.P 5 false [d] [] G = .ok (.ref G.length) (G ++ [.exc 5 (some d)]) := rfl
theorem ek5 {G : Hh} {d : D} : exnD tb.P 5 true [] [d] G = .ok (.ref G.length) (G ++ [.exc 5 (some d)]) := rfl
theorem e05 {G : Hh} : exnD tb.P 5 false [] [] G = .ok (.ref G.length) (G ++ [.exc 5 (some .non)]) := rfl
theorem ev6 {G : Hh} {d : D} : exnD tb.P 6 false [d] [] G = .ok (.ref G.length) (G ++ [.exc 6 (some d)]) := rfl
theorem ek6 {G : Hh} {d : D} : exnD tb.P 6 true [] [d] G = .ok (.ref G.length) (G ++ [.exc 6 (some d)]) := rfl
theorem e06 {G : Hh} : exnD tb.P 6 false [] [] G = .ok (.ref G.length) (G ++ [.exc 6 (some .non)]) := rfl
theorem ev7 {G : Hh} {d : D} : exnD tb.P 7 false [d] [] G = .ok (.ref G.length) (G ++ [.exc 7 (some d)]) := rfl
theorem ek7 {G : Hh} {d : D} : exnD tb.P 7 true [] [d] G = .ok (.ref G.length) (G ++ [.exc 7 (some d)]) := rfl
theorem e07 {G : Hh} : exnD tb.P 7 false [] [] G = .ok (.ref G.length) (G ++ [.exc 7 (some .non)]) := rfl
theorem ev8 {G : Hh} {d : D} : exnD tb.P 8 false [d] [] G = .ok (.ref G.length) (G ++ [.exc 8 (some d)]) := rfl
theorem ek8 {G : Hh} {d : D} : exnD tb.P 8 true [] [d] G = .ok (.ref G.length) (G ++ [.exc 8 (some d)]) := rfl
theorem e08 {G : Hh} : exnD tb.P 8 false [] [] G = .ok (.ref G.length) (G ++ [.exc 8 (some .non)]) := rfl
theorem ev9 {G : Hh} {d : D} : exnD tb.P 9 false [d] [] G = .ok (.ref G.length) (G ++ [.exc 9 (some d)]) := rfl
theorem ek9 {G : Hh} {d : D} : exnD tb.P 9 true [] [d] G = .ok (.ref G.length) (G ++ [.exc 9 (some d)]) := rfl
theorem e09 {G : Hh} : exnD tb.P 9 false [] [] G = .ok (.ref G.length) (G ++ [.exc 9 (some .non)]) := rfl
theorem ev10 {G : Hh} {d : D} : exnD tb.P 10 false [d] [] G = .ok (.ref G.length) (G ++ [.exc 10 (some d)]) := rfl
theorem ek10 {G : Hh} {d : D} : exnD tb.P 10 true [] [d] G = .ok (.ref G.length) (G ++ [.exc 10 (some d)]) := rfl
theorem e010 {G : Hh} : exnD tb.P 10 false [] [] G = .ok (.ref G.length) (G ++ [.exc 10 (some .non)]) := rfl
theorem ev11 {G : Hh} {d : D} : exnD tb.P 11 false [d] [] G = .ok (.ref G.length) (G ++ [.exc 11 (some d)]) := rfl
theorem ek11 {G : Hh} {d : D} : exnD tb.P 11 true [] [d] G = .ok (.ref G.length) (G ++ [.exc 11 (some d)]) := rfl
theorem e011 {G : Hh} : exnD tb.P 11 false [] [] G = .ok (.ref G.length) (G ++ [.exc 11 (some .non)]) := rfl
theorem ev12 {G : Hh} {d : D} : exnD tb.P 12 false [d] [] G = .ok (.ref G.length) (G ++ [.exc 12 (some d)]) := rfl
theorem ek12 {G : Hh} {d : D} : exnD tb.P 12 true [] [d] G = .ok (.ref G.length) (G ++ [.exc 12 (some d)]) := rfl
theorem e012 {G : Hh} : exnD tb.P 12 false [] [] G = .ok (.ref G.length) (G ++ [.exc 12 (some .non)]) := rfl
theorem ev13 {G : Hh} {d : D} : exnD tb.P 13 false [d] [] G = .ok (.ref G.length) (G ++ [.exc 13 (some d)]) := rfl
theorem ek13 {G : Hh} {d : D} : exnD tb.P 13 true [] [d] G = .ok (.ref G.length) (G ++ [.exc 13 (some d)]) := rfl
theorem e013 {G : Hh} : exnD tb.P 13 false [] [] G = .ok (.ref G.length) (G ++ [.exc 13 (some .non)]) := rfl
theorem ev14 {G : Hh} {d : D} : exnD tb.P 14 false [d] [] G = .ok (.ref G.length) (G ++ [.exc 14 (some d)]) := rfl
theorem ek14 {G : Hh} {d : D} : exnD tb.P 14 true [] [d] G = .ok (.ref G.length) (G ++ [.exc 14 (some d)]) := rfl
theorem e014 {G : Hh} : exnD tb.P 14 false [] [] G = .ok (.ref G.length) (G ++ [.exc 14 (some .non)]) := rfl
theorem ev15 {G : Hh} {d : D} : exnD tb.P 15 false [d] [] G = .ok (.ref G.length) (G ++ [.exc 15 (some d)]) := rfl
theorem ek15 {G : Hh} {d : D} : exnD tb.P 15 true [] [d] G = .ok (.ref G.length) (G ++ [.exc 15 (some d)]) := rfl
theorem e015 {G : Hh} : exnD tb.P 15 false [] [] G = .ok (.ref G.length) (G ++ [.exc 15 (some .non)]) := rfl
theorem ev16 {G : Hh} {d : D} : exnD tb.P 16 false [d] [] G = .ok (.ref G.length) (G ++ [.exc 16 (some d)]) := rfl
theorem ek16 {G : Hh} {d : D} : exnD tb.P 16 true [] [d] G = .ok (.ref G.length) (G ++ [.exc 16 (some d)]) := rfl
theorem e016 {G : Hh} : exnD tb.P 16 false [] [] G = .ok (.ref G.length) (G ++ [.exc 16 (some .non)]) := rfl
theorem e017 {G : Hh} : exnD tb.P 17 false [] [] G = .ok (.ref G.length) (G ++ [.exc 17 none]) := rfl
theorem get_app2 {G J : Hh} {n : Nat} : (G ++ J)[G.length + n]? = J[n]? := by
  rw [List.getElem?_append_right (by omega), Nat.add_sub_cancel_left]
theorem get_app0 {G J : Hh} : (G ++ J)[G.length]? = J[0]? := by
  rw [List.getElem?_append_right (Nat.le_refl _), Nat.sub_self]
def okFrom (J : Hh) (d : D) : Nat → List Nat → Prop
  | _, [] => True
  | i, o :: r => J[o]? = some (.exc i (some d)) ∧ okFrom J d (i + 1) r
theorem okFrom_at {J : Hh} {d : D} : ∀ {l : List Nat} {j i e : Nat}, okFrom J d j l → l[i]? = some e → J[e]? = some (.exc (i + j) (some d))
  | [], _, _, _, _, h => by simp at h
  | o :: r, j, 0, e, h, he => by
    simp at he
    subst he
    rw [Nat.zero_add]
    exact h.1
  | o :: r, j, i + 1, e, h, he => by
    have := okFrom_at (i := i) h.2 (by simpa using he)
    rw [this]
    simp only [Option.some.injEq, O.exc.injEq, and_true]
    omega
theorem errs_of {G J : Hh} {d : D} {n : Nat} (offs : List Nat) (h1 : offs.length = 16) (h2 : J[n]? = some (.lst (offs.map fun o => .ref (G.length + o)))) (h3 : okFrom J d 1 offs) : Errs (G ++ J) (G.length + n) d := by
  refine ⟨offs.map fun o => G.length + o, by rw [List.length_map, h1], ?_, fun i e he => ?_⟩
  · rw [get_app2, h2, List.map_map]
    rfl
  · rw [List.getElem?_map, Option.map_eq_some_iff] at he
    obtain ⟨o, h4, rfl⟩ := he
    rw [get_app2]
    exact okFrom_at h3 h4
theorem placed_sp {k : Nat} {G : Hh} {d : D} {Q : QD} {X : XD} (h : ∀ r G', Le G G' → Errs G' r d → Q (.ref r) G') : (cf (k+1) f_law_placed [d] G).sp Q X := by
  refine sp_call q_law_placed rfl ?_
  simp [b_law_placed, ev1, ev2, ev3, ev4, ev5, ev6, ev7, ev8, ev9, ev10, ev11, ev12, ev13, ev14, ev15, ev16, wBin, binop, Eng.alloc, R.sp, get_app2, get_app0]
  exact h _ _ Le.app (errs_of (n := 22) [0, 1, 2, 3, 4, 6, 7, 8, 9, 12, 13, 14, 15, 18, 19, 20] rfl rfl (by repeat (first | exact trivial | refine ⟨rfl, ?_⟩)))
theorem named_sp {k : Nat} {G : Hh} {d : D} {Q : QD} {X : XD} (h : ∀ r G', Le G G' → Errs G' r d → Q (.ref r) G') : (cf (k+1) f_law_named [d] G).sp Q X := by
  refine sp_call q_law_named rfl ?_
  simp [b_law_named, ek1, ek2, ek3, ek4, ek5, ek6, ek7, ek8, ek9, ek10, ek11, ek12, ek13, ek14, ek15, ek16, wBin, binop, Eng.alloc, R.sp, get_app2, get_app0]
  exact h _ _ Le.app (errs_of (n := 24) [0, 1, 2, 3, 5, 6, 7, 10, 11, 12, 15, 16, 17, 20, 21, 22] rfl rfl (by repeat (first | exact trivial | refine ⟨rfl, ?_⟩)))
theorem bare_sp {k : Nat} {G : Hh} {Q : QD} {X : XD} (h : ∀ r G', Le G G' → Errs G' r .non → Q (.ref r) G') : (cf (k+1) f_law_bare [] G).sp Q X := by
  refine sp_call q_law_bare rfl ?_
  simp [b_law_bare, e01, e02, e03, e04, e05, e06, e07, e08, e09, e010, e011, e012, e013, e014, e015, e016, wBin, binop, Eng.alloc, R.sp, get_app2, get_app0]
  exact h _ _ Le.app (errs_of (n := 20) [0, 1, 2, 3, 4, 5, 7, 8, 9, 10, 11, 12, 15, 16, 17, 18] rfl rfl (by repeat (first | exact trivial | refine ⟨rfl, ?_⟩)))
end K01
end
section
set_option Elab.async false
set_option linter.all false
set_option maxRecDepth 100000
set_option maxHeartbeats 4000000
namespace K01
open PySem Eng L2
theorem isT_all : ∀ x j : Fin 18, (if tb.P.kinds.contains (.x x) && tb.P.kinds.contains (.x j) then isT tb.P (.x x) (.x j) else none) = some (decide (j.1 = x.1) || decide (j.1 = 0)) := by decide +kernel
theorem isT_val : ∀ x : Fin 18, (if tb.P.kinds.contains (.x x) && tb.P.kinds.contains (.b "ValueError") then isT tb.P (.x x) (.b "ValueError") else none) = some true := by decide +kernel
theorem isin_x {G J : Hh} {e x j : Nat} {f : Option D} (h : G[e]? = some (.exc x f)) (hx : x < 18) (hj : j < 18) : isin tb.P (G ++ J) (.x j) (.ref e) = some (decide (j = x) || decide (j = 0)) := by
  unfold isin
  simp only [kindD, get_app h]
  exact isT_all ⟨x, hx⟩ ⟨j, hj⟩
theorem isin_x0 {G : Hh} {e x j : Nat} {f : Option D} (h : G[e]? = some (.exc x f)) (hx : x < 18) (hj : j < 18) : isin tb.P G (.x j) (.ref e) = some (decide (j = x) || decide (j = 0)) := by
  have := isin_x (J := []) h hx hj
  rwa [List.append_nil] at this
theorem isin_v {G J : Hh} {e x : Nat} {f : Option D} (h : G[e]? = some (.exc x f)) (hx : x < 18) : isin tb.P (G ++ J) (.b "ValueError") (.ref e) = some true := by
  unfold isin
  simp only [kindD, get_app h]
  exact isT_val ⟨x, hx⟩
def cls (x : Nat) : List D := (List.range 16).map fun i => .bl (decide (i + 1 = x))
def acc (x t : Nat) : List D := if x ≤ t then [.int (x - 1 : Nat)] else []
theorem cls_at {x i : Nat} (hx : 1 ≤ x ∧ x < 18) (hi : i < 17) : (cls x ++ [.bl (decide (17 = x))])[i]? = some (.bl (decide (i + 1 = x))) := by
  have : ∀ i : Fin 17, (cls x ++ [.bl (decide (17 = x))])[i.1]? = some (.bl (decide (i.1 + 1 = x))) := by
    obtain ⟨h1, h2⟩ := hx
    have : ∀ x : Fin 18, ∀ i : Fin 17, (cls x.1 ++ [.bl (decide (17 = x.1))])[i.1]? = some (.bl (decide (i.1 + 1 = x.1))) := by decide +kernel
    exact this ⟨x, h2⟩
  exact this ⟨i, hi⟩
theorem le_set_new {G G' : Hh} {n : Nat} {o : O} (l : Le G G') (hn : G.length ≤ n) : Le G (G'.set n o) := fun i u h => by
  have := get_lt h
  rw [List.getElem?_set_ne (by omega)]
  exact l i u h
theorem kloop {k : Nat} {G G1 : Hh} {e x c n : Nat} {f : Option D} (he : G[e]? = some (.exc x f)) (hx : 1 ≤ x ∧ x < 18) (l0 : Le G G1) (hn : G.length ≤ n) (hcn : n ≠ c) (hc : G1[c]? = some (.lst (cls x))) (ha : G1[n]? = some (.lst [])) {Q : Hh → Prop} {X : XD}
    (h : ∀ G', Le G G' → G'[n]? = some (.lst [.int (x - 1 : Nat)]) → Q G') : (lcLoop (It.ok ⟨rangeD 0 17, none⟩) n (lcSt (.nm 2) [2] (evo (cfg tb.P 200 k) (.yes (.val (.sub (.bin .Add (.var 1) (.lst (.cons (.isi (.var 0) (.x 17)) .nil))) (.var 2))))) (ev (cfg tb.P 200 k) (.var 2)) [some (.ref e), some (.ref c), none]) (rangeD 0 17) G1).sp (fun _ G2 => Q G2) X := by
  refine lc_sp (fun xs G' => ∃ m : Nat, m ≤ 17 ∧ xs = rangeD ((17 - m : Nat) : Int) m ∧ Le G G' ∧ G'[c]? = some (.lst (cls x)) ∧ G'[n]? = some (.lst (acc x (17 - m)))) ?_ ?_ _ _ ⟨17, Nat.le_refl _, rfl, l0, hc, by rw [ha]; unfold acc; rw [if_neg (by omega)]⟩
  · rintro y xs G' ⟨m, hm, hxs, l, h1, h2⟩
    refine ⟨rfl, ?_⟩
    cases m with
    | zero => cases hxs
    | succ m =>
      have hxs' : y :: xs = .int ((17 - (m + 1) : Nat) : Int) :: rangeD (((17 - (m + 1) : Nat) : Int) + 1) m := hxs
      cases hxs'
      have e1 : (((17 - (m + 1) : Nat) : Int) + 1) = ((17 - m : Nat) : Int) := by omega
      have hi : 17 - (m + 1) < 17 := by omega
      generalize hi' : 17 - (m + 1) = i at hi h2 e1 ⊢
      have hl : (cls x).length = 16 := by simp [cls]
      have g1 : (G' ++ [O.lst [D.bl (decide (17 = x))]])[c]? = some (.lst (cls x)) := get_app h1
      have g2 : (G' ++ [O.lst [D.bl (decide (17 = x))], O.lst (cls x ++ [D.bl (decide (17 = x))])])[G'.length + 1]? = some (O.lst (cls x ++ [D.bl (decide (17 = x))])) := by rw [get_app2]; rfl
      have g3 : (G' ++ [O.lst [D.bl (decide (17 = x))], O.lst (cls x ++ [D.bl (decide (17 = x))])])[n]? = some (.lst (acc x i)) := get_app h2
      have hsub : subD (G' ++ [O.lst [D.bl (decide (17 = x))], O.lst (cls x ++ [D.bl (decide (17 = x))])]) (.ref (G'.length + 1)) (.int i) = .ok (.bl (decide (i + 1 = x))) (G' ++ [O.lst [D.bl (decide (17 = x))], O.lst (cls x ++ [D.bl (decide (17 = x))])]) := by
        rw [subD_L g2, atI_nat (by omega) (by simp [hl]; omega)]
        rw [show ((i : Int)).toNat = i by omega, cls_at hx hi]
      simp only [bindT, wipeD, wO, List.set]
      simp [isin_x0 (l _ _ he) hx.2, wBin, binop, Eng.alloc, g1, hl, get_app0]
      rw [hsub]
      show (if decide (i + 1 = x) = true then _ else _)
      by_cases hd : i + 1 = x
      · rw [if_pos (decide_eq_true hd)]
        refine ⟨acc x i, g3, ?_, m, by omega, by rw [e1], le_set_new (l.trans Le.app) hn, get_set_ne (get_app h1) hcn, ?_⟩
        · unfold acc
          rw [if_neg (by omega)]
          decide
        · rw [get_set g3]
          unfold acc
          rw [if_neg (by omega), if_pos (by omega)]
          have : x - 1 = i := by omega
          rw [this]
          rfl
      · rw [if_neg (by rw [decide_eq_true_iff]; exact hd)]
        refine ⟨m, by omega, by rw [e1], l.trans Le.app, get_app h1, ?_⟩
        rw [g3]
        unfold acc
        by_cases h5 : x ≤ i
        · rw [if_pos h5, if_pos (by omega)]
        · rw [if_neg h5, if_neg (by omega)]
  · rintro G' ⟨m, hm, hxs, l, h1, h2⟩
    refine ⟨rfl, ?_⟩
    cases m with
    | zero => exact h G' l (by rw [h2]; unfold acc; rw [if_pos (by omega)])
    | succ m => cases hxs
theorem kinds_sp {k : Nat} {G : Hh} {e x : Nat} {f : Option D} (he : G[e]? = some (.exc x f)) (hx : 1 ≤ x ∧ x < 18) {Q : QD} {X : XD} (h : ∀ r G', Le G G' → G'[r]? = some (.lst [.int (x - 1 : Nat)]) → Q (.ref r) G') : (cf (k+1) f_law_kinds [.ref e] G).sp Q X := by
  refine sp_call q_law_kinds rfl ?_
  simp [b_law_kinds, isin_x0 he hx.2, isin_x he hx.2, isin_v he hx.2, wBin, binop, Eng.alloc, R.sp, get_app2, get_app0]
  refine kloop (G := G) (c := G.length + 10) (n := G.length + 11) he hx ?_ (by omega) (by omega) ?_ ?_ fun G' l h1 => h _ _ l h1
  · exact Le.app
  · rw [get_app2]; rfl
  · rw [get_app2]; rfl
end K01
end
section
set_option Elab.async false
set_option linter.all false
set_option maxRecDepth 100000
set_option maxHeartbeats 4000000
namespace K01
open PySem Eng L2
theorem get_map {es : List Nat} {i : Nat} {d : D} (h : (es.map D.ref)[i]? = some d) : ∃ e, es[i]? = some e ∧ d = .ref e := by
  rw [List.getElem?_map, Option.map_eq_some_iff] at h
  obtain ⟨e, h1, h2⟩ := h
  exact ⟨e, h1, h2.symm⟩
theorem drop_cons {es : List Nat} {t : Nat} {y : D} {xs : List D} (h : y :: xs = (es.drop t).map D.ref) : ∃ e, es[t]? = some e ∧ y = .ref e ∧ xs = (es.drop (t + 1)).map D.ref ∧ t < es.length := by
  by_cases ht : t < es.length
  · rw [List.drop_eq_getElem_cons ht, List.map_cons] at h
    cases h
    exact ⟨es[t], List.getElem?_eq_getElem ht, rfl, rfl, ht⟩
  · rw [List.drop_eq_nil_of_le (by omega)] at h
    cases h
theorem drop_nil {es : List Nat} {t : Nat} (h : ([] : List D) = (es.drop t).map D.ref) (ht : t ≤ es.length) : t = es.length := by
  have : (es.drop t).length = 0 := by
    have := congrArg List.length h
    simpa using this.symm
  rw [List.length_drop] at this
  omega
/-- the lists [0], [1], .. -/
def Nums (G : Hh) (ls : List Nat) : Prop := ∀ (i e : Nat), ls[i]? = some e → G[e]? = some (.lst [.int (i : Nat)])
theorem Nums.snoc {G G' : Hh} {ls : List Nat} {n r : Nat} (h : Nums G ls) (l : Le G G') (hn : G'[n]? = some (.lst (ls.map D.ref))) (hr : G'[r]? = some (.lst [.int (ls.length : Nat)])) : Nums (G'.set n (.lst (ls.map D.ref ++ [.ref r]))) (ls ++ [r]) := by
  have ne : ∀ (j e : Nat), G'[e]? = some (.lst [.int (j : Nat)]) → n ≠ e := by
    rintro j e he rfl
    rw [hn] at he
    cases ls with
    | nil => cases he
    | cons a ls => cases he
  intro i e he
  by_cases hi : i < ls.length
  · rw [List.getElem?_append_left hi] at he
    have h1 := l _ _ (h i e he)
    exact get_set_ne h1 (ne i e h1)
  · rw [List.getElem?_append_right (by omega)] at he
    have : i - ls.length = 0 := by
      have := (List.getElem?_eq_some_iff.mp he).1
      simpa using this
    rw [this] at he
    simp at he
    subst he
    have : i = ls.length := by omega
    subst this
    exact get_set_ne hr (ne _ _ hr)
theorem loop1 {k : Nat} {G0 G1 : Hh} {r n : Nat} {d : D} {es : List Nat} {s : Sl} (hs : (s.set 3 none).length = 5) (hes : es.length = 16) (hr : G0[r]? = some (.lst (es.map .ref))) (hx : ∀ (i e : Nat), es[i]? = some e → G0[e]? = some (.exc (i + 1) (some d))) (l0 : Le G0 G1) (hn : G0.length ≤ n) (ha : G1[n]? = some (.lst []))
    {Q : Hh → Prop} {X : XD} (h : ∀ (G' : Hh) (ls : List Nat), Le G0 G' → ls.length = 16 → G'[n]? = some (.lst (ls.map .ref)) → Nums G' ls → Q G') :
    (lcLoop (It.ok ⟨es.map .ref, some r⟩) n (lcSt (.nm 3) [3] (evo (cfg tb.P 200 (k + 1)) .no) (ev (cfg tb.P 200 (k + 1)) (.cal 6 (.cons (.var 3) .nil) .nil)) s) (es.map .ref) G1).sp (fun _ G2 => Q G2) X := by
  refine lc_sp (fun xs G' => ∃ ls : List Nat, xs = (es.drop ls.length).map .ref ∧ ls.length ≤ es.length ∧ Le G0 G' ∧ G'[n]? = some (.lst (ls.map .ref)) ∧ Nums G' ls) ?_ ?_ _ _ ⟨[], rfl, Nat.zero_le _, l0, ha, fun i e he => by simp at he⟩
  · rintro y xs G' ⟨ls, hxs, hle, l, h1, h2⟩
    refine ⟨it_ok (l _ _ hr), ?_⟩
    obtain ⟨e, he, rfl, rfl, hlt⟩ := drop_cons hxs
    have hl3 : 3 < s.length := by simp at hs; omega
    have key : (s.set 3 (some (D.ref e)))[3]? = some (some (D.ref e)) := by
      rw [List.getElem?_set_self hl3]
    simp only [bindT, wipeD, wO]
    simp [key]
    refine kinds_sp (l _ _ (hx _ _ he)) ⟨by omega, by omega⟩ fun r' G'' l2 hr' => ?_
    have hr2 : G''[r']? = some (.lst [.int (ls.length : Nat)]) := by rw [hr', Nat.add_sub_cancel]
    refine ⟨ls.map .ref, l2 _ _ h1, by rw [List.length_map]; omega, ls ++ [r'], by simp, by rw [List.length_append]; simp; omega, le_set_new (l.trans l2) hn, ?_, Nums.snoc h2 l2 (l2 _ _ h1) hr2⟩
    rw [get_set (l2 _ _ h1), List.map_append]
    rfl
  · rintro G' ⟨ls, hxs, hle, l, h1, h2⟩
    exact ⟨it_ok (l _ _ hr), h G' ls l (by rw [drop_nil hxs hle, hes]) h1 h2⟩
theorem loop2 {k : Nat} {G0 G1 : Hh} {n : Nat} {s : Sl} (hs : (s.set 4 none).length = 5) (l0 : Le G0 G1) (hn : G0.length ≤ n) (ha : G1[n]? = some (.lst []))
    {Q : Hh → Prop} {X : XD} (h : ∀ (G' : Hh) (ls : List Nat), Le G0 G' → ls.length = 16 → G'[n]? = some (.lst (ls.map .ref)) → Nums G' ls → Q G') :
    (lcLoop (It.ok ⟨rangeD 0 16, none⟩) n (lcSt (.nm 4) [4] (evo (cfg tb.P 200 k) .no) (ev (cfg tb.P 200 k) (.lst (.cons (.var 4) .nil))) s) (rangeD 0 16) G1).sp (fun _ G2 => Q G2) X := by
  refine lc_sp (fun xs G' => ∃ (ls : List Nat) (m : Nat), ls.length + m = 16 ∧ xs = rangeD (ls.length : Nat) m ∧ Le G0 G' ∧ G'[n]? = some (.lst (ls.map .ref)) ∧ Nums G' ls) ?_ ?_ _ _ ⟨[], 16, rfl, rfl, l0, ha, fun i e he => by simp at he⟩
  · rintro y xs G' ⟨ls, m, hm, hxs, l, h1, h2⟩
    refine ⟨rfl, ?_⟩
    cases m with
    | zero => cases hxs
    | succ m =>
      have hxs' : y :: xs = .int (ls.length : Nat) :: rangeD ((ls.length : Nat) + 1) m := hxs
      cases hxs'
      have hl3 : 4 < s.length := by simp at hs; omega
      have key : (s.set 4 (some (D.int (ls.length : Nat))))[4]? = some (some (D.int (ls.length : Nat))) := by
        rw [List.getElem?_set_self hl3]
      simp only [bindT, wipeD, wO]
      simp [key, Eng.alloc]
      have l2 : Le G' (G' ++ [O.lst [D.int (ls.length : Nat)]]) := Le.app
      refine ⟨ls.map .ref, l2 _ _ h1, by rw [List.length_map]; omega, ls ++ [G'.length], m, by rw [List.length_append]; simp; omega, by simp, le_set_new (l.trans l2) hn, ?_, Nums.snoc h2 l2 (l2 _ _ h1) get_new⟩
      rw [get_set (l2 _ _ h1), List.map_append]
      rfl
  · rintro G' ⟨ls, m, hm, hxs, l, h1, h2⟩
    refine ⟨rfl, h G' ls l ?_ h1 h2⟩
    cases m with
    | zero => exact hm
    | succ m => cases hxs
/-- the fields -/
theorem loopF {k f : Nat} {G0 G1 : Hh} {r n : Nat} {d : D} {es : List Nat} {s : Sl} (hs : (s.set 3 none).length = 5) (hr : G0[r]? = some (.lst (es.map .ref))) (hes : es.length ≤ 16)
    (hx : ∀ e ∈ es, ∃ x, G0[e]? = some (.exc x (some d)) ∧ ∃ u, tb.P.exs[x]? = some ⟨some f, u⟩) (l0 : Le G0 G1) (hn : G0.length ≤ n) (ha : G1[n]? = some (.lst []))
    {Q : Hh → Prop} {X : XD} (h : ∀ (G' : Hh), Le G0 G' → G'[n]? = some (.lst (List.replicate es.length d)) → Q G') :
    (lcLoop (It.ok ⟨es.map .ref, some r⟩) n (lcSt (.nm 3) [3] (evo (cfg tb.P 200 k) .no) (ev (cfg tb.P 200 k) (.fld (.var 3) f)) s) (es.map .ref) G1).sp (fun _ G2 => Q G2) X := by
  refine lc_sp (fun xs G' => ∃ t : Nat, xs = (es.drop t).map .ref ∧ t ≤ es.length ∧ Le G0 G' ∧ G'[n]? = some (.lst (List.replicate t d))) ?_ ?_ _ _ ⟨0, rfl, Nat.zero_le _, l0, ha⟩
  · rintro y xs G' ⟨t, hxs, hle, l, h1⟩
    refine ⟨it_ok (l _ _ hr), ?_⟩
    obtain ⟨e, he, rfl, rfl, hlt⟩ := drop_cons hxs
    obtain ⟨x, hx1, u, hx2⟩ := hx e (List.mem_of_getElem? he)
    have hl3 : 3 < s.length := by simp at hs; omega
    have key : (s.set 3 (some (D.ref e)))[3]? = some (some (D.ref e)) := by
      rw [List.getElem?_set_self hl3]
    simp only [bindT, wipeD, wO]
    simp [key, l _ _ hx1, hx2]
    refine ⟨List.replicate t d, h1, by rw [List.length_replicate]; omega, t + 1, by first | rfl | simp, hlt, le_set_new l hn, ?_⟩
    rw [get_set h1, List.replicate_succ']
  · rintro G' ⟨t, hxs, hle, l, h1⟩
    have := drop_nil hxs hle
    subst this
    exact ⟨it_ok (l _ _ hr), h G' l h1⟩
end K01
end
section
set_option Elab.async false
set_option linter.all false
set_option maxRecDepth 100000
set_option maxHeartbeats 4000000
namespace K01
open PySem Eng L2
theorem datL_nums {G : Hh} {m : Nat} : ∀ {ls : List Nat} {j : Nat}, (∀ (i e : Nat), ls[i]? = some e → G[e]? = some (.lst [.int ((i + j : Nat))])) → datL (dat G (m + 2)) (ls.map .ref) = some ((List.range' j ls.length).map fun i => PyData.list [.int (i : Nat)])
  | [], _, _ => rfl
  | e :: ls, j, h => by
    have h0 := h 0 e rfl
    have ih := datL_nums (m := m) (ls := ls) (j := j + 1) fun i e he => by
      have := h (i + 1) e (by simpa using he)
      rw [this]
      simp only [Option.some.injEq, O.lst.injEq, List.cons.injEq, D.int.injEq, and_true]
      omega
    rw [List.map_cons, List.length_cons, List.range'_succ, List.map_cons]
    unfold datL
    rw [ih]
    have e1 : dat G (m + 2) (.ref e) = some (.list [.int ((0 + j : Nat))]) := by
      unfold dat
      simp only [h0]
      rfl
    rw [e1, Nat.zero_add]
def numP : List PyData := (List.range' 0 16).map fun i => PyData.list [.int (i : Nat)]
theorem lay_num : (PyData.list numP).canLay0 = true := by decide +kernel
theorem nums_ne {G : Hh} {a b : Nat} {ls ms : List Nat} (h1 : G[a]? = some (.lst (ls.map .ref))) (h2 : G[b]? = some (.lst (ms.map .ref))) (n1 : Nums G ls) (n2 : Nums G ms) (l1 : ls.length = 16) (l2 : ms.length = 16) : cmpop .NotEq (.ref a) (.ref b) G = some false := by
  have key : ∀ {a : Nat} {ls : List Nat}, G[a]? = some (.lst (ls.map .ref)) → Nums G ls → ls.length = 16 → dat G dfuel (.ref a) = some (.list numP) := by
    intro a ls h n l
    unfold dfuel
    unfold dat
    simp only [h]
    rw [datL_nums (m := 17) (j := 0) (fun i e he => n i e he), l]
    rfl
  have e : eqD G (.ref a) (.ref b) = some true := eqD_same (key h1 n1 l1) (key h2 n2 l2) lay_num
  simp only [cmpop]
  rw [e]
  rfl
/-- a value that may stand in a list and be shown -/
structure Sp1 (G : Hh) (d : D) (p : PyData) : Prop where
  dat : datR G 19 d = some p
  sh : shP p = true
  sz : szP p ≤ 1000000
  dp : p.depth ≤ 38
def rep16 (p : PyData) : PyData := .list (List.replicate 16 p)
theorem datL_rep {f : D → Option PyData} {d : D} {p : PyData} (h : f d = some p) : ∀ n : Nat, datL f (List.replicate n d) = some (List.replicate n p)
  | 0 => rfl
  | n + 1 => by
    rw [List.replicate_succ, List.replicate_succ]
    unfold datL
    rw [h, datL_rep h n]
theorem rp_rep {G : Hh} {d : D} {p : PyData} {a : Nat} (h : Sp1 G d p) (ha : G[a]? = some (.lst (List.replicate 16 d))) : Rp G (.ref a) (rep16 p) := by
  refine ⟨?_, ?_, ?_, ?_⟩
  · unfold dfuel
    unfold datR
    simp only [ha]
    rw [datL_rep h.dat]
    rfl
  · show shPs (List.replicate 16 p) = true
    simp [List.replicate, shPs, h.sh]
  · show 2 + szPs (List.replicate 16 p) ≤ sizeLine
    have := h.sz
    simp [List.replicate, szPs]
    omega
  · show (PyData.list (List.replicate 16 p)).depth ≤ 40
    have := h.dp
    simp [List.replicate, PyData.depth, PyData.depthAll]
    omega
theorem Sp1.le {G G' : Hh} {d : D} {p : PyData} (h : Sp1 G d p) (l : Le G G') : Sp1 G' d p := ⟨datR_le l _ _ _ h.dat, h.sh, h.sz, h.dp⟩
theorem str_eq {G : Hh} {x : Str} (h : PyData.strOk x = true) : cmpop .Eq (.str x) (.str x) G = some true := by
  simp only [cmpop]
  exact eqD_same (p := .str x) rfl rfl (by rw [PyData.canLay0]; exact h)
theorem slc1 {G : Hh} {r : Nat} {es : List Nat} (hr : G[r]? = some (.lst (es.map .ref))) (hes : es.length = 16) : slcD G (.ref r) none (some 13) = .ok (.ref G.length) (G ++ [.lst ((es.take 13).map .ref)]) := by
  unfold slcD Eng.listOf
  simp only [hr]
  unfold cutD
  rw [List.length_map, hes, List.map_take]
  rfl
theorem slc2 {G : Hh} {r : Nat} {es : List Nat} (hr : G[r]? = some (.lst (es.map .ref))) (hes : es.length = 16) : slcD G (.ref r) (some 13) none = .ok (.ref G.length) (G ++ [.lst ((es.drop 13).map .ref)]) := by
  unfold slcD Eng.listOf
  simp only [hr]
  unfold cutD
  rw [List.length_map, hes, List.map_drop]
  have e : List.take 3 (List.drop 13 (es.map D.ref)) = List.drop 13 (es.map D.ref) := List.take_of_length_le (by simp; omega)
  exact congrArg (fun l => R.ok (D.ref G.length) (G ++ [O.lst l])) e
theorem fld_of {x f : Nat} (h : (tb.P.exs[x]?.bind (·.fld)) = some f) : ∃ u, tb.P.exs[x]? = some ⟨some f, u⟩ := by
  cases e : tb.P.exs[x]? with
  | none => rw [e] at h; cases h
  | some q =>
    rw [e] at h
    obtain ⟨a, u⟩ := q
    have h' : a = some f := h
    subst h'
    exact ⟨u, rfl⟩
theorem fld_lo (i : Fin 13) : ∃ u, tb.P.exs[i.1 + 1]? = some ⟨some 5, u⟩ := fld_of (by revert i; decide +kernel)
theorem fld_hi (i : Fin 3) : ∃ u, tb.P.exs[i.1 + 13 + 1]? = some ⟨some 6, u⟩ := fld_of (by revert i; decide +kernel)
theorem right_sp {k : Nat} {G : Hh} {r : Nat} {d : D} {p : PyData} (hE : Errs G r d) (hS : Sp1 G d p) {Q : QD} {X : XD} (h : ∀ G', Le G G' → Q (.bl true) G') : (cf (k+3) f_law_right [.ref r, d] G).sp Q X := by
  obtain ⟨es, hes, hr, hx⟩ := hE
  refine sp_call q_law_right rfl ?_
  simp [b_law_right, seqOf, hr]
  refine loop1 (G0 := G) rfl hes hr hx Le.app (Nat.le_refl _) get_new fun G2 ls l2 hls hn2 nums => ?_
  refine loop2 (G0 := G2) rfl Le.app (Nat.le_refl _) get_new fun G3 ms l3 hms hn3 nums3 => ?_
  rw [nums_ne (l3 _ _ hn2) hn3 (fun i e he => l3 _ _ (nums i e he)) nums3 hls hms]
  have l := l2.trans l3
  simp only [evp, Eng.ev, R.bind, R.sp, slc1 (l _ _ hr) hes, Bool.false_eq_true, if_false]
  generalize hG4 : G3 ++ [O.lst ((es.take 13).map .ref)] = G4
  have l4 : Le G3 G4 := by rw [← hG4]; exact Le.app
  have g4 : G4[G3.length]? = some (O.lst ((es.take 13).map .ref)) := by rw [← hG4]; exact get_new
  rw [g4]
  dsimp only
  refine loopF (G0 := G4) (r := G3.length) (d := d) (f := 5) rfl g4 (by simp; omega) (fun e he => ?_) Le.app (Nat.le_refl _) get_new fun G5 l5 h5 => ?_
  · obtain ⟨i, hi⟩ := List.mem_iff_getElem?.mp he
    rw [List.getElem?_take] at hi
    split at hi
    · rename_i h13
      exact ⟨i + 1, (l.trans l4) _ _ (hx i e hi), fld_lo ⟨i, h13⟩⟩
    · cases hi
  rw [slc2 ((l.trans (l4.trans l5)) _ _ hr) hes]
  dsimp only
  generalize hG6 : G5 ++ [O.lst ((es.drop 13).map .ref)] = G6
  have l6 : Le G5 G6 := by rw [← hG6]; exact Le.app
  have g6 : G6[G5.length]? = some (O.lst ((es.drop 13).map .ref)) := by rw [← hG6]; exact get_new
  rw [g6]
  dsimp only
  refine loopF (G0 := G6) (r := G5.length) (d := d) (f := 6) rfl g6 (by simp; omega) (fun e he => ?_) Le.app (Nat.le_refl _) get_new fun G7 l7 h7 => ?_
  · obtain ⟨i, hi⟩ := List.mem_iff_getElem?.mp he
    rw [List.getElem?_drop] at hi
    have h13 : i < 3 := by
      have := (List.getElem?_eq_some_iff.mp hi).1
      omega
    refine ⟨i + 13 + 1, ?_, fld_hi ⟨i, h13⟩⟩
    have e1 := (l.trans (l4.trans (l5.trans l6))) _ _ (hx (13 + i) e hi)
    rw [e1, Nat.add_comm 13 i]
  have n1 : (es.take 13).length = 13 := by rw [List.length_take]; omega
  have n2 : (es.drop 13).length = 3 := by rw [List.length_drop]; omega
  rw [n1] at h5
  rw [n2] at h7
  refine add_LL ((l6.trans l7) _ _ h5) h7 (by simp) ?_
  have l8 : Le G G7 := l.trans (l4.trans (l5.trans (l6.trans l7)))
  generalize hG8 : G7 ++ [O.lst (List.replicate 13 d ++ List.replicate 3 d)] = G8
  have l9 : Le G7 G8 := by rw [← hG8]; exact Le.app
  have g8 : G8[G7.length]? = some (O.lst (List.replicate 16 d)) := by rw [← hG8]; exact get_new
  rw [repr_rp (rp_rep (hS.le (l8.trans l9)) g8)]
  dsimp only
  generalize hG9 : G8 ++ [O.lst [d]] = G9
  have l10 : Le G8 G9 := by rw [← hG9]; exact Le.app
  have g9 : G9[G8.length]? = some (O.lst [d]) := by rw [← hG9]; exact get_new
  show R.sp (match G9[G8.length]? with
    | some (.lst xs) => if -(2 ^ 63) ≤ (16 : Int) ∧ (16 : Int) < 2 ^ 63 ∧ xs.length * (16 : Int).toNat ≤ sizeLine then Eng.alloc (.lst (List.replicate (16 : Int).toNat xs).flatten) G9 else .bad
    | _ => .bad) _ _
  rw [g9]
  dsimp only
  rw [if_pos ⟨by decide, by decide, by rw [szl]; show 1 * 16 ≤ 16777216; omega⟩]
  have g10 : (G9 ++ [O.lst (List.replicate (16 : Int).toNat [d]).flatten])[G9.length]? = some (O.lst (List.replicate 16 d)) := by rw [get_new]; rfl
  have l11 : Le G8 (G9 ++ [O.lst (List.replicate (16 : Int).toNat [d]).flatten]) := l10.trans Le.app
  show R.sp (primD .repr [.ref G9.length] (G9 ++ [O.lst (List.replicate (16 : Int).toNat [d]).flatten])) _ _
  have hR := rp_rep (hS.le ((l8.trans l9).trans l11)) g10
  rw [repr_rp hR]
  unfold R.sp
  dsimp only
  rw [str_eq (strOk_lay hR.sh)]
  exact h _ ((l8.trans l9).trans l11)
end K01
end
section
set_option Elab.async false
set_option linter.all false
set_option maxRecDepth 100000
set_option maxHeartbeats 4000000
namespace K01
open PySem Eng L2
def lw0 : S := (.set 1 (.cal 0 (.cons (.cal 1 (.cons (.var 0) (.cons (.con (.int 0)) .nil)) .nil) (.cons (.bin .Pow (.con (.int 10)) (.con (.int 12))) .nil)) .nil))
def lw1 : S := (.set 2 (.lst (.cons (.cal 2 (.cons (.var 1) .nil) .nil) (.cons (.cal 3 (.cons (.con (.str "elder")) .nil) .nil) .nil))))
def lw2 : S := (.lop (.nm 3) (.e (.lst (.cons (.var 1) (.cons (.bin .Sub (.con (.int 0)) (.var 1)) (.cons (.tup (.cons (.con (.int 1)) (.cons (.con (.int 2)) .nil))) (.cons (.tup .nil) (.cons (.lst (.cons (.con (.int 1)) .nil)) (.cons (.lst .nil) (.cons .dnw (.cons (.dsp "a" (.lst (.cons (.var 1) .nil))) (.cons (.con (.str "a b")) (.cons (.con (.str "")) (.cons (.con (.bl true)) (.cons (.con .non) (.cons (.tup (.cons (.con (.str "f")) (.cons (.con (.int 2)) .nil))) .nil))))))))))))))) (.cons (.par 4 5 (.cal 2 (.cons (.var 3) .nil) .nil) (.cal 3 (.cons (.var 3) .nil) .nil)) (.cons (.ife (.or (.not (.val (.cal 4 (.cons (.var 4) (.cons (.var 3) .nil)) .nil))) (.one (.not (.val (.cal 4 (.cons (.var 5) (.cons (.var 3) .nil)) .nil))))) (.cons (.ret (.con (.bl false))) .nil) .nil) (.cons (.ife (.val (.isi (.var 3) (.b "list"))) (.cons (.exp (.bme .append (.var 3) (.cons (.con (.str "more")) .nil))) .nil) .nil) (.cons (.ife (.val (.isi (.var 3) (.b "dict"))) (.cons (.sst (.var 3) (.con (.str "more")) (.lst (.cons (.con (.int 1)) .nil))) .nil) .nil) (.cons (.ife (.or (.not (.val (.cal 4 (.cons (.var 4) (.cons (.var 3) .nil)) .nil))) (.one (.not (.val (.cal 4 (.cons (.var 5) (.cons (.var 3) .nil)) .nil))))) (.cons (.ret (.con (.bl false))) .nil) .nil) .nil))))))
def lw3 : S := (.ife (.or (.not (.val (.cal 4 (.cons (.sub (.var 2) (.con (.int 0))) (.cons (.var 1) .nil)) .nil))) (.or (.not (.val (.cal 4 (.cons (.sub (.var 2) (.con (.int 1))) (.cons (.con (.str "elder")) .nil)) .nil))) (.one (.not (.val (.cal 4 (.cons (.cal 5 .nil .nil) (.cons (.con .non) .nil)) .nil)))))) (.cons (.ret (.con (.bl false))) .nil) .nil)
def lw4 : S := (.ret (.cmp .Eq (.cal 6 (.cons (.exn 17 false .nil .nil) .nil) .nil) (.lst (.cons (.con (.int 16)) .nil))))
theorem lw_b : b_law = (.cons lw0 (.cons lw1 (.cons lw2 (.cons lw3 (.cons lw4 .nil))))) := rfl
def lwb0 : S := (.par 4 5 (.cal 2 (.cons (.var 3) .nil) .nil) (.cal 3 (.cons (.var 3) .nil) .nil))
def lwb1 : S := (.ife (.or (.not (.val (.cal 4 (.cons (.var 4) (.cons (.var 3) .nil)) .nil))) (.one (.not (.val (.cal 4 (.cons (.var 5) (.cons (.var 3) .nil)) .nil))))) (.cons (.ret (.con (.bl false))) .nil) .nil)
def lwb2 : S := (.ife (.val (.isi (.var 3) (.b "list"))) (.cons (.exp (.bme .append (.var 3) (.cons (.con (.str "more")) .nil))) .nil) .nil)
def lwb3 : S := (.ife (.val (.isi (.var 3) (.b "dict"))) (.cons (.sst (.var 3) (.con (.str "more")) (.lst (.cons (.con (.int 1)) .nil))) .nil) .nil)
def lwb4 : S := (.ife (.or (.not (.val (.cal 4 (.cons (.var 4) (.cons (.var 3) .nil)) .nil))) (.one (.not (.val (.cal 4 (.cons (.var 5) (.cons (.var 3) .nil)) .nil))))) (.cons (.ret (.con (.bl false))) .nil) .nil)
def lwB : Ss := (.cons lwb0 (.cons lwb1 (.cons lwb2 (.cons lwb3 (.cons lwb4 .nil)))))
def lwI : I := (.e (.lst (.cons (.var 1) (.cons (.bin .Sub (.con (.int 0)) (.var 1)) (.cons (.tup (.cons (.con (.int 1)) (.cons (.con (.int 2)) .nil))) (.cons (.tup .nil) (.cons (.lst (.cons (.con (.int 1)) .nil)) (.cons (.lst .nil) (.cons .dnw (.cons (.dsp "a" (.lst (.cons (.var 1) .nil))) (.cons (.con (.str "a b")) (.cons (.con (.str "")) (.cons (.con (.bl true)) (.cons (.con .non) (.cons (.tup (.cons (.con (.str "f")) (.cons (.con (.int 2)) .nil))) .nil)))))))))))))))
theorem lw2_b : lw2 = .lop (.nm 3) lwI lwB := rfl
theorem sp1_of {G : Hh} {d : D} {p : PyData} (h : datR G 19 d = some p) (hc : (shP p && decide (szP p ≤ 1000000) && decide (p.depth ≤ 38)) = true) : Sp1 G d p := by
  simp only [Bool.and_eq_true, decide_eq_true_eq] at hc
  exact ⟨h, hc.1.1, hc.1.2, hc.2⟩
theorem sh_int {n : Int} (h : n.natAbs < 2 ^ 100) : shP (.int n) = true := decide_eq_true (log_lt h)
/-- a plain value -/
def Pl (x : D) : Prop := (∃ p, ∀ G, Sp1 G x p) ∧ (∀ G, isin tb.P G (.b "list") x = some false) ∧ (∀ G, isin tb.P G (.b "dict") x = some false) ∧ ∀ m, x ≠ .ref m
/-- a value of the loop -/
def Vis (G : Hh) (x : D) : Prop := Pl x ∨ ∃ m, x = .ref m ∧ (G[m]? = some (.lst [.int 1]) ∨ G[m]? = some (.lst []) ∨ G[m]? = some (.dic []) ∨ ∃ f n, G[m]? = some (.dic [(.str "a", .ref f)]) ∧ m ≠ f ∧ G[f]? = some (.lst [.int n]) ∧ n.natAbs < 2 ^ 100)
def LeV (x : D) (G G' : Hh) : Prop := ∀ (i : Nat) (o : O), x ≠ .ref i → G[i]? = some o → G'[i]? = some o
theorem lev {x : D} {G G' : Hh} (l : Le G G') : LeV x G G' := fun i o _ h => l i o h
theorem LeV.trans {x : D} {G G1 G2 : Hh} (a : LeV x G G1) (b : LeV x G1 G2) : LeV x G G2 := fun i o h e => b i o h (a i o h e)
theorem LeV.set {G : Hh} {m : Nat} {o : O} : LeV (.ref m) G (G.set m o) := fun i u h e => by
  rw [List.getElem?_set_ne (fun z => h (by rw [z]))]
  exact e
/-- errors stay where another object changes -/
theorem Errs.set {G : Hh} {m r : Nat} {d : D} {o o' : O} (h : Errs G r d) (hm : G[m]? = some o) (h1 : ∀ es : List Nat, es.length = 16 → o ≠ .lst (es.map .ref)) (h2 : ∀ x v, o ≠ .exc x v) : Errs (G.set m o') r d := by
  obtain ⟨es, a, b, c⟩ := h
  refine ⟨es, a, get_set_ne b ?_, fun i e he => get_set_ne (c i e he) ?_⟩
  · rintro rfl
    rw [hm] at b
    cases b
    exact h1 es a rfl
  · rintro rfl
    have q := c i m he
    rw [hm] at q
    cases q
    exact h2 _ _ rfl
theorem Errs.le {G G' : Hh} {r : Nat} {d : D} (h : Errs G r d) (l : Le G G') : Errs G' r d := by
  obtain ⟨es, a, b, c⟩ := h
  exact ⟨es, a, l _ _ b, fun i e he => l _ _ (c i e he)⟩
section
variable {k : Nat} {G : Hh} {a0 a1 a2 a4 a5 : Option D} {d : D} {K : K5}
theorem lwb0_sp (h : ∀ G' r1 r2, Le G G' → Errs G' r1 d → Errs G' r2 d → K.nx [a0, a1, a2, some d, some (.ref r1), some (.ref r2)] G') : wS (cfg tb.P 200 (k + 4)) lwb0 [a0, a1, a2, some d, a4, a5] G K := by
  simp only [lwb0, wS, Eng.wE, wEs, List.getElem?_cons_succ, List.getElem?_cons_zero, cs2, cs3]
  refine placed_sp (k := k + 3) ?_
  intro r1 G1 l1 e1
  refine named_sp (k := k + 3) ?_
  intro r2 G2 l2 e2
  exact h G2 r1 r2 (l1.trans l2) (e1.le l2) e2
theorem chk_sp {r1 r2 : Nat} {p : PyData} (e1 : Errs G r1 d) (e2 : Errs G r2 d) (hp : Sp1 G d p) (h : ∀ G', Le G G' → K.nx [a0, a1, a2, some d, some (.ref r1), some (.ref r2)] G') : wS (cfg tb.P 200 (k + 4)) lwb1 [a0, a1, a2, some d, some (.ref r1), some (.ref r2)] G K := by
  simp only [lwb1, wS, Eng.wE, Eng.wT, wEs, List.getElem?_cons_succ, List.getElem?_cons_zero, cs4]
  refine right_sp (k := k + 1) e1 hp ?_
  intro G1 l1
  simp
  refine right_sp (k := k + 1) (e2.le l1) (hp.le l1) ?_
  intro G2 l2
  simp
  exact h G2 (l1.trans l2)
theorem lwb4_sp {r1 r2 : Nat} {p : PyData} (e1 : Errs G r1 d) (e2 : Errs G r2 d) (hp : Sp1 G d p) (h : ∀ G', Le G G' → K.nx [a0, a1, a2, some d, some (.ref r1), some (.ref r2)] G') : wS (cfg tb.P 200 (k + 4)) lwb4 [a0, a1, a2, some d, some (.ref r1), some (.ref r2)] G K := chk_sp e1 e2 hp h
end
end K01
end
section
set_option Elab.async false
set_option linter.all false
set_option maxRecDepth 100000
set_option maxHeartbeats 4000000
namespace K01
open PySem Eng L2
theorem isin_of {G : Hh} {d : D} {a ty : Ty} {b : Bool} (hk : kindD G d = some a) (hb : (if tb.P.kinds.contains a && tb.P.kinds.contains ty then isT tb.P a ty else none) = some b) : isin tb.P G ty d = some b := by
  unfold isin
  rw [hk]
  exact hb
theorem ls_l {G : Hh} {m : Nat} {xs : List D} (h : G[m]? = some (.lst xs)) : isin tb.P G (.b "list") (.ref m) = some true := isin_of (a := .b "list") (by simp only [kindD, h]) (by decide +kernel)
theorem ls_d {G : Hh} {m : Nat} {xs : List D} (h : G[m]? = some (.lst xs)) : isin tb.P G (.b "dict") (.ref m) = some false := isin_of (a := .b "list") (by simp only [kindD, h]) (by decide +kernel)
theorem dc_l {G : Hh} {m : Nat} {xs : List (D × D)} (h : G[m]? = some (.dic xs)) : isin tb.P G (.b "list") (.ref m) = some false := isin_of (a := .b "dict") (by simp only [kindD, h]) (by decide +kernel)
theorem dc_d {G : Hh} {m : Nat} {xs : List (D × D)} (h : G[m]? = some (.dic xs)) : isin tb.P G (.b "dict") (.ref m) = some true := isin_of (a := .b "dict") (by simp only [kindD, h]) (by decide +kernel)
theorem wSs_cons {c : Cfg} {st : S} {r : Ss} {s : Sl} {G : Hh} {K : K5} : wSs c (.cons st r) s G K = wS c st s G { nx := fun s' G' => wSs c r s' G' K, rt := K.rt, bk := K.bk, ct := K.ct, xc := K.xc } := rfl
section
variable {k : Nat} {G : Hh} {a0 a1 a2 a4 a5 : Option D} {d : D} {K : K5}
theorem lwb2_no (hl : isin tb.P G (.b "list") d = some false) (h : K.nx [a0, a1, a2, some d, a4, a5] G) : wS (cfg tb.P 200 k) lwb2 [a0, a1, a2, some d, a4, a5] G K := by
  simp only [lwb2, wS, Eng.wE, Eng.wT, wEs, List.getElem?_cons_succ, List.getElem?_cons_zero, cfg_P, hl, wO]
  simp
  exact h
theorem lwb2_ls {m : Nat} {xs : List D} (hm : G[m]? = some (.lst xs)) (hx : xs.length < 1000) (h : K.nx [a0, a1, a2, some (.ref m), a4, a5] (G.set m (.lst (xs ++ [.str "more"])))) : wS (cfg tb.P 200 k) lwb2 [a0, a1, a2, some (.ref m), a4, a5] G K := by
  simp only [lwb2, wS, Eng.wE, Eng.wT, wEs, List.getElem?_cons_succ, List.getElem?_cons_zero, cfg_P, ls_l hm, wO, app_okL hm, app_L hm (show xs.length < sizeLine by rw [szl]; omega)]
  simp
  simp only [app_okL hm, app_L hm (show xs.length < sizeLine by rw [szl]; omega), sp_okk, true_and]
  exact h
theorem lwb3_no (hl : isin tb.P G (.b "dict") d = some false) (h : K.nx [a0, a1, a2, some d, a4, a5] G) : wS (cfg tb.P 200 k) lwb3 [a0, a1, a2, some d, a4, a5] G K := by
  simp only [lwb3, wS, Eng.wE, Eng.wT, wEs, List.getElem?_cons_succ, List.getElem?_cons_zero, cfg_P, hl, wO]
  simp
  exact h
theorem lwb3_dc {m : Nat} {xs : List (D × D)} (hm : G[m]? = some (.dic xs)) (hx : xs.length < 1000) (hk : keysB xs = true) (h : K.nx [a0, a1, a2, some (.ref m), a4, a5] ((G ++ [O.lst [.int 1]]).set m (.dic (putD xs (.str "more") (.ref G.length))))) : wS (cfg tb.P 200 k) lwb3 [a0, a1, a2, some (.ref m), a4, a5] G K := by
  have hm2 : (G ++ [O.lst [.int 1]])[m]? = some (.dic xs) := get_app hm
  have hs : setD (G ++ [O.lst [.int 1]]) (.ref m) (.str "more") (.ref G.length) = some ((G ++ [O.lst [.int 1]]).set m (.dic (putD xs (.str "more") (.ref G.length)))) := by
    unfold setD
    simp only [hm2]
    rw [if_pos ⟨by rw [szl]; omega, hk⟩]
  simp only [lwb3, wS, Eng.wE, Eng.wT, wEs, List.getElem?_cons_succ, List.getElem?_cons_zero, cfg_P, dc_d hm, wO]
  simp
  simp only [hs, wO]
  exact h
theorem st1 : PyData.strOk (reprText "a") = true := by decide +kernel
theorem st2 : PyData.strOk (reprText "more") = true := by decide +kernel
theorem sz1 : (reprText "a").length = 3 := by decide +kernel
theorem sz2 : (reprText "more").length = 6 := by decide +kernel
/-- a round of the loop -/
theorem round_sp (hv : Vis G d) (h : ∀ G' r1 r2, LeV d G G' → K.nx [a0, a1, a2, some d, some (.ref r1), some (.ref r2)] G') : wSs (cfg tb.P 200 (k + 4)) lwB [a0, a1, a2, some d, a4, a5] G K := by
  have fin : ∀ {G1 G2 : Hh} {r1 r2 : Nat} {p p' : PyData}, LeV d G G1 → Errs G1 r1 d → Errs G1 r2 d → Sp1 G1 d p → LeV d G1 G2 → Errs G2 r1 d → Errs G2 r2 d → Sp1 G2 d p' →
      (∀ (K' : K5), (∀ G3, LeV d G G3 → K'.nx [a0, a1, a2, some d, some (.ref r1), some (.ref r2)] G3) → wS (cfg tb.P 200 (k + 4)) lwb4 [a0, a1, a2, some d, some (.ref r1), some (.ref r2)] G2 K') := by
    intro G1 G2 r1 r2 p p' l1 _ _ _ l2 e1 e2 hp K' hK
    exact lwb4_sp e1 e2 hp fun G3 l3 => hK G3 ((l1.trans l2).trans (lev l3))
  rw [show lwB = .cons lwb0 (.cons lwb1 (.cons lwb2 (.cons lwb3 (.cons lwb4 .nil)))) from rfl, wSs_cons]
  refine lwb0_sp fun G1 r1 r2 l1 e1 e2 => ?_
  dsimp only
  rcases hv with ⟨⟨p, hp⟩, h1, h2, h3⟩ | ⟨m, rfl, hm⟩
  · rw [wSs_cons]
    refine chk_sp e1 e2 (hp G1) fun G2 l2 => ?_
    dsimp only; rw [wSs_cons]
    refine lwb2_no (h1 G2) ?_
    dsimp only; rw [wSs_cons]
    refine lwb3_no (h2 G2) ?_
    dsimp only; rw [wSs_cons]
    exact fin (lev (l1.trans l2)) (e1.le l2) (e2.le l2) (hp G2) (lev Le.refl) (e1.le l2) (e2.le l2) (hp G2) _ fun G3 l3 => h G3 r1 r2 l3
  · have lst : ∀ (xs : List D) (p p' : PyData), G[m]? = some (.lst xs) → xs.length < 10 → (∀ G : Hh, G[m]? = some (.lst xs) → Sp1 G (.ref m) p) → (∀ G : Hh, G[m]? = some (.lst (xs ++ [.str "more"])) → Sp1 G (.ref m) p') →
        wSs (cfg tb.P 200 (k + 4)) (.cons lwb1 (.cons lwb2 (.cons lwb3 (.cons lwb4 .nil)))) [a0, a1, a2, some (.ref m), some (.ref r1), some (.ref r2)] G1 K := by
      intro xs p p' hm hl q1 q2
      have hm1 := l1 _ _ hm
      rw [wSs_cons]
      refine chk_sp e1 e2 (q1 G1 hm1) fun G2 l2 => ?_
      have hm2 := l2 _ _ hm1
      dsimp only; rw [wSs_cons]
      refine lwb2_ls hm2 (by omega) ?_
      dsimp only; rw [wSs_cons]
      have hm3 : (G2.set m (.lst (xs ++ [.str "more"])))[m]? = some (.lst (xs ++ [.str "more"])) := get_set hm2
      refine lwb3_no (ls_d hm3) ?_
      dsimp only; rw [wSs_cons]
      have n1 : ∀ es : List Nat, es.length = 16 → O.lst xs ≠ .lst (es.map .ref) := fun es he z => by
        cases z
        rw [List.length_map] at hl
        omega
      have n2 : ∀ x v, O.lst xs ≠ .exc x v := fun x v z => by cases z
      exact fin (lev (l1.trans l2)) (e1.le l2) (e2.le l2) (q1 G2 hm2) LeV.set ((e1.le l2).set hm2 n1 n2) ((e2.le l2).set hm2 n1 n2) (q2 _ hm3) _ fun G3 l3 => h G3 r1 r2 l3
    have dic : ∀ (xs : List (D × D)) (p p' : PyData), G[m]? = some (.dic xs) → xs.length < 10 → keysB xs = true → (∀ G' : Hh, Le G G' → Sp1 G' (.ref m) p) → (∀ (G' : Hh) (q : Nat), LeV (.ref m) G G' → G'[m]? = some (.dic (putD xs (.str "more") (.ref q))) → G'[q]? = some (.lst [.int 1]) → Sp1 G' (.ref m) p') →
        wSs (cfg tb.P 200 (k + 4)) (.cons lwb1 (.cons lwb2 (.cons lwb3 (.cons lwb4 .nil)))) [a0, a1, a2, some (.ref m), some (.ref r1), some (.ref r2)] G1 K := by
      intro xs p p' hm hl hk q1 q2
      have hm1 := l1 _ _ hm
      rw [wSs_cons]
      refine chk_sp e1 e2 (q1 G1 l1) fun G2 l2 => ?_
      have hm2 := l2 _ _ hm1
      dsimp only; rw [wSs_cons]
      refine lwb2_no (dc_l hm2) ?_
      dsimp only; rw [wSs_cons]
      refine lwb3_dc hm2 (by omega) hk ?_
      dsimp only; rw [wSs_cons]
      have hm3 : (G2 ++ [O.lst [.int 1]])[m]? = some (.dic xs) := get_app hm2
      have l3 : Le G2 (G2 ++ [O.lst [.int 1]]) := Le.app
      have n1 : ∀ es : List Nat, es.length = 16 → O.dic xs ≠ .lst (es.map .ref) := fun es he z => by cases z
      have n2 : ∀ x v, O.dic xs ≠ .exc x v := fun x v z => by cases z
      have hne : m ≠ G2.length := by have := get_lt hm2; omega
      have l4 : LeV (.ref m) G2 ((G2 ++ [O.lst [.int 1]]).set m (.dic (putD xs (.str "more") (.ref G2.length)))) := (lev l3).trans LeV.set
      exact fin (lev (l1.trans l2)) (e1.le l2) (e2.le l2) (q1 G2 (l1.trans l2)) l4 (((e1.le l2).le l3).set hm3 n1 n2) (((e2.le l2).le l3).set hm3 n1 n2) (q2 _ G2.length ((lev (l1.trans l2)).trans l4) (get_set hm3) (get_set_ne get_new hne)) _ fun G3 l3 => h G3 r1 r2 l3
    rcases hm with hm | hm | hm | ⟨f, n, hm, hne, hf, hn⟩
    · exact lst _ (.list [.int 1]) (.list [.int 1, .str "more"]) hm (by decide) (fun G h => sp1_of (by unfold datR; simp only [h]; rfl) (by decide +kernel)) (fun G h => sp1_of (by unfold datR; simp only [h]; rfl) (by decide +kernel))
    · exact lst _ (.list []) (.list [.str "more"]) hm (by decide) (fun G h => sp1_of (by unfold datR; simp only [h]; rfl) (by decide +kernel)) (fun G h => sp1_of (by unfold datR; simp only [h]; rfl) (by decide +kernel))
    · refine dic _ (.dict []) (.dict [(.str "more", .list [.int 1])]) hm (by decide) rfl (fun G' l => sp1_of (by unfold datR; simp only [l _ _ hm]; rfl) (by decide +kernel)) (fun G' q l hq hq2 => sp1_of ?_ (by decide +kernel))
      have e : datR G' 18 (.ref q) = some (.list [.int 1]) := by unfold datR; simp only [hq2]; rfl
      unfold datR
      simp only [hq]
      simp [putD, datKv, keyDat, e]
    · refine dic _ (.dict [(.str "a", .list [.int n])]) (.dict [(.str "a", .list [.int n]), (.str "more", .list [.int 1])]) hm (by show 1 < 10; omega) rfl (fun G' l => ⟨?_, ?_, ?_, ?_⟩) (fun G' q l hq hq2 => ⟨?_, ?_, ?_, ?_⟩)
      · have e : datR G' 18 (.ref f) = some (.list [.int n]) := by unfold datR; simp only [l _ _ hf]; rfl
        unfold datR
        simp only [l _ _ hm]
        simp [datKv, keyDat, e]
      · simp only [shP, shPk, shPs, st1, decide_eq_true (log_lt hn), Bool.and_self, Bool.and_true]
      · simp only [szP, szPk, szPs, sz1]
        decide
      · simp [PyData.depth, PyData.depthAll, PyData.depthKv]
      · have e1 : datR G' 18 (.ref f) = some (.list [.int n]) := by unfold datR; simp only [l f _ (fun z => hne (by cases z; rfl)) hf]; rfl
        have e : datR G' 18 (.ref q) = some (.list [.int 1]) := by unfold datR; simp only [hq2]; rfl
        have e2 : putD [(D.str "a", D.ref f)] (.str "more") (.ref q) = [(D.str "a", D.ref f), (D.str "more", D.ref q)] := by
          unfold putD
          have e3 : (Str.ofString "a" = Str.ofString "more") = False := eq_false (by decide +kernel)
          simp [e3]
        rw [e2] at hq
        unfold datR
        simp only [hq]
        simp [datKv, keyDat, e, e1]
      · simp only [shP, shPk, shPs, st1, st2, decide_eq_true (log_lt hn), Bool.and_self, Bool.and_true]
        decide +kernel
      · simp only [szP, szPk, szPs, sz1, sz2]
        decide
      · simp [PyData.depth, PyData.depthAll, PyData.depthKv]
end
end K01
end
section
set_option Elab.async false
set_option linter.all false
set_option maxRecDepth 100000
set_option maxHeartbeats 4000000
namespace K01
open PySem Eng L2
theorem Vis.keep {G0 G : Hh} {x : D} {pre : List D} (h : Vis G0 x) (l : ∀ (i : Nat) (o : O), G0[i]? = some o → D.ref i ∉ pre → G[i]? = some o) (h1 : ∀ m, x = .ref m → D.ref m ∉ pre) (h2 : ∀ m f, x = .ref m → G0[m]? = some (.dic [(.str "a", .ref f)]) → D.ref f ∉ pre) : Vis G x := by
  rcases h with h | ⟨m, rfl, h⟩
  · exact .inl h
  · have hm := h1 m rfl
    refine .inr ⟨m, rfl, ?_⟩
    rcases h with h | h | h | ⟨f, n, h, hne, hf, hn⟩
    · exact .inl (l _ _ h hm)
    · exact .inr (.inl (l _ _ h hm))
    · exact .inr (.inr (.inl (l _ _ h hm)))
    · exact .inr (.inr (.inr ⟨f, n, l _ _ h hm, hne, l _ _ hf (h2 m f rfl h), hn⟩))
theorem vloop {k : Nat} {vals : List D} {G0 : Hh} {g : Nat} {a0 a1 a2 a3 a4 a5 : Option D} {K : K5} (hv : ∀ x ∈ vals, Vis G0 x) (hD : ∀ pre x xs, vals = pre ++ x :: xs → ∀ m, x = .ref m → D.ref m ∉ pre) (hF : ∀ m f, D.ref m ∈ vals → G0[m]? = some (.dic [(.str "a", .ref f)]) → D.ref f ∉ vals)
    (hg : G0[g]? = some (.lst vals)) (hg2 : D.ref g ∉ vals) (h : ∀ G' t3 t4 t5, (∀ (i : Nat) (o : O), D.ref i ∉ vals → G0[i]? = some o → G'[i]? = some o) → K.nx [a0, a1, a2, t3, t4, t5] G') :
    (forLoop (It.ok ⟨vals, some g⟩) (forSt (.nm 3) (exs (cfg tb.P 200 (k + 4)) lwB)) vals [a0, a1, a2, a3, a4, a5] G0).sp K := by
  refine for_sp (fun xs s G => (∃ t3 t4 t5, s = [a0, a1, a2, t3, t4, t5]) ∧ ∃ pre, vals = pre ++ xs ∧ ∀ (i : Nat) (o : O), G0[i]? = some o → D.ref i ∉ pre → G[i]? = some o) ?_ ?_ _ _ _ ⟨⟨a3, a4, a5, rfl⟩, [], rfl, fun i o h _ => h⟩
  · rintro x xs s G ⟨⟨t3, t4, t5, rfl⟩, pre, he, l⟩
    have hx : x ∈ vals := by rw [he]; simp
    have sub : ∀ {y : D}, y ∉ vals → y ∉ pre := fun hy hp => hy (by rw [he]; exact List.mem_append_left _ hp)
    refine ⟨it_okg (l _ _ hg (sub hg2)), ?_⟩
    show wSs (cfg tb.P 200 (k + 4)) lwB [a0, a1, a2, some x, t4, t5] G _
    refine round_sp (Vis.keep (hv x hx) l (hD pre x xs he) fun m f hm hf => sub (hF m f (by rw [← hm]; exact hx) hf)) fun G' r1 r2 l2 => ?_
    refine ⟨⟨_, _, _, rfl⟩, pre ++ [x], by rw [he]; simp, fun i o ho hi => ?_⟩
    rw [List.mem_append, not_or] at hi
    refine l2 i o (fun z => hi.2 (by rw [z]; exact List.mem_singleton_self _)) (l i o ho hi.1)
  · rintro s G ⟨⟨t3, t4, t5, rfl⟩, pre, he, l⟩
    rw [List.append_nil] at he
    subst he
    exact ⟨it_okg (l _ _ hg hg2), h G _ _ _ fun i o hi ho => l i o ho hi⟩
theorem pl_of {x : D} {p : PyData} {a : Ty} (h1 : ∀ G, datR G 19 x = some p) (h2 : shP p = true) (h3 : szP p ≤ 1000000) (h4 : p.depth ≤ 38) (h5 : ∀ G, kindD G x = some a) (h6 : (if tb.P.kinds.contains a && tb.P.kinds.contains (.b "list") then isT tb.P a (.b "list") else none) = some false) (h7 : (if tb.P.kinds.contains a && tb.P.kinds.contains (.b "dict") then isT tb.P a (.b "dict") else none) = some false) (h8 : ∀ m, x ≠ .ref m) : Pl x :=
  ⟨⟨p, fun G => ⟨h1 G, h2, h3, h4⟩⟩, fun G => isin_of (h5 G) h6, fun G => isin_of (h5 G) h7, h8⟩
theorem pl_int {n : Int} (h : n.natAbs < 2 ^ 100) : Pl (.int n) := pl_of (p := .int n) (a := .b "int") (fun _ => rfl) (sh_int h) (by show 1921 ≤ 1000000; omega) (by simp [PyData.depth]) (fun _ => rfl) (by decide +kernel) (by decide +kernel) (fun m z => by cases z)
def valsL (N : Nat) (n : Int) : List D := [.int n, .int (-n), .tup [.int 1, .int 2], .tup [], .ref N, .ref (N + 1), .ref (N + 2), .ref (N + 3), .str "a b", .str "", .bl true, .non, .tup [.str "f", .int 2]]
theorem vals_ref {N m : Nat} {n : Int} (h : D.ref m ∈ valsL N n) : N ≤ m ∧ m ≤ N + 3 := by
  simp [valsL] at h
  omega
theorem vals_D {N : Nat} {n : Int} : ∀ pre x xs, valsL N n = pre ++ x :: xs → ∀ m, x = .ref m → D.ref m ∉ pre := by
  rintro pre x xs he m rfl
  have key : ∀ j, (valsL N n)[j]? = some (.ref m) → D.ref m ∉ (valsL N n).take j := by
    intro j hj
    match j, hj with
    | 0, h => simp [valsL] at h
    | 1, h => simp [valsL] at h
    | 2, h => simp [valsL] at h
    | 3, h => simp [valsL] at h
    | 4, h => simp [valsL] at h ⊢
    | 5, h => simp [valsL] at h ⊢; omega
    | 6, h => simp [valsL] at h ⊢; omega
    | 7, h => simp [valsL] at h ⊢; omega
    | 8, h => simp [valsL] at h
    | 9, h => simp [valsL] at h
    | 10, h => simp [valsL] at h
    | 11, h => simp [valsL] at h
    | 12, h => simp [valsL] at h
    | j + 13, h => simp [valsL] at h
  have h1 := key pre.length (by rw [he]; simp)
  rw [he] at h1
  simpa using h1
section
variable {k : Nat} {G : Hh} {a0 a2 a3 a4 a5 : Option D} {K : K5} {n : Int}
theorem lw0_sp {ns : List Int} {a1 : Option D} (h : ∀ G' n, n.natAbs < 2 ^ 100 → K.nx [some (.scr ns), some (.int n), a2, a3, a4, a5] G') : wS (cfg tb.P 200 (k + 3)) lw0 [some (.scr ns), a1, a2, a3, a4, a5] G K := by
  simp only [lw0, wS, Eng.wE, wEs, List.getElem?_cons_succ, List.getElem?_cons_zero, cs0, cs1]
  refine gen_sp (k := k + 1) (by decide) fun a b ha => ?_
  refine pow_lit (v := 10 ^ 12) (by decide +kernel) rfl ?_
  refine rnd_sp (k := k + 1) get_new ha ⟨by decide, by decide⟩ (by decide) (by decide +kernel) fun v a' c' v0 v1 _ _ _ => ?_
  simp only [List.set]
  refine h _ v ?_
  have : (10 : Int) ^ 12 < 2 ^ 100 := by decide
  omega
theorem lw1_sp (h : ∀ (G' : Hh) (el e1 e2 : Nat), G'[el]? = some (.lst [.ref e1, .ref e2]) → Errs G' e1 (.int n) → Errs G' e2 (.str "elder") → K.nx [a0, some (.int n), some (.ref el), a3, a4, a5] G') : wS (cfg tb.P 200 (k + 2)) lw1 [a0, some (.int n), a2, a3, a4, a5] G K := by
  simp only [lw1, wS, Eng.wE, wEs, List.getElem?_cons_succ, List.getElem?_cons_zero, cs2, cs3]
  refine placed_sp (k := k + 1) ?_
  intro r1 G1 l1 e1
  refine named_sp (k := k + 1) ?_
  intro r2 G2 l2 e2
  refine ⟨by simp, ?_⟩
  exact h _ _ r1 r2 get_new ((e1.le l2).le Le.app) (e2.le Le.app)
theorem lw4_sp (h : ∀ G', K.rt (.bl true) G') : wS (cfg tb.P 200 (k + 2)) lw4 [a0, some (.int n), a2, a3, a4, a5] G K := by
  simp only [lw4, wS, Eng.wE, wEs, cfg_P, e017, sp_okk, cs6]
  refine kinds_sp (k := k + 1) get_new ⟨by decide, by decide⟩ ?_
  intro r G1 l h1
  refine ⟨by simp, ?_⟩
  have h2 : (G1 ++ [O.lst [D.int 16]])[r]? = some (.lst [.int 16]) := get_app h1
  have h3 : (G1 ++ [O.lst [D.int 16]])[G1.length]? = some (.lst [.int 16]) := get_new
  have e : cmpop .Eq (.ref r) (.ref G1.length) (G1 ++ [O.lst [D.int 16]]) = some true := by
    simp only [cmpop]
    refine eqD_same (p := .list [.int 16]) ?_ ?_ rfl
    · unfold dfuel; unfold dat; simp only [h2]; rfl
    · unfold dfuel; unfold dat; simp only [h3]; rfl
  rw [e]
  exact h _
theorem lw3_sp {el e1 e2 : Nat} (hn : n.natAbs < 2 ^ 100) (h1 : G[el]? = some (.lst [.ref e1, .ref e2])) (h2 : Errs G e1 (.int n)) (h3 : Errs G e2 (.str "elder")) (h : ∀ G', K.nx [a0, some (.int n), some (.ref el), a3, a4, a5] G') : wS (cfg tb.P 200 (k + 4)) lw3 [a0, some (.int n), some (.ref el), a3, a4, a5] G K := by
  simp only [lw3, wS, Eng.wE, Eng.wT, wEs, List.getElem?_cons_succ, List.getElem?_cons_zero, cs4, cs5]
  rw [subD_L h1]
  simp [atI, ixN]
  refine right_sp (k := k + 1) (p := .int n) h2 ⟨rfl, sh_int hn, by show 1921 ≤ 1000000; omega, by simp [PyData.depth]⟩ ?_
  intro G1 l1
  simp
  rw [subD_L (l1 _ _ h1)]
  simp [atI, ixN]
  refine right_sp (k := k + 1) (p := .str "elder") (h3.le l1) (sp1_of rfl (by decide +kernel)) ?_
  intro G2 l2
  simp
  refine bare_sp (k := k + 3) ?_
  intro r G3 l3 e3
  refine right_sp (k := k + 1) (p := .none) e3 (sp1_of rfl (by decide +kernel)) ?_
  intro G4 l4
  simp
  exact h _
theorem lw2_sp (hn : n.natAbs < 2 ^ 100) (h : ∀ G' t3 t4 t5, Le G G' → K.nx [a0, some (.int n), a2, t3, t4, t5] G') : wS (cfg tb.P 200 (k + 4)) lw2 [a0, some (.int n), a2, a3, a4, a5] G K := by
  rw [lw2_b]
  simp [lwI, wBin, binop, Eng.alloc, R.sp, get_app2, get_app0, dspD, seqOf]
  refine vloop (vals := valsL G.length n) (fun x hx => ?_) vals_D (fun m f hm hf => ?_) (by rw [get_app2]; rfl) (fun z => by have := vals_ref z; omega) fun G' t3 t4 t5 l => h _ _ _ _ fun i o ho => l i o (fun z => by have := vals_ref z; have := get_lt ho; omega) (get_app ho)
  · have hn2 : (-n).natAbs < 2 ^ 100 := by rw [Int.natAbs_neg]; exact hn
    simp only [valsL, List.mem_cons, List.not_mem_nil, or_false] at hx
    rcases hx with rfl | rfl | rfl | rfl | rfl | rfl | rfl | rfl | rfl | rfl | rfl | rfl | rfl
    · exact .inl (pl_int hn)
    · exact .inl (pl_int hn2)
    · exact .inl (pl_of (p := .tuple [.int 1, .int 2]) (a := .b "tuple") (fun _ => rfl) (by decide +kernel) (by decide +kernel) (by decide +kernel) (fun _ => rfl) (by decide +kernel) (by decide +kernel) (fun m z => by cases z))
    · exact .inl (pl_of (p := .tuple []) (a := .b "tuple") (fun _ => rfl) (by decide +kernel) (by decide +kernel) (by decide +kernel) (fun _ => rfl) (by decide +kernel) (by decide +kernel) (fun m z => by cases z))
    · exact .inr ⟨_, rfl, .inl (by rw [get_app0]; rfl)⟩
    · exact .inr ⟨_, rfl, .inr (.inl (by rw [get_app2]; rfl))⟩
    · exact .inr ⟨_, rfl, .inr (.inr (.inl (by rw [get_app2]; rfl)))⟩
    · exact .inr ⟨_, rfl, .inr (.inr (.inr ⟨G.length + 4, n, by rw [get_app2]; rfl, by omega, by rw [get_app2]; rfl, hn⟩))⟩
    · exact .inl (pl_of (p := .str "a b") (a := .b "str") (fun _ => rfl) (by decide +kernel) (by decide +kernel) (by decide +kernel) (fun _ => rfl) (by decide +kernel) (by decide +kernel) (fun m z => by cases z))
    · exact .inl (pl_of (p := .str "") (a := .b "str") (fun _ => rfl) (by decide +kernel) (by decide +kernel) (by decide +kernel) (fun _ => rfl) (by decide +kernel) (by decide +kernel) (fun m z => by cases z))
    · exact .inl (pl_of (p := .bool true) (a := .b "bool") (fun _ => rfl) (by decide +kernel) (by decide +kernel) (by decide +kernel) (fun _ => rfl) (by decide +kernel) (by decide +kernel) (fun m z => by cases z))
    · exact .inl (pl_of (p := .none) (a := .b "NoneType") (fun _ => rfl) (by decide +kernel) (by decide +kernel) (by decide +kernel) (fun _ => rfl) (by decide +kernel) (by decide +kernel) (fun m z => by cases z))
    · exact .inl (pl_of (p := .tuple [.str "f", .int 2]) (a := .b "tuple") (fun _ => rfl) (by decide +kernel) (by decide +kernel) (by decide +kernel) (fun _ => rfl) (by decide +kernel) (by decide +kernel) (fun m z => by cases z))
  · have := vals_ref hm
    obtain ⟨j, rfl⟩ : ∃ j, m = G.length + j := ⟨m - G.length, by omega⟩
    rw [get_app2] at hf
    intro z
    have q := vals_ref z
    match j, hf with
    | 0, hf => cases hf
    | 1, hf => cases hf
    | 2, hf => cases hf
    | 3, hf => cases hf; omega
    | j + 4, hf => omega
theorem law_sp {ns : List Int} {Q : QD} {X : XD} (h : ∀ G', Q (.bl true) G') : (cf (k+5) f_law [.scr ns] G).sp Q X := by
  refine sp_call q_law rfl ?_
  rw [lw_b, wSs_cons]
  show wS (cfg tb.P 200 (k + 4)) lw0 [some (.scr ns), none, none, none, none, none] G _
  refine lw0_sp (k := k + 1) fun G1 n hn => ?_
  dsimp only
  rw [wSs_cons]
  refine lw1_sp (k := k + 2) fun G2 el e1 e2 h1 h2 h3 => ?_
  dsimp only
  rw [wSs_cons]
  refine lw2_sp hn fun G3 t3 t4 t5 l => ?_
  dsimp only
  rw [wSs_cons]
  refine lw3_sp hn (l _ _ h1) (h2.le l) (h3.le l) fun G4 => ?_
  dsimp only
  rw [wSs_cons]
  exact lw4_sp (k := k + 2) fun G5 => h _
end
end K01
end
section
set_option Elab.async false
set_option linter.all false
set_option maxRecDepth 100000
set_option maxHeartbeats 4000000
namespace K01
open PySem Eng L2
theorem answer : ∀ ns : List Int, ns.length ≤ 63 → ∃ G, (callF tb.P 200 40).1 0 [.scr ns] [] = .ok (.bl true) G := by
  intro ns _
  have q : R.sp ((callF tb.P 200 40).1 0 [.scr ns] []) (fun d _ => d = .bl true) (fun _ _ _ => False) := law_sp (k := 35) (G := []) fun G' => rfl
  cases e : (callF tb.P 200 40).1 0 [.scr ns] [] with
  | ok d G =>
    rw [e] at q
    have q' : d = .bl true := q
    subst q'
    exact ⟨G, rfl⟩
  | exc _ _ _ =>
    rw [e] at q
    exact q.elim
  | bad =>
    rw [e] at q
    exact q.elim
end K01
end
open PySem PySem.W PySem.Calls PyProof.Rows
theorem PySem.Challenge.cw_hearunlike_k01_errors_holds : PySem.Challenge.rw_hearunlike_k01_errors.Holds := by
  w_on; o_law
  refine HandSHeadRun.head_any (r := OpenLaw.row PySem.Challenge.rw_hearunlike_k01_errors) (q := K01.qv) (H := K01.hk) (ob := K01.ob) (M := 30000) (loose := K01.loose) (d := HandSHeadRun.topDef (OpenLaw.row PySem.Challenge.rw_hearunlike_k01_errors).prog 29) (kwd := []) Eng.obG_eq
    (by kernel_rfl) (fun s => by kernel_rfl) K01.run (by kernel_rfl) (by kernel_rfl) (by kernel_rfl) (by rfl) (by first | assumption | decide +kernel) (by decide +kernel) ⟨rfl, rfl, rfl, rfl, rfl, by decide +kernel⟩ ?hw ?hc
  case hw => w_witness2
  case hc =>
    exact Eng.law_end (l := PySem.Challenge.rw_hearunlike_k01_errors) (n := 63) (k := 40) (Fu := 200) (li := 0) (x := "script") (t := K01.tb) (ds := K01.ds) (Ns := K01.Ns) (dl := K01.d0) rfl (by decide) (by kernel_rfl) ⟨rfl, by decide, by decide⟩ K01.static K01.shapes (by kernel_rfl) rfl rfl rfl (fun _ _ _ _ _ _ _ => rfl) K01.answer
