import PyProof.Rows.All
import PySem.Str
import Wide.All
import OpenK.AllK
import Wide.FinOn
import HandS.ForMost
import HandS.More
import HandS.DictComp
import HandS.Exc
import HandS.ExcOwn
import HandS.CallSlots
import HandS.WordsExc
import HandS.Defaults
import HandS.Style
import HandS.Deep
import HandS.TupAny
import HandS.RaiseMore
import HandS.WordsDict
import HandS.IsInst
import HandS.Star
import HandS.SuiteRaise
import HandS.ExcInitHot
import HandS.RaiseFrom
import HandS.ReCall
import HandS.Small
import HandS.Iter
import HandS.ExcInit
import HandS.TryMany
import HandS.ExcField
import KE.KExcIs
import HandS.Comp
import KE.GoesMore
import PyProof.EnumMake
import HandS.Head0
import HandS.Head1
import HandS.Head2
import HandS.HeadEnd
import HandS.HeadHook1
import HandS.HeadHook2
import HandS.HeadHook3
import HandS.HeadHook4
import HandS.HotCalls
import PySem.Challenge.RW_answersby_k88_bodies_written
set_option linter.all false
/-! The evaluator: closed trees D, values W (closed, or a location), objects O, the syntax E, S, and what they do. Own work. -/
namespace B
open PySem (Str)

/-- dicts by their keys: texts, numbers, tuples -/
inductive Kd where
  | s | i | t
  deriving DecidableEq, Inhabited
/-- closed trees: what never changes any more -/
inductive D where
  | non | bl (b : Bool) | int (i : Int) | str (s : Str)
  | tup (xs : List D) | lst (xs : List D) | dct (t : Kd) (kvs : List (D × D)) | ins (c : Nat) (fs : List (Nat × D))
  | scr (xs : List D)
  deriving Inhabited

/-- a value: closed, or the object at a place of the heap -/
inductive W where
  | c (d : D) | l (n : Nat)
  deriving Inhabited

/-- an object that may change -/
inductive O where
  | lst (xs : List D) | dct (t : Kd) (kvs : List (D × D)) | dctF (t : Kd) (kvs : List (D × D)) | ins (c : Nat) (fs : List (Nat × W)) | dead
  deriving Inhabited

abbrev A := List O

inductive Res (α : Type) where
  | ok (a : α) (h : A) | err (x : Nat) (d : D) (h : A) | stuck

abbrev Env := List (Option W)
inductive SRes where
  | nx (σ : Env) (h : A) | rt (w : W) (h : A) | bk (σ : Env) (h : A) | ct (σ : Env) (h : A) | er (x : Nat) (d : D) (σ : Env) (h : A) | stuck

def Res.bind {α β : Type} (r : Res α) (f : α → A → Res β) : Res β := match r with
  | .ok a h => f a h
  | .err x d h => .err x d h
  | .stuck => .stuck
def Res.then (r : Res α) (σ : Env) (f : α → A → SRes) : SRes := match r with
  | .ok a h => f a h
  | .err x d h => .er x d σ h
  | .stuck => .stuck
def ofOpt {α β : Type} (o : Option α) (f : α → Res β) : Res β := match o with
  | some a => f a
  | none => .stuck
def ofOptS {α : Type} (o : Option α) (f : α → SRes) : SRes := match o with
  | some a => f a
  | none => .stuck
def must {α : Type} (b : Bool) (r : Res α) : Res α := match b with
  | true => r
  | false => .stuck
def mustS (b : Bool) (r : SRes) : SRes := match b with
  | true => r
  | false => .stuck

/-! ### equality -/
mutual
def D.eqb : D → D → Option Bool
  | .non, .non => some true
  | .bl a, .bl b => some (a == b)
  | .int a, .int b => some (decide (a = b))
  | .str a, .str b => some (decide (a = b))
  | .tup xs, .tup ys => D.eqs xs ys
  | .lst xs, .lst ys => D.eqs xs ys
  | .non, .bl _ | .non, .int _ | .non, .str _ | .non, .tup _ | .non, .lst _ => some false
  | .bl _, .non | .bl _, .str _ | .bl _, .tup _ | .bl _, .lst _ => some false
  | .int _, .non | .int _, .str _ | .int _, .tup _ | .int _, .lst _ => some false
  | .str _, .non | .str _, .bl _ | .str _, .int _ | .str _, .tup _ | .str _, .lst _ => some false
  | .tup _, .non | .tup _, .bl _ | .tup _, .int _ | .tup _, .str _ | .tup _, .lst _ => some false
  | .lst _, .non | .lst _, .bl _ | .lst _, .int _ | .lst _, .str _ | .lst _, .tup _ => some false
  | _, _ => none
def D.eqs : List D → List D → Option Bool
  | [], [] => some true
  | x :: xs, y :: ys => match D.eqb x y with
    | some true => D.eqs xs ys
    | r => r
  | _, _ => some false
end

/-! how deep a tree is -/
mutual
def D.depth : D → Nat
  | .tup xs => D.depths xs + 1
  | .lst xs => D.depths xs + 1
  | _ => 0
def D.depths : List D → Nat
  | [] => 0
  | x :: xs => max (D.depth x) (D.depths xs)
end
/-! trees that == reads through: no dicts, no instances -/
mutual
def D.pyok : D → Bool
  | .tup xs => D.pyoks xs
  | .lst xs => D.pyoks xs
  | .dct _ _ => false
  | .ins _ _ => false
  | .scr _ => false
  | _ => true
def D.pyoks : List D → Bool
  | [] => true
  | x :: xs => D.pyok x && D.pyoks xs
end
/-- == of two trees, where the machine's stack surely suffices -/
def eqD (a b : D) : Option Bool := match a.pyok && b.pyok && decide (min a.depth b.depth ≤ 64) with
  | true => D.eqb a b
  | false => none

/-! ### dicts -/
/-! a key: a number, a text; a tuple of such, of such tuples and of None -/
mutual
def keyT : D → Bool
  | .int _ => true
  | .str _ => true
  | .non => true
  | .tup xs => keyTs xs
  | _ => false
def keyTs : List D → Bool
  | [] => true
  | x :: r => keyT x && keyTs r
end
def keyD : Kd → D → Bool
  | .i, .int _ => true
  | .s, .str _ => true
  | .t, .tup xs => keyTs xs && decide (D.depths xs ≤ 7)
  | _, _ => false
def isEq (a b : D) : Bool := match D.eqb a b with
  | some true => true
  | _ => false
def getK : List (D × D) → D → Option D
  | [], _ => none
  | (k, v) :: r, x => match isEq k x with
    | true => some v
    | false => getK r x
def putK : List (D × D) → D → D → List (D × D)
  | [], x, v => [(x, v)]
  | (k, u) :: r, x, v => match isEq k x with
    | true => (k, v) :: r
    | false => (k, u) :: putK r x v
def delK : List (D × D) → D → List (D × D)
  | [], _ => []
  | (k, u) :: r, x => match isEq k x with
    | true => r
    | false => (k, u) :: delK r x
def dGet (t : Kd) (kvs : List (D × D)) (x : D) : Option (Option D) := match keyD t x with
  | true => some (getK kvs x)
  | false => none
def dPut (t : Kd) (kvs : List (D × D)) (x v : D) : Option (List (D × D)) := match keyD t x with
  | true => some (putK kvs x v)
  | false => none
def dDel (t : Kd) (kvs : List (D × D)) (x : D) : Option (List (D × D)) := match keyD t x with
  | true => some (delK kvs x)
  | false => none
/-- x in xs -/
def inL : List D → D → Option Bool
  | [], x => match x.pyok with
    | true => some false
    | false => none
  | y :: r, x => match eqD y x with
    | some a => match inL r x with
      | some b => some (a || b)
      | none => none
    | none => none
/-- the first place -/
def ixL : List D → D → Nat → Option Nat
  | [], _, _ => none
  | y :: r, x, n => match eqD y x with
    | some true => some n
    | some false => ixL r x (n + 1)
    | none => none

/-! ### what stands behind a value -/
def look (h : A) : W → Option D
  | .c d => some d
  | .l n => match h[n]? with
    | some (.lst xs) => some (.lst xs)
    | some (.dct t kvs) => some (.dct t kvs)
    | some (.dctF t kvs) => some (.dct t kvs)
    | _ => none
def looks (h : A) : List W → Option (List D)
  | [] => some []
  | w :: r => match look h w with
    | some d => match looks h r with
      | some ds => some (d :: ds)
      | none => none
    | none => none

/-! ### freezing: a location becomes a tree; all that it held is dead -/
def fzF (f : W → Option D) : List (Nat × W) → Option (List (Nat × D))
  | [] => some []
  | (a, w) :: r => match f w with
    | some d => match fzF f r with
      | some ds => some ((a, d) :: ds)
      | none => none
    | none => none
def fzW : Nat → A → W → Option D
  | _, _, .c d => some d
  | 0, _, .l _ => none
  | k + 1, h, .l n => match h[n]? with
    | some (.lst xs) => some (.lst xs)
    | some (.dct t kvs) => some (.dct t kvs)
    | some (.ins c fs) => match fzF (fzW k h) fs with
      | some gs => some (.ins c gs)
      | none => none
    | _ => none
/-! the places that freezing goes through -/
def fzLF (f : W → List Nat) : List (Nat × W) → List Nat
  | [] => []
  | (_, w) :: r => f w ++ fzLF f r
def fzL : Nat → A → W → List Nat
  | _, _, .c _ => []
  | 0, _, .l _ => []
  | k + 1, h, .l n => n :: match h[n]? with
    | some (.ins _ fs) => fzLF (fzL k h) fs
    | _ => []
def locW : W → List Nat
  | .c _ => []
  | .l n => [n]
def locF : List (Nat × W) → List Nat
  | [] => []
  | (_, w) :: r => locW w ++ locF r
def locO : O → List Nat
  | .ins _ fs => locF fs
  | _ => []
def locs : List W → List Nat
  | [] => []
  | w :: r => locW w ++ locs r
/-- what is reached, in the order in which it is met -/
def reach : Nat → A → List Nat → List Nat → List Nat
  | 0, _, _, acc => acc
  | _, _, [], acc => acc
  | k + 1, h, n :: r, acc => match acc.contains n with
    | true => reach k h r acc
    | false => match h[n]? with
      | some o => reach k h (locO o ++ r) (acc ++ [n])
      | none => reach k h r acc
def reachK : Nat := 200
def kill (h : A) : List Nat → A
  | [] => h
  | n :: r => kill (h.set n .dead) r
def freeze (h : A) (w : W) : Res D := match w with
  | .c d => .ok d h
  | .l n => match fzW 8 h (.l n) with
    | some d => .ok d (kill h (fzL 8 h (.l n)))
    | none => .stuck
def freezes (h : A) : List W → Res (List D)
  | [] => .ok [] h
  | w :: r => (freeze h w).bind fun d h1 => (freezes h1 r).bind fun ds h2 => .ok (d :: ds) h2

/-! ### renumbering: a call sees what it can reach alone -/
def ixN : List Nat → Nat → Option Nat
  | [], _ => none
  | m :: r, n => match decide (m = n) with
    | true => some 0
    | false => match ixN r n with
      | some i => some (i + 1)
      | none => none
def renW (L : List Nat) : W → Option W
  | .c d => some (.c d)
  | .l n => match ixN L n with
    | some i => some (.l i)
    | none => none
def renF (L : List Nat) : List (Nat × W) → Option (List (Nat × W))
  | [] => some []
  | (f, w) :: r => match renW L w with
    | some w' => match renF L r with
      | some r' => some ((f, w') :: r')
      | none => none
    | none => none
def renO (L : List Nat) : O → Option O
  | .ins c fs => match renF L fs with
    | some fs' => some (.ins c fs')
    | none => none
  | o => some o
def renWs (L : List Nat) : List W → Option (List W)
  | [] => some []
  | w :: r => match renW L w with
    | some w' => match renWs L r with
      | some r' => some (w' :: r')
      | none => none
    | none => none
/-- the heap of the places L -/
def sub (h : A) (L : List Nat) : List Nat → Option A
  | [] => some []
  | n :: r => match h[n]? with
    | some o => match renO L o with
      | some o' => match sub h L r with
        | some r' => some (o' :: r')
        | none => none
      | none => none
    | none => none
/-- back: place i of the callee's heap is the i-th of L, or new -/
def bakN (L : List Nat) (n : Nat) (i : Nat) : Nat := match L[i]? with
  | some m => m
  | none => n + (i - L.length)
def bakW (L : List Nat) (n : Nat) : W → W
  | .c d => .c d
  | .l i => .l (bakN L n i)
def bakF (L : List Nat) (n : Nat) : List (Nat × W) → List (Nat × W)
  | [] => []
  | (f, w) :: r => (f, bakW L n w) :: bakF L n r
def bakO (L : List Nat) (n : Nat) : O → O
  | .ins c fs => .ins c (bakF L n fs)
  | o => o
def putL (L : List Nat) (n : Nat) : A → List Nat → A → A
  | h, m :: r, o :: b => putL L n (h.set m (bakO L n o)) r b
  | h, _, _ => h
def back (L : List Nat) (h b : A) : A := putL L h.length h L b ++ (b.drop L.length).map (bakO L h.length)
/-- a call: only what the arguments reach is seen -/
def callF (R : Nat → List W → A → Res W) (f : Nat) (ws : List W) (h : A) : Res W :=
  let L := reach reachK h (locs ws) []
  ofOpt (sub h L L) fun b => ofOpt (renWs L ws) fun us => match R f us b with
    | .ok w b' => .ok (bakW L h.length w) (back L h b')
    | .err x d b' => .err x d (back L h b')
    | .stuck => .stuck
def upto : Nat → List Nat
  | 0 => []
  | n + 1 => upto n ++ [n]
def locA : A → List Nat
  | [] => []
  | o :: r => locO o ++ locA r
/-- behind a body: what was there, and what is reached from there and from the value -/
def gc (m : Nat) (w : W) (h : A) : Res W :=
  let L := reach reachK h (locA (h.take m) ++ locW w) (upto m)
  ofOpt (sub h L L) fun b => ofOpt (renW L w) fun w' => .ok w' b

/-! ### the syntax -/
/-- what is done with values: the result is part of them, or plain, or fresh -/
inductive Op where
  | add | sub | mul | mod | fdiv | pow
  | eq | ne | lt | le | gt | ge | is_ | isnot | in_ | notin
  deriving DecidableEq
/-- classes that isinstance knows -/
inductive Ty where
  | int | bool | str | tup | lst | dct | own (c : Nat)
/-- built-ins by their names -/
inductive Bi where
  | len | int | str | list | tuple | max2 | min2 | setlen | sortset | sum
  deriving DecidableEq
/-- methods of built-in types -/
inductive Bm where
  | append | extend | insert | popl | index | get2 | pop2 | join | split | endswith
  deriving DecidableEq
/-- what an except suite tells: a constant, the exception's field, whether it is of a class -/
inductive XI where
  | k (d : D) | fld (n : Str) | is (c : Nat)
inductive Tg where
  | nm (i : Nat) | tp (is : List Nat)
mutual
inductive E where
  | var (i : Nat)
  | k (d : D)
  | g (d : D) (x : Str)
  | op (o : Op) (a b : E)
  | cat (a b : E)
  | ch (o p : Op) (a b c : E)
  | bo (isAnd : Bool) (es : List E)
  | not_ (a : E)
  | neg (a : E)
  | ife (c a b : E)
  | tup (es : List E)
  | lst (m : Bool) (es : List E)
  | dic (m : Bool) (t : Kd) (kvs : List (E × E))
  | at_ (o : E) (f : Nat)
  | ix (o i : E)
  | ixo (o i : E)
  | slc (o : E) (lo hi : Option E)
  | rev (o : E)
  | call (f : Nat) (es : List E)
  | mk (c : Nat) (es : List E)
  | mt (m : Nat) (o : E) (es : List E)
  | bi (m : Bool) (b : Bi) (es : List E)
  | bm (m : Bool) (b : Bm) (o : E) (es : List E)
  | isi (e : E) (t : Ty)
  | lc (m : Bool) (own : List Nat) (e : E) (t : Tg) (s : Src) (c : Option E)
  | dc (m : Bool) (u : Kd) (own : List Nat) (ke ve : E) (t : Tg) (s : Src) (c : Option E)
inductive Src where
  | sq (e : E)
  | rg (e : E)
  | rg2 (a b : E)
  | en (e : E)
  | zp (a b : E)
end
inductive S where
  | ex (e : E)
  | set (t : Tg) (e : E)
  | par (i j : Nat) (a b : E)
  | sat (o : E) (f : Nat) (e : E)
  | six (o i e : E)
  | sixo (o i e : E)
  | aug (i : Nat) (o : Op) (e : E)
  | ret (e : E)
  | retN
  | ife (c : E) (a b : List S)
  | for_ (t : Tg) (s : Src) (b : List S)
  | whl (c : E) (b : List S)
  | rai (x : Nat) (e : E)
  | try_ (b : List S) (hs : List (Nat × Option Nat × List S × Option (List XI)))
  | tryr (b : List S) (c x : Nat) (d : D)
  | pass | brk | cnt

structure Cl where
  init : Option Nat
  fz : Bool
  own : List Nat
  mt : List (Nat × Nat)
  sup : List Nat
structure Fn where
  ar : Nat
  sl : Nat
  fz : Bool
  body : List S
structure Gx where
  R : Nat → List W → A → Res W
  Rm : Nat → List W → A → Res W
  C : Nat → Option Cl
  xs : Nat → Nat → Option Bool
  fx : Nat → Str

/-! ### what is done with values -/
def bitLine : Nat := 1000000
def sizeMax : Nat := 16777216
def small (i : Int) : Bool := decide (-(18446744073709551616) < i ∧ i < 18446744073709551616)
def bin : Op → D → D → Option D
  | .add, .int i, .int j => some (.int (i + j))
  | .add, .str x, .str y => match decide (x.length + y.length ≤ sizeMax) with
    | true => some (.str (x ++ y))
    | false => none
  | .add, .lst xs, .lst ys => match decide (xs.length ≤ sizeMax ∧ ys.length ≤ sizeMax ∧ xs.length + ys.length ≤ sizeMax) with
    | true => some (.lst (xs ++ ys))
    | false => none
  | .add, .tup xs, .tup ys => match decide (xs.length + ys.length ≤ sizeMax) with
    | true => some (.tup (xs ++ ys))
    | false => none
  | .sub, .int i, .int j => some (.int (i - j))
  | .mul, .int i, .int j => match small i || small j with
    | true => some (.int (i * j))
    | false => none
  | .mul, .lst xs, .int j => match decide (xs.length * j.toNat ≤ sizeMax ∧ -(9223372036854775808) ≤ j ∧ j < 9223372036854775808) with
    | true => some (.lst (List.replicate j.toNat xs).flatten)
    | false => none
  | .mod, .int i, .int j => match decide (0 < j) with
    | true => some (.int (i % j))
    | false => none
  | .fdiv, .int i, .int j => match decide (0 < j ∧ j < 1073741824) with
    | true => some (.int (i / j))
    | false => none
  | .pow, .int i, .int j => match decide (0 ≤ j ∧ j ≤ 1000000) && small i with
    | true => some (.int (i ^ j.toNat))
    | false => none
  | .eq, a, b => (eqD a b).map .bl
  | .ne, a, b => (eqD a b).map fun r => .bl (!r)
  | .lt, .int i, .int j => some (.bl (decide (i < j)))
  | .le, .int i, .int j => some (.bl (decide (i ≤ j)))
  | .gt, .int i, .int j => some (.bl (decide (j < i)))
  | .ge, .int i, .int j => some (.bl (decide (j ≤ i)))
  | .in_, x, .tup ys => (inL ys x).map .bl
  | .in_, x, .lst ys => (inL ys x).map .bl
  | .in_, .str x, .str z => match x.cps.toList with
    | [c] => some (.bl (decide (c ∈ z.cps.toList)))
    | _ => none
  | .notin, .str x, .str z => match x.cps.toList with
    | [c] => some (.bl (!decide (c ∈ z.cps.toList)))
    | _ => none
  | .in_, x, .dct t kvs => (dGet t kvs x).map fun r => .bl r.isSome
  | .notin, x, .tup ys => (inL ys x).map fun r => .bl (!r)
  | .notin, x, .lst ys => (inL ys x).map fun r => .bl (!r)
  | .notin, x, .dct t kvs => (dGet t kvs x).map fun r => .bl (!r.isSome)
  | _, _, _ => none
def isNon : W → Bool
  | .c .non => true
  | _ => false
/-- is fresh: a list that is made -/
def opW (o : Op) (x y : W) (h : A) : Res W := match o with
  | .is_ => match y with
    | .c .non => .ok (.c (.bl (isNon x))) h
    | _ => .stuck
  | .isnot => match y with
    | .c .non => .ok (.c (.bl (!isNon x))) h
    | _ => .stuck
  | _ => ofOpt (look h x) fun a => ofOpt (look h y) fun b => ofOpt (bin o a b) fun d => .ok (.c d) h
/-- a place of a list by an index of any sign -/
def ixI (n : Nat) (i : Int) : Option Nat := if 0 ≤ i then (if i < n then some i.toNat else none) else if -(n : Int) ≤ i then some (i + n).toNat else none
def getI : D → D → Option D
  | .tup xs, .int i => (ixI xs.length i).bind fun j => xs[j]?
  | .lst xs, .int i => (ixI xs.length i).bind fun j => xs[j]?
  | .scr xs, .int i => (ixI xs.length i).bind fun j => xs[j]?
  | .str s, .int i => match decide (s.length ≤ sizeMax) with
    | true => (ixI s.length i).bind fun j => (s.cps.toList[j]?).map fun c => .str ⟨#[c]⟩
    | false => none
  | .dct t kvs, x => (dGet t kvs x).bind id
  | _, _ => none
/-- an end of a slice -/
def clip (n d : Nat) : Option Int → Nat
  | none => d
  | some v => if v < 0 then (v + (n : Int)).toNat else min v.toNat n
def cut {α : Type} (xs : List α) (lo hi : Option Int) : List α := (xs.drop (clip xs.length 0 lo)).take (clip xs.length xs.length hi - clip xs.length 0 lo)
def cutD (lo hi : Option Int) : D → Option D
  | .tup xs => some (.tup (cut xs lo hi))
  | .lst xs => some (.lst (cut xs lo hi))
  | .str s => match decide (s.length ≤ sizeMax) with
    | true => some (.str ⟨(cut s.cps.toList lo hi).toArray⟩)
    | false => none
  | _ => none
def revD : D → Option D
  | .tup xs => some (.tup xs.reverse)
  | .lst xs => some (.lst xs.reverse)
  | _ => none
def isTy (C : Nat → Option Cl) : D → Ty → Bool
  | .int _, .int => true
  | .bl _, .int => true
  | .bl _, .bool => true
  | .str _, .str => true
  | .tup _, .tup => true
  | .lst _, .lst => true
  | .scr _, .lst => true
  | .dct _ _, .dct => true
  | .ins c _, .own d => match C c with
    | some cl => cl.sup.contains d
    | none => false
  | _, _ => false
/-- the shape of a value, for isinstance -/
def shape (h : A) : W → Option D
  | .c (.scr _) => none
  | .c d => some d
  | .l n => match h[n]? with
    | some (.lst xs) => some (.lst xs)
    | some (.dct t kvs) => some (.dct t kvs)
    | some (.dctF t kvs) => some (.dct t kvs)
    | some (.ins c _) => some (.ins c [])
    | _ => none
def nub : List D → Option (List D)
  | [] => some []
  | x :: r => match nub r with
    | some r' => match inL r' x with
      | some true => some r'
      | some false => some (x :: r')
      | none => none
    | none => none
def sumI : List D → Option Int
  | [] => some 0
  | .int i :: r => (sumI r).map fun s => i + s
  | _ => none
def signs (s : Str) : List D := s.cps.toList.map fun c => .str ⟨#[c]⟩
/-- one digit as a number -/
def digitOf : List Nat → Option D
  | [c] => match decide (48 ≤ c ∧ c < 58) with
    | true => some (.int ((c - 48 : Nat) : Int))
    | false => none
  | _ => none
def bi1 : Bi → D → Option D
  | .len, .tup xs => some (.int xs.length)
  | .len, .lst xs => some (.int xs.length)
  | .len, .scr xs => some (.int xs.length)
  | .len, .str s => match decide (s.length ≤ sizeMax) with
    | true => some (.int s.length)
    | false => none
  | .int, .int i => some (.int i)
  | .int, .bl b => some (.int (if b then 1 else 0))
  | .int, .str s => digitOf s.cps.toList
  | .str, .str s => some (.str s)
  | .str, .int i => match small i with
    | true => some (.str (toString i))
    | false => none
  | .list, .tup xs => some (.lst xs)
  | .list, .lst xs => some (.lst xs)
  | .tuple, .tup xs => some (.tup xs)
  | .tuple, .lst xs => some (.tup xs)
  | .setlen, .tup xs => (nub xs).map fun r => .int r.length
  | .setlen, .lst xs => (nub xs).map fun r => .int r.length
  | .sum, .lst xs => (sumI xs).map .int
  | _, _ => none
def bi2 : Bi → D → D → Option D
  | .max2, .int i, .int j => some (.int (if j > i then j else i))
  | .min2, .int i, .int j => some (.int (if j < i then j else i))
  | _, _, _ => none
def bi (b : Bi) : List D → Option D
  | [x] => bi1 b x
  | [x, y] => bi2 b x y
  | _ => none
/-- the texts of a list of texts -/
def strsD : List D → Option (List Str)
  | [] => some []
  | .str x :: r => match strsD r with
    | some l => some (x :: l)
    | none => none
  | _ => none
/-- the parts between the signs c -/
def splitL (c : Nat) : List Nat → List (List Nat)
  | [] => [[]]
  | x :: r => match decide (x = c) with
    | true => [] :: splitL c r
    | false => match splitL c r with
      | a :: t => (x :: a) :: t
      | [] => [[x]]
def joinD (z : Str) (xs : List D) : Option D := match strsD xs with
  | some l => match decide ((l.map (·.length)).sum + l.length * z.length ≤ sizeMax) with
    | true => some (.str (Str.join z l))
    | false => none
  | none => none
/-- methods that only read -/
def bmR : Bm → D → List D → Option D
  | .get2, .dct t kvs, [x, y] => (dGet t kvs x).map fun r => r.getD y
  | .index, .lst xs, [x] => match D.pyoks xs with
    | true => (ixL xs x 0).map fun n => .int n
    | false => none
  | .index, .tup xs, [x] => match D.pyoks xs with
    | true => (ixL xs x 0).map fun n => .int n
    | false => none
  | .join, .str z, [.lst xs] => joinD z xs
  | .join, .str z, [.tup xs] => joinD z xs
  | .split, .str z, [.str y] => match y.cps.toList with
    | [c] => match decide (z.length + 2 ≤ sizeMax) with
      | true => some (.lst ((splitL c z.cps.toList).map fun l => .str ⟨l.toArray⟩))
      | false => none
    | _ => none
  | _, _, _ => none
def fresh : D → Option O
  | .lst xs => some (.lst xs)
  | .dct t kvs => some (.dct t kvs)
  | _ => none
/-- a value that was made just now: a tree, or an object of its own -/
def born (m : Bool) (d : D) (h : A) : Res W := match m with
  | false => .ok (.c d) h
  | true => ofOpt (fresh d) fun o => .ok (.l h.length) (h ++ [o])
/-- methods that change their list or dict at n -/
def bmW (b : Bm) (n : Nat) (ds : List D) (h : A) : Res W := match b, h[n]?, ds with
  | .append, some (.lst xs), [d] => must (decide (xs.length < sizeMax)) (.ok (.c .non) (h.set n (.lst (xs ++ [d]))))
  | .insert, some (.lst xs), [.int i, d] => must (decide (xs.length < sizeMax ∧ 0 ≤ i ∧ i < 9223372036854775808)) (.ok (.c .non) (h.set n (.lst (xs.take i.toNat ++ [d] ++ xs.drop i.toNat))))
  | .popl, some (.lst xs), [] => ofOpt xs.getLast? fun d => .ok (.c d) (h.set n (.lst xs.dropLast))
  | .pop2, some (.dct t kvs), [x, y] => ofOpt (dGet t kvs x) fun r => match r with
    | some d => ofOpt (dDel t kvs x) fun kvs' => .ok (.c d) (h.set n (.dct t kvs'))
    | none => .ok (.c y) h
  | .extend, some (.lst xs), [.lst ys] => must (decide (xs.length + ys.length ≤ sizeMax)) (.ok (.c .non) (h.set n (.lst (xs ++ ys))))
  | _, _, _ => .stuck
def assocN {α : Type} : List (Nat × α) → Nat → Option α
  | [], _ => none
  | (f, w) :: r, g => match decide (f = g) with
    | true => some w
    | false => assocN r g
def putN {α : Type} : List (Nat × α) → Nat → α → List (Nat × α)
  | [], g, v => [(g, v)]
  | (f, w) :: r, g, v => match decide (f = g) with
    | true => (f, v) :: r
    | false => (f, w) :: putN r g v
def field (h : A) : W → Nat → Option W
  | .c (.ins _ fs), f => (assocN fs f).map .c
  | .l n, f => match h[n]? with
    | some (.ins _ fs) => assocN fs f
    | _ => none
  | _, _ => none
def clsOf (h : A) : W → Option Nat
  | .c (.ins c _) => some c
  | .l n => match h[n]? with
    | some (.ins c _) => some c
    | _ => none
  | _ => none
def intO : Option W → Option (Option Int)
  | none => some none
  | some (.c (.int i)) => some (some i)
  | _ => none
/-- what a loop walks -/
inductive It where
  | cl (xs : List D) | lo (n : Nat) | kd (n : Nat)
def itOf (w : W) (h : A) : Option It := match w with
  | .c (.tup xs) => some (.cl xs)
  | .c (.lst xs) => some (.cl xs)
  | .c (.str s) => some (.cl (signs s))
  | .l n => match h[n]? with
    | some (.lst _) => some (.lo n)
    | _ => none
  | _ => none
def intsN (lo : Int) : Nat → List D
  | 0 => []
  | n + 1 => .int lo :: intsN (lo + 1) n
def inRange (i : Int) : Bool := decide (-(4611686018427387904) ≤ i ∧ i < 4611686018427387904)
def enums : List D → Nat → List D
  | [], _ => []
  | x :: r, i => .tup [.int i, x] :: enums r (i + 1)
def zips : List D → List D → List D
  | x :: r, y :: q => .tup [x, y] :: zips r q
  | _, _ => []
def seqOf : D → Option (List D)
  | .tup xs => some xs
  | .lst xs => some xs
  | _ => none
def bindTg (t : Tg) (w : W) (σ : Env) : Option Env := match t with
  | .nm i => some (σ.set i (some w))
  | .tp is => match w with
    | .c (.tup ds) => match decide (ds.length = is.length) with
      | true => some ((is.zip ds).foldl (fun σ p => σ.set p.1 (some (.c p.2))) σ)
      | false => none
    | _ => none
def wipeE (σ : Env) : List Nat → Env
  | [] => σ
  | i :: r => (wipeE σ r).set i none
/-- a comprehension's loop over what stands -/
def lcGo (f : D → A → Res (Option D)) : List D → List D → A → Res (List D)
  | [], acc, h => .ok acc h
  | d :: r, acc, h => (f d h).bind fun o h1 => match o with
    | some y => must (decide (acc.length < sizeMax)) (lcGo f r (acc ++ [y]) h1)
    | none => lcGo f r acc h1
/-- .. over a list that may change -/
def lcLo (f : D → A → Res (Option D)) (n : Nat) : Nat → Nat → List D → A → Res (List D)
  | 0, i, acc, h => match h[n]? with
    | some (.lst xs) => must (decide (xs.length = i)) (.ok acc h)
    | _ => .stuck
  | k + 1, i, acc, h => match h[n]? with
    | some (.lst xs) => ofOpt xs[i]? fun d => (f d h).bind fun o h1 => match o with
      | some y => must (decide (acc.length < sizeMax)) (lcLo f n k (i + 1) (acc ++ [y]) h1)
      | none => lcLo f n k (i + 1) acc h1
    | _ => .stuck
def lock (n : Nat) (h : A) : Option (List D × A) := match h[n]? with
  | some (.dct t kvs) => some (kvs.map (·.1), h.set n (.dctF t kvs))
  | _ => none
def unlock (n : Nat) (h : A) : A := match h[n]? with
  | some (.dctF t kvs) => h.set n (.dct t kvs)
  | _ => h
def lcIt (f : D → A → Res (Option D)) (it : It) (h : A) : Res (List D) := match it with
  | .cl xs => lcGo f xs [] h
  | .lo n => match h[n]? with
    | some (.lst xs) => lcLo f n xs.length 0 [] h
    | _ => .stuck
  | .kd n => ofOpt (lock n h) fun p => match lcGo f p.1 [] p.2 with
    | .ok r h' => .ok r (unlock n h')
    | .err x d h' => .err x d (unlock n h')
    | .stuck => .stuck
def pairsD : List D → Option (List (D × D))
  | [] => some []
  | .tup [k, v] :: r => (pairsD r).map fun q => (k, v) :: q
  | _ => none
def puts (t : Kd) : List (D × D) → List (D × D) → Option (List (D × D))
  | acc, [] => some acc
  | acc, (k, v) :: r => (dPut t acc k v).bind fun acc' => puts t acc' r
end B

set_option linter.all false
/-! What the syntax does. Own work. -/
namespace B
open PySem (Str)

/-- the frozen or kept value that is stored into a field -/
def storeW (G : Gx) (c f : Nat) (w : W) (h : A) : Res W := match G.C c with
  | some cl => match cl.own.contains f with
    | true => .ok w h
    | false => (freeze h w).bind fun d h1 => .ok (.c d) h1
  | none => .stuck
def setField (G : Gx) (o w : W) (f : Nat) (h : A) : Res Unit := match o with
  | .l n => match h[n]? with
    | some (.ins c _) => (storeW G c f w h).bind fun w' h1 => match h1[n]? with
      | some (.ins c' fs) => must (decide (c' = c) && decide (fs.length < 1000)) (.ok () (h1.set n (.ins c' (putN fs f w'))))
      | _ => .stuck
    | _ => .stuck
  | _ => .stuck
def setItem (o i w : W) (h : A) : Res Unit := match o with
  | .l n => (freeze h w).bind fun v h1 => ofOpt (look h1 i) fun x => match h1[n]? with
    | some (.lst xs) => match x with
      | .int j => ofOpt (ixI xs.length j) fun k => .ok () (h1.set n (.lst (xs.set k v)))
      | _ => .stuck
    | some (.dct t kvs) => must (decide (kvs.length < sizeMax)) (ofOpt (dPut t kvs x v) fun kvs' => .ok () (h1.set n (.dct t kvs')))
    | _ => .stuck
  | _ => .stuck
/-- a new instance -/
def make (G : Gx) (c : Nat) (ws : List W) (h : A) : Res W := ofOpt (G.C c) fun cl => ofOpt cl.init fun f =>
  (callF G.Rm f (.l h.length :: ws) (h ++ [.ins c []])).bind fun u h1 => must (isNon u) (match cl.fz with
    | true => (freeze h1 (.l h.length)).bind fun d h2 => .ok (.c d) h2
    | false => .ok (.l h.length) h1)
def methOf (G : Gx) (m : Nat) (o : W) (h : A) : Option Nat := (clsOf h o).bind fun c => (G.C c).bind fun cl => assocN cl.mt m
def method (G : Gx) (m : Nat) (o : W) (ws : List W) (h : A) : Res W := ofOpt (methOf G m o h) fun f => callF G.Rm f (o :: ws) h
def boolOf (w : W) (f : Bool → Res α) : Res α := match w with
  | .c (.bl b) => f b
  | _ => .stuck
def boolS (w : W) (f : Bool → SRes) : SRes := match w with
  | .c (.bl b) => f b
  | _ => .stuck
/-- no exception leaves a comprehension -/
def noErr {α : Type} : Res α → Res α
  | .ok a h => .ok a h
  | _ => .stuck
/-- an instance of a class that is known -/
def known (G : Gx) : D → Bool
  | .ins c _ => (G.C c).isSome
  | _ => true
/-- == where an own class tells it -/
def ownEq (G : Gx) (x y : W) (h : A) : Res Bool := ofOpt (shape h y) fun d => must (known G d) ((noErr (method G 0 x [y] h)).bind fun r h1 => boolOf r fun b => .ok b h1)
def cmpW (G : Gx) (o : Op) (x y : W) (h : A) : Res W := match o, clsOf h x with
  | .eq, some _ => (ownEq G x y h).bind fun b h1 => .ok (.c (.bl b)) h1
  | .ne, some _ => (ownEq G x y h).bind fun b h1 => .ok (.c (.bl (!b))) h1
  | _, _ => opW o x y h
def ixW (o i : W) (h : A) : Res W := ofOpt (look h o) fun a => ofOpt (look h i) fun b => ofOpt (getI a b) fun d => .ok (.c d) h
/-- whether a value has such a method -/
def recv (b : Bm) (x : W) (h : A) : Bool := match look h x with
  | some (.lst _) => match b with
    | .append | .extend | .insert | .popl | .index => true
    | _ => false
  | some (.tup _) => match b with
    | .index => true
    | _ => false
  | some (.dct _ _) => match b with
    | .get2 | .pop2 => true
    | _ => false
  | some (.str _) => match b with
    | .join | .split | .endswith => true
    | _ => false
  | _ => false
/-- a + b of lists, as a list of its own -/
def catW (x y : W) (h : A) : Res W := ofOpt (look h x) fun a => ofOpt (look h y) fun b => match a, b with
  | .lst xs, .lst ys => must (decide (xs.length + ys.length ≤ sizeMax)) (.ok (.l h.length) (h ++ [.lst (xs ++ ys)]))
  | _, _ => .stuck
def bmL (b : Bm) (x : W) (f : Nat → Res W) : Res W := match x with
  | .l n => f n
  | _ => .stuck
def bmGo (m : Bool) (b : Bm) (x : W) (ws : List W) (h2 : A) : Res W := match b with
  | .extend => bmL b x fun n => ofOpt (looks h2 ws) fun ds => bmW b n ds h2
  | .append | .insert | .popl | .pop2 => bmL b x fun n => (freezes h2 ws).bind fun ds h3 => bmW b n ds h3
  | .get2 => (freezes h2 ws).bind fun ds h3 => ofOpt (look h3 x) fun d => ofOpt (bmR b d ds) fun r => .ok (.c r) h3
  | _ => ofOpt (look h2 x) fun d => ofOpt (looks h2 ws) fun ds => ofOpt (bmR b d ds) fun r => born m r h2
mutual
def ev (G : Gx) : E → Env → A → Res W
  | .var i, σ, h => ofOpt ((σ[i]?).bind id) fun w => .ok w h
  | .k d, _, h => .ok (.c d) h
  | .g d _, _, h => .ok (.c d) h
  | .op o a b, σ, h => (ev G a σ h).bind fun x h1 => (ev G b σ h1).bind fun y h2 => cmpW G o x y h2
  | .cat a b, σ, h => (ev G a σ h).bind fun x h1 => (ev G b σ h1).bind fun y h2 => catW x y h2
  | .ch o p a b c, σ, h => (ev G a σ h).bind fun x h1 => (ev G b σ h1).bind fun y h2 => (opW o x y h2).bind fun r h3 => boolOf r fun t => match t with
    | true => (ev G c σ h3).bind fun z h4 => opW p y z h4
    | false => .ok (.c (.bl false)) h3
  | .bo k es, σ, h => evb G k es σ h
  | .not_ a, σ, h => (ev G a σ h).bind fun x h1 => boolOf x fun b => .ok (.c (.bl (!b))) h1
  | .neg a, σ, h => (ev G a σ h).bind fun x h1 => match x with
    | .c (.int i) => .ok (.c (.int (-i))) h1
    | _ => .stuck
  | .ife c a b, σ, h => (ev G c σ h).bind fun x h1 => boolOf x fun t => match t with
    | true => ev G a σ h1
    | false => ev G b σ h1
  | .tup es, σ, h => (evs G es σ h).bind fun ws h1 => (freezes h1 ws).bind fun ds h2 => .ok (.c (.tup ds)) h2
  | .lst m es, σ, h => (evs G es σ h).bind fun ws h1 => (freezes h1 ws).bind fun ds h2 => born m (.lst ds) h2
  | .dic m t kvs, σ, h => (evd G kvs σ h).bind fun ps h1 => ofOpt (puts t [] ps) fun kvs' => born m (.dct t kvs') h1
  | .at_ o f, σ, h => (ev G o σ h).bind fun x h1 => ofOpt (field h1 x f) fun w => .ok w h1
  | .ix o i, σ, h => (ev G o σ h).bind fun x h1 => (ev G i σ h1).bind fun y h2 => ixW x y h2
  | .ixo o i, σ, h => (ev G o σ h).bind fun x h1 => (ev G i σ h1).bind fun y h2 => method G 1 x [y] h2
  | .slc o lo hi, σ, h => (ev G o σ h).bind fun x h1 => (evo G lo σ h1).bind fun a h2 => ofOpt (intO a) fun i => (evo G hi σ h2).bind fun b h3 => ofOpt (intO b) fun j =>
      ofOpt (look h3 x) fun d => ofOpt (cutD i j d) fun r => .ok (.c r) h3
  | .rev o, σ, h => (ev G o σ h).bind fun x h1 => ofOpt (look h1 x) fun d => ofOpt (revD d) fun r => .ok (.c r) h1
  | .call f es, σ, h => (evs G es σ h).bind fun ws h1 => callF G.R f ws h1
  | .mk c es, σ, h => (evs G es σ h).bind fun ws h1 => make G c ws h1
  | .mt m o es, σ, h => (ev G o σ h).bind fun x h1 => ofOpt (methOf G m x h1) fun f => (evs G es σ h1).bind fun ws h2 => callF G.R f (x :: ws) h2
  | .bi m b es, σ, h => (evs G es σ h).bind fun ws h1 => ofOpt (looks h1 ws) fun ds => ofOpt (bi b ds) fun d => born m d h1
  | .bm m b o es, σ, h => (ev G o σ h).bind fun x h1 => must (recv b x h1) ((evs G es σ h1).bind fun ws h2 => bmGo m b x ws h2)
  | .isi e t, σ, h => (ev G e σ h).bind fun x h1 => ofOpt (shape h1 x) fun d => must (known G d) (.ok (.c (.bl (isTy G.C d t))) h1)
  | .lc m own e t s c, σ, h => (evi G s σ h).bind fun it h1 => (noErr (lcIt (fun d h2 => ofOpt (bindTg t (.c d) (wipeE σ own)) fun σ2 => (evc G c σ2 h2).bind fun b h3 => match b with
      | true => (ev G e σ2 h3).bind fun w h4 => (freeze h4 w).bind fun r h5 => .ok (some r) h5
      | false => .ok none h3) it h1)).bind fun ds h6 => born m (.lst ds) h6
  | .dc m u own ke ve t s c, σ, h => (evi G s σ h).bind fun it h1 => (noErr (lcIt (fun d h2 => ofOpt (bindTg t (.c d) (wipeE σ own)) fun σ2 => (evc G c σ2 h2).bind fun b h3 => match b with
      | true => (ev G ke σ2 h3).bind fun w h4 => (freeze h4 w).bind fun r h5 => (ev G ve σ2 h5).bind fun w2 h6 => (freeze h6 w2).bind fun r2 h7 => .ok (some (.tup [r, r2])) h7
      | false => .ok none h3) it h1)).bind fun ds h6 => ofOpt (pairsD ds) fun ps => ofOpt (puts u [] ps) fun kvs => born m (.dct u kvs) h6
def evs (G : Gx) : List E → Env → A → Res (List W)
  | [], _, h => .ok [] h
  | e :: r, σ, h => (ev G e σ h).bind fun w h1 => (evs G r σ h1).bind fun ws h2 => .ok (w :: ws) h2
def evd (G : Gx) : List (E × E) → Env → A → Res (List (D × D))
  | [], _, h => .ok [] h
  | (a, b) :: r, σ, h => (ev G a σ h).bind fun x h1 => (freeze h1 x).bind fun k h2 => (ev G b σ h2).bind fun y h3 => (freeze h3 y).bind fun v h4 => (evd G r σ h4).bind fun ps h5 => .ok ((k, v) :: ps) h5
def evb (G : Gx) (k : Bool) : List E → Env → A → Res W
  | [], _, _ => .stuck
  | e :: r, σ, h => match r with
    | [] => ev G e σ h
    | _ :: _ => (ev G e σ h).bind fun x h1 => boolOf x fun b => match b == k with
      | true => evb G k r σ h1
      | false => .ok (.c (.bl b)) h1
def evo (G : Gx) : Option E → Env → A → Res (Option W)
  | none, _, h => .ok none h
  | some e, σ, h => (ev G e σ h).bind fun w h1 => .ok (some w) h1
def evc (G : Gx) : Option E → Env → A → Res Bool
  | none, _, h => .ok true h
  | some e, σ, h => (ev G e σ h).bind fun w h1 => boolOf w fun b => .ok b h1
def evi (G : Gx) : Src → Env → A → Res It
  | .sq e, σ, h => (ev G e σ h).bind fun w h1 => ofOpt (itOf w h1) fun it => .ok it h1
  | .rg e, σ, h => (ev G e σ h).bind fun w h1 => match w with
    | .c (.int i) => must (inRange i) (.ok (.cl (intsN 0 i.toNat)) h1)
    | _ => .stuck
  | .rg2 a b, σ, h => (ev G a σ h).bind fun w h1 => (ev G b σ h1).bind fun u h2 => match w, u with
    | .c (.int i), .c (.int j) => must (inRange i && inRange j) (.ok (.cl (intsN i (j - i).toNat)) h2)
    | _, _ => .stuck
  | .en e, σ, h => (ev G e σ h).bind fun w h1 => match w with
    | .c d => ofOpt (seqOf d) fun xs => .ok (.cl (enums xs 0)) h1
    | _ => .stuck
  | .zp a b, σ, h => (ev G a σ h).bind fun w h1 => (ev G b σ h1).bind fun u h2 => match w, u with
    | .c d, .c e => ofOpt (seqOf d) fun xs => ofOpt (seqOf e) fun ys => .ok (.cl (zips xs ys)) h2
    | _, _ => .stuck
end

/-- a for over what stands -/
def forGo (f : D → Env → A → SRes) : List D → Env → A → SRes
  | [], σ, h => .nx σ h
  | d :: r, σ, h => match f d σ h with
    | .nx σ1 h1 => forGo f r σ1 h1
    | .ct σ1 h1 => forGo f r σ1 h1
    | .bk σ1 h1 => .nx σ1 h1
    | x => x
def forLo (f : D → Env → A → SRes) (n : Nat) : Nat → Nat → Env → A → SRes
  | 0, i, σ, h => match h[n]? with
    | some (.lst xs) => mustS (decide (xs.length = i)) (.nx σ h)
    | _ => .stuck
  | k + 1, i, σ, h => match h[n]? with
    | some (.lst xs) => ofOptS xs[i]? fun d => match f d σ h with
      | .nx σ1 h1 => forLo f n k (i + 1) σ1 h1
      | .ct σ1 h1 => forLo f n k (i + 1) σ1 h1
      | .bk σ1 h1 => .nx σ1 h1
      | x => x
    | _ => .stuck
def mapA (f : A → A) : SRes → SRes
  | .nx σ h => .nx σ (f h)
  | .rt w h => .rt w (f h)
  | .bk σ h => .bk σ (f h)
  | .ct σ h => .ct σ (f h)
  | .er x d σ h => .er x d σ (f h)
  | .stuck => .stuck
def forIt (f : D → Env → A → SRes) (it : It) (σ : Env) (h : A) : SRes := match it with
  | .cl xs => forGo f xs σ h
  | .lo n => match h[n]? with
    | some (.lst xs) => forLo f n xs.length 0 σ h
    | _ => .stuck
  | .kd n => ofOptS (lock n h) fun p => mapA (unlock n) (forGo f p.1 σ p.2)
def whlGo (c : Env → A → Res W) (b : Env → A → SRes) : Nat → Env → A → SRes
  | 0, _, _ => .stuck
  | k + 1, σ, h => (c σ h).then σ fun w h1 => boolS w fun t => match t with
    | true => match b σ h1 with
      | .nx σ1 h2 => whlGo c b k σ1 h2
      | .ct σ1 h2 => whlGo c b k σ1 h2
      | .bk σ1 h2 => .nx σ1 h2
      | x => x
    | false => .nx σ h1
def whlMost : Nat := 100000
def forB (t : Tg) (f : Env → A → SRes) (d : D) (σ : Env) (h : A) : SRes := ofOptS (bindTg t (.c d) σ) fun σ1 => f σ1 h

def xi (G : Gx) (x : Nat) (d : D) : XI → Option D
  | .k e => some e
  | .fld n => match decide (G.fx x = n) with
    | true => some d
    | false => none
  | .is c => (G.xs x c).map .bl
def xis (G : Gx) (x : Nat) (d : D) : List XI → Option (List D)
  | [] => some []
  | t :: r => match xi G x d t with
    | some e => match xis G x d r with
      | some es => some (e :: es)
      | none => none
    | none => none
def unset : Option Nat → Env → Env
  | none, σ => σ
  | some i, σ => σ.set i none
def slotIn : Option Nat → Env → Bool
  | none, _ => false
  | some i, σ => decide (i < σ.length)
def aft (i : Option Nat) : SRes → SRes
  | .nx σ h => .nx (unset i σ) h
  | .rt w h => .rt w h
  | .bk σ h => .bk (unset i σ) h
  | .ct σ h => .ct (unset i σ) h
  | _ => .stuck
mutual
def ex (G : Gx) : S → Env → A → SRes
  | .ex e, σ, h => (ev G e σ h).then σ fun _ h1 => .nx σ h1
  | .set t e, σ, h => (ev G e σ h).then σ fun w h1 => ofOptS (bindTg t w σ) fun σ1 => .nx σ1 h1
  | .par i j a b, σ, h => (ev G a σ h).then σ fun x h1 => (ev G b σ h1).then σ fun y h2 => .nx ((σ.set i (some x)).set j (some y)) h2
  | .sat o f e, σ, h => (ev G e σ h).then σ fun w h1 => (ev G o σ h1).then σ fun x h2 => (setField G x w f h2).then σ fun _ h3 => .nx σ h3
  | .six o i e, σ, h => (ev G e σ h).then σ fun w h1 => (ev G o σ h1).then σ fun x h2 => (ev G i σ h2).then σ fun y h3 => (setItem x y w h3).then σ fun _ h4 => .nx σ h4
  | .sixo o i e, σ, h => (ev G e σ h).then σ fun w h1 => (ev G o σ h1).then σ fun x h2 => (ev G i σ h2).then σ fun y h3 => (method G 2 x [y, w] h3).then σ fun _ h4 => .nx σ h4
  | .aug i o e, σ, h => ofOptS ((σ[i]?).bind id) fun x => (ev G e σ h).then σ fun y h1 => (opW o x y h1).then σ fun z h2 => .nx (σ.set i (some z)) h2
  | .ret e, σ, h => (ev G e σ h).then σ fun w h1 => .rt w h1
  | .retN, _, h => .rt (.c .non) h
  | .ife c a b, σ, h => (ev G c σ h).then σ fun w h1 => boolS w fun t => match t with
    | true => exs G a σ h1
    | false => exs G b σ h1
  | .for_ t s b, σ, h => (evi G s σ h).then σ fun it h1 => forIt (forB t (exs G b)) it σ h1
  | .whl c b, σ, h => whlGo (ev G c) (exs G b) whlMost σ h
  | .rai x e, σ, h => (ev G e σ h).then σ fun w h1 => (freeze h1 w).then σ fun d h2 => .er x d σ h2
  | .try_ b hs, σ, h => match exs G b σ h with
    | .er x d σ1 h1 => exh G hs x d σ1 h1
    | r => r
  | .tryr b c x d, σ, h => match exs G b σ h with
    | .er y e σ1 h1 => match G.xs y c with
      | some true => .er x d σ1 h1
      | some false => .er y e σ1 h1
      | none => .stuck
    | r => r
  | .pass, σ, h => .nx σ h
  | .brk, σ, h => .bk σ h
  | .cnt, σ, h => .ct σ h
def exs (G : Gx) : List S → Env → A → SRes
  | [], σ, h => .nx σ h
  | s :: r, σ, h => match ex G s σ h with
    | .nx σ1 h1 => exs G r σ1 h1
    | x => x
def exh (G : Gx) : List (Nat × Option Nat × List S × Option (List XI)) → Nat → D → Env → A → SRes
  | [], x, d, σ, h => .er x d σ h
  | (c, i, b, t) :: r, x, d, σ, h => match G.xs x c with
    | some true => match t with
      | some xs => mustS (slotIn i σ) (ofOptS (xis G x d xs) fun ds => .rt (.c (.lst ds)) h)
      | none => aft i (exs G b (unset i σ) h)
    | some false => exh G r x d σ h
    | none => .stuck
end

/-! ### a program -/
structure Pr where
  fn : Nat → Option Fn
  cl : Nat → Option Cl
  xs : Nat → Nat → Option Bool
  fx : Nat → Str
def retOf (F : Fn) (m : Nat) : SRes → Res W
  | .nx _ h => gc m (.c .non) h
  | .rt w h => match F.fz with
    | true => (freeze h w).bind fun d h1 => gc m (.c d) h1
    | false => gc m w h
  | .er x d _ h => (gc m (.c .non) h).bind fun _ h1 => .err x d h1
  | _ => .stuck
def bodyF (P : Pr) (R Rm : Nat → List W → A → Res W) (f : Nat) (ws : List W) (h : A) : Res W := ofOpt (P.fn f) fun F => must (decide (ws.length = F.ar)) (retOf F h.length (exs { R := R, Rm := Rm, C := P.cl, xs := P.xs, fx := P.fx } F.body (ws.map some ++ List.replicate (F.sl - F.ar) none) h))
def noRun : Nat → List W → A → Res W := fun _ _ _ => .stuck
def run (P : Pr) : Nat → Nat → List W → A → Res W
  | 0 => noRun
  | 1 => bodyF P noRun noRun
  | k + 2 => bodyF P (run P (k + 1)) (run P k)
def gxOf (P : Pr) (k : Nat) : Gx := { R := run P k, Rm := run P (k - 1), C := P.cl, xs := P.xs, fx := P.fx }
theorem run_succ (P : Pr) (k f : Nat) (ws : List W) (h : A) : run P (k + 1) f ws h = ofOpt (P.fn f) fun F => must (decide (ws.length = F.ar)) (retOf F h.length (exs (gxOf P k) F.body (ws.map some ++ List.replicate (F.sl - F.ar) none) h)) := by
  cases k <;> rfl
end B

set_option Elab.async false
set_option linter.all false
set_option maxRecDepth 100000
set_option maxHeartbeats 2000000
/-! What the evaluator's values stand for in the layer's heap. Own work. -/
namespace B
open PySem PySem.Spec PyProof.Rows L2

/-- where the classes stand, what the fields are called -/
structure Nm where
  cls : Nat → Addr
  exc : Nat → Addr
  fn : Nat → Addr
  at_ : Nat → Str
  inj : ∀ i j, at_ i = at_ j → i = j
  mtn : Nat → Str
  far : ∀ f m, at_ f ≠ mtn m
  md : Nat → Bool

def keyOf : D → Option Key
  | .int i => some (.inl i)
  | .str s => some (.inr s)
  | _ => none
/-- a list of the module -/
def KLst (K : PySem.W.Frag) (a : Addr) (xs : List V) : Prop := ∃ (o : Obj) (its : Array Value) (n : Nat), K.lookup a = some o ∧ o.cls = .type "list" ∧ o.dict = none ∧ o.data = .seq its n ∧ its.size ≤ sizeLine ∧ Vals xs its.toList
/-- a tuple of the module -/
def KTup (K : PySem.W.Frag) (a : Addr) (xs : List V) : Prop := ∃ (o : Obj) (its : Array Value) (n : Nat), K.lookup a = some o ∧ o.cls = .type "tuple" ∧ o.data = .seq its n ∧ its.size ≤ sizeLine ∧ Vals xs its.toList

section
variable (K : PySem.W.Frag) (w : World) (N : Nm) (H : Hp) (M : Addr → Prop)
mutual
def RepD : D → V → Prop
  | .non, v => v = .non
  | .bl b, v => v = .bl b
  | .int i, v => v = .int i
  | .str s, v => v = .str s ∧ PyData.strOk s = true
  | .tup xs, v => ∃ a vs, v = .ref a ∧ ((H a = some (.tup vs) ∧ ¬ M a) ∨ KTup K a vs) ∧ RepDs xs vs
  | .lst xs, v => ∃ a vs, v = .ref a ∧ H a = some (.lst vs) ∧ ¬ M a ∧ RepDs xs vs
  | .scr xs, v => ∃ a vs, v = .ref a ∧ ((Rd H a (.lst vs) ∧ ¬ M a) ∨ KLst K a vs) ∧ RepDs xs vs
  | .dct .t _, _ => False
  | .dct t kvs, v => ∃ a, v = .ref a ∧ ((∃ ks, Rd H a (.dK ks) ∧ ¬ M a ∧ (ks.map (·.1)).Nodup ∧ RepKs kvs ks) ∨
      (t = .s ∧ (∃ es n, KDict K w a es n) ∧ RepKD a kvs ∧ ∀ z : Str, (∀ p ∈ kvs, p.1 ≠ .str z) → PySem.W.nsIn K a z = some none))
  | .ins c fs, v => ∃ a dx vs, v = .ref a ∧ H a = some (.ins (N.cls c) dx vs) ∧ ¬ M a ∧ RepFs fs vs
def RepDs : List D → List V → Prop
  | [], vs => vs = []
  | d :: r, vs => ∃ v vs', vs = v :: vs' ∧ RepD d v ∧ RepDs r vs'
def RepKs : List (D × D) → List (Key × V) → Prop
  | [], vs => vs = []
  | (k, d) :: r, vs => ∃ k' v vs', vs = (k', v) :: vs' ∧ keyOf k = some k' ∧ RepD d v ∧ RepKs r vs'
def RepKD (a : Addr) : List (D × D) → Prop
  | [] => True
  | (k, d) :: r => (∃ z u v, k = .str z ∧ PySem.W.nsIn K a z = some (some u) ∧ RelV v u ∧ RepD d v) ∧ RepKD a r
def RepFs : List (Nat × D) → List (Str × V) → Prop
  | [], vs => vs = []
  | (f, d) :: r, vs => ∃ v vs', vs = (N.at_ f, v) :: vs' ∧ RepD d v ∧ RepFs r vs'
end
end

/-- what stands goes on standing: P the addresses that may change here, M all those that trees must not have -/
structure Keep (H : Hp) (P M : Addr → Prop) (H' : Hp) (P' M' : Addr → Prop) : Prop where
  keep : ∀ a o, H a = some o → ¬ P a → H' a = some o
  sub : ∀ a, P a → M a
  new : ∀ a, M' a → M a ∨ H a = none
  newP : ∀ a, P' a → P a ∨ H a = none
  there : ∀ a o, H a = some o → ∃ o', H' a = some o'
theorem Keep.refl (H : Hp) (P M : Addr → Prop) (s : ∀ a, P a → M a) : Keep H P M H P M := ⟨fun _ _ h _ => h, s, fun _ h => .inl h, fun _ h => .inl h, fun _ o h => ⟨o, h⟩⟩
theorem Keep.not {H H' : Hp} {P M P' M' : Addr → Prop} (k : Keep H P M H' P' M') {a : Addr} {o : HO} (h : H a = some o) (m : ¬ M a) : ¬ M' a := fun q => by
  rcases k.new a q with z | z
  · exact m z
  · rw [h] at z; cases z
theorem Keep.at {H H' : Hp} {P M P' M' : Addr → Prop} (k : Keep H P M H' P' M') {a : Addr} {o : HO} (h : H a = some o) (m : ¬ M a) : H' a = some o := k.keep a o h fun p => m (k.sub a p)
theorem Keep.gone {H H' : Hp} {P M P' M' : Addr → Prop} (k : Keep H P M H' P' M') {a : Addr} (n : H' a = none) : H a = none := by
  cases q : H a with
  | none => rfl
  | some o =>
    obtain ⟨o', z⟩ := k.there a o q
    rw [n] at z; cases z
theorem Keep.trans {H H1 H2 : Hp} {P M P1 M1 P2 M2 : Addr → Prop} (a : Keep H P M H1 P1 M1) (b : Keep H1 P1 M1 H2 P2 M2) : Keep H P M H2 P2 M2 where
  keep := fun c o h m => b.keep c o (a.keep c o h m) fun p => by
    rcases a.newP c p with z | z
    · exact m z
    · rw [h] at z; cases z
  sub := a.sub
  new := fun c h => by
    rcases b.new c h with z | z
    · exact a.new c z
    · exact .inr (a.gone z)
  newP := fun c h => by
    rcases b.newP c h with z | z
    · exact a.newP c z
    · exact .inr (a.gone z)
  there := fun c o h => by
    obtain ⟨o', z⟩ := a.there c o h
    exact b.there c o' z
theorem Keep.rd {H H' : Hp} {P M P' M' : Addr → Prop} (k : Keep H P M H' P' M') {a : Addr} {o : HO} (h : Rd H a o) (m : ¬ M a) : Rd H' a o ∧ ¬ M' a := by
  rcases h with h | ⟨u, h⟩
  · exact ⟨.inl (k.at h m), k.not h m⟩
  · exact ⟨.inr ⟨u, k.at h m⟩, k.not h m⟩

section
variable {K : PySem.W.Frag} {w : World} {N : Nm} {H H' : Hp} {P P' M M' : Addr → Prop}
mutual
theorem RepD.keep (k : Keep H P M H' P' M') : ∀ {d : D} {v : V}, RepD K w N H M d v → RepD K w N H' M' d v
  | .non, _, h => h
  | .bl _, _, h => h
  | .int _, _, h => h
  | .str _, _, h => h
  | .tup xs, v, h => by
    unfold RepD at h ⊢
    obtain ⟨a, vs, e, r, q⟩ := h
    refine ⟨a, vs, e, ?_, RepDs.keep k q⟩
    rcases r with ⟨r, m⟩ | r
    · exact .inl ⟨k.at r m, k.not r m⟩
    · exact .inr r
  | .lst xs, v, h => by
    unfold RepD at h ⊢
    obtain ⟨a, vs, e, r, m, q⟩ := h
    exact ⟨a, vs, e, k.at r m, k.not r m, RepDs.keep k q⟩
  | .scr xs, v, h => by
    unfold RepD at h ⊢
    obtain ⟨a, vs, e, r, q⟩ := h
    refine ⟨a, vs, e, ?_, RepDs.keep k q⟩
    rcases r with ⟨r, m⟩ | r
    · exact .inl ⟨(k.rd r m).1, (k.rd r m).2⟩
    · exact .inr r
  | .dct .t kvs, v, h => by unfold RepD at h; exact h.elim
  | .dct .s kvs, v, h => by
    unfold RepD at h ⊢
    obtain ⟨a, e, r⟩ := h
    refine ⟨a, e, ?_⟩
    rcases r with ⟨ks, r, m, nd, q⟩ | ⟨t, r, q, z⟩
    · exact .inl ⟨ks, (k.rd r m).1, (k.rd r m).2, nd, RepKs.keep k q⟩
    · exact .inr ⟨t, r, RepKD.keep k q, z⟩
  | .dct .i kvs, v, h => by
    unfold RepD at h ⊢
    obtain ⟨a, e, r⟩ := h
    refine ⟨a, e, ?_⟩
    rcases r with ⟨ks, r, m, nd, q⟩ | ⟨t, r, q, z⟩
    · exact .inl ⟨ks, (k.rd r m).1, (k.rd r m).2, nd, RepKs.keep k q⟩
    · exact .inr ⟨t, r, RepKD.keep k q, z⟩
  | .ins c fs, v, h => by
    unfold RepD at h ⊢
    obtain ⟨a, dx, vs, e, r, m, q⟩ := h
    exact ⟨a, dx, vs, e, k.at r m, k.not r m, RepFs.keep k q⟩
theorem RepDs.keep (k : Keep H P M H' P' M') : ∀ {xs : List D} {vs : List V}, RepDs K w N H M xs vs → RepDs K w N H' M' xs vs
  | [], _, h => h
  | d :: r, vs, h => by
    unfold RepDs at h ⊢
    obtain ⟨v, vs', e, a, b⟩ := h
    exact ⟨v, vs', e, RepD.keep k a, RepDs.keep k b⟩
theorem RepKs.keep (k : Keep H P M H' P' M') : ∀ {xs : List (D × D)} {vs : List (Key × V)}, RepKs K w N H M xs vs → RepKs K w N H' M' xs vs
  | [], _, h => h
  | (c, d) :: r, vs, h => by
    unfold RepKs at h ⊢
    obtain ⟨k', v, vs', e, z, a, b⟩ := h
    exact ⟨k', v, vs', e, z, RepD.keep k a, RepKs.keep k b⟩
theorem RepKD.keep (k : Keep H P M H' P' M') {a : Addr} : ∀ {xs : List (D × D)}, RepKD K w N H M a xs → RepKD K w N H' M' a xs
  | [], h => h
  | (c, d) :: r, h => by
    unfold RepKD at h ⊢
    obtain ⟨⟨z, u, v, e, n, q, b⟩, g⟩ := h
    exact ⟨⟨z, u, v, e, n, q, RepD.keep k b⟩, RepKD.keep k g⟩
theorem RepFs.keep (k : Keep H P M H' P' M') : ∀ {xs : List (Nat × D)} {vs : List (Str × V)}, RepFs K w N H M xs vs → RepFs K w N H' M' xs vs
  | [], _, h => h
  | (f, d) :: r, vs, h => by
    unfold RepFs at h ⊢
    obtain ⟨v, vs', e, a, b⟩ := h
    exact ⟨v, vs', e, RepD.keep k a, RepFs.keep k b⟩
end
end
end B

set_option Elab.async false
set_option linter.all false
set_option maxRecDepth 100000
set_option maxHeartbeats 2000000
/-! The evaluator's heap in the layer's heap; what an evaluation promises. Own work. -/
namespace B
open PySem PySem.Spec PyProof.Rows L2

def isDead : O → Bool
  | .dead => true
  | _ => false
/-- the addresses that may change -/
def PP (ρ : List Addr) (h : A) : Addr → Prop := fun a => ∃ (i : Nat) (o : O), ρ[i]? = some a ∧ h[i]? = some o ∧ isDead o = false
/-- .. and those that callers may change -/
def MM (Z : Addr → Prop) (ρ : List Addr) (h : A) : Addr → Prop := fun a => PP ρ h a ∨ Z a
section
variable (K : PySem.W.Frag) (w : World) (N : Nm)
def RepW (ρ : List Addr) (H : Hp) (M : Addr → Prop) : W → V → Prop
  | .c d, v => RepD K w N H M d v
  | .l n, v => ∃ a, ρ[n]? = some a ∧ v = .ref a
def RepWs (ρ : List Addr) (H : Hp) (M : Addr → Prop) : List W → List V → Prop
  | [], vs => vs = []
  | x :: r, vs => ∃ v vs', vs = v :: vs' ∧ RepW K w N ρ H M x v ∧ RepWs ρ H M r vs'
def RepWF (ρ : List Addr) (H : Hp) (M : Addr → Prop) : List (Nat × W) → List (Str × V) → Prop
  | [], vs => vs = []
  | (f, x) :: r, vs => ∃ v vs', vs = (N.at_ f, v) :: vs' ∧ RepW K w N ρ H M x v ∧ RepWF ρ H M r vs'
def RepDc (H : Hp) (M : Addr → Prop) (t : Kd) (kvs : List (D × D)) (o : HO) : Prop := t ≠ .t ∧ ∃ ks, o = .dK ks ∧ (ks.map (·.1)).Nodup ∧ RepKs K w N H M kvs ks
def RepO (ρ : List Addr) (H : Hp) (M : Addr → Prop) : O → HO → Prop
  | .lst xs, o => ∃ vs, o = .lst vs ∧ RepDs K w N H M xs vs
  | .dct t kvs, o => RepDc K w N H M t kvs o
  | .dctF t kvs, o => ∃ ob u, o = .frz ob u ∧ RepDc K w N H M t kvs u
  | .ins c fs, o => ∃ dx vs, o = .ins (N.cls c) dx vs ∧ RepWF K w N ρ H M fs vs
  | .dead, _ => True
structure RepA (Z : Addr → Prop) (H : Hp) (ρ : List Addr) (h : A) : Prop where
  len : ρ.length = h.length
  nd : ρ.Nodup
  far : ∀ a, Z a → (∃ o, H a = some o) ∧ a ∉ ρ
  obj : ∀ (i : Nat) (o : O) (a : Addr), h[i]? = some o → ρ[i]? = some a → ∃ ho, H a = some ho ∧ RepO K w N ρ H (MM Z ρ h) o ho
structure RepE (ρ : List Addr) (H : Hp) (M : Addr → Prop) (σ : Env) (σV : L2.St) : Prop where
  len : σ.length = σV.length
  get : ∀ (i : Nat) (x : W), σ[i]? = some (some x) → ∃ v, σV[i]? = some (some v) ∧ RepW K w N ρ H M x v
/-- an exception of the class x with the field's value d -/
def RepX (xf : Nat → Str) (H : Hp) (M : Addr → Prop) (x : Nat) (d : D) (cls : Value) (dd : Option Addr) : Prop :=
  cls = .ref (N.exc x) ∧ ∃ a v, dd = some a ∧ H a = some (.xd [(xf x, v)]) ∧ ¬ M a ∧ RepD K w N H M d v
end
structure Ext (Z : Addr → Prop) (H : Hp) (ρ : List Addr) (h : A) (H' : Hp) (ρ' : List Addr) (h' : A) : Prop where
  keep : Keep H (PP ρ h) (MM Z ρ h) H' (PP ρ' h') (MM Z ρ' h')
  pre : ∃ t, ρ' = ρ ++ t
  fresh : ∀ t, ρ' = ρ ++ t → ∀ a ∈ t, H a = none
theorem Ext.refl (Z : Addr → Prop) (H : Hp) (ρ : List Addr) (h : A) : Ext Z H ρ h H ρ h := ⟨Keep.refl _ _ _ fun _ p => .inl p, ⟨[], by simp⟩, fun t e a ha => by
  have : t = [] := by simpa using e.symm
  subst this; cases ha⟩
theorem Ext.trans {Z : Addr → Prop} {H H1 H2 : Hp} {ρ ρ1 ρ2 : List Addr} {h h1 h2 : A} (a : Ext Z H ρ h H1 ρ1 h1) (b : Ext Z H1 ρ1 h1 H2 ρ2 h2) : Ext Z H ρ h H2 ρ2 h2 := by
  obtain ⟨s, e1⟩ := a.pre
  obtain ⟨t, e2⟩ := b.pre
  refine ⟨a.keep.trans b.keep, ⟨s ++ t, by rw [e2, e1, List.append_assoc]⟩, fun u eu c hc => ?_⟩
  have : u = s ++ t := by
    rw [e2, e1, List.append_assoc] at eu
    exact (List.append_cancel_left eu).symm
  subst this
  rcases List.mem_append.mp hc with hc | hc
  · exact a.fresh s e1 c hc
  · exact a.keep.gone (b.fresh t e2 c hc)
theorem pre_get {ρ ρ' : List Addr} (p : ∃ t, ρ' = ρ ++ t) {i : Nat} {a : Addr} (e : ρ[i]? = some a) : ρ'[i]? = some a := by
  obtain ⟨t, rfl⟩ := p
  have hi : i < ρ.length := (List.getElem?_eq_some_iff.mp e).1
  rw [List.getElem?_append_left hi]; exact e
section
variable {K : PySem.W.Frag} {w : World} {N : Nm} {H H' : Hp} {P P' M M' : Addr → Prop} {ρ ρ' : List Addr} {h h' : A} {σ : Env} {σV : L2.St}
theorem RepW.keep (k : Keep H P M H' P' M') (p : ∃ t, ρ' = ρ ++ t) : ∀ {x : W} {v : V}, RepW K w N ρ H M x v → RepW K w N ρ' H' M' x v
  | .c _, _, q => RepD.keep k q
  | .l _, _, ⟨a, e, r⟩ => ⟨a, pre_get p e, r⟩
theorem RepWs.keep (k : Keep H P M H' P' M') (p : ∃ t, ρ' = ρ ++ t) : ∀ {xs : List W} {vs : List V}, RepWs K w N ρ H M xs vs → RepWs K w N ρ' H' M' xs vs
  | [], _, q => q
  | _ :: _, _, ⟨v, vs', e, a, b⟩ => ⟨v, vs', e, a.keep k p, RepWs.keep k p b⟩
theorem RepWF.keep (k : Keep H P M H' P' M') (p : ∃ t, ρ' = ρ ++ t) : ∀ {xs : List (Nat × W)} {vs : List (Str × V)}, RepWF K w N ρ H M xs vs → RepWF K w N ρ' H' M' xs vs
  | [], _, q => q
  | (_, _) :: _, _, ⟨v, vs', e, a, b⟩ => ⟨v, vs', e, a.keep k p, RepWF.keep k p b⟩
theorem RepDc.keep (k : Keep H P M H' P' M') {t : Kd} {kvs : List (D × D)} {o : HO} : RepDc K w N H M t kvs o → RepDc K w N H' M' t kvs o
  | ⟨z, ks, e, nd, q⟩ => ⟨z, ks, e, nd, q.keep k⟩
theorem RepO.keep (k : Keep H P M H' P' M') (p : ∃ t, ρ' = ρ ++ t) : ∀ {o : O} {ho : HO}, RepO K w N ρ H M o ho → RepO K w N ρ' H' M' o ho
  | .lst _, _, ⟨vs, e, q⟩ => ⟨vs, e, q.keep k⟩
  | .dct _ _, _, q => RepDc.keep k q
  | .dctF _ _, _, ⟨ob, u, e, q⟩ => ⟨ob, u, e, q.keep k⟩
  | .ins _ _, _, ⟨dx, vs, e, q⟩ => ⟨dx, vs, e, q.keep k p⟩
  | .dead, _, _ => trivial
theorem RepE.keep (k : Keep H P M H' P' M') (p : ∃ t, ρ' = ρ ++ t) (r : RepE K w N ρ H M σ σV) : RepE K w N ρ' H' M' σ σV :=
  ⟨r.len, fun i x e => let ⟨v, e1, q⟩ := r.get i x e; ⟨v, e1, q.keep k p⟩⟩
theorem RepE.set (r : RepE K w N ρ H M σ σV) {x : W} {v : V} (q : RepW K w N ρ H M x v) (i : Nat) : RepE K w N ρ H M (σ.set i (some x)) (σV.set i (some v)) := by
  refine ⟨by rw [List.length_set, List.length_set, r.len], fun j y e => ?_⟩
  rw [List.getElem?_set] at e ⊢
  by_cases hj : i = j
  · subst hj
    rw [if_pos rfl] at e ⊢
    by_cases hl : i < σ.length
    · rw [if_pos hl] at e
      rw [if_pos (r.len ▸ hl)]
      cases e
      exact ⟨v, rfl, q⟩
    · rw [if_neg hl] at e; cases e
  · rw [if_neg hj] at e ⊢
    exact r.get j y e
theorem RepE.unset (r : RepE K w N ρ H M σ σV) (i : Nat) (u : Option V) : RepE K w N ρ H M (σ.set i none) (σV.set i u) := by
  refine ⟨by rw [List.length_set, List.length_set, r.len], fun j y e => ?_⟩
  rw [List.getElem?_set] at e
  by_cases hj : i = j
  · subst hj
    rw [if_pos rfl] at e
    by_cases hl : i < σ.length
    · rw [if_pos hl] at e; cases e
    · rw [if_neg hl] at e; cases e
  · rw [if_neg hj] at e
    rw [List.getElem?_set_ne hj]
    exact r.get j y e
theorem RepWs.length : ∀ {xs : List W} {vs : List V}, RepWs K w N ρ H M xs vs → xs.length = vs.length
  | [], _, q => by cases q; rfl
  | _ :: _, _, ⟨v, vs', e, _, b⟩ => by subst e; simp [RepWs.length b]
theorem RepDs.length : ∀ {xs : List D} {vs : List V}, RepDs K w N H M xs vs → xs.length = vs.length
  | [], _, q => by unfold RepDs at q; subst q; rfl
  | _ :: _, _, q => by
    unfold RepDs at q
    obtain ⟨v, vs', e, _, b⟩ := q
    subst e; simp [RepDs.length b]
end

/-! ### what an evaluation promises -/
abbrev RR (α β : Type) := List Addr → Hp → (Addr → Prop) → α → β → Prop
section
variable (K : PySem.W.Frag) (w : World) (N : Nm) (xf : Nat → Str) (Z : Addr → Prop)
def PostG {α β : Type} (R : RR α β) (Q : β → Hp → Prop) (E : XK) (H : Hp) (ρ : List Addr) (h : A) : Res α → Prop
  | .ok a h' => ∀ b H' ρ', Ext Z H ρ h H' ρ' h' → RepA K w N Z H' ρ' h' → R ρ' H' (MM Z ρ' h') a b → Q b H'
  | .err x d h' => ∀ cls dd H' ρ', Ext Z H ρ h H' ρ' h' → RepA K w N Z H' ρ' h' → RepX K w N xf H' (MM Z ρ' h') x d cls dd → E cls dd H'
  | .stuck => False
def PostS (D : Ends) (E : WX) (H : Hp) (ρ : List Addr) (h : A) : SRes → Prop
  | .nx σ' h' => ∀ σV' H' ρ', Ext Z H ρ h H' ρ' h' → RepA K w N Z H' ρ' h' → RepE K w N ρ' H' (MM Z ρ' h') σ' σV' → D.nx σV' H'
  | .rt x h' => ∀ v H' ρ', Ext Z H ρ h H' ρ' h' → RepA K w N Z H' ρ' h' → RepW K w N ρ' H' (MM Z ρ' h') x v → D.rt v H'
  | .bk σ' h' => ∀ σV' H' ρ', Ext Z H ρ h H' ρ' h' → RepA K w N Z H' ρ' h' → RepE K w N ρ' H' (MM Z ρ' h') σ' σV' → D.bk σV' H'
  | .ct σ' h' => ∀ σV' H' ρ', Ext Z H ρ h H' ρ' h' → RepA K w N Z H' ρ' h' → RepE K w N ρ' H' (MM Z ρ' h') σ' σV' → D.ct σV' H'
  | .er x d σ' h' => ∀ cls dd σV' H' ρ', Ext Z H ρ h H' ρ' h' → RepA K w N Z H' ρ' h' → RepE K w N ρ' H' (MM Z ρ' h') σ' σV' → RepX K w N xf H' (MM Z ρ' h') x d cls dd → E cls dd σV' H'
  | .stuck => False
end
section
variable {K : PySem.W.Frag} {w : World} {N : Nm} {xf : Nat → Str} {Z : Addr → Prop} {H H1 : Hp} {ρ ρ1 : List Addr} {h h1 : A}
theorem PostG.ext {α β : Type} {R : RR α β} {Q : β → Hp → Prop} {E : XK} {r : Res α} (x : Ext Z H ρ h H1 ρ1 h1) (p : PostG K w N xf Z R Q E H ρ h r) : PostG K w N xf Z R Q E H1 ρ1 h1 r := by
  cases r with
  | ok a h' => exact fun b H' ρ' y => p b H' ρ' (x.trans y)
  | err a d h' => exact fun c dd H' ρ' y => p c dd H' ρ' (x.trans y)
  | stuck => exact p
theorem PostS.ext {D : Ends} {E : WX} {r : SRes} (x : Ext Z H ρ h H1 ρ1 h1) (p : PostS K w N xf Z D E H ρ h r) : PostS K w N xf Z D E H1 ρ1 h1 r := by
  cases r with
  | nx a h' => exact fun b H' ρ' y => p b H' ρ' (x.trans y)
  | rt a h' => exact fun b H' ρ' y => p b H' ρ' (x.trans y)
  | bk a h' => exact fun b H' ρ' y => p b H' ρ' (x.trans y)
  | ct a h' => exact fun b H' ρ' y => p b H' ρ' (x.trans y)
  | er a d s h' => exact fun c dd sv H' ρ' y => p c dd sv H' ρ' (x.trans y)
  | stuck => exact p
theorem PostG.mono {α β : Type} {R : RR α β} {Q Q' : β → Hp → Prop} {E : XK} {r : Res α} (p : PostG K w N xf Z R Q E H ρ h r) (hq : ∀ b H', Q b H' → Q' b H') : PostG K w N xf Z R Q' E H ρ h r := by
  cases r with
  | ok a h' => exact fun b H' ρ' y z u => hq _ _ (p b H' ρ' y z u)
  | err a d h' => exact p
  | stuck => exact p
/-- the first part of a chain: behind it the rest is promised -/
theorem PostG.split {α β γ δ : Type} {R : RR α β} {S : RR γ δ} {Q : δ → Hp → Prop} {E : XK} {r : Res α} {f : α → A → Res γ} (p : PostG K w N xf Z S Q E H ρ h (r.bind f)) :
    PostG K w N xf Z R (fun b H1 => ∃ a h1 ρ1, r = .ok a h1 ∧ Ext Z H ρ h H1 ρ1 h1 ∧ RepA K w N Z H1 ρ1 h1 ∧ R ρ1 H1 (MM Z ρ1 h1) a b ∧ PostG K w N xf Z S Q E H1 ρ1 h1 (f a h1)) E H ρ h r := by
  cases r with
  | ok a h' => exact fun b H' ρ' y z u => ⟨a, h', ρ', rfl, y, z, u, PostG.ext y p⟩
  | err a d h' => exact p
  | stuck => exact p
theorem PostS.split {α β : Type} {R : RR α β} {D : Ends} {E : WX} {r : Res α} {σ : Env} {σV : L2.St} {f : α → A → SRes} (p : PostS K w N xf Z D E H ρ h (r.then σ f)) (e : RepE K w N ρ H (MM Z ρ h) σ σV) :
    PostG K w N xf Z R (fun b H1 => ∃ a h1 ρ1, r = .ok a h1 ∧ Ext Z H ρ h H1 ρ1 h1 ∧ RepA K w N Z H1 ρ1 h1 ∧ R ρ1 H1 (MM Z ρ1 h1) a b ∧ PostS K w N xf Z D E H1 ρ1 h1 (f a h1)) (fun cls dd H' => E cls dd σV H') H ρ h r := by
  cases r with
  | ok a h' => exact fun b H' ρ' y z u => ⟨a, h', ρ', rfl, y, z, u, PostS.ext y p⟩
  | err a d h' => exact fun c dd H' ρ' y z u => p c dd σV H' ρ' y z (e.keep y.keep y.pre) u
  | stuck => exact p
end
end B

set_option Elab.async false
set_option linter.all false
set_option maxRecDepth 100000
set_option maxHeartbeats 2000000
/-! Trees as the library's data; what is seen behind a value. Own work. -/
namespace B
open PySem PySem.Spec PyProof.Rows L2

mutual
def D.py : D → PyData
  | .non => .none
  | .bl b => .bool b
  | .int i => .int i
  | .str s => .str s
  | .tup xs => .tuple (D.pys xs)
  | .lst xs => .list (D.pys xs)
  | _ => .none
def D.pys : List D → List PyData
  | [] => []
  | x :: xs => D.py x :: D.pys xs
end
mutual
theorem py_depth : ∀ d : D, d.py.depth ≤ d.depth
  | .non => Nat.le_refl _
  | .bl _ => Nat.le_refl _
  | .int _ => Nat.le_refl _
  | .str _ => Nat.le_refl _
  | .tup xs => by
    show PyData.depth (.tuple (D.pys xs)) ≤ D.depths xs + 1
    unfold PyData.depth
    exact Nat.succ_le_succ (py_depths xs)
  | .lst xs => by
    show PyData.depth (.list (D.pys xs)) ≤ D.depths xs + 1
    unfold PyData.depth
    exact Nat.succ_le_succ (py_depths xs)
  | .dct _ _ => Nat.zero_le _
  | .ins _ _ => Nat.zero_le _
  | .scr _ => Nat.zero_le _
theorem py_depths : ∀ xs : List D, PyData.depthAll (D.pys xs) ≤ D.depths xs
  | [] => Nat.le_refl _
  | x :: xs => by
    show PyData.depthAll (D.py x :: D.pys xs) ≤ max (D.depth x) (D.depths xs)
    unfold PyData.depthAll
    have h1 := py_depth x
    have h2 := py_depths xs
    omega
end
theorem ba2 {a b : Bool} (h : (a && b) = true) : a = true ∧ b = true := Bool.and_eq_true_iff.mp h
mutual
/-- == of trees is that of the data -/
theorem eqb_py : ∀ (a b : D) (r : Bool), a.pyok = true → b.pyok = true → D.eqb a b = some r → PyData.eqv a.py b.py = r
  | .non, b, r, _, hb, e => by cases b <;> first | (cases e; rfl) | (cases hb)
  | .bl x, b, r, _, hb, e => by
    cases b with
    | int y => simp [D.eqb] at e
    | _ => first | (cases e; rfl) | (cases hb)
  | .int x, b, r, _, hb, e => by
    cases b with
    | int y =>
      have e' : decide (x = y) = r := Option.some.inj e
      show (x == y) = r
      rw [← e']
      rfl
    | bl y => simp [D.eqb] at e
    | _ => first | (cases e; rfl) | (cases hb)
  | .str x, b, r, _, hb, e => by
    cases b with
    | str y =>
      have e' : decide (x = y) = r := Option.some.inj e
      show (x == y) = r
      rw [← e']
      rfl
    | _ => first | (cases e; rfl) | (cases hb) | (cases e)
  | .tup xs, b, r, ha, hb, e => by
    cases b with
    | tup ys => exact eqs_py xs ys r ha hb e
    | _ => first | (cases e; rfl) | (cases hb) | (cases e)
  | .lst xs, b, r, ha, hb, e => by
    cases b with
    | lst ys => exact eqs_py xs ys r ha hb e
    | _ => first | (cases e; rfl) | (cases hb) | (cases e)
  | .dct _ _, _, _, ha, _, _ => by cases ha
  | .ins _ _, _, _, ha, _, _ => by cases ha
  | .scr _, _, _, ha, _, _ => by cases ha
theorem eqs_py : ∀ (xs ys : List D) (r : Bool), D.pyoks xs = true → D.pyoks ys = true → D.eqs xs ys = some r → PyData.eqvAll (D.pys xs) (D.pys ys) = r
  | [], [], _, _, _, e => Option.some.inj e
  | [], _ :: _, _, _, _, e => Option.some.inj e
  | _ :: _, [], _, _, _, e => Option.some.inj e
  | x :: xs, y :: ys, r, ha, hb, e => by
    have ha' := ba2 (show (D.pyok x && D.pyoks xs) = true from ha)
    have hb' := ba2 (show (D.pyok y && D.pyoks ys) = true from hb)
    have e' : (match D.eqb x y with
      | some true => D.eqs xs ys
      | r => r) = some r := e
    show (PyData.eqv (D.py x) (D.py y) && PyData.eqvAll (D.pys xs) (D.pys ys)) = r
    cases q : D.eqb x y with
    | none => rw [q] at e'; cases e'
    | some t =>
      rw [q] at e'
      have h1 := eqb_py x y t ha'.1 hb'.1 q
      rw [h1]
      cases t with
      | true =>
        rw [Bool.true_and]
        exact eqs_py xs ys r ha'.2 hb'.2 e'
      | false => exact Option.some.inj e'
end
section
variable {K : PySem.W.Frag} {w : World} {N : Nm} {H : Hp} {M : Addr → Prop} {ρ : List Addr} {h : A} {Z : Addr → Prop}
theorem KTup.sq {a : Addr} {xs : List V} (q : KTup K a xs) : SqT K H a xs := .inr q
theorem RepD.tup_inv {xs : List D} {v : V} (q : RepD K w N H M (.tup xs) v) : ∃ a vs, v = .ref a ∧ SqT K H a vs ∧ RepDs K w N H M xs vs := by
  unfold RepD at q
  obtain ⟨a, vs, e, r, q⟩ := q
  refine ⟨a, vs, e, ?_, q⟩
  rcases r with ⟨r, _⟩ | r
  · exact .of r
  · exact r.sq
/-- what is seen behind a value: as the tree, but the list or dict at the head may change -/
def RepL (K : PySem.W.Frag) (w : World) (N : Nm) (H : Hp) (M : Addr → Prop) : D → V → Prop
  | .lst xs, v => ∃ a vs, v = .ref a ∧ H a = some (.lst vs) ∧ RepDs K w N H M xs vs
  | .dct t kvs, v => ∃ a, v = .ref a ∧ ((∃ o, Rd H a o ∧ RepDc K w N H M t kvs o) ∨ t = .s ∧ ((∃ es n, KDict K w a es n) ∧ RepKD K w N H M a kvs ∧ ∀ z : Str, (∀ p ∈ kvs, p.1 ≠ .str z) → PySem.W.nsIn K a z = some none))
  | d, v => RepD K w N H M d v
theorem RepD.toL {d : D} {v : V} (q : RepD K w N H M d v) : RepL K w N H M d v := by
  cases d with
  | lst xs => unfold RepD at q; obtain ⟨a, vs, e, r, _, q⟩ := q; exact ⟨a, vs, e, r, q⟩
  | dct t kvs =>
    cases t with
    | t => unfold RepD at q; exact q.elim
    | s =>
      unfold RepD at q
      obtain ⟨a, e, q⟩ := q
      refine ⟨a, e, ?_⟩
      rcases q with ⟨ks, r, _, nd, q⟩ | q
      · exact .inl ⟨_, r, ⟨by decide, ks, rfl, nd, q⟩⟩
      · exact .inr q
    | i =>
      unfold RepD at q
      obtain ⟨a, e, q⟩ := q
      refine ⟨a, e, ?_⟩
      rcases q with ⟨ks, r, _, nd, q⟩ | q
      · exact .inl ⟨_, r, ⟨by decide, ks, rfl, nd, q⟩⟩
      · exact .inr q
  | _ => exact q
theorem RepW.look (ra : RepA K w N Z H ρ h) : ∀ {x : W} {d : D} {v : V}, RepW K w N ρ H (MM Z ρ h) x v → look h x = some d → RepL K w N H (MM Z ρ h) d v
  | .c _, _, _, q, e => by cases e; exact RepD.toL q
  | .l n, d, v, ⟨a, ea, ev⟩, e => by
    have e' : (match h[n]? with
      | some (.lst xs) => some (D.lst xs)
      | some (.dct t kvs) => some (.dct t kvs)
      | some (.dctF t kvs) => some (.dct t kvs)
      | _ => none) = some d := e
    cases q : h[n]? with
    | none => rw [q] at e'; cases e'
    | some o =>
      rw [q] at e'
      obtain ⟨ho, h1, h2⟩ := ra.obj n o a q ea
      cases o with
      | lst xs => cases e'; obtain ⟨vs, e3, q3⟩ := h2; subst e3; exact ⟨a, vs, ev, h1, q3⟩
      | dct t kvs => cases e'; exact ⟨a, ev, .inl ⟨ho, .inl h1, h2⟩⟩
      | dctF t kvs => cases e'; obtain ⟨ob, u, e3, q3⟩ := h2; subst e3; exact ⟨a, ev, .inl ⟨u, .inr ⟨ob, h1⟩, q3⟩⟩
      | ins c fs => cases e'
      | dead => cases e'
mutual
theorem RepD.dp : ∀ {d : D} {v : V}, RepD K w N H M d v → d.pyok = true → Dp K H v d.py ∧ d.py.canLay0 = true
  | .non, _, q, _ => by unfold RepD at q; subst q; exact ⟨.non, rfl⟩
  | .bl _, _, q, _ => by unfold RepD at q; subst q; exact ⟨.bl _, rfl⟩
  | .int _, _, q, _ => by unfold RepD at q; subst q; exact ⟨.int _, rfl⟩
  | .str s, _, q, _ => by unfold RepD at q; obtain ⟨e, k⟩ := q; subst e; exact ⟨.str _, by show PyData.canLay0 (.str s) = true; unfold PyData.canLay0; exact k⟩
  | .tup xs, _, q, p => by
    obtain ⟨a, vs, e, r, z⟩ := RepD.tup_inv q
    subst e
    obtain ⟨h1, h2⟩ := RepDs.dp z p
    exact ⟨.tup r h1, by show PyData.canLay0 (.tuple (D.pys xs)) = true; unfold PyData.canLay0; exact h2⟩
  | .lst xs, _, q, p => by
    unfold RepD at q
    obtain ⟨a, vs, e, r, _, q⟩ := q
    subst e
    obtain ⟨h1, h2⟩ := RepDs.dp q p
    exact ⟨.lst (.of r) h1, by show PyData.canLay0 (.list (D.pys xs)) = true; unfold PyData.canLay0; exact h2⟩
  | .dct _ _, _, _, p => by cases p
  | .ins _ _, _, _, p => by cases p
  | .scr _, _, _, p => by cases p
theorem RepDs.dp : ∀ {xs : List D} {vs : List V}, RepDs K w N H M xs vs → D.pyoks xs = true → DpAll K H vs (D.pys xs) ∧ PyData.canLayAll0 (D.pys xs) = true
  | [], _, q, _ => by unfold RepDs at q; subst q; exact ⟨.nil, rfl⟩
  | d :: r, _, q, p => by
    unfold RepDs at q
    obtain ⟨v, vs', e, a, b⟩ := q
    subst e
    have p' := ba2 (show (D.pyok d && D.pyoks r) = true from p)
    obtain ⟨h1, h2⟩ := RepD.dp a p'.1
    obtain ⟨h3, h4⟩ := RepDs.dp b p'.2
    refine ⟨.cons h1 h3, ?_⟩
    show PyData.canLayAll0 (D.py d :: D.pys r) = true
    unfold PyData.canLayAll0
    rw [h2, h4]
    rfl
end
theorem RepL.dp {d : D} {v : V} (q : RepL K w N H M d v) (p : d.pyok = true) : Dp K H v d.py ∧ d.py.canLay0 = true := by
  cases d with
  | lst xs =>
    obtain ⟨a, vs, e, r, q⟩ := q
    subst e
    obtain ⟨h1, h2⟩ := RepDs.dp q p
    exact ⟨.lst (.of r) h1, by show PyData.canLay0 (.list (D.pys xs)) = true; unfold PyData.canLay0; exact h2⟩
  | dct _ _ => cases p
  | non => exact RepD.dp (K := K) (w := w) (N := N) (M := M) q p
  | bl b => exact RepD.dp (K := K) (w := w) (N := N) (M := M) q p
  | int i => exact RepD.dp (K := K) (w := w) (N := N) (M := M) q p
  | str s => exact RepD.dp (K := K) (w := w) (N := N) (M := M) q p
  | tup xs => exact RepD.dp (K := K) (w := w) (N := N) (M := M) q p
  | ins c fs => exact RepD.dp (K := K) (w := w) (N := N) (M := M) q p
  | scr xs => cases p
end
end B

set_option Elab.async false
set_option linter.all false
set_option maxRecDepth 100000
set_option maxHeartbeats 2000000
/-! The operators, by values. Own work. -/
namespace B
open PySem PySem.Spec PyProof.Rows L2

section
variable {K : PySem.W.Frag} {w : World} {N : Nm} {xf : Nat → Str} {H : Hp} {M : Addr → Prop} {ρ : List Addr} {h : A} {Z : Addr → Prop}
theorem Keep.alloc {P : Addr → Prop} {a : Addr} {o : HO} (n : H a = none) (s : ∀ a, P a → M a) : Keep H P M (upd H a o) P M :=
  have k : ∀ b u, H b = some u → upd H a o b = some u := fun b u e => by rw [upd_ne (ne_of_none e n)]; exact e
  ⟨fun b u e _ => k b u e, s, fun _ m => .inl m, fun _ m => .inl m, fun b u e => ⟨u, k b u e⟩⟩
theorem PP_MM (a : Addr) (p : PP ρ h a) : MM Z ρ h a := .inl p
/-- for trees alone -/
theorem Keep.new1 {a : Addr} {o : HO} (n : H a = none) : Keep H (fun _ => False) M (upd H a o) (fun _ => False) M := Keep.alloc n fun _ f => f.elim
theorem RepA.notM (r : RepA K w N Z H ρ h) {a : Addr} (n : H a = none) : ¬ MM Z ρ h a := by
  rintro (⟨i, o, e, q, _⟩ | hz)
  · obtain ⟨ho, z, _⟩ := r.obj i o a q e
    rw [n] at z; cases z
  · obtain ⟨⟨o, z⟩, _⟩ := r.far a hz
    rw [n] at z; cases z
theorem RepA.keep_all (r : RepA K w N Z H ρ h) {H' : Hp} (hk : ∀ a o, H a = some o → H' a = some o) : RepA K w N Z H' ρ h :=
  ⟨r.len, r.nd, fun a z => ⟨let ⟨o, e⟩ := (r.far a z).1; ⟨o, hk a o e⟩, (r.far a z).2⟩, fun i o a e q => by
    obtain ⟨ho, z, y⟩ := r.obj i o a e q
    exact ⟨ho, hk _ _ z, y.keep (P := fun _ => False) (P' := fun _ => False) ⟨fun b u c _ => hk b u c, fun _ f => f.elim, fun _ m => .inl m, fun _ m => .inl m, fun b u c => ⟨u, hk b u c⟩⟩ ⟨[], by simp⟩⟩⟩
theorem RepA.alloc (r : RepA K w N Z H ρ h) {a : Addr} {o : HO} (n : H a = none) : RepA K w N Z (upd H a o) ρ h :=
  r.keep_all fun b u e => by rw [upd_ne (ne_of_none e n)]; exact e
theorem Ext.alloc {a : Addr} {o : HO} (n : H a = none) : Ext Z H ρ h (upd H a o) ρ h := ⟨Keep.alloc n PP_MM, ⟨[], by simp⟩, fun t e b hb => by
  have : t = [] := by simpa using e.symm
  subst this; cases hb⟩

theorem PostG.some {α β γ : Type} {R : RR α β} {Q : β → Hp → Prop} {E : XK} {o : Option γ} {f : γ → Res α} (p : PostG K w N xf Z R Q E H ρ h (ofOpt o f)) : ∃ a, o = .some a ∧ PostG K w N xf Z R Q E H ρ h (f a) := by
  cases o with
  | none => exact p.elim
  | some a => exact ⟨a, rfl, p⟩
theorem PostG.must {α β : Type} {R : RR α β} {Q : β → Hp → Prop} {E : XK} {b : Bool} {f : Res α} (p : PostG K w N xf Z R Q E H ρ h (must b f)) : b = true ∧ PostG K w N xf Z R Q E H ρ h f := by
  cases b with
  | false => exact p.elim
  | true => exact ⟨rfl, p⟩
abbrev RW (K : PySem.W.Frag) (w : World) (N : Nm) : RR W V := fun ρ H M x v => RepW K w N ρ H M x v
/-- an operator's reading: some heap of the evaluator stands for H, and the evaluator's answer is promised -/
def rOp (K : PySem.W.Frag) (w : World) (N : Nm) (xf : Nat → Str) (o : Op) : R2 := fun v u H Q => ∃ (Z : Addr → Prop) (ρ : List Addr) (h : A) (x y : W) (E : XK), RepA K w N Z H ρ h ∧ RepW K w N ρ H (MM Z ρ h) x v ∧ RepW K w N ρ H (MM Z ρ h) y u ∧ PostG K w N xf Z (RW K w N) Q E H ρ h (opW o x y h)
/-- .. two trees are seen, the answer is a tree -/
theorem rOp_bin {o : Op} (ho : o ≠ .is_) (ho2 : o ≠ .isnot) {v u : V} {Q : VK} (r : rOp K w N xf o v u H Q) : ∃ (Z : Addr → Prop) (ρ : List Addr) (h : A) (a b d : D), RepA K w N Z H ρ h ∧ RepL K w N H (MM Z ρ h) a v ∧ RepL K w N H (MM Z ρ h) b u ∧ bin o a b = some d ∧
    ∀ v' H', Ext Z H ρ h H' ρ h → RepA K w N Z H' ρ h → RepD K w N H' (MM Z ρ h) d v' → Q v' H' := by
  obtain ⟨Z, ρ, h, x, y, E, ra, rx, ry, p⟩ := r
  have p' : PostG K w N xf Z (RW K w N) Q E H ρ h (ofOpt (look h x) fun a => ofOpt (look h y) fun b => ofOpt (bin o a b) fun d => .ok (.c d) h) := by
    cases o <;> first | exact p | exact absurd rfl ho | exact absurd rfl ho2
  obtain ⟨a, ea, p1⟩ := PostG.some p'
  obtain ⟨b, eb, p2⟩ := PostG.some p1
  obtain ⟨d, ed, p3⟩ := PostG.some p2
  exact ⟨Z, ρ, h, a, b, d, ra, rx.look ra ea, ry.look ra eb, ed, fun v' H' e r q => p3 v' H' ρ e r q⟩
end

section
variable {X : Cx} {N : Nm} {xf : Nat → Str}
abbrev ROp (X : Cx) (N : Nm) (xf : Nat → Str) (o : Op) : R2 := rOp X.K X.w N xf o
theorem sizeMax_eq : sizeMax = sizeLine := by rw [sizeLine_eq]; rfl
theorem OpR.imp {f : Value → Value → Sem Value} {r r' : R2} (h : OpR X f r) (i : ∀ x y H Q, r' x y H Q → r x y H Q) : OpR X f r' := fun pins s σ H x y v u Q I rx ry q => h pins s σ H x y v u Q I rx ry (i _ _ _ _ q)
end
section
variable {K : PySem.W.Frag} {w : World} {N : Nm} {H : Hp} {M : Addr → Prop}
theorem RepDs.append : ∀ {xs ys : List D} {vs us : List V}, RepDs K w N H M xs vs → RepDs K w N H M ys us → RepDs K w N H M (xs ++ ys) (vs ++ us)
  | [], _, _, _, a, b => by unfold RepDs at a; subst a; exact b
  | _ :: _, _, _, _, a, b => by
    unfold RepDs at a
    obtain ⟨v, vs', e, q, r⟩ := a
    subst e
    show RepDs K w N H M (_ :: (_ ++ _)) (v :: (vs' ++ _))
    unfold RepDs
    exact ⟨v, _, rfl, q, RepDs.append r b⟩
theorem RepDs.flat (k : Nat) {xs : List D} {vs : List V} (a : RepDs K w N H M xs vs) : RepDs K w N H M (List.replicate k xs).flatten (List.replicate k vs).flatten := by
  induction k with
  | zero => simp [RepDs]
  | succ k ih =>
    rw [List.replicate_succ, List.replicate_succ, List.flatten_cons, List.flatten_cons]
    exact a.append ih
theorem RepDs.get : ∀ {xs : List D} {vs : List V} {i : Nat} {d : D}, RepDs K w N H M xs vs → xs[i]? = some d → ∃ v, vs[i]? = some v ∧ RepD K w N H M d v
  | [], _, _, _, _, e => by simp at e
  | _ :: _, _, 0, _, a, e => by
    unfold RepDs at a
    obtain ⟨v, vs', ev, q, r⟩ := a
    subst ev
    simp at e; subst e
    exact ⟨v, rfl, q⟩
  | _ :: _, _, i + 1, _, a, e => by
    unfold RepDs at a
    obtain ⟨v, vs', ev, q, r⟩ := a
    subst ev
    obtain ⟨u, h1, h2⟩ := RepDs.get (i := i) r (by simpa using e)
    exact ⟨u, by simpa using h1, h2⟩
theorem RepDs.getV : ∀ {xs : List D} {vs : List V} {i : Nat} {v : V}, RepDs K w N H M xs vs → vs[i]? = some v → ∃ d, xs[i]? = some d ∧ RepD K w N H M d v
  | [], _, _, _, a, e => by unfold RepDs at a; subst a; simp at e
  | d :: _, _, 0, _, a, e => by
    unfold RepDs at a
    obtain ⟨v, vs', ev, q, r⟩ := a
    subst ev
    simp at e; subst e
    exact ⟨d, rfl, q⟩
  | _ :: _, _, i + 1, _, a, e => by
    unfold RepDs at a
    obtain ⟨v, vs', ev, q, r⟩ := a
    subst ev
    obtain ⟨u, h1, h2⟩ := RepDs.getV (i := i) r (by simpa using e)
    exact ⟨u, by simpa using h1, h2⟩
theorem RepDs.take (n : Nat) : ∀ {xs : List D} {vs : List V}, RepDs K w N H M xs vs → RepDs K w N H M (xs.take n) (vs.take n) := by
  induction n with
  | zero => intro xs vs _; simp [RepDs]
  | succ n ih =>
    intro xs vs a
    cases xs with
    | nil => unfold RepDs at a; subst a; simp [RepDs]
    | cons d r =>
      unfold RepDs at a
      obtain ⟨v, vs', ev, q, r⟩ := a
      subst ev
      rw [List.take_succ_cons, List.take_succ_cons]
      unfold RepDs
      exact ⟨v, _, rfl, q, ih r⟩
theorem RepDs.drop (n : Nat) : ∀ {xs : List D} {vs : List V}, RepDs K w N H M xs vs → RepDs K w N H M (xs.drop n) (vs.drop n) := by
  induction n with
  | zero => intro xs vs a; exact a
  | succ n ih =>
    intro xs vs a
    cases xs with
    | nil => unfold RepDs at a; subst a; simp [RepDs]
    | cons d r =>
      unfold RepDs at a
      obtain ⟨v, vs', ev, q, r⟩ := a
      subst ev
      exact ih r
theorem strOk_append {x y : Str} (a : PyData.strOk x = true) (b : PyData.strOk y = true) : PyData.strOk (x ++ y) = true := by
  unfold PyData.strOk at *
  show (x.cps ++ y.cps).all _ = true
  rw [Array.all_append, a, b]
  rfl
theorem lstD {a : Addr} {xs : List D} {vs : List V} (e : H a = some (.lst vs)) (m : ¬ M a) (q : RepDs K w N H M xs vs) : RepD K w N H M (.lst xs) (.ref a) := by
  unfold RepD; exact ⟨a, vs, rfl, e, m, q⟩
theorem tupD {a : Addr} {xs : List D} {vs : List V} (e : H a = some (.tup vs)) (m : ¬ M a) (q : RepDs K w N H M xs vs) : RepD K w N H M (.tup xs) (.ref a) := by
  unfold RepD; exact ⟨a, vs, rfl, .inl ⟨e, m⟩, q⟩
theorem intD (i : Int) : RepD K w N H M (.int i) (.int i) := by unfold RepD; rfl
theorem blD (b : Bool) : RepD K w N H M (.bl b) (.bl b) := by unfold RepD; rfl
theorem nonD : RepD K w N H M .non .non := by unfold RepD; rfl
theorem strD {s : Str} (k : PyData.strOk s = true) : RepD K w N H M (.str s) (.str s) := by unfold RepD; exact ⟨rfl, k⟩
end
section
variable {X : Cx} {N : Nm} {xf : Nat → Str}
theorem o_add : OpR X (binaryOp .Add) (ROp X N xf .add) := by
  intro pins s σ H x y v u Q I rx ry q
  obtain ⟨Z, ρ, h, a, b, d, ra, la, lb, ed, p⟩ := rOp_bin (by decide) (by decide) q
  cases a <;> cases b <;> first | (simp [bin] at ed; done) | skip
  · rename_i i j
    obtain rfl : x = V.int i := by simpa only [RepL, RepD] using la
    obtain rfl : y = V.int j := by simpa only [RepL, RepD] using lb
    cases ed
    exact op_add pins s σ H _ _ v u Q I rx ry ⟨i, j, rfl, rfl, p _ _ (Ext.refl _ _ _ _) ra (intD _)⟩
  · rename_i i j
    obtain ⟨rfl, k1⟩ : x = V.str i ∧ _ := by simpa only [RepL, RepD] using la
    obtain ⟨rfl, k2⟩ : y = V.str j ∧ _ := by simpa only [RepL, RepD] using lb
    simp only [bin] at ed
    split at ed
    · rename_i hc
      cases ed
      have hc' := of_decide_eq_true hc
      exact op_add_str pins s σ H _ _ v u Q I rx ry ⟨i, j, rfl, rfl, by rw [← sizeMax_eq]; exact hc', p _ _ (Ext.refl _ _ _ _) ra (strD (strOk_append k1 k2))⟩
    · cases ed
  · rename_i xs ys
    obtain ⟨a1, vs, rfl, r1, q1⟩ := RepD.tup_inv la
    obtain ⟨a2, us, rfl, r2, q2⟩ := RepD.tup_inv lb
    simp only [bin] at ed
    split at ed
    · rename_i hc
      cases ed
      have hc' := of_decide_eq_true hc
      have e1 := q1.length
      have e2 := q2.length
      refine op_catA pins s σ H _ _ v u Q I rx ry ⟨a1, a2, vs, us, rfl, rfl, r1, r2, ?_, fun z => ?_, fun _ z => ?_, fun z z2 P hP => ?_⟩
      · rw [← e1, ← e2, ← sizeMax_eq]; exact hc'
      · subst z
        have : xs = [] := List.eq_nil_of_length_eq_zero (by simpa using e1)
        subst this
        exact p _ _ (Ext.refl _ _ _ _) ra lb
      · subst z
        have : ys = [] := List.eq_nil_of_length_eq_zero (by simpa using e2)
        subst this
        refine p _ _ (Ext.refl _ _ _ _) ra ?_
        rw [List.append_nil]
        exact la
      · refine p _ _ (Ext.alloc hP) (ra.alloc hP) (tupD upd_same (ra.notM hP) ?_)
        exact (q1.keep (Keep.new1 hP)).append (q2.keep (Keep.new1 hP))
    · cases ed
  · rename_i xs ys
    obtain ⟨a1, vs, rfl, r1, q1⟩ := la
    obtain ⟨a2, us, rfl, r2, q2⟩ := lb
    simp only [bin] at ed
    split at ed
    · rename_i hc
      cases ed
      have hc' := of_decide_eq_true hc
      have e1 := q1.length
      have e2 := q2.length
      refine op_cat pins s σ H _ _ v u Q I rx ry ⟨a1, a2, vs, us, rfl, rfl, r1, r2, ?_, fun P hP => ?_⟩
      · rw [← e1, ← e2, ← sizeMax_eq]; exact hc'.2.2
      · refine p _ _ (Ext.alloc hP) (ra.alloc hP) (lstD upd_same (ra.notM hP) ?_)
        exact (q1.keep (Keep.new1 hP)).append (q2.keep (Keep.new1 hP))
    · cases ed

/-- an operator on two ints -/
theorem o_int {kop : Operator} {o : Op} {C : Int → Int → Prop} {g : Int → Int → Int} (h1 : o ≠ .is_) (h2 : o ≠ .isnot) (ho : OpR X (binaryOp kop) (rI C fun i j => .int (g i j)))
    (hb : ∀ a b d, bin o a b = some d → ∃ i j, a = .int i ∧ b = .int j ∧ C i j ∧ d = .int (g i j)) : OpR X (binaryOp kop) (ROp X N xf o) := by
  intro pins s σ H x y v u Q I rx ry q
  obtain ⟨Z, ρ, h, a, b, d, ra, la, lb, ed, p⟩ := rOp_bin h1 h2 q
  obtain ⟨i, j, rfl, rfl, c, rfl⟩ := hb a b d ed
  obtain rfl : x = V.int i := by simpa only [RepL, RepD] using la
  obtain rfl : y = V.int j := by simpa only [RepL, RepD] using lb
  exact ho pins s σ H _ _ v u Q I rx ry ⟨i, j, rfl, rfl, c, p _ _ (Ext.refl _ _ _ _) ra (intD _)⟩
theorem o_sub : OpR X (binaryOp .Sub) (ROp X N xf .sub) :=
  o_int (C := fun _ _ => True) (g := fun i j => i - j) (by decide) (by decide) (OpR.imp op_sub fun x y H Q ⟨i, j, a, b, _, q⟩ => ⟨i, j, a, b, q⟩) fun a b d e => by
    cases a <;> cases b <;> first | (simp [bin] at e; done) | skip
    cases e
    exact ⟨_, _, rfl, rfl, trivial, rfl⟩
theorem o_mod : OpR X (binaryOp .Mod) (ROp X N xf .mod) :=
  o_int (C := fun _ j => 0 < j) (g := fun i j => i % j) (by decide) (by decide) op_mod fun a b d e => by
    cases a <;> cases b <;> first | (simp [bin] at e; done) | skip
    simp only [bin] at e
    split at e
    · rename_i hc
      cases e
      exact ⟨_, _, rfl, rfl, of_decide_eq_true hc, rfl⟩
    · cases e
theorem o_fdiv : OpR X (binaryOp .FloorDiv) (ROp X N xf .fdiv) :=
  o_int (C := CDiv) (g := fun i j => i / j) (by decide) (by decide) op_fdiv fun a b d e => by
    cases a <;> cases b <;> first | (simp [bin] at e; done) | skip
    rename_i i j
    simp only [bin] at e
    split at e
    · rename_i hc
      cases e
      have hc' : 0 < j ∧ j < 1073741824 := of_decide_eq_true hc
      exact ⟨_, _, rfl, rfl, hc', rfl⟩
    · cases e
theorem small_ok {i : Int} (h : small i = true) : -(2 ^ 64) < i ∧ i < 2 ^ 64 := by
  have := of_decide_eq_true (show decide (-(18446744073709551616) < i ∧ i < 18446744073709551616) = true from h)
  omega
theorem o_pow : OpR X (binaryOp .Pow) (ROp X N xf .pow) :=
  o_int (C := CPow) (g := fun i j => i ^ j.toNat) (by decide) (by decide) op_pow fun a b d e => by
    cases a <;> cases b <;> first | (simp [bin] at e; done) | skip
    simp only [bin] at e
    split at e
    · rename_i hc
      cases e
      obtain ⟨h1, h2⟩ := ba2 hc
      have h3 := of_decide_eq_true h1
      have h4 := small_ok h2
      exact ⟨_, _, rfl, rfl, ⟨h3.1, h3.2, by omega⟩, rfl⟩
    · cases e
theorem o_mul : OpR X (binaryOp .Mult) (ROp X N xf .mul) := by
  intro pins s σ H x y v u Q I rx ry q
  obtain ⟨Z, ρ, h, a, b, d, ra, la, lb, ed, p⟩ := rOp_bin (by decide) (by decide) q
  cases a <;> cases b <;> first | (simp [bin] at ed; done) | skip
  · rename_i i j
    obtain rfl : x = V.int i := by simpa only [RepL, RepD] using la
    obtain rfl : y = V.int j := by simpa only [RepL, RepD] using lb
    simp only [bin] at ed
    split at ed
    · rename_i hc
      cases ed
      refine op_mul pins s σ H _ _ v u Q I rx ry ⟨i, j, rfl, rfl, ?_, p _ _ (Ext.refl _ _ _ _) ra (intD _)⟩
      rcases Bool.or_eq_true_iff.mp hc with z | z
      · exact .inl (small_ok z)
      · exact .inr (small_ok z)
    · cases ed
  · rename_i xs j
    obtain ⟨a1, vs, rfl, r1, q1⟩ := la
    obtain rfl : y = V.int j := by simpa only [RepL, RepD] using lb
    simp only [bin] at ed
    split at ed
    · rename_i hc
      cases ed
      have hc' := of_decide_eq_true hc
      have e1 := q1.length
      refine op_rep pins s σ H _ _ v u Q I rx ry ⟨a1, j, vs, rfl, rfl, r1, by omega, by omega, by rw [← e1, ← sizeMax_eq]; exact hc'.1, fun P hP => ?_⟩
      exact p _ _ (Ext.alloc hP) (ra.alloc hP) (lstD upd_same (ra.notM hP) ((q1.keep (Keep.new1 hP)).flat _))
    · cases ed
/-- a comparison of two ints -/
theorem o_cmpI {kop : CmpOp} {o : Op} {g : Int → Int → Bool} (h1 : o ≠ .is_) (h2 : o ≠ .isnot) (ho : OpR X (compareOp kop) (rI0 fun i j => .bl (g i j)))
    (hb : ∀ a b d, bin o a b = some d → ∃ i j, a = .int i ∧ b = .int j ∧ d = .bl (g i j)) : OpR X (compareOp kop) (ROp X N xf o) := by
  intro pins s σ H x y v u Q I rx ry q
  obtain ⟨Z, ρ, h, a, b, d, ra, la, lb, ed, p⟩ := rOp_bin h1 h2 q
  obtain ⟨i, j, rfl, rfl, rfl⟩ := hb a b d ed
  obtain rfl : x = V.int i := by simpa only [RepL, RepD] using la
  obtain rfl : y = V.int j := by simpa only [RepL, RepD] using lb
  exact ho pins s σ H _ _ v u Q I rx ry ⟨i, j, rfl, rfl, p _ _ (Ext.refl _ _ _ _) ra (blD _)⟩
theorem o_lt : OpR X (compareOp .Lt) (ROp X N xf .lt) := o_cmpI (by decide) (by decide) op_lt fun a b d e => by
  cases a <;> cases b <;> first | (simp [bin] at e; done) | (cases e; exact ⟨_, _, rfl, rfl, rfl⟩)
theorem o_le : OpR X (compareOp .LtE) (ROp X N xf .le) := o_cmpI (by decide) (by decide) op_le fun a b d e => by
  cases a <;> cases b <;> first | (simp [bin] at e; done) | (cases e; exact ⟨_, _, rfl, rfl, rfl⟩)
theorem o_gt : OpR X (compareOp .Gt) (ROp X N xf .gt) := o_cmpI (by decide) (by decide) op_gt fun a b d e => by
  cases a <;> cases b <;> first | (simp [bin] at e; done) | (cases e; exact ⟨_, _, rfl, rfl, rfl⟩)
theorem o_ge : OpR X (compareOp .GtE) (ROp X N xf .ge) := o_cmpI (by decide) (by decide) op_ge fun a b d e => by
  cases a <;> cases b <;> first | (simp [bin] at e; done) | (cases e; exact ⟨_, _, rfl, rfl, rfl⟩)
theorem eqD_some {a b : D} {r : Bool} (e : eqD a b = some r) : a.pyok = true ∧ b.pyok = true ∧ min a.depth b.depth ≤ 64 ∧ D.eqb a b = some r := by
  unfold eqD at e
  split at e
  · rename_i hc
    obtain ⟨h1, h2⟩ := ba2 hc
    obtain ⟨h3, h4⟩ := ba2 h1
    exact ⟨h3, h4, of_decide_eq_true h2, e⟩
  · cases e
theorem py_room {A : Around} {a b : D} (hu : A.units + 200 < cLine) (m : min a.depth b.depth ≤ 64) : A.units + 1 + min a.py.depth b.py.depth < cLine := by
  have h1 := py_depth a
  have h2 := py_depth b
  omega
theorem o_eq (hu : X.A.units + 200 < cLine) : OpR X (compareOp .Eq) (ROp X N xf .eq) := by
  intro pins s σ H x y v u Q I rx ry q
  obtain ⟨Z, ρ, h, a, b, d, ra, la, lb, ed, p⟩ := rOp_bin (by decide) (by decide) q
  obtain ⟨r, er, rfl⟩ := Option.map_eq_some_iff.mp (show (eqD a b).map D.bl = some d from ed)
  obtain ⟨pa, pb, pm, pe⟩ := eqD_some er
  obtain ⟨d1, c1⟩ := la.dp pa
  obtain ⟨d2, c2⟩ := lb.dp pb
  obtain ⟨as, r1⟩ := Dp.reads I _ x v d1 rx
  obtain ⟨bs, r2⟩ := Dp.reads I _ y u d2 ry
  refine SeqAt.compareEq_reads r1 r2 c1 c2 (by have := py_room hu pm; omega) ⟨.bl r, H, I, ?_, p _ _ (Ext.refl _ _ _ _) ra (blD _)⟩
  rw [eqb_py a b r pa pb pe]
  rfl
theorem o_ne (hu : X.A.units + 200 < cLine) : OpR X (compareOp .NotEq) (ROp X N xf .ne) := by
  intro pins s σ H x y v u Q I rx ry q
  obtain ⟨Z, ρ, h, a, b, d, ra, la, lb, ed, p⟩ := rOp_bin (by decide) (by decide) q
  obtain ⟨r, er, rfl⟩ := Option.map_eq_some_iff.mp (show (eqD a b).map (fun r => D.bl (!r)) = some d from ed)
  obtain ⟨pa, pb, pm, pe⟩ := eqD_some er
  obtain ⟨d1, c1⟩ := la.dp pa
  obtain ⟨d2, c2⟩ := lb.dp pb
  obtain ⟨as, r1⟩ := Dp.reads I _ x v d1 rx
  obtain ⟨bs, r2⟩ := Dp.reads I _ y u d2 ry
  refine SeqAt.compareNe_reads r1 r2 c1 c2 (by have := py_room hu pm; omega) ⟨.bl (!r), H, I, ?_, p _ _ (Ext.refl _ _ _ _) ra (blD _)⟩
  rw [eqb_py a b r pa pb pe]
  rfl
theorem isNon_ok {K : PySem.W.Frag} {w : World} {N : Nm} {H : Hp} {M : Addr → Prop} {ρ : List Addr} {a : W} {x : V} (la : RepW K w N ρ H M a x) : isNon a = decide (x = V.non) := by
  cases a with
  | l n =>
    obtain ⟨z, _, rfl⟩ := la
    rfl
  | c d =>
    cases d with
    | dct t kvs =>
      cases t with
      | t => simp only [RepW, RepD] at la
      | s =>
        simp only [RepW, RepD] at la
        obtain ⟨_, rfl, _⟩ := la
        rfl
      | i =>
        simp only [RepW, RepD] at la
        obtain ⟨_, rfl, _⟩ := la
        rfl
    | _ =>
      simp only [RepW, RepD] at la
      first
        | (subst la; rfl)
        | (obtain ⟨rfl, _⟩ := la; rfl)
        | (obtain ⟨_, _, rfl, _⟩ := la; rfl)
        | (obtain ⟨_, _, _, rfl, _⟩ := la; rfl)
theorem o_is : OpR X (compareOp .Is) (ROp X N xf .is_) := by
  intro pins s σ H x y v u Q I rx ry q
  obtain ⟨Z, ρ, h, a, b, E, ra, la, lb, p⟩ := q
  have key : ∀ (b : W), RepW X.K X.w N ρ H (MM Z ρ h) b y → PostG X.K X.w N xf Z (RW X.K X.w N) Q E H ρ h (opW .is_ a b h) → y = .non ∧ Q (.bl (decide (x = .non))) H := by
    intro b lb p
    cases b with
    | l n => exact p.elim
    | c d =>
      cases d with
      | non =>
        refine ⟨by simpa only [RepW, RepD] using lb, ?_⟩
        have e : isNon a = decide (x = V.non) := isNon_ok la
        rw [← e]
        exact p _ _ _ (Ext.refl _ _ _ _) ra (blD (K := X.K) (w := X.w) (N := N) (H := H) (M := MM Z ρ h) _)
      | _ => exact p.elim
  exact op_isN pins s σ H x y v u Q I rx ry (key b lb p)
theorem o_isnot : OpR X (compareOp .IsNot) (ROp X N xf .isnot) := by
  intro pins s σ H x y v u Q I rx ry q
  obtain ⟨Z, ρ, h, a, b, E, ra, la, lb, p⟩ := q
  have key : ∀ (b : W), RepW X.K X.w N ρ H (MM Z ρ h) b y → PostG X.K X.w N xf Z (RW X.K X.w N) Q E H ρ h (opW .isnot a b h) → y = .non ∧ Q (.bl (!decide (x = .non))) H := by
    intro b lb p
    cases b with
    | l n => exact p.elim
    | c d =>
      cases d with
      | non =>
        refine ⟨by simpa only [RepW, RepD] using lb, ?_⟩
        have e : isNon a = decide (x = V.non) := isNon_ok la
        rw [← e]
        exact p _ _ _ (Ext.refl _ _ _ _) ra (blD (K := X.K) (w := X.w) (N := N) (H := H) (M := MM Z ρ h) _)
      | _ => exact p.elim
  exact op_notN pins s σ H x y v u Q I rx ry (key b lb p)
end
end B

set_option Elab.async false
set_option linter.all false
set_option maxRecDepth 100000
set_option maxHeartbeats 2000000
/-! in, not in; dicts; items; slices. Own work. -/
namespace B
open PySem PySem.Spec PyProof.Rows L2

/-! ### in a list, a tuple -/
theorem inL_py : ∀ (xs : List D) (x : D) (r : Bool), inL xs x = some r → D.pyoks xs = true ∧ x.pyok = true ∧ ((D.pys xs).any fun y => PyData.eqv y x.py) = r ∧ min (D.depths xs) x.depth ≤ 64
  | [], x, r, e => by
    have e' : (match x.pyok with
      | true => some false
      | false => none) = some r := e
    cases h : x.pyok with
    | false => rw [h] at e'; cases e'
    | true =>
      rw [h] at e'
      exact ⟨rfl, rfl, Option.some.inj e', by show min 0 x.depth ≤ 64; omega⟩
  | y :: ys, x, r, e => by
    have e' : (match eqD y x with
      | some a => match inL ys x with
        | some b => some (a || b)
        | none => none
      | none => none) = some r := e
    cases h1 : eqD y x with
    | none => rw [h1] at e'; cases e'
    | some a =>
      rw [h1] at e'
      cases h2 : inL ys x with
      | none => rw [h2] at e'; cases e'
      | some b =>
        rw [h2] at e'
        obtain ⟨p1, p2, p3, p4⟩ := eqD_some h1
        obtain ⟨q1, _, q3, q4⟩ := inL_py ys x b h2
        refine ⟨by show (D.pyok y && D.pyoks ys) = true; rw [p1, q1]; rfl, p2, ?_, ?_⟩
        · show ((D.py y :: D.pys ys).any fun y => PyData.eqv y x.py) = r
          rw [List.any_cons, eqb_py y x a p1 p2 p4, q3]
          exact Option.some.inj e'
        · show min (max (D.depth y) (D.depths ys)) x.depth ≤ 64
          omega

section
variable {X : Cx} {N : Nm} {xf : Nat → Str}
theorem room_in {A : Around} {xs : List D} {x : D} (hu : A.units + 200 < cLine) (m : min (D.depths xs) x.depth ≤ 64) : A.units + 1 + min (PyData.depthAll (D.pys xs)) x.py.depth < cLine := by
  have h1 := py_depths xs
  have h2 := py_depth x
  omega
/-! ### dicts whose keys are numbers and texts -/
theorem isEq_key {a b : D} {j k : Key} (h1 : keyOf a = some j) (h2 : keyOf b = some k) : isEq a b = decide (j = k) := by
  cases a <;> first | (cases h1; done) | skip
  · cases b <;> first | (cases h2; done) | skip
    · rename_i i i'
      cases h1; cases h2
      by_cases e : i = i'
      · subst e; simp [isEq, D.eqb]
      · simp [isEq, D.eqb, e]
    · cases h1; cases h2; simp [isEq, D.eqb]
  · cases b <;> first | (cases h2; done) | skip
    · cases h1; cases h2; simp [isEq, D.eqb]
    · rename_i i i'
      cases h1; cases h2
      by_cases e : i = i'
      · subst e; simp [isEq, D.eqb]
      · simp [isEq, D.eqb, e]
end
section
variable {K : PySem.W.Frag} {w : World} {N : Nm} {H : Hp} {M : Addr → Prop}
theorem keyD_key {t : Kd} {x : D} (ht : t ≠ .t) (h : keyD t x = true) : ∃ k, keyOf x = some k := by
  cases t <;> first | (exact absurd rfl ht) | (cases x <;> first | (cases h; done) | exact ⟨_, rfl⟩)
theorem RepD.key {x : D} {y : V} {k : Key} (q : RepD K w N H M x y) (e : keyOf x = some k) : y = kV k := by
  cases x <;> first | (cases e; done) | skip
  · cases e; unfold RepD at q; exact q
  · cases e; unfold RepD at q; exact q.1
theorem RepL.key {x : D} {y : V} {k : Key} (q : RepL K w N H M x y) (e : keyOf x = some k) : y = kV k := by
  cases x <;> first | (cases e; done) | exact RepD.key (K := K) (w := w) (N := N) (M := M) q e
theorem RepKs.val {x : D} {k : Key} (e : keyOf x = some k) : ∀ {kvs : List (D × D)} {ks : List (Key × V)}, RepKs K w N H M kvs ks →
    (getK kvs x = none ∧ valV ks k = none) ∨ ∃ d v, getK kvs x = some d ∧ valV ks k = some v ∧ RepD K w N H M d v
  | [], ks, q => by unfold RepKs at q; subst q; exact .inl ⟨rfl, rfl⟩
  | (c, d) :: r, ks, q => by
    unfold RepKs at q
    obtain ⟨k', v, vs', e1, e2, q1, q2⟩ := q
    subst e1
    have z := isEq_key e2 e
    by_cases hk : k' = k
    · refine .inr ⟨d, v, ?_, valV_pos hk, q1⟩
      show (match isEq c x with
        | true => some d
        | false => getK r x) = some d
      rw [z, decide_eq_true hk]
    · rw [valV_neg (p := (k', v)) hk]
      have g : getK ((c, d) :: r) x = getK r x := by
        show (match isEq c x with
          | true => some d
          | false => getK r x) = getK r x
        rw [z, decide_eq_false hk]
      rw [g]
      exact RepKs.val e q2
theorem RepKs.keys_of {kvs : List (D × D)} {ks : List (Key × V)} (q : RepKs K w N H M kvs ks) : kvs.length = ks.length := by
  induction kvs generalizing ks with
  | nil => unfold RepKs at q; subst q; rfl
  | cons p r ih =>
    obtain ⟨c, d⟩ := p
    unfold RepKs at q
    obtain ⟨k', v, vs', e1, e2, q1, q2⟩ := q
    subst e1
    simp [ih q2]
theorem valV_none_of {ks : List (Key × V)} {k : Key} (h : k ∉ ks.map (·.1)) : valV ks k = none := by
  induction ks with
  | nil => rfl
  | cons p r ih =>
    rw [List.map_cons, List.mem_cons, not_or] at h
    rw [valV_neg fun z => h.1 z.symm]
    exact ih h.2
theorem map_same {ks : List (Key × V)} {k : Key} {v : V} (h : k ∉ ks.map (·.1)) : ks.map (fun kv => if kv.1 = k then (kv.1, v) else kv) = ks := by
  induction ks with
  | nil => rfl
  | cons p r ih =>
    rw [List.map_cons, List.mem_cons, not_or] at h
    rw [List.map_cons, if_neg (fun z => h.1 z.symm), ih h.2]
theorem putK_cons_eq {p : Key × V} {r : List (Key × V)} {k : Key} {v : V} (e : p.1 = k) (nd : ((p :: r).map (·.1)).Nodup) : L2.putK (p :: r) k v = (k, v) :: r := by
  unfold L2.putK
  rw [List.map_cons, List.nodup_cons] at nd
  rw [if_pos (by rw [List.any_cons, decide_eq_true e]; rfl), List.map_cons, if_pos e, map_same (by rw [← e]; exact nd.1), e]
theorem putK_cons_ne {p : Key × V} {r : List (Key × V)} {k : Key} {v : V} (e : ¬ p.1 = k) : L2.putK (p :: r) k v = p :: L2.putK r k v := by
  unfold L2.putK
  rw [List.any_cons, decide_eq_false e, Bool.false_or]
  by_cases h : (r.any fun kv => decide (kv.1 = k)) = true
  · rw [if_pos h, if_pos h, List.map_cons, if_neg e]
  · rw [if_neg h, if_neg h]; rfl
theorem RepKs.put {x d : D} {k : Key} {v : V} (e : keyOf x = some k) (hd : RepD K w N H M d v) : ∀ {kvs : List (D × D)} {ks : List (Key × V)}, RepKs K w N H M kvs ks → (ks.map (·.1)).Nodup → RepKs K w N H M (B.putK kvs x d) (L2.putK ks k v)
  | [], ks, q, _ => by
    unfold RepKs at q; subst q
    show RepKs K w N H M [(x, d)] [(k, v)]
    unfold RepKs
    exact ⟨k, v, [], rfl, e, hd, by unfold RepKs; rfl⟩
  | (c, u) :: r, ks, q, nd => by
    unfold RepKs at q
    obtain ⟨k', v', vs', e1, e2, q1, q2⟩ := q
    subst e1
    have z := isEq_key e2 e
    by_cases hk : k' = k
    · subst hk
      rw [putK_cons_eq rfl nd]
      have g : B.putK ((c, u) :: r) x d = (c, d) :: r := by
        show (match isEq c x with
          | true => (c, d) :: r
          | false => (c, u) :: B.putK r x d) = _
        rw [z, decide_eq_true rfl]
      rw [g]
      unfold RepKs
      exact ⟨k', v, vs', rfl, e2, hd, q2⟩
    · rw [putK_cons_ne (p := (k', v')) hk]
      have g : B.putK ((c, u) :: r) x d = (c, u) :: B.putK r x d := by
        show (match isEq c x with
          | true => (c, d) :: r
          | false => (c, u) :: B.putK r x d) = _
        rw [z, decide_eq_false hk]
      rw [g]
      unfold RepKs
      rw [List.map_cons, List.nodup_cons] at nd
      exact ⟨k', v', _, rfl, e2, q1, RepKs.put e hd q2 nd.2⟩
theorem putK_keys {ks : List (Key × V)} {k : Key} {v : V} (nd : (ks.map (·.1)).Nodup) : ((L2.putK ks k v).map (·.1)).Nodup := by
  induction ks with
  | nil => show ([k] : List Key).Nodup; simp
  | cons p r ih =>
    by_cases e : p.1 = k
    · rw [putK_cons_eq e nd]
      rw [List.map_cons] at nd ⊢
      rw [← e]
      exact nd
    · rw [putK_cons_ne e]
      rw [List.map_cons, List.nodup_cons] at nd ⊢
      refine ⟨fun z => nd.1 ?_, ih nd.2⟩
      obtain ⟨q, hq, eq⟩ := List.mem_map.mp z
      have hv : (valV (L2.putK r k v) p.1).isSome = true := by
        rw [← valV_any]
        exact List.any_eq_true.mpr ⟨q, hq, decide_eq_true eq⟩
      rw [valV_put, if_neg e] at hv
      rw [← valV_any] at hv
      obtain ⟨q', hq', eq'⟩ := List.any_eq_true.mp hv
      exact List.mem_map.mpr ⟨q', hq', of_decide_eq_true eq'⟩
theorem dropK_cons_ne {p : Key × V} {r : List (Key × V)} {k : Key} (e : ¬ p.1 = k) : dropK (p :: r) k = p :: dropK r k := by
  unfold dropK; rw [List.filter_cons_of_pos (by exact decide_eq_true e)]
theorem dropK_none {ks : List (Key × V)} {k : Key} (h : k ∉ ks.map (·.1)) : dropK ks k = ks := by
  unfold dropK
  exact List.filter_eq_self.mpr fun p hp => decide_eq_true fun z => h (List.mem_map.mpr ⟨p, hp, z⟩)
theorem dropK_cons_eq {p : Key × V} {r : List (Key × V)} {k : Key} (e : p.1 = k) (nd : ((p :: r).map (·.1)).Nodup) : dropK (p :: r) k = r := by
  rw [List.map_cons, List.nodup_cons] at nd
  have h := dropK_none (ks := r) (k := k) (by rw [← e]; exact nd.1)
  unfold dropK at h ⊢
  rw [List.filter_cons_of_neg (by simp [e]), h]
theorem RepKs.del {x : D} {k : Key} (e : keyOf x = some k) : ∀ {kvs : List (D × D)} {ks : List (Key × V)}, RepKs K w N H M kvs ks → (ks.map (·.1)).Nodup → RepKs K w N H M (delK kvs x) (dropK ks k)
  | [], ks, q, _ => by unfold RepKs at q; subst q; show RepKs K w N H M [] []; unfold RepKs; rfl
  | (c, u) :: r, ks, q, nd => by
    unfold RepKs at q
    obtain ⟨k', v', vs', e1, e2, q1, q2⟩ := q
    subst e1
    have z := isEq_key e2 e
    by_cases hk : k' = k
    · rw [dropK_cons_eq (p := (k', v')) hk nd]
      have g : delK ((c, u) :: r) x = r := by
        show (match isEq c x with
          | true => r
          | false => (c, u) :: delK r x) = _
        rw [z, decide_eq_true hk]
      rw [g]; exact q2
    · rw [dropK_cons_ne (p := (k', v')) hk]
      have g : delK ((c, u) :: r) x = (c, u) :: delK r x := by
        show (match isEq c x with
          | true => r
          | false => (c, u) :: delK r x) = _
        rw [z, decide_eq_false hk]
      rw [g]
      unfold RepKs
      rw [List.map_cons, List.nodup_cons] at nd
      exact ⟨k', v', _, rfl, e2, q1, RepKs.del e q2 nd.2⟩
theorem dropK_keys {ks : List (Key × V)} {k : Key} (nd : (ks.map (·.1)).Nodup) : ((dropK ks k).map (·.1)).Nodup := nd.sublist (List.Sublist.map _ List.filter_sublist)
theorem RepKD.val {a : Addr} {z : Str} : ∀ {kvs : List (D × D)}, RepKD K w N H M a kvs → (getK kvs (.str z) = none ∧ ∀ p ∈ kvs, p.1 ≠ .str z) ∨ ∃ d u v, getK kvs (.str z) = some d ∧ PySem.W.nsIn K a z = some (some u) ∧ RelV v u ∧ RepD K w N H M d v
  | [], _ => .inl ⟨rfl, fun _ h => nomatch h⟩
  | (c, d) :: r, q => by
    unfold RepKD at q
    obtain ⟨⟨y, u, v, e, n, q1, q2⟩, g⟩ := q
    have ez : isEq c (.str z) = decide (y = z) := by
      subst e
      by_cases h : y = z
      · subst h; simp [isEq, D.eqb]
      · simp [isEq, D.eqb, h]
    by_cases h : y = z
    · refine .inr ⟨d, u, v, ?_, by rw [← h]; exact n, q1, q2⟩
      show (match isEq c (.str z) with
        | true => some d
        | false => getK r (.str z)) = some d
      rw [ez, decide_eq_true h]
    · have g2 : getK ((c, d) :: r) (.str z) = getK r (.str z) := by
        show (match isEq c (.str z) with
          | true => some d
          | false => getK r (.str z)) = _
        rw [ez, decide_eq_false h]
      rw [g2]
      rcases RepKD.val (z := z) g with ⟨h1, h2⟩ | h1
      · refine .inl ⟨h1, fun p hp => ?_⟩
        rcases List.mem_cons.mp hp with hp | hp
        · subst hp; intro q; rw [e] at q; exact h (D.str.inj q)
        · exact h2 p hp
      · exact .inr h1
end
end B

set_option Elab.async false
set_option linter.all false
set_option maxRecDepth 100000
set_option maxHeartbeats 2000000
/-! in, not in, items. Own work. -/
namespace B
open PySem PySem.Spec PyProof.Rows L2
section
variable {X : Cx} {N : Nm} {xf : Nat → Str}
theorem o_in (hu : X.A.units + 200 < cLine) : OpR X (compareOp .In) (ROp X N xf .in_) := by
  intro pins s σ H x y v u Q I rx ry q
  obtain ⟨Z, ρ, h, a, b, d, ra, la, lb, ed, p⟩ := rOp_bin (by decide) (by decide) q
  have fin : ∀ r, d = .bl r → Q (.bl r) H := fun r e => by subst e; exact p _ _ (Ext.refl _ _ _ _) ra (blD _)
  cases b with
  | tup ys =>
    obtain ⟨r, er, rfl⟩ := Option.map_eq_some_iff.mp (show (inL ys a).map D.bl = some d by cases a <;> exact ed)
    obtain ⟨h1, h2, h3, h4⟩ := inL_py ys a r er
    obtain ⟨d2, c2⟩ := lb.dp (show D.pyok (.tup ys) = true from h1)
    obtain ⟨d1, c1⟩ := la.dp h2
    obtain ⟨bs, r2⟩ := Dp.reads I _ y u d2 ry
    obtain ⟨as, r1⟩ := Dp.reads I _ x v d1 rx
    exact SeqAt.in_tuple_reads r2 r1 (by unfold D.py PyData.canLay0 at c2; exact c2) c1 (room_in hu h4) (by rw [h3]; exact ⟨.bl r, H, I, rfl, fin r rfl⟩)
  | lst ys =>
    obtain ⟨r, er, rfl⟩ := Option.map_eq_some_iff.mp (show (inL ys a).map D.bl = some d by cases a <;> exact ed)
    obtain ⟨h1, h2, h3, h4⟩ := inL_py ys a r er
    obtain ⟨d2, c2⟩ := lb.dp (show D.pyok (.lst ys) = true from h1)
    obtain ⟨d1, c1⟩ := la.dp h2
    obtain ⟨bs, r2⟩ := Dp.reads I _ y u d2 ry
    obtain ⟨as, r1⟩ := Dp.reads I _ x v d1 rx
    exact SeqAt.in_list_reads r2 r1 (by unfold D.py PyData.canLay0 at c2; exact c2) c1 (room_in hu h4) (by rw [h3]; exact ⟨.bl r, H, I, rfl, fin r rfl⟩)
  | str z =>
    cases a <;> first | (simp [bin] at ed; done) | skip
    rename_i c
    obtain ⟨rfl, _⟩ : x = V.str c ∧ _ := by simpa only [RepL, RepD] using la
    obtain ⟨rfl, _⟩ : y = V.str z ∧ _ := by simpa only [RepL, RepD] using lb
    simp only [bin] at ed
    split at ed
    · rename_i c0 hc
      cases ed
      have ec : c = ⟨#[c0]⟩ := by
        obtain ⟨cc⟩ := c
        have : cc = #[c0] := by
          have := congrArg List.toArray hc
          simpa using this
        rw [this]
      subst ec
      exact op_in_sign pins s σ H _ _ v u Q I rx ry ⟨c0, z, rfl, rfl, fin _ rfl⟩
    · cases ed
  | dct t kvs =>
    obtain ⟨r, er, rfl⟩ := Option.map_eq_some_iff.mp (show (dGet t kvs a).map (fun r => D.bl r.isSome) = some d by cases a <;> exact ed)
    unfold dGet at er
    split at er
    · rename_i hk
      cases er
      obtain ⟨ad, rfl, lb⟩ := lb
      rcases lb with ⟨o, ro, tt, ks, rfl, nd, rk⟩ | ⟨rfl, ⟨es, n, kd⟩, rk, rn⟩
      · obtain ⟨k, ek⟩ := keyD_key tt hk
        have ey := la.key ek
        subst ey
        cases (show u = Value.ref ad from ry)
        refine d_in (o := valV ks k) (by omega) I (.inl ⟨ks, k, ro, rfl, rfl⟩) rx fun s2 I2 => ⟨.bl _, H, I2, rfl, ?_⟩
        rcases rk.val ek with ⟨g1, g2⟩ | ⟨d', v', g1, g2, _⟩
        · rw [g2]; exact fin _ (by rw [g1]; rfl)
        · rw [g2]; exact fin _ (by rw [g1]; rfl)
      · cases a <;> first | (cases hk; done) | skip
        · rename_i z
          obtain ⟨rfl, _⟩ : x = V.str z ∧ _ := by simpa only [RepL, RepD] using la
          rcases rk.val (z := z) with ⟨g1, g2⟩ | ⟨d', u', v', g1, g2, _⟩
          · exact op_in_kd kd pins s σ H _ _ v u Q I rx ry ⟨z, none, rfl, rfl, rn z g2, fin _ (by rw [g1]; rfl)⟩
          · exact op_in_kd kd pins s σ H _ _ v u Q I rx ry ⟨z, some u', rfl, rfl, g2, fin _ (by rw [g1]; rfl)⟩
    · cases er
  | _ => cases a <;> (simp [bin] at ed; done)
theorem o_notin (hu : X.A.units + 200 < cLine) : OpR X (compareOp .NotIn) (ROp X N xf .notin) := by
  intro pins s σ H x y v u Q I rx ry q
  obtain ⟨Z, ρ, h, a, b, d, ra, la, lb, ed, p⟩ := rOp_bin (by decide) (by decide) q
  have fin : ∀ r, d = .bl r → Q (.bl r) H := fun r e => by subst e; exact p _ _ (Ext.refl _ _ _ _) ra (blD _)
  cases b with
  | tup ys =>
    obtain ⟨r, er, rfl⟩ := Option.map_eq_some_iff.mp (show (inL ys a).map (fun r => D.bl (!r)) = some d by cases a <;> exact ed)
    obtain ⟨h1, h2, h3, h4⟩ := inL_py ys a r er
    obtain ⟨d2, c2⟩ := lb.dp (show D.pyok (.tup ys) = true from h1)
    obtain ⟨d1, c1⟩ := la.dp h2
    obtain ⟨bs, r2⟩ := Dp.reads I _ y u d2 ry
    obtain ⟨as, r1⟩ := Dp.reads I _ x v d1 rx
    exact SeqAt.notIn_tuple_reads r2 r1 (by unfold D.py PyData.canLay0 at c2; exact c2) c1 (room_in hu h4) (by rw [h3]; exact ⟨.bl (!r), H, I, rfl, fin (!r) rfl⟩)
  | lst ys =>
    obtain ⟨r, er, rfl⟩ := Option.map_eq_some_iff.mp (show (inL ys a).map (fun r => D.bl (!r)) = some d by cases a <;> exact ed)
    obtain ⟨h1, h2, h3, h4⟩ := inL_py ys a r er
    obtain ⟨d2, c2⟩ := lb.dp (show D.pyok (.lst ys) = true from h1)
    obtain ⟨d1, c1⟩ := la.dp h2
    obtain ⟨bs, r2⟩ := Dp.reads I _ y u d2 ry
    obtain ⟨as, r1⟩ := Dp.reads I _ x v d1 rx
    exact SeqAt.notIn_list_reads r2 r1 (by unfold D.py PyData.canLay0 at c2; exact c2) c1 (room_in hu h4) (by rw [h3]; exact ⟨.bl (!r), H, I, rfl, fin (!r) rfl⟩)
  | str z =>
    cases a <;> first | (simp [bin] at ed; done) | skip
    rename_i c
    obtain ⟨rfl, _⟩ : x = V.str c ∧ _ := by simpa only [RepL, RepD] using la
    obtain ⟨rfl, _⟩ : y = V.str z ∧ _ := by simpa only [RepL, RepD] using lb
    simp only [bin] at ed
    split at ed
    · rename_i c0 hc
      cases ed
      have ec : c = ⟨#[c0]⟩ := by
        obtain ⟨cc⟩ := c
        have : cc = #[c0] := by
          have := congrArg List.toArray hc
          simpa using this
        rw [this]
      subst ec
      exact op_notIn_sign pins s σ H _ _ v u Q I rx ry ⟨c0, z, rfl, rfl, fin _ rfl⟩
    · cases ed
  | dct t kvs =>
    obtain ⟨r, er, rfl⟩ := Option.map_eq_some_iff.mp (show (dGet t kvs a).map (fun r => D.bl (!r.isSome)) = some d by cases a <;> exact ed)
    unfold dGet at er
    split at er
    · rename_i hk
      cases er
      obtain ⟨ad, rfl, lb⟩ := lb
      rcases lb with ⟨o, ro, tt, ks, rfl, nd, rk⟩ | ⟨rfl, ⟨es, n, kd⟩, rk, rn⟩
      · obtain ⟨k, ek⟩ := keyD_key tt hk
        have ey := la.key ek
        subst ey
        cases (show u = Value.ref ad from ry)
        refine d_notIn (o := valV ks k) (by omega) I (.inl ⟨ks, k, ro, rfl, rfl⟩) rx fun s2 I2 => ⟨.bl _, H, I2, rfl, ?_⟩
        rcases rk.val ek with ⟨g1, g2⟩ | ⟨d', v', g1, g2, _⟩
        · rw [g2]; exact fin _ (by rw [g1]; rfl)
        · rw [g2]; exact fin _ (by rw [g1]; rfl)
      · cases a <;> first | (cases hk; done) | skip
        · rename_i z
          obtain ⟨rfl, _⟩ : x = V.str z ∧ _ := by simpa only [RepL, RepD] using la
          rcases rk.val (z := z) with ⟨g1, g2⟩ | ⟨d', u', v', g1, g2, _⟩
          · exact op_notIn_kd kd pins s σ H _ _ v u Q I rx ry ⟨z, none, rfl, rfl, rn z g2, fin _ (by rw [g1]; rfl)⟩
          · exact op_notIn_kd kd pins s σ H _ _ v u Q I rx ry ⟨z, some u', rfl, rfl, g2, fin _ (by rw [g1]; rfl)⟩
    · cases er
  | _ => cases a <;> (simp [bin] at ed; done)
end
end B

set_option Elab.async false
set_option linter.all false
set_option maxRecDepth 100000
set_option maxHeartbeats 2000000
/-! New objects; changed objects. Own work. -/
namespace B
open PySem PySem.Spec PyProof.Rows L2
section
variable {K : PySem.W.Frag} {w : World} {N : Nm} {xf : Nat → Str} {Z : Addr → Prop} {H : Hp} {ρ : List Addr} {h : A}
theorem PP.push {a : Addr} {o : O} {b : Addr} (len : ρ.length = h.length) (m : PP (ρ ++ [a]) (h ++ [o]) b) : PP ρ h b ∨ b = a := by
  obtain ⟨i, u, e1, e2, d⟩ := m
  by_cases hi : i < ρ.length
  · rw [List.getElem?_append_left hi] at e1
    rw [List.getElem?_append_left (by rw [← len]; exact hi)] at e2
    exact .inl ⟨i, u, e1, e2, d⟩
  · rw [List.getElem?_append_right (by omega)] at e1
    have : i - ρ.length = 0 := by
      cases hz : i - ρ.length with
      | zero => rfl
      | succ n => rw [hz] at e1; simp at e1
    rw [this] at e1
    simp at e1
    exact .inr e1.symm
theorem Ext.push {a : Addr} {ho : HO} {o : O} (len : ρ.length = h.length) (n : H a = none) : Ext Z H ρ h (upd H a ho) (ρ ++ [a]) (h ++ [o]) := by
  have k : ∀ b u, H b = some u → upd H a ho b = some u := fun b u e => by rw [upd_ne (ne_of_none e n)]; exact e
  have np : ∀ b, PP (ρ ++ [a]) (h ++ [o]) b → PP ρ h b ∨ H b = none := fun b m => by
    rcases PP.push len m with m | e
    · exact .inl m
    · subst e; exact .inr n
  refine ⟨⟨fun b u e _ => k b u e, fun _ p => .inl p, fun b m => ?_, np, fun b u e => ⟨u, k b u e⟩⟩, ⟨[a], rfl⟩, fun t e b hb => ?_⟩
  · rcases m with m | m
    · rcases np b m with z | z
      · exact .inl (.inl z)
      · exact .inr z
    · exact .inl (.inr m)
  · have : t = [a] := (List.append_cancel_left e).symm
    subst this
    have : b = a := by simpa using hb
    subst this; exact n
/-- a new object that may change -/
theorem RepA.push (r : RepA K w N Z H ρ h) {a : Addr} {ho : HO} {o : O} (n : H a = none) (q : RepO K w N ρ H (MM Z ρ h) o ho) : RepA K w N Z (upd H a ho) (ρ ++ [a]) (h ++ [o]) := by
  have x : Ext Z H ρ h (upd H a ho) (ρ ++ [a]) (h ++ [o]) := Ext.push r.len n
  refine ⟨by simp [r.len], ?_, fun b z => ⟨?_, ?_⟩, fun i u b e1 e2 => ?_⟩
  · refine List.nodup_append.mpr ⟨r.nd, by simp, fun c hc d hd => ?_⟩
    have : d = a := by simpa using hd
    subst this
    intro z
    subst z
    obtain ⟨i, hi⟩ := List.mem_iff_getElem?.mp hc
    have hl : i < h.length := by
      rw [← r.len]; exact (List.getElem?_eq_some_iff.mp hi).1
    obtain ⟨ho', z, _⟩ := r.obj i h[i] c (List.getElem?_eq_some_iff.mpr ⟨hl, rfl⟩) hi
    rw [n] at z; cases z
  · obtain ⟨⟨u, e⟩, _⟩ := r.far b z
    exact x.keep.there b u e
  · obtain ⟨⟨u, e⟩, nm⟩ := r.far b z
    intro hm
    rcases List.mem_append.mp hm with hm | hm
    · exact nm hm
    · have : b = a := by simpa using hm
      subst this
      rw [n] at e; cases e
  · by_cases hi : i < h.length
    · rw [List.getElem?_append_left hi] at e1
      rw [List.getElem?_append_left (by rw [r.len]; exact hi)] at e2
      obtain ⟨ho', z, y⟩ := r.obj i u b e1 e2
      exact ⟨ho', by rw [upd_ne (ne_of_none z n)]; exact z, y.keep x.keep x.pre⟩
    · rw [List.getElem?_append_right (by omega)] at e1
      have hz : i - h.length = 0 := by
        cases hz : i - h.length with
        | zero => rfl
        | succ m => rw [hz] at e1; simp at e1
      rw [hz] at e1
      simp at e1
      subst e1
      have e2' : (ρ ++ [a])[h.length]? = some b := by rw [show i = h.length by omega] at e2; exact e2
      rw [← r.len, List.getElem?_append_right (Nat.le_refl _)] at e2'
      simp at e2'
      subst e2'
      exact ⟨ho, upd_same, q.keep x.keep x.pre⟩
/-- an object is changed -/
theorem PP.set {n : Nat} {o u : O} {a b : Addr} (e : h[n]? = some u) (du : isDead u = false) (ea : ρ[n]? = some a) (m : PP ρ (h.set n o) b) : PP ρ h b := by
  obtain ⟨i, v, e1, e2, d⟩ := m
  rw [List.getElem?_set] at e2
  by_cases hi : n = i
  · subst hi
    rw [ea] at e1; cases e1
    exact ⟨n, u, ea, e, du⟩
  · rw [if_neg hi] at e2
    exact ⟨i, v, e1, e2, d⟩
theorem Ext.set {n : Nat} {o u : O} {a : Addr} {ho : HO} (e : h[n]? = some u) (du : isDead u = false) (ea : ρ[n]? = some a) : Ext Z H ρ h (upd H a ho) ρ (h.set n o) := by
  have np : ∀ b, PP ρ (h.set n o) b → PP ρ h b ∨ H b = none := fun b m => .inl (m.set e du ea)
  refine ⟨⟨fun b v eb m => ?_, fun _ p => .inl p, fun b m => ?_, np, fun b v eb => ?_⟩, ⟨[], by simp⟩, fun t et b hb => ?_⟩
  · have : b ≠ a := fun z => m (by subst z; exact ⟨n, u, ea, e, du⟩)
    rw [upd_ne this]; exact eb
  · rcases m with m | m
    · exact .inl (.inl (m.set e du ea))
    · exact .inl (.inr m)
  · by_cases hb : b = a
    · subst hb; exact ⟨ho, upd_same⟩
    · exact ⟨v, by rw [upd_ne hb]; exact eb⟩
  · have : t = [] := by simpa using et.symm
    subst this; cases hb
theorem nodup_get {α : Type} {l : List α} (nd : l.Nodup) {i j : Nat} {a : α} (h1 : l[i]? = some a) (h2 : l[j]? = some a) : i = j := by
  obtain ⟨hi, e1⟩ := List.getElem?_eq_some_iff.mp h1
  obtain ⟨hj, e2⟩ := List.getElem?_eq_some_iff.mp h2
  exact (List.getElem_inj nd).mp (e1.trans e2.symm)
theorem RepA.set (r : RepA K w N Z H ρ h) {n : Nat} {o u : O} {a : Addr} {ho : HO} (e : h[n]? = some u) (du : isDead u = false) (ea : ρ[n]? = some a) (q : RepO K w N ρ H (MM Z ρ h) o ho) : RepA K w N Z (upd H a ho) ρ (h.set n o) := by
  have x : Ext Z H ρ h (upd H a ho) ρ (h.set n o) := Ext.set e du ea
  refine ⟨by simp [r.len], r.nd, fun b z => ⟨let ⟨u, e⟩ := (r.far b z).1; x.keep.there b u e, (r.far b z).2⟩, fun i v b e1 e2 => ?_⟩
  rw [List.getElem?_set] at e1
  by_cases hi : n = i
  · subst hi
    rw [ea] at e2; cases e2
    rw [if_pos rfl] at e1
    split at e1
    · cases e1
      exact ⟨ho, upd_same, q.keep x.keep x.pre⟩
    · cases e1
  · rw [if_neg hi] at e1
    obtain ⟨ho', z, y⟩ := r.obj i v b e1 e2
    have nb : b ≠ a := fun z => by subst z; exact hi (nodup_get r.nd ea e2)
    exact ⟨ho', by rw [upd_ne nb]; exact z, y.keep x.keep x.pre⟩
theorem born_lst {m : Bool} {xs : List D} {vs : List V} {Q : VK} {E : XK} (p : PostG K w N xf Z (RW K w N) Q E H ρ h (born m (.lst xs) h)) (r : RepA K w N Z H ρ h) (q : RepDs K w N H (MM Z ρ h) xs vs) (a : Addr) (n : H a = none) : Q (.ref a) (upd H a (.lst vs)) := by
  cases m with
  | false => exact p _ _ _ (Ext.alloc n) (r.alloc n) (lstD upd_same (r.notM n) (q.keep (Keep.new1 n)))
  | true => exact p _ _ _ (Ext.push r.len n) (r.push n ⟨vs, rfl, q⟩) ⟨a, by rw [← r.len, List.getElem?_append_right (Nat.le_refl _)]; simp, rfl⟩
theorem born_dct {m : Bool} {t : Kd} (ht : t ≠ .t) {xs : List (D × D)} {ks : List (Key × V)} {Q : VK} {E : XK} (p : PostG K w N xf Z (RW K w N) Q E H ρ h (born m (.dct t xs) h)) (r : RepA K w N Z H ρ h) (nd : (ks.map (·.1)).Nodup) (q : RepKs K w N H (MM Z ρ h) xs ks) (a : Addr) (n : H a = none) : Q (.ref a) (upd H a (.dK ks)) := by
  cases m with
  | false =>
    refine p _ _ _ (Ext.alloc n) (r.alloc n) ?_
    show RepD K w N (upd H a (.dK ks)) (MM Z ρ h) (.dct t xs) (.ref a)
    cases t with
    | t => exact absurd rfl ht
    | s => unfold RepD; exact ⟨a, rfl, .inl ⟨ks, .inl upd_same, r.notM n, nd, q.keep (Keep.new1 n)⟩⟩
    | i => unfold RepD; exact ⟨a, rfl, .inl ⟨ks, .inl upd_same, r.notM n, nd, q.keep (Keep.new1 n)⟩⟩
  | true => exact p _ _ _ (Ext.push r.len n) (r.push n ⟨ht, ks, rfl, nd, q⟩) ⟨a, by rw [← r.len, List.getElem?_append_right (Nat.le_refl _)]; simp, rfl⟩
/-- born of what is neither a list nor a dict: a tree -/
theorem born_c {m : Bool} {d : D} {Q : VK} {E : XK} (hd : fresh d = none) (p : PostG K w N xf Z (RW K w N) Q E H ρ h (born m d h)) : PostG K w N xf Z (RW K w N) Q E H ρ h (.ok (.c d) h) := by
  cases m with
  | false => exact p
  | true =>
    have p' : PostG K w N xf Z (RW K w N) Q E H ρ h (ofOpt (fresh d) fun o => .ok (.l h.length) (h ++ [o])) := p
    rw [hd] at p'
    exact p'.elim
end
end B

set_option Elab.async false
set_option linter.all false
set_option maxRecDepth 100000
set_option maxHeartbeats 2000000
/-! Built-ins called by their names, by values. Own work. -/
namespace B
open PySem PySem.Spec PyProof.Rows L2
section
variable {K : PySem.W.Frag} {w : World} {N : Nm} {H : Hp} {ρ : List Addr} {h : A}
def RepLs (K : PySem.W.Frag) (w : World) (N : Nm) (H : Hp) (M : Addr → Prop) : List D → List V → Prop
  | [], vs => vs = []
  | d :: r, vs => ∃ v vs', vs = v :: vs' ∧ RepL K w N H M d v ∧ RepLs K w N H M r vs'
theorem RepWs.looks (ra : RepA K w N Z H ρ h) : ∀ {xs : List W} {ds : List D} {vs : List V}, RepWs K w N ρ H (MM Z ρ h) xs vs → B.looks h xs = some ds → RepLs K w N H (MM Z ρ h) ds vs
  | [], ds, vs, q, e => by cases e; exact q
  | x :: r, ds, vs, ⟨v, vs', ev, a, b⟩, e => by
    have e' : (match look h x with
      | some d => match B.looks h r with
        | some ds => some (d :: ds)
        | none => none
      | none => none) = some ds := e
    cases h1 : look h x with
    | none => rw [h1] at e'; cases e'
    | some d =>
      rw [h1] at e'
      cases h2 : B.looks h r with
      | none => rw [h2] at e'; cases e'
      | some ds' =>
        rw [h2] at e'
        cases e'
        exact ⟨v, vs', ev, a.look ra h1, RepWs.looks ra b h2⟩
theorem strOk_ofString (s : String) : PyData.strOk (Str.ofString s) = true := by
  rw [Str.ofString_eq_toList]
  unfold PyData.strOk
  show (List.map Char.toNat s.toList).toArray.all _ = true
  rw [← Array.all_toList, List.all_eq_true]
  intro n hn
  obtain ⟨c, _, rfl⟩ := List.mem_map.mp (by simpa using hn)
  refine decide_eq_true ?_
  have := c.valid
  rcases this with z | ⟨_, z⟩
  · show c.val.toNat < _
    omega
  · exact z
end
section
variable {X : Cx} {N : Nm} {xf : Nat → Str}
def rBi (K : PySem.W.Frag) (w : World) (N : Nm) (xf : Nat → Str) (m : Bool) (b : Bi) : List V → Hp → VK → Prop := fun vs H Q => ∃ (Z : Addr → Prop) (ρ : List Addr) (h : A) (ws : List W) (E : XK), RepA K w N Z H ρ h ∧ RepWs K w N ρ H (MM Z ρ h) ws vs ∧
  PostG K w N xf Z (RW K w N) Q E H ρ h (ofOpt (looks h ws) fun ds => ofOpt (bi b ds) fun d => born m d h)
theorem rBi_one {K : PySem.W.Frag} {w : World} {N : Nm} {H : Hp} {M : Addr → Prop} {d : D} {vs : List V} (q : RepLs K w N H M [d] vs) : ∃ v, vs = [v] ∧ RepL K w N H M d v := by
  obtain ⟨v, vs', rfl, a, rfl⟩ := q
  exact ⟨v, rfl, a⟩
theorem rBi_two {K : PySem.W.Frag} {w : World} {N : Nm} {H : Hp} {M : Addr → Prop} {d e : D} {vs : List V} (q : RepLs K w N H M [d, e] vs) : ∃ v u, vs = [v, u] ∧ RepL K w N H M d v ∧ RepL K w N H M e u := by
  obtain ⟨v, vs', rfl, a, u, us', rfl, b, rfl⟩ := q
  exact ⟨v, u, rfl, a, b⟩
theorem rBi_inv0 {K : PySem.W.Frag} {w : World} {m : Bool} {b : Bi} {vs : List V} {H : Hp} {Q : VK} (q : rBi K w N xf m b vs H Q) : ∃ (Z : Addr → Prop) (ρ : List Addr) (h : A) (ds : List D) (d : D) (E : XK), RepA K w N Z H ρ h ∧ RepLs K w N H (MM Z ρ h) ds vs ∧ bi b ds = some d ∧
    PostG K w N xf Z (RW K w N) Q E H ρ h (born m d h) := by
  obtain ⟨Z, ρ, h, ws, E, ra, rw, p⟩ := q
  obtain ⟨ds, e1, p1⟩ := PostG.some p
  obtain ⟨d, e2, p2⟩ := PostG.some p1
  exact ⟨Z, ρ, h, ds, d, E, ra, rw.looks ra e1, e2, p2⟩
theorem bi_inv {b : Bi} {ds : List D} {d : D} (e : bi b ds = some d) : (∃ x, ds = [x] ∧ bi1 b x = some d) ∨ ∃ x y, ds = [x, y] ∧ bi2 b x y = some d := by
  cases ds with
  | nil => cases e
  | cons x r =>
    cases r with
    | nil => exact .inl ⟨x, rfl, e⟩
    | cons y r =>
      cases r with
      | nil => exact .inr ⟨x, y, rfl, e⟩
      | cons _ _ => cases e
theorem rBi_inv {K : PySem.W.Frag} {w : World} {m : Bool} {b : Bi} {vs : List V} {H : Hp} {Q : VK} (q : rBi K w N xf m b vs H Q) : ∃ (Z : Addr → Prop) (ρ : List Addr) (h : A) (d : D) (E : XK), RepA K w N Z H ρ h ∧
    PostG K w N xf Z (RW K w N) Q E H ρ h (born m d h) ∧ ((∃ x v, vs = [v] ∧ RepL K w N H (MM Z ρ h) x v ∧ bi1 b x = some d) ∨ ∃ x y v u, vs = [v, u] ∧ RepL K w N H (MM Z ρ h) x v ∧ RepL K w N H (MM Z ρ h) y u ∧ bi2 b x y = some d) := by
  obtain ⟨Z, ρ, h, ds, d, E, ra, rl, ed, p⟩ := rBi_inv0 q
  refine ⟨Z, ρ, h, d, E, ra, p, ?_⟩
  rcases bi_inv ed with ⟨x, rfl, e⟩ | ⟨x, y, rfl, e⟩
  · obtain ⟨v, e1, l⟩ := rBi_one rl
    exact .inl ⟨x, v, e1, l, e⟩
  · obtain ⟨v, u, e1, l, l2⟩ := rBi_two rl
    exact .inr ⟨x, y, v, u, e1, l, l2, e⟩
theorem born_int {K : PySem.W.Frag} {w : World} {H : Hp} {ρ : List Addr} {h : A} {m : Bool} {i : Int} {Q : VK} {E : XK} (p : PostG K w N xf Z (RW K w N) Q E H ρ h (born m (.int i) h)) (r : RepA K w N Z H ρ h) : Q (.int i) H :=
  born_c rfl p (.int i) H ρ (Ext.refl _ _ _ _) r (intD (K := K) (w := w) (N := N) (H := H) (M := MM Z ρ h) i)
theorem born_str {K : PySem.W.Frag} {w : World} {H : Hp} {ρ : List Addr} {h : A} {m : Bool} {z : Str} {Q : VK} {E : XK} (p : PostG K w N xf Z (RW K w N) Q E H ρ h (born m (.str z) h)) (r : RepA K w N Z H ρ h) (k : PyData.strOk z = true) : Q (.str z) H :=
  born_c rfl p (.str z) H ρ (Ext.refl _ _ _ _) r (strD (K := K) (w := w) (N := N) (H := H) (M := MM Z ρ h) k)
theorem b_len {m : Bool} : CallR X (.builtin "len") (rBi X.K X.w N xf m .len) := by
  intro pins s σ H xs us Q I rv q
  obtain ⟨Z, ρ, h, d, E, ra, p, ⟨x, v, rfl, l, ed⟩ | ⟨x, y, v, u, rfl, l, l2, ed⟩⟩ := rBi_inv q
  · cases x with
    | tup xs =>
      obtain ⟨a, vs, rfl, r, q⟩ := RepD.tup_inv l
      cases ed
      exact call_len pins s σ H _ us Q I rv ⟨_, _, rfl, .inr ⟨vs, r, rfl⟩, by rw [← q.length]; exact born_int p ra⟩
    | lst xs =>
      obtain ⟨a, vs, rfl, r, q⟩ := l
      cases ed
      exact call_len pins s σ H _ us Q I rv ⟨_, _, rfl, .inl ⟨vs, .of r, rfl⟩, by rw [← q.length]; exact born_int p ra⟩
    | scr xs =>
      have l' : RepD X.K X.w N H (MM Z ρ h) (.scr xs) v := l
      unfold RepD at l'
      obtain ⟨a, vs, rfl, r, q⟩ := l'
      cases ed
      exact call_len pins s σ H _ us Q I rv ⟨_, _, rfl, .inl ⟨vs, r.elim (fun r => .inl r.1) fun r => .inr r, rfl⟩, by rw [← q.length]; exact born_int p ra⟩
    | str z =>
      obtain ⟨rfl, _⟩ : v = V.str z ∧ _ := by simpa only [RepL, RepD] using l
      simp only [bi1] at ed
      split at ed
      · rename_i hc
        cases ed
        exact call_len pins s σ H _ us Q I rv ⟨_, _, rfl, ⟨by rw [← sizeMax_eq]; exact of_decide_eq_true hc, rfl⟩, born_int p ra⟩
      · cases ed
    | _ => simp [bi1] at ed
  · cases x <;> cases y <;> (simp [bi2] at ed; done)
theorem digits_all : ∀ c ∈ [48, 49, 50, 51, 52, 53, 54, 55, 56, 57], PySem.intText? ⟨#[c]⟩ = some ((c - 48 : Nat) : Int) := by decide +kernel
theorem digit_text {z : Str} {d : D} (e : bi1 .int (.str z) = some d) : ∃ i : Int, d = .int i ∧ PySem.intText? z = some i ∧ z.length ≤ 640 := by
  have e' : digitOf z.cps.toList = some d := e
  obtain ⟨⟨l⟩⟩ := z
  have e2 : digitOf l = some d := e'
  cases l with
  | nil => cases e2
  | cons c r =>
    cases r with
    | cons _ _ => cases e2
    | nil =>
      have e3 : (match decide (48 ≤ c ∧ c < 58) with
        | true => some (D.int ((c - 48 : Nat) : Int))
        | false => none) = some d := e2
      cases hc : decide (48 ≤ c ∧ c < 58) with
      | false => rw [hc] at e3; cases e3
      | true =>
        rw [hc] at e3
        cases e3
        have h := of_decide_eq_true hc
        refine ⟨_, rfl, digits_all c ?_, by show 1 ≤ 640; decide⟩
        have : c = 48 ∨ c = 49 ∨ c = 50 ∨ c = 51 ∨ c = 52 ∨ c = 53 ∨ c = 54 ∨ c = 55 ∨ c = 56 ∨ c = 57 := by omega
        rcases this with rfl | rfl | rfl | rfl | rfl | rfl | rfl | rfl | rfl | rfl <;> decide
theorem b_int {m : Bool} : CallR X (.type "int") (rBi X.K X.w N xf m .int) := by
  intro pins s σ H xs us Q I rv q
  obtain ⟨Z, ρ, h, d, E, ra, p, ⟨x, v, rfl, l, ed⟩ | ⟨x, y, v, u, rfl, l, l2, ed⟩⟩ := rBi_inv q
  · cases x with
    | int i =>
      obtain rfl : v = V.int i := by simpa only [RepL, RepD] using l
      cases ed
      exact call_int1 pins s σ H _ us Q I rv (.inl ⟨i, rfl, born_int p ra⟩)
    | bl b =>
      obtain rfl : v = V.bl b := by simpa only [RepL, RepD] using l
      cases ed
      exact call_int1 pins s σ H _ us Q I rv (.inr ⟨b, rfl, born_int p ra⟩)
    | str z =>
      obtain ⟨rfl, _⟩ : v = V.str z ∧ _ := by simpa only [RepL, RepD] using l
      obtain ⟨i, rfl, e1, e2⟩ := digit_text ed
      exact call_int_str pins s σ H _ us Q I rv ⟨z, i, rfl, e1, e2, born_int p ra⟩
    | _ => simp [bi1] at ed
  · cases x <;> cases y <;> (simp [bi2] at ed; done)
theorem b_str {m : Bool} : CallR X (.type "str") (rBi X.K X.w N xf m .str) := by
  intro pins s σ H xs us Q I rv q
  obtain ⟨Z, ρ, h, d, E, ra, p, ⟨x, v, rfl, l, ed⟩ | ⟨x, y, v, u, rfl, l, l2, ed⟩⟩ := rBi_inv q
  · cases x with
    | str z =>
      obtain ⟨rfl, k⟩ : v = V.str z ∧ _ := by simpa only [RepL, RepD] using l
      cases ed
      exact SkE.call_str_str pins s σ H _ us Q I rv ⟨z, rfl, born_str p ra k⟩
    | int i =>
      obtain rfl : v = V.int i := by simpa only [RepL, RepD] using l
      simp only [bi1] at ed
      split at ed
      · rename_i hc
        cases ed
        have h1 := small_ok hc
        refine call_str_int pins s σ H _ us Q I rv ⟨i, rfl, ?_, born_str p ra (strOk_ofString _)⟩
        by_cases h0 : i.natAbs = 0
        · rw [h0]; decide
        · exact Nat.lt_trans ((Nat.log2_lt h0).mpr (show i.natAbs < 2 ^ 65 by omega)) (by decide)
      · cases ed
    | _ => simp [bi1] at ed
  · cases x <;> cases y <;> (simp [bi2] at ed; done)
theorem b_list {m : Bool} : CallR X (.type "list") (rBi X.K X.w N xf m .list) := by
  intro pins s σ H xs us Q I rv q
  obtain ⟨Z, ρ, h, d, E, ra, p, ⟨x, v, rfl, l, ed⟩ | ⟨x, y, v, u, rfl, l, l2, ed⟩⟩ := rBi_inv q
  · cases x with
    | tup xs =>
      obtain ⟨a, vs, rfl, r, q⟩ := RepD.tup_inv l
      cases ed
      exact call_list_of pins s σ H _ us Q I rv ⟨_, _, rfl, .inr r, fun l n => born_lst p ra q l n⟩
    | lst xs =>
      obtain ⟨a, vs, rfl, r, q⟩ := l
      cases ed
      exact call_list_of pins s σ H _ us Q I rv ⟨_, _, rfl, .inl (.of r), fun l n => born_lst p ra q l n⟩
    | _ => simp [bi1] at ed
  · cases x <;> cases y <;> (simp [bi2] at ed; done)
theorem b_tuple : CallR X (.type "tuple") (rBi X.K X.w N xf false .tuple) := by
  intro pins s σ H xs us Q I rv q
  obtain ⟨Z, ρ, h, d, E, ra, p, ⟨x, v, rfl, l, ed⟩ | ⟨x, y, v, u, rfl, l, l2, ed⟩⟩ := rBi_inv q
  · cases x with
    | tup xs =>
      have l' : RepD X.K X.w N H (MM Z ρ h) (.tup xs) v := l
      obtain ⟨a, vs, rfl, r, q⟩ := RepD.tup_inv l'
      cases ed
      exact call_tuple_of pins s σ H _ us Q I rv ⟨_, _, rfl, .inr ⟨r, p _ _ _ (Ext.refl _ _ _ _) ra l'⟩⟩
    | lst xs =>
      obtain ⟨a, vs, rfl, r, q⟩ := l
      cases ed
      exact call_tuple_of pins s σ H _ us Q I rv ⟨_, _, rfl, .inl ⟨.of r, fun l n => p _ _ _ (Ext.alloc n) (ra.alloc n) (tupD upd_same (ra.notM n) (q.keep (Keep.new1 n)))⟩⟩
    | _ => simp [bi1] at ed
  · cases x <;> cases y <;> (simp [bi2] at ed; done)
theorem b_max (hc : X.calm = true) {m : Bool} : CallR X (.builtin "max") (rBi X.K X.w N xf m .max2) := by
  intro pins s σ H xs us Q I rv q
  obtain ⟨Z, ρ, h, d, E, ra, p, ⟨x, v, rfl, l, ed⟩ | ⟨x, y, v, u, rfl, l, l2, ed⟩⟩ := rBi_inv q
  · cases x <;> (simp [bi1] at ed; done)
  · cases x <;> cases y <;> first | (simp [bi2] at ed; done) | skip
    rename_i i j
    obtain rfl : v = V.int i := by simpa only [RepL, RepD] using l
    obtain rfl : u = V.int j := by simpa only [RepL, RepD] using l2
    cases ed
    exact call_max2 hc pins s σ H _ us Q I rv ⟨i, j, rfl, born_int p ra⟩
theorem b_min (hc : X.calm = true) {m : Bool} : CallR X (.builtin "min") (rBi X.K X.w N xf m .min2) := by
  intro pins s σ H xs us Q I rv q
  obtain ⟨Z, ρ, h, d, E, ra, p, ⟨x, v, rfl, l, ed⟩ | ⟨x, y, v, u, rfl, l, l2, ed⟩⟩ := rBi_inv q
  · cases x <;> (simp [bi1] at ed; done)
  · cases x <;> cases y <;> first | (simp [bi2] at ed; done) | skip
    rename_i i j
    obtain rfl : v = V.int i := by simpa only [RepL, RepD] using l
    obtain rfl : u = V.int j := by simpa only [RepL, RepD] using l2
    cases ed
    exact call_min2 hc pins s σ H _ us Q I rv ⟨i, j, rfl, born_int p ra⟩
end
end B

set_option Elab.async false
set_option linter.all false
set_option maxRecDepth 100000
set_option maxHeartbeats 2000000
/-! Items and slices, by values. Own work. -/
namespace B
open PySem PySem.Spec PyProof.Rows L2
section
variable {K : PySem.W.Frag} {w : World} {N : Nm} {H : Hp} {M : Addr → Prop}
theorem ixI_eq (n : Nat) (i : Int) : ixI n i = L2.ixN n i := rfl
theorem clip_eq (n d : Nat) (o : Option Int) : clip n d o = HT.sIx n d o := by cases o <;> rfl
theorem RepDs.at {xs : List D} {vs : List V} {i : Int} {d : D} (q : RepDs K w N H M xs vs) (e : ((ixI xs.length i).bind fun j => xs[j]?) = some d) : ∃ v, atI vs i = some v ∧ RepD K w N H M d v := by
  obtain ⟨j, h1, h2⟩ := Option.bind_eq_some_iff.mp e
  obtain ⟨v, h3, h4⟩ := q.get h2
  exact ⟨v, Option.bind_eq_some_iff.mpr ⟨j, by rw [← q.length]; exact h1, h3⟩, h4⟩
theorem RepDs.cut {xs : List D} {vs : List V} (lo hi : Option Int) (q : RepDs K w N H M xs vs) : RepDs K w N H M (cut xs lo hi) (cutV vs lo hi) := by
  unfold B.cut cutV
  rw [clip_eq, clip_eq, q.length]
  exact (q.drop _).take _
end
section
variable {X : Cx} {N : Nm} {xf : Nat → Str}
/-- d[k] of a tracked dict, by values -/
theorem ix_dict (hu : X.A.units + 200 < cLine) : IxR X (fun x y H Q => ∃ a v, x = .ref a ∧ DGet H a y (some v) ∧ Q v H) := by
  intro value slice pins s σ H x y v u Q I rx ry h hs
  obtain ⟨a, r, rfl, g, q⟩ := h
  obtain rfl : v = Value.ref a := rx
  exact tail_any (dict_typeIs I g) PySem.F.slot_dict_getitem.lookup (d_getItem (by omega) I g ry fun w' s' I' rw' => ⟨r, H, I', rw', q⟩) hs
def rIx (K : PySem.W.Frag) (w : World) (N : Nm) (xf : Nat → Str) : R2 := fun v u H Q => ∃ (Z : Addr → Prop) (ρ : List Addr) (h : A) (x y : W) (E : XK), RepA K w N Z H ρ h ∧ RepW K w N ρ H (MM Z ρ h) x v ∧ RepW K w N ρ H (MM Z ρ h) y u ∧
  PostG K w N xf Z (RW K w N) Q E H ρ h (ofOpt (look h x) fun a => ofOpt (look h y) fun b => ofOpt (getI a b) fun d => .ok (.c d) h)
theorem ix_all (hu : X.A.units + 200 < cLine) : IxR X (rIx X.K X.w N xf) := by
  intro value slice pins s σ H x y v u Q I rx ry q hs
  obtain ⟨Z, ρ, h, a, b, E, ra, la, lb, p⟩ := q
  obtain ⟨a, ea, p1⟩ := PostG.some p
  obtain ⟨b, eb, p2⟩ := PostG.some p1
  obtain ⟨d, ed, p3⟩ := PostG.some p2
  have la := la.look ra ea
  have lb := lb.look ra eb
  have fin : ∀ r, RepD X.K X.w N H (MM Z ρ h) d r → Q r H := fun r q => p3 r H ρ (Ext.refl _ _ _ _) ra q
  cases a with
  | tup xs =>
    cases b <;> first | (simp [getI] at ed; done) | skip
    rename_i i
    obtain ⟨a1, vs, rfl, r1, q1⟩ := RepD.tup_inv la
    obtain rfl : y = V.int i := by simpa only [RepL, RepD] using lb
    obtain ⟨r, h1, h2⟩ := q1.at ed
    exact ix_tup value slice pins s σ H _ _ v u Q I rx ry ⟨a1, vs, i, r, rfl, rfl, r1, h1, fin r h2⟩ hs
  | lst xs =>
    cases b <;> first | (simp [getI] at ed; done) | skip
    rename_i i
    obtain ⟨a1, vs, rfl, r1, q1⟩ := la
    obtain rfl : y = V.int i := by simpa only [RepL, RepD] using lb
    obtain ⟨r, h1, h2⟩ := q1.at ed
    exact ix_list value slice pins s σ H _ _ v u Q I rx ry ⟨a1, vs, i, r, rfl, rfl, .of r1, h1, fin r h2⟩ hs
  | scr xs =>
    cases b <;> first | (simp [getI] at ed; done) | skip
    rename_i i
    have la' : RepD X.K X.w N H (MM Z ρ h) (.scr xs) x := la
    unfold RepD at la'
    obtain ⟨a1, vs, rfl, r1, q1⟩ := la'
    obtain rfl : y = V.int i := by simpa only [RepL, RepD] using lb
    obtain ⟨r, h1, h2⟩ := q1.at ed
    exact ix_list value slice pins s σ H _ _ v u Q I rx ry ⟨a1, vs, i, r, rfl, rfl, r1.elim (fun r => .inl r.1) fun r => .inr r, h1, fin r h2⟩ hs
  | str z =>
    cases b <;> first | (simp [getI] at ed; done) | skip
    rename_i i
    obtain ⟨rfl, k⟩ : x = V.str z ∧ _ := by simpa only [RepL, RepD] using la
    obtain rfl : y = V.int i := by simpa only [RepL, RepD] using lb
    simp only [getI] at ed
    split at ed
    · rename_i hc
      obtain ⟨j, h1, h2⟩ := Option.bind_eq_some_iff.mp ed
      obtain ⟨c, h3, rfl⟩ := Option.map_eq_some_iff.mp h2
      have kc : PyData.strOk ⟨#[c]⟩ = true := by
        unfold PyData.strOk at k ⊢
        have hm : c ∈ z.cps.toList := List.mem_of_getElem? h3
        have := Array.all_eq_true_iff_forall_mem.mp k c (by simpa using hm)
        simpa using this
      exact ix_str value slice pins s σ H _ _ v u Q I rx ry ⟨z, i, c, rfl, rfl, by rw [← sizeMax_eq]; exact of_decide_eq_true hc, Option.bind_eq_some_iff.mpr ⟨j, h1, h3⟩, fin _ (strD kc)⟩ hs
    · cases ed
  | dct t kvs =>
    obtain ⟨r0, er, er2⟩ := Option.bind_eq_some_iff.mp (show (dGet t kvs b).bind id = some d by cases b <;> exact ed)
    obtain rfl : r0 = some d := er2
    unfold dGet at er
    split at er
    · rename_i hk
      have eg : getK kvs b = some d := Option.some.inj er
      obtain ⟨ad, rfl, lc⟩ := la
      rcases lc with ⟨o, ro, tt, ks, rfl, nd, rk⟩ | ⟨rfl, ⟨es, n, kd⟩, rk, rn⟩
      · obtain ⟨k, ek⟩ := keyD_key tt hk
        have ey := lb.key ek
        subst ey
        rcases rk.val ek with ⟨g1, g2⟩ | ⟨d', v', g1, g2, g3⟩
        · rw [g1] at eg; cases eg
        · rw [g1] at eg; cases eg
          exact ix_dict hu value slice pins s σ H _ _ v u Q I rx ry ⟨ad, v', rfl, .inl ⟨ks, k, ro, rfl, g2.symm⟩, fin _ g3⟩ hs
      · cases b <;> first | (cases hk; done) | skip
        rename_i z
        obtain ⟨rfl, _⟩ : y = V.str z ∧ _ := by simpa only [RepL, RepD] using lb
        rcases rk.val (z := z) with ⟨g1, g2⟩ | ⟨d', u', v', g1, g2, g3, g4⟩
        · rw [g1] at eg; cases eg
        · rw [g1] at eg; cases eg
          obtain rfl : v = Value.ref ad := rx
          exact tail_any (kd_type kd I) PySem.F.slot_dict_getitem.lookup (op_item_kd kd pins s σ H (V.ref ad) _ _ u Q I (show L2.RelV (V.ref ad) (Value.ref ad) from rfl) ry ⟨z, u', v', rfl, rfl, g2, g3, fin _ g4⟩) hs
    · cases er
  | _ => cases b <;> (simp [getI] at ed; done)
/-- a slice -/
def rSlD (K : PySem.W.Frag) (w : World) (N : Nm) (xf : Nat → Str) : V → Option Int → Option Int → Hp → VK → Prop := fun v lo hi H Q => ∃ (Z : Addr → Prop) (ρ : List Addr) (h : A) (x : W) (E : XK), RepA K w N Z H ρ h ∧ RepW K w N ρ H (MM Z ρ h) x v ∧
  PostG K w N xf Z (RW K w N) Q E H ρ h (ofOpt (look h x) fun d => ofOpt (cutD lo hi d) fun r => .ok (.c r) h)
theorem sl_all : SlR X (rSlD X.K X.w N xf) := by
  intro pins s σ H x v vl vu lo hi sl Q I rx hs pl pu q
  obtain ⟨Z, ρ, h, a, E, ra, la, p⟩ := q
  obtain ⟨a, ea, p1⟩ := PostG.some p
  obtain ⟨d, ed, p2⟩ := PostG.some p1
  have la := la.look ra ea
  cases a with
  | tup xs =>
    obtain ⟨a1, vs, rfl, r1, q1⟩ := RepD.tup_inv la
    cases ed
    refine sl_tupA pins s σ H _ v vl vu lo hi sl Q I rx hs pl pu ⟨a1, vs, rfl, r1, fun hw => ?_, fun _ P hP => ?_⟩
    · have e : cut xs lo hi = xs := by
        unfold cut
        rw [clip_eq, clip_eq, q1.length, hw.1, hw.2, List.drop_zero, Nat.sub_zero, ← q1.length, List.take_length]
      rw [e] at p2
      exact p2 _ _ _ (Ext.refl _ _ _ _) ra la
    · exact p2 _ _ _ (Ext.alloc hP) (ra.alloc hP) (tupD upd_same (ra.notM hP) ((q1.cut lo hi).keep (Keep.new1 hP)))
  | lst xs =>
    obtain ⟨a1, vs, rfl, r1, q1⟩ := la
    cases ed
    exact sl_list pins s σ H _ v vl vu lo hi sl Q I rx hs pl pu ⟨a1, vs, rfl, .of r1, fun P hP => p2 _ _ _ (Ext.alloc hP) (ra.alloc hP) (lstD upd_same (ra.notM hP) ((q1.cut lo hi).keep (Keep.new1 hP)))⟩
  | str z =>
    obtain ⟨rfl, k⟩ : x = V.str z ∧ _ := by simpa only [RepL, RepD] using la
    simp only [cutD] at ed
    split at ed
    · rename_i hc
      cases ed
      have ez : (⟨(cut z.cps.toList lo hi).toArray⟩ : Str) = cutS z lo hi := by
        unfold cut cutS
        rw [clip_eq, clip_eq, Array.length_toList]
        rfl
      refine sl_str pins s σ H _ v vl vu lo hi sl Q I rx hs pl pu ⟨z, rfl, by rw [← sizeMax_eq]; exact of_decide_eq_true hc, ?_⟩
      rw [← ez]
      refine p2 _ _ _ (Ext.refl _ _ _ _) ra (strD (K := X.K) (w := X.w) (N := N) (H := H) (M := MM Z ρ h) ?_)
      unfold PyData.strOk at k ⊢
      rw [← Array.all_toList, List.all_eq_true] at k ⊢
      intro c hc2
      refine k c ?_
      have : c ∈ cut z.cps.toList lo hi := by simpa using hc2
      unfold cut at this
      exact List.mem_of_mem_drop (List.mem_of_mem_take this)
    · cases ed
  | _ => cases ed
end
end B

set_option Elab.async false
set_option linter.all false
set_option maxRecDepth 100000
set_option maxHeartbeats 2000000
/-! Expressions: each form keeps what the evaluator says, if its parts do. Own work. -/
namespace B
open PySem PySem.Spec PyProof.Rows L2
section
variable (X : Cx) (N : Nm) (xf : Nat → Str) (G : Gx)
def PostOf (Z : Addr → Prop) (σV : L2.St) (Wx : WX) {α β : Type} (R : RR α β) (Q : β → Hp → Prop) (H : Hp) (ρ : List Addr) (h : A) (r : Res α) : Prop := PostG X.K X.w N xf Z R Q (fun cls dd H' => Wx cls dd σV H') H ρ h r
/-- some state of the evaluator stands for σV, H, and what f says of it is promised -/
def tR {α β : Type} (R : RR α β) (Wx : WX) (f : Env → A → Res α) : L2.St → Hp → (β → Hp → Prop) → Prop := fun σV H Q => ∃ (Z : Addr → Prop) (σ : Env) (ρ : List Addr) (h : A), RepA X.K X.w N Z H ρ h ∧ RepE X.K X.w N ρ H (MM Z ρ h) σ σV ∧ PostOf X N xf Z σV Wx R Q H ρ h (f σ h)
abbrev RX : RR W V := RW X.K X.w N
abbrev RXs : RR (List W) (List V) := fun ρ H M x v => RepWs X.K X.w N ρ H M x v
abbrev RB : RR Bool Bool := fun _ _ _ a b => a = b
def tEv (Wx : WX) (e : E) : TE := tR X N xf (RX X N) Wx (ev G e)
def tEvs (Wx : WX) (es : List E) : TA := tR X N xf (RXs X N) Wx (evs G es)
def testOf (e : E) (σ : Env) (h : A) : Res Bool := (ev G e σ h).bind fun w h1 => boolOf w fun b => .ok b h1
def tEvT (Wx : WX) (e : E) : TT := tR X N xf RB Wx (testOf G e)
end
section
variable {X : Cx} {N : Nm} {xf : Nat → Str} {G : Gx} {Wx : WX} {Z : Addr → Prop}
theorem PE.imp {e : Expr} {t t' : TE} (h : PE X e t) (i : ∀ σ H Q, t' σ H Q → t σ H Q) : PE X e t' := ⟨fun pins s σ H Q I q => h.run pins s σ H Q I (i _ _ _ q)⟩
theorem PA.imp {e : List Expr} {t t' : TA} (h : PA X e t) (i : ∀ σ H Q, t' σ H Q → t σ H Q) : PA X e t' := ⟨fun pos pins s σ H Q I q => h.run pos pins s σ H Q I (i _ _ _ q)⟩
theorem PT.imp {e : Expr} {t t' : TT} (h : PT X e t) (i : ∀ σ H Q, t' σ H Q → t σ H Q) : PT X e t' := ⟨fun pins s σ H Q I q => h.run pins s σ H Q I (i _ _ _ q)⟩
theorem PW.imp {e : Expr} {t t' : TT} (h : PW X e t) (i : ∀ σ H Q, t' σ H Q → t σ H Q) : PW X e t' := ⟨fun wh pins s σ H Q I q => h.run wh pins s σ H Q I (i _ _ _ q)⟩
/-- the first part is evaluated; what follows is promised of the state behind it -/
theorem tR_at {α β γ δ : Type} {R : RR α β} {S : RR γ δ} {f : Env → A → Res α} {g : α → A → Res γ} {σV : L2.St} {H : Hp} {Q : δ → Hp → Prop} {Q1 : β → Hp → Prop} {σ : Env} {ρ : List Addr} {h : A}
    (r : RepA X.K X.w N Z H ρ h) (re : RepE X.K X.w N ρ H (MM Z ρ h) σ σV) (p : PostOf X N xf Z σV Wx S Q H ρ h ((f σ h).bind g))
    (k : ∀ (a : α) (b : β) (H1 : Hp) (ρ1 : List Addr) (h1 : A), f σ h = .ok a h1 → Ext Z H ρ h H1 ρ1 h1 → RepA X.K X.w N Z H1 ρ1 h1 → RepE X.K X.w N ρ1 H1 (MM Z ρ1 h1) σ σV → R ρ1 H1 (MM Z ρ1 h1) a b → PostOf X N xf Z σV Wx S Q H1 ρ1 h1 (g a h1) → Q1 b H1) :
    tR X N xf R Wx f σV H Q1 := by
  refine ⟨Z, σ, ρ, h, r, re, ?_⟩
  refine PostG.mono (PostG.split (R := R) p) fun b H1 q => ?_
  obtain ⟨a, h1, ρ1, e, x, r1, ra1, p1⟩ := q
  exact k a b H1 ρ1 h1 e x r1 (re.keep x.keep x.pre) ra1 p1
/-- the end of a chain: the answer is there -/
theorem tR_ok {α β : Type} {R : RR α β} {σV : L2.St} {H : Hp} {Q : β → Hp → Prop} {ρ : List Addr} {h : A} {a : α} {b : β} (p : PostOf X N xf Z σV Wx R Q H ρ h (.ok a h)) (r : RepA X.K X.w N Z H ρ h) (q : R ρ H (MM Z ρ h) a b) : Q b H :=
  p b H ρ (Ext.refl _ _ _ _) r q
theorem tR_of {α β : Type} {R : RR α β} {f : Env → A → Res α} {σV : L2.St} {H : Hp} {Q : β → Hp → Prop} {σ : Env} {ρ : List Addr} {h : A} (r : RepA X.K X.w N Z H ρ h) (re : RepE X.K X.w N ρ H (MM Z ρ h) σ σV) (p : PostOf X N xf Z σV Wx R Q H ρ h (f σ h)) : tR X N xf R Wx f σV H Q := ⟨Z, σ, ρ, h, r, re, p⟩
theorem tR_eq {α β : Type} {R : RR α β} {f g : Env → A → Res α} {σV : L2.St} {H : Hp} {Q : β → Hp → Prop} (e : ∀ σ h, f σ h = g σ h) (p : tR X N xf R Wx f σV H Q) : tR X N xf R Wx g σV H Q := by
  obtain ⟨Z, σ, ρ, h, r, re, p⟩ := p
  rw [e] at p
  exact ⟨Z, σ, ρ, h, r, re, p⟩

/-! ### names, constants -/
theorem s_var {i : Nat} {x : Str} {pos : Pos} (hN : X.N[i]? = some x) (hv : Vis X.env.scope x) (hd : (x == ("__debug__" : Str)) = false) (hcd : (x == ("__classdict__" : Str)) = false) : PE X (.Name x pos) (tEv X N xf G Wx (.var i)) := by
  refine PE.imp (pe_var hN hv hd hcd) fun σV H Q p => ?_
  obtain ⟨Z, σ, ρ, h, r, re, p⟩ := p
  obtain ⟨w, e, p1⟩ := PostG.some (show PostG X.K X.w N xf Z (RX X N) Q _ H ρ h (ofOpt ((σ[i]?).bind id) fun w => .ok w h) from p)
  obtain ⟨o, e1, e2⟩ := Option.bind_eq_some_iff.mp e
  obtain rfl : o = some w := e2
  obtain ⟨v, h1, h2⟩ := re.get i w e1
  exact ⟨v, h1, tR_ok p1 r h2⟩
theorem s_non {j pos} : PE X (.Constant .none j pos) (tEv X N xf G Wx (.k .non)) :=
  PE.imp pe_non fun σV H Q ⟨Z, σ, ρ, h, r, re, p⟩ => tR_ok p r (show RepD X.K X.w N H (MM Z ρ h) .non .non from nonD)
theorem s_bl {b j pos} : PE X (.Constant (.bool b) j pos) (tEv X N xf G Wx (.k (.bl b))) :=
  PE.imp pe_bl fun σV H Q ⟨Z, σ, ρ, h, r, re, p⟩ => tR_ok p r (show RepD X.K X.w N H (MM Z ρ h) (.bl b) (.bl b) from blD b)
theorem s_int {i j pos} : PE X (.Constant (.int i) j pos) (tEv X N xf G Wx (.k (.int i))) :=
  PE.imp pe_int fun σV H Q ⟨Z, σ, ρ, h, r, re, p⟩ => tR_ok p r (show RepD X.K X.w N H (MM Z ρ h) (.int i) (.int i) from intD i)
theorem s_str {z j pos} (k : PyData.strOk z = true) : PE X (.Constant (.str z) j pos) (tEv X N xf G Wx (.k (.str z))) :=
  PE.imp pe_str fun σV H Q ⟨Z, σ, ρ, h, r, re, p⟩ => tR_ok p r (show RepD X.K X.w N H (MM Z ρ h) (.str z) (.str z) from strD k)
/-! ### operators -/
theorem cmpW_op {o : Op} (h1 : o ≠ .eq) (h2 : o ≠ .ne) (x y : W) (h : A) : cmpW G o x y h = opW o x y h := by
  cases o <;> first | rfl | exact absurd rfl h1 | exact absurd rfl h2
/-- == and != too where own classes tell it -/
def rCmp (X : Cx) (N : Nm) (xf : Nat → Str) (G : Gx) (o : Op) : R2 := fun v u H Q => ∃ (Z : Addr → Prop) (ρ : List Addr) (h : A) (x y : W) (E : XK), RepA X.K X.w N Z H ρ h ∧ RepW X.K X.w N ρ H (MM Z ρ h) x v ∧ RepW X.K X.w N ρ H (MM Z ρ h) y u ∧ PostG X.K X.w N xf Z (RX X N) Q E H ρ h (cmpW G o x y h)
theorem rCmp_op {o : Op} (h1 : o ≠ .eq) (h2 : o ≠ .ne) {f : Value → Value → Sem Value} (ho : OpR X f (ROp X N xf o)) : OpR X f (rCmp X N xf G o) :=
  OpR.imp ho fun x y H Q ⟨Z, ρ, h, a, b, E, r, q1, q2, p⟩ => ⟨Z, ρ, h, a, b, E, r, q1, q2, by rw [cmpW_op h1 h2] at p; exact p⟩
theorem s_two {a0 b0 : Expr} {a b : E} {o : Op} {f : Value → Value → Sem Value} {e0 : Expr} (hp : ∀ ta tb, PE X a0 ta → PE X b0 tb → PE X e0 (tOp (rCmp X N xf G o) ta tb)) (ha : PE X a0 (tEv X N xf G Wx a)) (hb : PE X b0 (tEv X N xf G Wx b)) : PE X e0 (tEv X N xf G Wx (.op o a b)) := by
  refine PE.imp (hp _ _ ha hb) fun σV H Q p => ?_
  obtain ⟨Z, σ, ρ, h, r, re, p⟩ := p
  refine tR_at r re (f := ev G a) (g := fun x h1 => (ev G b σ h1).bind fun y h2 => cmpW G o x y h2) p fun x v H1 ρ1 h1 e x1 r1 re1 rx p1 => ?_
  refine tR_at r1 re1 (f := ev G b) (g := fun y h2 => cmpW G o x y h2) p1 fun y u H2 ρ2 h2 e2 x2 r2 re2 ry p2 => ?_
  exact ⟨Z, ρ2, h2, x, y, _, r2, rx.keep x2.keep x2.pre, ry, p2⟩
theorem s_bin {a0 b0 : Expr} {a b : E} {kop : Operator} {o : Op} {pos : Pos} (ho : OpR X (binaryOp kop) (ROp X N xf o)) (h1 : o ≠ .eq) (h2 : o ≠ .ne) (ha : PE X a0 (tEv X N xf G Wx a)) (hb : PE X b0 (tEv X N xf G Wx b)) : PE X (.BinOp a0 kop b0 pos) (tEv X N xf G Wx (.op o a b)) :=
  s_two (f := binaryOp kop) (fun _ _ h h' => pe_op (rCmp_op h1 h2 ho) h h') ha hb
theorem s_cmp {a0 b0 : Expr} {a b : E} {kop : CmpOp} {o : Op} {pos : Pos} (ho : OpR X (compareOp kop) (rCmp X N xf G o)) (hm : behindInMarks kop b0 = false) (ha : PE X a0 (tEv X N xf G Wx a)) (hb : PE X b0 (tEv X N xf G Wx b)) : PE X (.Compare a0 [kop] [b0] pos) (tEv X N xf G Wx (.op o a b)) :=
  s_two (f := compareOp kop) (fun _ _ h h' => pe_cmpR ho h h' hm) ha hb
/-- a test by a value that is True or False -/
theorem boolOf_some {α β : Type} {R : RR α β} {Q : β → Hp → Prop} {E : XK} {H : Hp} {ρ : List Addr} {h : A} {w : W} {f : Bool → Res α} (p : PostG X.K X.w N xf Z R Q E H ρ h (boolOf w f)) : ∃ b, w = .c (.bl b) ∧ PostG X.K X.w N xf Z R Q E H ρ h (f b) := by
  cases w with
  | l n => exact p.elim
  | c d => cases d <;> first | exact p.elim | exact ⟨_, rfl, p⟩
theorem s_testV {e0 : Expr} {e : E} {t : TE → TT} (ht : ∀ te, PE X e0 te → PT X e0 (fun σ H Q => te σ H fun x H' => ∃ k, x = .bl k ∧ Q k H')) (he : PE X e0 (tEv X N xf G Wx e)) : PT X e0 (tEvT X N xf G Wx e) := by
  refine PT.imp (ht _ he) fun σV H Q p => ?_
  obtain ⟨Z, σ, ρ, h, r, re, p⟩ := p
  refine tR_at r re (f := ev G e) (g := fun w h1 => boolOf w fun b => .ok b h1) p fun x v H1 ρ1 h1 e x1 r1 re1 rx p1 => ?_
  obtain ⟨b, rfl, p2⟩ := boolOf_some p1
  have rx' : RepD X.K X.w N H1 (MM Z ρ1 h1) (.bl b) v := rx
  obtain rfl : v = .bl b := by simpa only [RepD] using rx'
  exact ⟨b, rfl, tR_ok p2 r1 rfl⟩
theorem s_pt {e0 : Expr} {e : E} (hi : ∀ whole, isTrue e0 X.env whole = (do let v ← whole; standAt e0.pos; holding [v] (truthy v))) (he : PE X e0 (tEv X N xf G Wx e)) : PT X e0 (tEvT X N xf G Wx e) :=
  s_testV (t := fun t => tB t) (fun te h => pt_val h hi) he
theorem s_ptCmp {a0 b0 : Expr} {a b : E} {kop : CmpOp} {o : Op} {pos : Pos} (ho : OpR X (compareOp kop) (rCmp X N xf G o)) (hm : behindInMarks kop b0 = false) (ha : PE X a0 (tEv X N xf G Wx a)) (hb : PE X b0 (tEv X N xf G Wx b)) : PT X (.Compare a0 [kop] [b0] pos) (tEvT X N xf G Wx (.op o a b)) := by
  refine PT.imp (pt_cmpR ho ha hb hm) fun σV H Q p => ?_
  obtain ⟨Z, σ, ρ, h, r, re, p⟩ := p
  have p' : PostOf X N xf Z σV Wx RB Q H ρ h ((ev G a σ h).bind fun x h1 => ((ev G b σ h1).bind fun y h2 => (cmpW G o x y h2).bind fun w h3 => boolOf w fun b => .ok b h3)) := by
    have e : testOf G (.op o a b) σ h = ((ev G a σ h).bind fun x h1 => ((ev G b σ h1).bind fun y h2 => (cmpW G o x y h2).bind fun w h3 => boolOf w fun b => .ok b h3)) := by
      show ((ev G a σ h).bind fun x h1 => (ev G b σ h1).bind fun y h2 => cmpW G o x y h2).bind _ = _
      cases ev G a σ h with
      | ok x h1 =>
        show ((ev G b σ h1).bind fun y h2 => cmpW G o x y h2).bind _ = (ev G b σ h1).bind _
        cases ev G b σ h1 <;> rfl
      | err _ _ _ => rfl
      | stuck => rfl
    rw [e] at p
    exact p
  refine tR_at r re (f := ev G a) p' fun x v H1 ρ1 h1 e x1 r1 re1 rx p1 => ?_
  refine tR_at r1 re1 (f := ev G b) (g := fun y h2 => (cmpW G o x y h2).bind fun w h3 => boolOf w fun b => .ok b h3) p1 fun y u H2 ρ2 h2 e2 x2 r2 re2 ry p2 => ?_
  refine ⟨Z, ρ2, h2, x, y, _, r2, rx.keep x2.keep x2.pre, ry, PostG.mono (PostG.split (R := RX X N) p2) fun c H3 q => ?_⟩
  obtain ⟨w, h3, ρ3, e3, x3, r3, rw3, p3⟩ := q
  obtain ⟨k, rfl, p4⟩ := boolOf_some p3
  have rw' : RepD X.K X.w N H3 (MM Z ρ3 h3) (.bl k) c := rw3
  obtain rfl : c = .bl k := by simpa only [RepD] using rw'
  exact ⟨k, rfl, tR_ok p4 r3 rfl⟩
end
end B

set_option Elab.async false
set_option linter.all false
set_option maxRecDepth 100000
set_option maxHeartbeats 2000000
/-! Expressions, further. Own work. -/
namespace B
open PySem PySem.Spec PyProof.Rows L2
theorem bind_assoc {α β γ : Type} (r : Res α) (f : α → A → Res β) (g : β → A → Res γ) : (r.bind f).bind g = r.bind fun a h => (f a h).bind g := by cases r <;> rfl
theorem bind_ok {α : Type} (r : Res α) : (r.bind fun a h => .ok a h) = r := by cases r <;> rfl
section
variable {X : Cx} {N : Nm} {xf : Nat → Str} {G : Gx} {Wx : WX} {Z : Addr → Prop}
/-! ### chains, and, or, not -/
theorem blV {H : Hp} {M : Addr → Prop} {ρ : List Addr} {b : Bool} {v : V} (q : RepW X.K X.w N ρ H M (.c (.bl b)) v) : v = .bl b := by
  have q' : RepD X.K X.w N H M (.bl b) v := q
  simpa only [RepD] using q'
theorem tR_ok_bl {σV : L2.St} {H : Hp} {Q : V → Hp → Prop} {ρ : List Addr} {h : A} {b : Bool} (p : PostOf X N xf Z σV Wx (RX X N) Q H ρ h (.ok (.c (.bl b)) h)) (r : RepA X.K X.w N Z H ρ h) : Q (.bl b) H :=
  tR_ok p r (show RepD X.K X.w N H (MM Z ρ h) (.bl b) (.bl b) from blD b)
theorem s_chain {a0 b0 c0 : Expr} {a b c : E} {k1 k2 : CmpOp} {o p : Op} {pos : Pos} (h1 : OpR X (compareOp k1) (ROp X N xf o)) (h2 : OpR X (compareOp k2) (ROp X N xf p)) (hm : lastMarks [k1, k2] [b0, c0] = false)
    (ha : PE X a0 (tEv X N xf G Wx a)) (hb : PE X b0 (tEv X N xf G Wx b)) (hc : PE X c0 (tEv X N xf G Wx c)) : PE X (.Compare a0 [k1, k2] [b0, c0] pos) (tEv X N xf G Wx (.ch o p a b c)) := by
  refine PE.imp (pe_chain h1 h2 ha hb hc hm) fun σV H Q q => ?_
  obtain ⟨Z, σ, ρ, h, r, re, q⟩ := q
  refine tR_at r re (f := ev G a) (g := fun x h1 => (ev G b σ h1).bind fun y h2 => (opW o x y h2).bind fun r h3 => boolOf r fun t => match t with
    | true => (ev G c σ h3).bind fun z h4 => opW p y z h4
    | false => .ok (.c (.bl false)) h3) q fun x v H1 ρ1 h1 e x1 r1 re1 rx p1 => ?_
  refine tR_at r1 re1 (f := ev G b) (g := fun y h2 => (opW o x y h2).bind fun r h3 => boolOf r fun t => match t with
    | true => (ev G c σ h3).bind fun z h4 => opW p y z h4
    | false => .ok (.c (.bl false)) h3) p1 fun y u H2 ρ2 h2 e2 x2 r2 re2 ry p2 => ?_
  refine ⟨Z, ρ2, h2, x, y, _, r2, rx.keep x2.keep x2.pre, ry, PostG.mono (PostG.split (R := RX X N) p2) fun d H3 q => ?_⟩
  obtain ⟨w, h3, ρ3, e3, x3, r3, rw3, p3⟩ := q
  obtain ⟨k, rfl, p4⟩ := boolOf_some p3
  obtain rfl := blV rw3
  refine ⟨k, rfl, ?_⟩
  cases k with
  | false =>
    rw [if_neg Bool.false_ne_true]
    exact tR_ok_bl p4 r3
  | true =>
    rw [if_pos rfl]
    refine tR_at r3 (re2.keep x3.keep x3.pre) (f := ev G c) (g := fun z h4 => opW p y z h4) p4 fun z u2 H4 ρ4 h4 e4 x4 r4 re4 rz p5 => ?_
    exact ⟨Z, ρ4, h4, y, z, _, r4, (ry.keep x3.keep x3.pre).keep x4.keep x4.pre, rz, p5⟩
/-- and, or, as values -/
theorem s_bo1 {k : Bool} {a0 : Expr} {a : E} {kop : BoolOp} {pos : Pos} (ha : PE X a0 (tEv X N xf G Wx a)) : PE X (.BoolOp kop [a0] pos) (tEv X N xf G Wx (.bo k [a])) :=
  PE.imp (pe_one ha) fun σV H Q p => p
theorem s_and {a0 b0 : Expr} {a b : E} {rs0 : List Expr} {rs : List E} {pos : Pos} (ha : PE X a0 (tEv X N xf G Wx a)) (hb : PE X (.BoolOp .And (b0 :: rs0) pos) (tEv X N xf G Wx (.bo true (b :: rs)))) : PE X (.BoolOp .And (a0 :: b0 :: rs0) pos) (tEv X N xf G Wx (.bo true (a :: b :: rs))) := by
  refine PE.imp (pe_and ha hb) fun σV H Q p => ?_
  obtain ⟨Z, σ, ρ, h, r, re, p⟩ := p
  refine tR_at r re (f := ev G a) (g := fun x h1 => boolOf x fun t => match t == true with
    | true => evb G true (b :: rs) σ h1
    | false => .ok (W.c (.bl t)) h1) p fun x v H1 ρ1 h1 e x1 r1 re1 rx p1 => ?_
  obtain ⟨t, rfl, p2⟩ := boolOf_some p1
  obtain rfl := blV rx
  refine ⟨t, rfl, ?_⟩
  cases t with
  | true => rw [if_pos rfl]; exact tR_of (f := ev G (.bo true (b :: rs))) r1 re1 p2
  | false => rw [if_neg Bool.false_ne_true]; exact tR_ok_bl p2 r1
theorem s_or {a0 b0 : Expr} {a b : E} {rs0 : List Expr} {rs : List E} {pos : Pos} (ha : PE X a0 (tEv X N xf G Wx a)) (hb : PE X (.BoolOp .Or (b0 :: rs0) pos) (tEv X N xf G Wx (.bo false (b :: rs)))) : PE X (.BoolOp .Or (a0 :: b0 :: rs0) pos) (tEv X N xf G Wx (.bo false (a :: b :: rs))) := by
  refine PE.imp (pe_or ha hb) fun σV H Q p => ?_
  obtain ⟨Z, σ, ρ, h, r, re, p⟩ := p
  refine tR_at r re (f := ev G a) (g := fun x h1 => boolOf x fun t => match t == false with
    | true => evb G false (b :: rs) σ h1
    | false => .ok (W.c (.bl t)) h1) p fun x v H1 ρ1 h1 e x1 r1 re1 rx p1 => ?_
  obtain ⟨t, rfl, p2⟩ := boolOf_some p1
  obtain rfl := blV rx
  refine ⟨t, rfl, ?_⟩
  cases t with
  | true => rw [if_pos rfl]; exact tR_ok_bl p2 r1
  | false => rw [if_neg Bool.false_ne_true]; exact tR_of (f := ev G (.bo false (b :: rs))) r1 re1 p2
theorem s_not {a0 : Expr} {a : E} {pos : Pos} (ha : PE X a0 (tEv X N xf G Wx a)) : PE X (.UnaryOp .Not a0 pos) (tEv X N xf G Wx (.not_ a)) := by
  refine PE.imp (pe_not ha) fun σV H Q p => ?_
  obtain ⟨Z, σ, ρ, h, r, re, p⟩ := p
  refine tR_at r re (f := ev G a) (g := fun x h1 => boolOf x fun b => .ok (W.c (.bl (!b))) h1) p fun x v H1 ρ1 h1 e x1 r1 re1 rx p1 => ?_
  obtain ⟨t, rfl, p2⟩ := boolOf_some p1
  obtain rfl := blV rx
  exact ⟨t, rfl, tR_ok_bl p2 r1⟩
theorem s_neg {a0 : Expr} {a : E} {pos : Pos} (ha : PE X a0 (tEv X N xf G Wx a)) : PE X (.UnaryOp .USub a0 pos) (tEv X N xf G Wx (.neg a)) := by
  refine PE.imp (pe_un un_neg ha) fun σV H Q p => ?_
  obtain ⟨Z, σ, ρ, h, r, re, p⟩ := p
  refine tR_at r re (f := ev G a) (g := fun x h1 => match x with
    | .c (.int i) => .ok (W.c (.int (-i))) h1
    | _ => .stuck) p fun x v H1 ρ1 h1 e x1 r1 re1 rx p1 => ?_
  cases x with
  | l n => exact p1.elim
  | c d =>
    cases d with
    | int i =>
      have q' : RepD X.K X.w N H1 (MM Z ρ1 h1) (.int i) v := rx
      obtain rfl : v = V.int i := by simpa only [RepD] using q'
      exact ⟨i, rfl, tR_ok p1 r1 (show RepD X.K X.w N H1 (MM Z ρ1 h1) (.int (-i)) (.int (-i)) from intD _)⟩
    | _ => exact p1.elim
/-! ### tests -/
theorem test_bool {Q : Bool → Hp → Prop} {H : Hp} {ρ : List Addr} {h : A} {σV : L2.St} {b : Bool} (p : PostOf X N xf Z σV Wx RB Q H ρ h (boolOf (.c (.bl b)) fun b => .ok b h)) (r : RepA X.K X.w N Z H ρ h) : Q b H :=
  tR_ok (R := RB) (a := b) p r rfl
theorem s_ptNot {a0 : Expr} {a : E} {pos : Pos} (ha : PT X a0 (tEvT X N xf G Wx a)) : PT X (.UnaryOp .Not a0 pos) (tEvT X N xf G Wx (.not_ a)) := by
  refine PT.imp (pt_not ha) fun σV H Q p => ?_
  obtain ⟨Z, σ, ρ, h, r, re, p⟩ := p
  refine ⟨Z, σ, ρ, h, r, re, ?_⟩
  have e : testOf G (.not_ a) σ h = (testOf G a σ h).bind fun b h1 => .ok (!b) h1 := by
    show ((ev G a σ h).bind fun x h1 => boolOf x fun b => .ok (W.c (.bl (!b))) h1).bind _ = ((ev G a σ h).bind _).bind _
    cases ev G a σ h with
    | ok x h1 => cases x with
      | l n => rfl
      | c d => cases d <;> rfl
    | err _ _ _ => rfl
    | stuck => rfl
  rw [e] at p
  refine PostG.mono (PostG.split (R := RB) p) fun b H1 ⟨a', h1, ρ1, e1, x1, r1, ra1, p1⟩ => ?_
  subst ra1
  exact tR_ok (R := RB) p1 r1 rfl
/-- and, or as tests, from the right -/
def testB (G : Gx) (k : Bool) (es : List E) (σ : Env) (h : A) : Res Bool := (evb G k es σ h).bind fun w h1 => boolOf w fun b => .ok b h1
def tEvB (X : Cx) (N : Nm) (xf : Nat → Str) (G : Gx) (Wx : WX) (k : Bool) (es : List E) : TT := tR X N xf RB Wx (testB G k es)
theorem testB_cons {k : Bool} {a b : E} {rs : List E} {σ : Env} {h : A} : testB G k (a :: b :: rs) σ h = (testOf G a σ h).bind fun t h1 => match t == k with
    | true => testB G k (b :: rs) σ h1
    | false => .ok t h1 := by
  show ((ev G a σ h).bind fun x h1 => boolOf x fun t => match t == k with
    | true => evb G k (b :: rs) σ h1
    | false => .ok (W.c (.bl t)) h1).bind _ = ((ev G a σ h).bind _).bind _
  cases ev G a σ h with
  | ok x h1 => cases x with
    | l n => rfl
    | c d => cases d with
      | bl t =>
        show (match t == k with
          | true => evb G k (b :: rs) σ h1
          | false => .ok (W.c (.bl t)) h1).bind _ = (match t == k with
          | true => testB G k (b :: rs) σ h1
          | false => .ok t h1)
        cases t == k <;> rfl
      | _ => rfl
  | err _ _ _ => rfl
  | stuck => rfl
theorem testB_one {k : Bool} {a : E} {σ : Env} {h : A} : testB G k [a] σ h = testOf G a σ h := rfl
theorem s_pwAnd1 {a0 : Expr} {a : E} {pos : Pos} (ha : PT X a0 (tEvT X N xf G Wx a)) : PW X (.BoolOp .And [a0] pos) (tEvB X N xf G Wx true [a]) := PW.imp (pw_and1 ha) fun σV H Q p => p
theorem s_pwOr1 {a0 : Expr} {a : E} {pos : Pos} (ha : PT X a0 (tEvT X N xf G Wx a)) : PW X (.BoolOp .Or [a0] pos) (tEvB X N xf G Wx false [a]) := PW.imp (pw_or1 ha) fun σV H Q p => p
theorem s_pwAnd {a0 b0 : Expr} {a b : E} {rs0 : List Expr} {rs : List E} {pos : Pos} (ha : PT X a0 (tEvT X N xf G Wx a)) (hb : PW X (.BoolOp .And (b0 :: rs0) pos) (tEvB X N xf G Wx true (b :: rs))) : PW X (.BoolOp .And (a0 :: b0 :: rs0) pos) (tEvB X N xf G Wx true (a :: b :: rs)) := by
  refine PW.imp (pw_and ha hb) fun σV H Q p => ?_
  obtain ⟨Z, σ, ρ, h, r, re, p⟩ := p
  rw [testB_cons] at p
  refine tR_at r re (f := testOf G a) (R := RB) p fun t t' H1 ρ1 h1 e x1 r1 re1 rx p1 => ?_
  subst rx
  cases t with
  | true => rw [if_pos rfl]; exact tR_of (f := testB G true (b :: rs)) r1 re1 p1
  | false => rw [if_neg Bool.false_ne_true]; exact tR_ok (R := RB) p1 r1 rfl
theorem s_pwOr {a0 b0 : Expr} {a b : E} {rs0 : List Expr} {rs : List E} {pos : Pos} (ha : PT X a0 (tEvT X N xf G Wx a)) (hb : PW X (.BoolOp .Or (b0 :: rs0) pos) (tEvB X N xf G Wx false (b :: rs))) : PW X (.BoolOp .Or (a0 :: b0 :: rs0) pos) (tEvB X N xf G Wx false (a :: b :: rs)) := by
  refine PW.imp (pw_or ha hb) fun σV H Q p => ?_
  obtain ⟨Z, σ, ρ, h, r, re, p⟩ := p
  rw [testB_cons] at p
  refine tR_at r re (f := testOf G a) (R := RB) p fun t t' H1 ρ1 h1 e x1 r1 re1 rx p1 => ?_
  subst rx
  cases t with
  | false => rw [if_neg Bool.false_ne_true]; exact tR_of (f := testB G false (b :: rs)) r1 re1 p1
  | true => rw [if_pos rfl]; exact tR_ok (R := RB) p1 r1 rfl
theorem s_ptBo {a0 : Expr} {k : Bool} {es : List E} (h : PW X a0 (tEvB X N xf G Wx k es)) : PT X a0 (tEvT X N xf G Wx (.bo k es)) := PT.imp h.pt fun σV H Q p => p
theorem s_ptChain {a0 b0 c0 : Expr} {a b c : E} {k1 k2 : CmpOp} {o p : Op} {pos : Pos} (h1 : OpR X (compareOp k1) (ROp X N xf o)) (h2 : OpR X (compareOp k2) (ROp X N xf p)) (hm : lastMarks [k1, k2] [b0, c0] = false)
    (ha : PE X a0 (tEv X N xf G Wx a)) (hb : PE X b0 (tEv X N xf G Wx b)) (hc : PE X c0 (tEv X N xf G Wx c)) : PT X (.Compare a0 [k1, k2] [b0, c0] pos) (tEvT X N xf G Wx (.ch o p a b c)) := by
  refine PT.imp (pt_chain h1 h2 ha hb hc hm) fun σV H Q q => ?_
  obtain ⟨Z, σ, ρ, h, r, re, q⟩ := q
  have q' : PostOf X N xf Z σV Wx RB Q H ρ h ((ev G a σ h).bind fun x h1 => ((ev G b σ h1).bind fun y h2 => (opW o x y h2).bind fun r h3 => (boolOf r fun t => match t with
    | true => (ev G c σ h3).bind fun z h4 => opW p y z h4
    | false => .ok (W.c (.bl false)) h3).bind fun w h5 => boolOf w fun b => .ok b h5)) := by
    have e : testOf G (.ch o p a b c) σ h = ((ev G a σ h).bind fun x h1 => ((ev G b σ h1).bind fun y h2 => (opW o x y h2).bind fun r h3 => (boolOf r fun t => match t with
        | true => (ev G c σ h3).bind fun z h4 => opW p y z h4
        | false => .ok (W.c (.bl false)) h3).bind fun w h5 => boolOf w fun b => .ok b h5)) := by
      show ((ev G a σ h).bind fun x h1 => (ev G b σ h1).bind fun y h2 => (opW o x y h2).bind fun r h3 => boolOf r fun t => match t with
        | true => (ev G c σ h3).bind fun z h4 => opW p y z h4
        | false => .ok (W.c (.bl false)) h3).bind _ = _
      rw [bind_assoc]
      refine congrArg _ (funext fun x => funext fun g1 => ?_)
      rw [bind_assoc]
      refine congrArg _ (funext fun y => funext fun g2 => ?_)
      rw [bind_assoc]
    rw [e] at q
    exact q
  refine tR_at r re (f := ev G a) q' fun x v H1 ρ1 g1 e x1 r1 re1 rx p1 => ?_
  refine tR_at r1 re1 (f := ev G b) p1 fun y u H2 ρ2 g2 e2 x2 r2 re2 ry p2 => ?_
  refine ⟨Z, ρ2, g2, x, y, _, r2, rx.keep x2.keep x2.pre, ry, PostG.mono (PostG.split (R := RX X N) p2) fun d H3 q => ?_⟩
  obtain ⟨w, g3, ρ3, e3, x3, r3, rw3, p3⟩ := q
  cases w with
  | l n => exact p3.elim
  | c dd =>
    cases dd with
    | bl k =>
      obtain rfl := blV rw3
      refine ⟨k, rfl, ?_⟩
      cases k with
      | false =>
        rw [if_neg Bool.false_ne_true]
        exact ⟨false, rfl, tR_ok (R := RB) p3 r3 rfl⟩
      | true =>
        rw [if_pos rfl]
        have p3' : PostOf X N xf Z σV Wx RB Q H3 ρ3 g3 ((ev G c σ g3).bind fun z h4 => (opW p y z h4).bind fun w h5 => boolOf w fun b => .ok b h5) := by
          have e : ((ev G c σ g3).bind fun z h4 => opW p y z h4).bind (fun w h5 => boolOf w fun b => .ok b h5) = (ev G c σ g3).bind fun z h4 => (opW p y z h4).bind fun w h5 => boolOf w fun b => .ok b h5 := bind_assoc _ _ _
          rw [← e]
          exact p3
        refine tR_at r3 (re2.keep x3.keep x3.pre) (f := ev G c) p3' fun z u2 H4 ρ4 g4 e4 x4 r4 re4 rz p5 => ?_
        refine ⟨Z, ρ4, g4, y, z, _, r4, (ry.keep x3.keep x3.pre).keep x4.keep x4.pre, rz, PostG.mono (PostG.split (R := RX X N) p5) fun c' H5 q => ?_⟩
        obtain ⟨w, g5, ρ5, e5, x5, r5, rw5, p6⟩ := q
        obtain ⟨k, rfl, p7⟩ := boolOf_some p6
        obtain rfl := blV rw5
        exact ⟨k, rfl, tR_ok (R := RB) p7 r5 rfl⟩
    | _ => exact p3.elim
/-- a if c else b -/
theorem s_ife {c0 a0 b0 : Expr} {c a b : E} {pos : Pos} (hc : PT X c0 (tEvT X N xf G Wx c)) (ha : PE X a0 (tEv X N xf G Wx a)) (hb : PE X b0 (tEv X N xf G Wx b)) : PE X (.IfExp c0 a0 b0 pos) (tEv X N xf G Wx (.ife c a b)) := by
  refine PE.imp (pe_ifExp hc ha hb) fun σV H Q p => ?_
  obtain ⟨Z, σ, ρ, h, r, re, p⟩ := p
  have p' : PostOf X N xf Z σV Wx (RX X N) Q H ρ h ((testOf G c σ h).bind fun t h1 => match t with
    | true => ev G a σ h1
    | false => ev G b σ h1) := by
    have e : ev G (.ife c a b) σ h = (testOf G c σ h).bind fun t h1 => match t with
        | true => ev G a σ h1
        | false => ev G b σ h1 := by
      show ((ev G c σ h).bind fun x h1 => boolOf x fun t => match t with
        | true => ev G a σ h1
        | false => ev G b σ h1) = ((ev G c σ h).bind _).bind _
      rw [bind_assoc]
      refine congrArg _ (funext fun x => funext fun g1 => ?_)
      cases x with
      | l n => rfl
      | c d => cases d <;> rfl
    rw [e] at p
    exact p
  refine tR_at r re (f := testOf G c) (R := RB) p' fun t t' H1 ρ1 h1 e x1 r1 re1 rx p1 => ?_
  subst rx
  cases t with
  | true => rw [if_pos rfl]; exact tR_of (f := ev G a) r1 re1 p1
  | false => rw [if_neg Bool.false_ne_true]; exact tR_of (f := ev G b) r1 re1 p1
end
end B

set_option Elab.async false
set_option linter.all false
set_option maxRecDepth 100000
set_option maxHeartbeats 2000000
/-! Freezing; argument lists; displays. Own work. -/
namespace B
open PySem PySem.Spec PyProof.Rows L2
theorem kill_get : ∀ (L : List Nat) (h : A) (i : Nat) (o : O), (kill h L)[i]? = some o → (o = .dead ∧ i ∈ L) ∨ (h[i]? = some o ∧ i ∉ L) ∨ o = .dead
  | [], h, i, o, e => .inr (.inl ⟨e, by simp⟩)
  | n :: r, h, i, o, e => by
    rcases kill_get r (h.set n .dead) i o e with ⟨h1, h2⟩ | ⟨h1, h2⟩ | h1
    · exact .inr (.inr h1)
    · rw [List.getElem?_set] at h1
      by_cases hn : n = i
      · subst hn
        rw [if_pos rfl] at h1
        split at h1
        · cases h1; exact .inr (.inr rfl)
        · cases h1
      · rw [if_neg hn] at h1
        exact .inr (.inl ⟨h1, fun z => by rcases List.mem_cons.mp z with z | z; exact hn z.symm; exact h2 z⟩)
    · exact .inr (.inr h1)
theorem kill_length : ∀ (L : List Nat) (h : A), (kill h L).length = h.length
  | [], _ => rfl
  | n :: r, h => by show (kill (h.set n .dead) r).length = _; rw [kill_length r, List.length_set]
theorem kill_dead {L : List Nat} {h : A} {n : Nat} {o : O} (hn : n ∈ L) (e : (kill h L)[n]? = some o) : isDead o = true := by
  rcases kill_get L h n o e with ⟨h1, _⟩ | ⟨_, h2⟩ | h1
  · subst h1; rfl
  · exact absurd hn h2
  · subst h1; rfl
section
variable {K : PySem.W.Frag} {w : World} {N : Nm} {xf : Nat → Str} {Z : Addr → Prop} {H : Hp} {ρ : List Addr} {h h' : A}
theorem PP.kill {L : List Nat} {a : Addr} (m : PP ρ (kill h L) a) : PP ρ h a := by
  obtain ⟨i, o, e1, e2, d⟩ := m
  rcases kill_get L h i o e2 with ⟨h1, _⟩ | ⟨h1, _⟩ | h1
  · subst h1; cases d
  · exact ⟨i, o, e1, h1, d⟩
  · subst h1; cases d
theorem Ext.kill {L : List Nat} : Ext Z H ρ h H ρ (kill h L) := ⟨⟨fun _ _ e _ => e, fun _ p => .inl p, fun _ m => .inl (m.imp PP.kill id), fun _ m => .inl m.kill, fun _ o e => ⟨o, e⟩⟩, ⟨[], by simp⟩, fun t e b hb => by
  have : t = [] := by simpa using e.symm
  subst this; cases hb⟩
theorem RepA.kill (r : RepA K w N Z H ρ h) (L : List Nat) : RepA K w N Z H ρ (kill h L) := by
  refine ⟨by rw [kill_length]; exact r.len, r.nd, r.far, fun i o a e1 e2 => ?_⟩
  have x : Ext Z H ρ h H ρ (B.kill h L) := Ext.kill
  rcases kill_get L h i o e1 with ⟨h1, _⟩ | ⟨h1, _⟩ | h1
  · subst h1
    have hi : i < h.length := by rw [← kill_length L h]; exact (List.getElem?_eq_some_iff.mp e1).1
    obtain ⟨ho, z, _⟩ := r.obj i h[i] a (List.getElem?_eq_some_iff.mpr ⟨hi, rfl⟩) e2
    exact ⟨ho, z, trivial⟩
  · obtain ⟨ho, z, y⟩ := r.obj i o a h1 e2
    exact ⟨ho, z, y.keep x.keep x.pre⟩
  · subst h1
    have hi : i < h.length := by rw [← kill_length L h]; exact (List.getElem?_eq_some_iff.mp e1).1
    obtain ⟨ho, z, _⟩ := r.obj i h[i] a (List.getElem?_eq_some_iff.mpr ⟨hi, rfl⟩) e2
    exact ⟨ho, z, trivial⟩
theorem not_MM {a : Addr} {n : Nat} (r : RepA K w N Z H ρ h) (e : ρ[n]? = some a) (hd : ∀ o, h'[n]? = some o → isDead o = true) : ¬ MM Z ρ h' a := by
  rintro (⟨i, o, e1, e2, d⟩ | z)
  · have : i = n := nodup_get r.nd e1 e
    subst this
    rw [hd o e2] at d
    cases d
  · exact (r.far a z).2 (List.mem_of_getElem? e)
theorem fzF_ok {k : Nat} (ih : ∀ (x : W) (d : D) (v : V), fzW k h x = some d → (∀ n ∈ fzL k h x, ∀ o, h'[n]? = some o → isDead o = true) → RepW K w N ρ H (MM Z ρ h) x v → RepD K w N H (MM Z ρ h') d v) :
    ∀ (fs : List (Nat × W)) (gs : List (Nat × D)) (vs : List (Str × V)), fzF (fzW k h) fs = some gs → (∀ n ∈ fzLF (fzL k h) fs, ∀ o, h'[n]? = some o → isDead o = true) → RepWF K w N ρ H (MM Z ρ h) fs vs → RepFs K w N H (MM Z ρ h') gs vs
  | [], gs, vs, e, _, q => by
    cases e
    unfold RepFs
    exact q
  | (f, x) :: fs, gs, vs, e, hd, ⟨v, vs', ev, q1, q2⟩ => by
    have e' : (match fzW k h x with
      | some d => match fzF (fzW k h) fs with
        | some ds => some ((f, d) :: ds)
        | none => none
      | none => none) = some gs := e
    cases q3 : fzW k h x with
    | none => rw [q3] at e'; cases e'
    | some d =>
      rw [q3] at e'
      cases q4 : fzF (fzW k h) fs with
      | none => rw [q4] at e'; cases e'
      | some ds =>
        rw [q4] at e'
        cases e'
        unfold RepFs
        exact ⟨v, vs', ev, ih x d v q3 (fun n hn => hd n (List.mem_append_left _ hn)) q1, fzF_ok ih fs ds vs' q4 (fun n hn => hd n (List.mem_append_right _ hn)) q2⟩
theorem fz_ok (r : RepA K w N Z H ρ h) {P P' : Addr → Prop} (k0 : Keep H P (MM Z ρ h) H P' (MM Z ρ h')) : ∀ (k : Nat) (x : W) (d : D) (v : V), fzW k h x = some d → (∀ n ∈ fzL k h x, ∀ o, h'[n]? = some o → isDead o = true) → RepW K w N ρ H (MM Z ρ h) x v → RepD K w N H (MM Z ρ h') d v
  | 0, .c d0, d, v, e, _, q => by cases e; exact RepD.keep k0 q
  | _ + 1, .c d0, d, v, e, _, q => by cases e; exact RepD.keep k0 q
  | 0, .l n, d, v, e, _, _ => by cases e
  | k + 1, .l n, d, v, e, hd, ⟨a, ea, ev⟩ => by
    have e' : (match h[n]? with
      | some (.lst xs) => some (D.lst xs)
      | some (.dct t kvs) => some (.dct t kvs)
      | some (.ins c fs) => match fzF (fzW k h) fs with
        | some gs => some (.ins c gs)
        | none => none
      | _ => none) = some d := e
    have nm : ¬ MM Z ρ h' a := not_MM r ea (hd n (show n ∈ n :: (match h[n]? with
      | some (.ins _ fs) => fzLF (fzL k h) fs
      | _ => []) from List.mem_cons_self))
    subst ev
    cases q : h[n]? with
    | none => rw [q] at e'; cases e'
    | some o =>
      rw [q] at e'
      obtain ⟨ho, h1, h2⟩ := r.obj n o a q ea
      cases o with
      | lst xs =>
        cases e'
        obtain ⟨vs, e3, q3⟩ := h2
        subst e3
        exact lstD h1 nm (q3.keep k0)
      | dct t kvs =>
        cases e'
        obtain ⟨tt, ks, e3, nd, q3⟩ := h2
        subst e3
        cases t with
        | t => exact absurd rfl tt
        | s => unfold RepD; exact ⟨a, rfl, .inl ⟨ks, .inl h1, nm, nd, q3.keep k0⟩⟩
        | i => unfold RepD; exact ⟨a, rfl, .inl ⟨ks, .inl h1, nm, nd, q3.keep k0⟩⟩
      | dctF t kvs => cases e'
      | ins c fs =>
        have e2 : (match fzF (fzW k h) fs with
          | some gs => some (D.ins c gs)
          | none => none) = some d := e'
        cases q4 : fzF (fzW k h) fs with
        | none => rw [q4] at e2; cases e2
        | some gs =>
          rw [q4] at e2
          cases e2
          obtain ⟨dx, vs, e3, q3⟩ := h2
          subst e3
          unfold RepD
          refine ⟨a, dx, vs, rfl, h1, nm, fzF_ok (fun x d v => fz_ok r k0 k x d v) fs gs vs q4 (fun m hm => hd m ?_) q3⟩
          show m ∈ n :: (match h[n]? with
            | some (.ins _ fs) => fzLF (fzL k h) fs
            | _ => [])
          rw [q]
          exact List.mem_cons_of_mem _ hm
      | dead => cases e'
/-- freezing promises the same of the tree -/
theorem freeze_ok {α β : Type} {R : RR α β} {Q : β → Hp → Prop} {E : XK} {x : W} {v : V} {f : D → A → Res α} (r : RepA K w N Z H ρ h) (q : RepW K w N ρ H (MM Z ρ h) x v) (p : PostG K w N xf Z R Q E H ρ h ((freeze h x).bind f)) :
    ∃ d h1, Ext Z H ρ h H ρ h1 ∧ RepA K w N Z H ρ h1 ∧ RepD K w N H (MM Z ρ h1) d v ∧ PostG K w N xf Z R Q E H ρ h1 (f d h1) := by
  cases x with
  | c d => exact ⟨d, h, Ext.refl _ _ _ _, r, q, p⟩
  | l n =>
    have p' : PostG K w N xf Z R Q E H ρ h ((match fzW 8 h (.l n) with
      | some d => (.ok d (kill h (fzL 8 h (.l n))) : Res D)
      | none => .stuck).bind f) := p
    cases e : fzW 8 h (.l n) with
    | none => rw [e] at p'; exact p'.elim
    | some d =>
      rw [e] at p'
      have x1 : Ext Z H ρ h H ρ (kill h (fzL 8 h (.l n))) := Ext.kill
      exact ⟨d, _, x1, r.kill _, fz_ok r x1.keep 8 (.l n) d v e (fun m hm o ho => kill_dead hm ho) q, PostG.ext x1 p'⟩
theorem freezes_ok {α β : Type} {R : RR α β} {Q : β → Hp → Prop} {E : XK} : ∀ {xs : List W} {vs : List V} {f : List D → A → Res α} {h : A}, RepA K w N Z H ρ h → RepWs K w N ρ H (MM Z ρ h) xs vs → PostG K w N xf Z R Q E H ρ h ((freezes h xs).bind f) →
    ∃ ds h1, Ext Z H ρ h H ρ h1 ∧ RepA K w N Z H ρ h1 ∧ RepDs K w N H (MM Z ρ h1) ds vs ∧ PostG K w N xf Z R Q E H ρ h1 (f ds h1)
  | [], vs, f, h, r, q, p => ⟨[], h, Ext.refl _ _ _ _, r, by unfold RepDs; exact q, p⟩
  | x :: xs, vs, f, h, r, ⟨v, vs', ev, q1, q2⟩, p => by
    have p' : PostG K w N xf Z R Q E H ρ h ((freeze h x).bind fun d h1 => ((freezes h1 xs).bind fun ds h2 => f (d :: ds) h2)) := by
      have e : (freezes h (x :: xs)).bind f = (freeze h x).bind fun d h1 => ((freezes h1 xs).bind fun ds h2 => f (d :: ds) h2) := by
        show ((freeze h x).bind fun d h1 => (freezes h1 xs).bind fun ds h2 => .ok (d :: ds) h2).bind f = _
        rw [bind_assoc]
        refine congrArg _ (funext fun d => funext fun h1 => ?_)
        rw [bind_assoc]
        rfl
      rw [← e]; exact p
    obtain ⟨d, h1, x1, r1, d1, p1⟩ := freeze_ok r q1 p'
    obtain ⟨ds, h2, x2, r2, d2, p2⟩ := freezes_ok (f := fun ds h2 => f (d :: ds) h2) r1 (q2.keep x1.keep x1.pre) p1
    exact ⟨d :: ds, h2, x1.trans x2, r2, by unfold RepDs; exact ⟨v, vs', ev, d1.keep x2.keep, d2⟩, p2⟩
end
section
variable {X : Cx} {N : Nm} {xf : Nat → Str} {G : Gx} {Wx : WX} {Z : Addr → Prop}
/-! ### argument lists -/
theorem s_nil : PA X [] (tEvs X N xf G Wx []) := PA.imp pa_nil fun σV H Q ⟨Z, σ, ρ, h, r, re, p⟩ => tR_ok (R := RXs X N) p r rfl
theorem s_cons {e0 : Expr} {es0 : List Expr} {e : E} {es : List E} (he : PE X e0 (tEv X N xf G Wx e)) (hr : PA X es0 (tEvs X N xf G Wx es)) (hs : starEach (e0 :: es0) X.env = (false, eval e0 X.env) :: starEach es0 X.env) : PA X (e0 :: es0) (tEvs X N xf G Wx (e :: es)) := by
  refine PA.imp (pa_cons he hr hs) fun σV H Q p => ?_
  obtain ⟨Z, σ, ρ, h, r, re, p⟩ := p
  refine tR_at r re (f := ev G e) (g := fun w h1 => (evs G es σ h1).bind fun ws h2 => .ok (w :: ws) h2) p fun x v H1 ρ1 h1 e1 x1 r1 re1 rx p1 => ?_
  refine tR_at r1 re1 (f := evs G es) (g := fun ws h2 => .ok (x :: ws) h2) p1 fun ws vs H2 ρ2 h2 e2 x2 r2 re2 rw2 p2 => ?_
  exact tR_ok (R := RXs X N) p2 r2 ⟨v, vs, rfl, rx.keep x2.keep x2.pre, rw2⟩
theorem evs_length : ∀ {es : List E} {σ : Env} {h : A} {ws : List W} {h1 : A}, evs G es σ h = .ok ws h1 → ws.length = es.length
  | [], _, _, _, _, e => by cases e; rfl
  | e0 :: es, σ, h, ws, h1, e => by
    have e' : ((ev G e0 σ h).bind fun w h1 => (evs G es σ h1).bind fun ws h2 => .ok (w :: ws) h2) = .ok ws h1 := e
    cases q : ev G e0 σ h with
    | err _ _ _ => rw [q] at e'; cases e'
    | stuck => rw [q] at e'; cases e'
    | ok w h2 =>
      rw [q] at e'
      have e'' : ((evs G es σ h2).bind fun ws h2 => .ok (w :: ws) h2) = .ok ws h1 := e'
      cases q2 : evs G es σ h2 with
      | err _ _ _ => rw [q2] at e''; cases e''
      | stuck => rw [q2] at e''; cases e''
      | ok ws' h3 =>
        rw [q2] at e''
        cases e''
        simp [evs_length q2]
/-! ### displays -/
theorem s_tup {es0 : List Expr} {es : List E} {k1 : Nat} {pos : Pos} (hl : es.length ≤ 1000) (h : PA X es0 (tEvs X N xf G Wx es)) : PE X (.Tuple es0 k1 pos) (tEv X N xf G Wx (.tup es)) := by
  refine PE.imp (pe_tup h) fun σV H Q p => ?_
  obtain ⟨Z, σ, ρ, h, r, re, p⟩ := p
  refine tR_at r re (f := evs G es) (g := fun ws h1 => (freezes h1 ws).bind fun ds h2 => .ok (W.c (.tup ds)) h2) p fun ws vs H1 ρ1 h1 e1 x1 r1 re1 rx p1 => ?_
  obtain ⟨ds, h2, x2, r2, d2, p2⟩ := freezes_ok r1 rx p1
  refine ⟨by rw [← rx.length, evs_length e1]; exact Nat.le_of_lt (small1000 hl), fun a n => ?_⟩
  exact p2 _ _ _ (Ext.alloc n) (r2.alloc n) (tupD upd_same (r2.notM n) (d2.keep (Keep.new1 n)))
theorem s_lst {m : Bool} {es0 : List Expr} {es : List E} {pos : Pos} (hl : es.length ≤ 1000) (h : PA X es0 (tEvs X N xf G Wx es)) : PE X (.List es0 pos) (tEv X N xf G Wx (.lst m es)) := by
  refine PE.imp (pe_lst h) fun σV H Q p => ?_
  obtain ⟨Z, σ, ρ, h, r, re, p⟩ := p
  refine tR_at r re (f := evs G es) (g := fun ws h1 => (freezes h1 ws).bind fun ds h2 => born m (.lst ds) h2) p fun ws vs H1 ρ1 h1 e1 x1 r1 re1 rx p1 => ?_
  obtain ⟨ds, h2, x2, r2, d2, p2⟩ := freezes_ok r1 rx p1
  exact ⟨by rw [← rx.length, evs_length e1]; exact Nat.le_of_lt (small1000 hl), fun a n => born_lst p2 r2 d2 a n⟩
end
end B

set_option Elab.async false
set_option linter.all false
set_option maxRecDepth 100000
set_option maxHeartbeats 2000000
/-! a + b of lists, the result a list of its own. Own work. -/
namespace B
open PySem PySem.Spec PyProof.Rows L2
section
variable {X : Cx} {N : Nm} {xf : Nat → Str} {G : Gx} {Wx : WX} {Z : Addr → Prop}
theorem s_cat {a0 b0 : Expr} {a b : E} {pos : Pos} (ha : PE X a0 (tEv X N xf G Wx a)) (hb : PE X b0 (tEv X N xf G Wx b)) : PE X (.BinOp a0 .Add b0 pos) (tEv X N xf G Wx (.cat a b)) := by
  refine PE.imp (pe_op op_cat ha hb) fun σV H Q p => ?_
  obtain ⟨Z, σ, ρ, h, r, re, p⟩ := p
  refine tR_at r re (f := ev G a) (g := fun x h1 => (ev G b σ h1).bind fun y h2 => catW x y h2) p fun x v H1 ρ1 h1 e x1 r1 re1 rx p1 => ?_
  refine tR_at r1 re1 (f := ev G b) (g := fun y h2 => catW x y h2) p1 fun y u H2 ρ2 h2 e2 x2 r2 re2 ry p2 => ?_
  obtain ⟨d1, l1, p3⟩ := PostG.some p2
  obtain ⟨d2, l2, p4⟩ := PostG.some p3
  have rx' := (rx.keep x2.keep x2.pre).look r2 l1
  have ry' := ry.look r2 l2
  cases d1 <;> first | exact p4.elim | skip
  cases d2 <;> first | exact p4.elim | skip
  rename_i xs ys
  obtain ⟨hl, p5⟩ := PostG.must p4
  obtain ⟨a1, vs, rfl, q1, q2⟩ := rx'
  obtain ⟨a2, us, rfl, q3, q4⟩ := ry'
  have hl' := of_decide_eq_true hl
  refine ⟨a1, a2, vs, us, rfl, rfl, q1, q3, by rw [← q2.length, ← q4.length, ← sizeMax_eq]; exact hl', fun P hP => ?_⟩
  refine p5 (.ref P) _ (ρ2 ++ [P]) (Ext.push r2.len hP) (r2.push hP ⟨_, rfl, q2.append q4⟩) ⟨P, ?_, rfl⟩
  rw [← r2.len]; simp
end
end B

set_option Elab.async false
set_option linter.all false
set_option maxRecDepth 100000
set_option maxHeartbeats 2000000
/-! Fields, items, slices, built-ins, isinstance as expressions. Own work. -/
namespace B
open PySem PySem.Spec PyProof.Rows L2
def tyStr : D → Option String
  | .non => some "NoneType"
  | .bl _ => some "bool"
  | .int _ => some "int"
  | .str _ => some "str"
  | .tup _ => some "tuple"
  | .lst _ => some "list"
  | .scr _ => some "list"
  | .dct _ _ => some "dict"
  | .ins _ _ => none
def clsV (N : Nm) : Ty → Value
  | .int => .type "int"
  | .bool => .type "bool"
  | .str => .type "str"
  | .tup => .type "tuple"
  | .lst => .type "list"
  | .dct => .type "dict"
  | .own c => .ref (N.cls c)
def clsW (N : Nm) : Ty → V
  | .int => .ty "int"
  | .bool => .ty "bool"
  | .str => .ty "str"
  | .tup => .ty "tuple"
  | .lst => .ty "list"
  | .dct => .ty "dict"
  | .own c => .ref (N.cls c)
def tyOk (n : Nat) : Ty → Prop
  | .own c => c < n
  | _ => True
theorem clsV_ok (N : Nm) (t : Ty) : ClsV (clsW N t) (clsV N t) := by cases t <;> first | exact .ty _ | exact .own _
theorem clsW_rel (N : Nm) (t : Ty) : RelV (clsW N t) (clsV N t) := by cases t <;> rfl
/-- what the written part says of the program's classes -/
structure PF (K : PySem.W.Frag) (N : Nm) (G : Gx) (nC nA : Nat) : Prop where
  cls : ∀ c, Cls K (N.cls c)
  noat : ∀ c f, f < nA → NoAttr K (N.cls c) (N.at_ f)
  insA : ∀ c, PySem.W.findIn K (.ref (N.cls c)) "__class__" = some (some (.builtin "object.__class__"))
  insB : PySem.W.specialIn K (.builtin "object.__class__") "__get__" = some (some (.builtin "getset_descriptor.__get__"))
  insC : PySem.W.takesIn K (.builtin "object.__class__") = some true
  insD : ∀ c, PySem.W.mroIn K (N.cls c) (.type "object") = some true
  isB : ∀ d s t, tyStr d = some s → tyOk nC t → PySem.W.kitOne K (.type s) (clsV N t) = some (isTy G.C d t)
  isO : ∀ c cl t, G.C c = some cl → tyOk nC t → PySem.W.kitOne K (.ref (N.cls c)) (clsV N t) = some (isTy G.C (.ins c []) t)
section
variable {K : PySem.W.Frag} {w : World} {N : Nm} {H : Hp} {M : Addr → Prop} {ρ : List Addr} {h : A} {Z : Addr → Prop}
theorem RepFs.field : ∀ {fs : List (Nat × D)} {vs : List (Str × V)} {f : Nat} {d : D}, RepFs K w N H M fs vs → assocN fs f = some d → ∃ v, vs.lookup (N.at_ f) = some v ∧ RepD K w N H M d v
  | [], _, _, _, _, e => by cases e
  | (g, d0) :: r, vs, f, d, q, e => by
    unfold RepFs at q
    obtain ⟨v, vs', ev, a, b⟩ := q
    subst ev
    have e' : (match decide (g = f) with
      | true => some d0
      | false => assocN r f) = some d := e
    by_cases hg : g = f
    · subst hg
      rw [decide_eq_true rfl] at e'
      cases e'
      exact ⟨v, by simp [List.lookup], a⟩
    · rw [decide_eq_false hg] at e'
      obtain ⟨u, h1, h2⟩ := RepFs.field b e'
      refine ⟨u, ?_, h2⟩
      have hne : (N.at_ f == N.at_ g) = false := by
        simp only [beq_eq_false_iff_ne]
        exact fun z => hg (N.inj _ _ z).symm
      simp only [List.lookup, hne]
      exact h1
theorem RepWF.field : ∀ {fs : List (Nat × W)} {vs : List (Str × V)} {f : Nat} {d : W}, RepWF K w N ρ H M fs vs → assocN fs f = some d → ∃ v, vs.lookup (N.at_ f) = some v ∧ RepW K w N ρ H M d v
  | [], _, _, _, _, e => by cases e
  | (g, d0) :: r, vs, f, d, ⟨v, vs', ev, a, b⟩, e => by
    subst ev
    have e' : (match decide (g = f) with
      | true => some d0
      | false => assocN r f) = some d := e
    by_cases hg : g = f
    · subst hg
      rw [decide_eq_true rfl] at e'
      cases e'
      exact ⟨v, by simp [List.lookup], a⟩
    · rw [decide_eq_false hg] at e'
      obtain ⟨u, h1, h2⟩ := RepWF.field b e'
      refine ⟨u, ?_, h2⟩
      have hne : (N.at_ f == N.at_ g) = false := by
        simp only [beq_eq_false_iff_ne]
        exact fun z => hg (N.inj _ _ z).symm
      simp only [List.lookup, hne]
      exact h1
/-- an instance, its class, its fields -/
theorem field_ok (ra : RepA K w N Z H ρ h) {x u : W} {v : V} {f : Nat} (q : RepW K w N ρ H (MM Z ρ h) x v) (e : field h x f = some u) : ∃ a c dx vs y, v = .ref a ∧ H a = some (.ins (N.cls c) dx vs) ∧ vs.lookup (N.at_ f) = some y ∧ RepW K w N ρ H (MM Z ρ h) u y := by
  cases x with
  | c d =>
    cases d with
    | ins c fs =>
      have q' : RepD K w N H (MM Z ρ h) (.ins c fs) v := q
      unfold RepD at q'
      obtain ⟨a, dx, vs, rfl, h1, _, h2⟩ := q'
      obtain ⟨d, e1, rfl⟩ := Option.map_eq_some_iff.mp (show (assocN fs f).map W.c = some u from e)
      obtain ⟨y, h3, h4⟩ := h2.field e1
      exact ⟨a, c, dx, vs, y, rfl, h1, h3, h4⟩
    | _ => cases e
  | l n =>
    obtain ⟨a, ea, rfl⟩ := q
    have e' : (match h[n]? with
      | some (.ins _ fs) => assocN fs f
      | _ => none) = some u := e
    cases q1 : h[n]? with
    | none => rw [q1] at e'; cases e'
    | some o =>
      rw [q1] at e'
      cases o with
      | ins c fs =>
        obtain ⟨ho, h1, h2⟩ := ra.obj n _ a q1 ea
        obtain ⟨dx, vs, rfl, h3⟩ := h2
        obtain ⟨y, h4, h5⟩ := h3.field e'
        exact ⟨a, c, dx, vs, y, rfl, h1, h4, h5⟩
      | _ => cases e'
end
section
variable {X : Cx} {N : Nm} {xf : Nat → Str} {G : Gx} {Wx : WX} {nC nA : Nat}
theorem s_at {o0 : Expr} {o : E} {f : Nat} {x : Str} {pos : Pos} (F : PF X.K N G nC nA) (hf : f < nA) (hx : x = N.at_ f) (ho : PE X o0 (tEv X N xf G Wx o)) (hb : attributeBase o0 x X.env (eval o0 X.env) = eval o0 X.env) : PE X (.Attribute o0 x pos) (tEv X N xf G Wx (.at_ o f)) := by
  refine PE.imp (pe_fld ho hb) fun σV H Q p => ?_
  obtain ⟨Z, σ, ρ, h, r, re, p⟩ := p
  refine tR_at r re (f := ev G o) (g := fun x h1 => ofOpt (field h1 x f) fun w => .ok w h1) p fun y v H1 ρ1 h1 e x1 r1 re1 rx p1 => ?_
  obtain ⟨u, e1, p2⟩ := PostG.some p1
  obtain ⟨a, c, dx, vs, z, rfl, h2, h3, h4⟩ := field_ok r1 rx e1
  subst hx
  exact ⟨a, _, dx, vs, z, rfl, h2, F.cls c, F.noat c f hf, h3, tR_ok p2 r1 h4⟩
theorem s_ix {o0 i0 : Expr} {o i : E} {pos : Pos} (hu : X.A.units + 200 < cLine) (ho : PE X o0 (tEv X N xf G Wx o)) (hi : PE X i0 (tEv X N xf G Wx i)) (hs : PlainIx i0) : PE X (.Subscript o0 i0 pos) (tEv X N xf G Wx (.ix o i)) := by
  refine PE.imp (pe_ix (ix_all (N := N) (xf := xf) hu) ho hi hs) fun σV H Q p => ?_
  obtain ⟨Z, σ, ρ, h, r, re, p⟩ := p
  refine tR_at r re (f := ev G o) (g := fun x h1 => (ev G i σ h1).bind fun y h2 => ixW x y h2) p fun x v H1 ρ1 h1 e x1 r1 re1 rx p1 => ?_
  refine tR_at r1 re1 (f := ev G i) (g := fun y h2 => ixW x y h2) p1 fun y u H2 ρ2 h2 e2 x2 r2 re2 ry p2 => ?_
  exact ⟨Z, ρ2, h2, x, y, _, r2, rx.keep x2.keep x2.pre, ry, p2⟩
/-! ### slices -/
abbrev RO : RR (Option W) (Option Int) := fun _ _ _ a b => intO a = some b
theorem intO_int {w : W} {o : Option Int} (e : intO (some w) = some o) : ∃ i, w = .c (.int i) ∧ o = some i := by
  cases w with
  | l n => cases e
  | c d => cases d <;> first | (cases e; done) | exact ⟨_, rfl, (Option.some.inj e).symm⟩
theorem intV {H : Hp} {M : Addr → Prop} {ρ : List Addr} {i : Int} {v : V} (q : RepW X.K X.w N ρ H M (.c (.int i)) v) : v = .int i := by
  have q' : RepD X.K X.w N H M (.int i) v := q
  simpa only [RepD] using q'
/-- a part of a slice, told with what follows it -/
theorem part_of {oe0 : Option Expr} {oe : Option E} {t : TO} (hp : (oe0 = none ∧ oe = none ∧ t = tNoPart) ∨ ∃ e0 e, oe0 = some e0 ∧ oe = some e ∧ PE X e0 (tEv X N xf G Wx e) ∧ t = tPart (tEv X N xf G Wx e))
    {α β : Type} {R : RR α β} {Q : β → Hp → Prop} {Q1 : Option Int → Hp → Prop} {σV : L2.St} {H : Hp} {Z : Addr → Prop} {σ : Env} {ρ : List Addr} {h : A} {g : Option W → A → Res α} (r : RepA X.K X.w N Z H ρ h) (re : RepE X.K X.w N ρ H (MM Z ρ h) σ σV)
    (p : PostOf X N xf Z σV Wx R Q H ρ h ((evo G oe σ h).bind g)) (hint : ∀ w h1, (∃ i, w = W.c (.int i)) ∨ g (some w) h1 = .stuck)
    (k : ∀ (a : Option W) (o : Option Int) (H1 : Hp) (ρ1 : List Addr) (h1 : A), Ext Z H ρ h H1 ρ1 h1 → RepA X.K X.w N Z H1 ρ1 h1 → RepE X.K X.w N ρ1 H1 (MM Z ρ1 h1) σ σV → intO a = some o → PostOf X N xf Z σV Wx R Q H1 ρ1 h1 (g a h1) → Q1 o H1) : t σV H Q1 := by
  rcases hp with ⟨rfl, rfl, rfl⟩ | ⟨e0, e, rfl, rfl, he, rfl⟩
  · exact k none none H ρ h (Ext.refl _ _ _ _) r re rfl p
  · have p' : PostOf X N xf Z σV Wx R Q H ρ h ((ev G e σ h).bind fun w h1 => g (some w) h1) := by
      have ee : (evo G (some e) σ h).bind g = (ev G e σ h).bind fun w h1 => g (some w) h1 := by
        show ((ev G e σ h).bind fun w h1 => .ok (some w) h1).bind g = _
        rw [bind_assoc]; rfl
      rw [ee] at p
      exact p
    refine tR_at r re (f := ev G e) p' fun x v H1 ρ1 h1 e x1 r1 re1 rx p1 => ?_
    rcases hint x h1 with ⟨i, rfl⟩ | hst
    · obtain rfl := intV rx
      exact ⟨i, rfl, k (some (.c (.int i))) (some i) H1 ρ1 h1 x1 r1 re1 rfl p1⟩
    · rw [hst] at p1
      exact p1.elim
/-- how a part of a slice stands to its reading -/
def PartOf (X : Cx) (N : Nm) (xf : Nat → Str) (G : Gx) (Wx : WX) (oe0 : Option Expr) (oe : Option E) (t : TO) : Prop :=
  (oe0 = none ∧ oe = none ∧ t = tNoPart) ∨ ∃ e0 e, oe0 = some e0 ∧ oe = some e ∧ PE X e0 (tEv X N xf G Wx e) ∧ t = tPart (tEv X N xf G Wx e)
theorem PartOf.po {oe0 : Option Expr} {oe : Option E} {t : TO} (h : PartOf X N xf G Wx oe0 oe t) : PO X oe0 t := by
  rcases h with ⟨rfl, rfl, rfl⟩ | ⟨e0, e, rfl, rfl, he, rfl⟩
  · exact po_none
  · exact po_some he
theorem intO_or {α : Type} (w : W) (f : Option Int → Res α) : (∃ i, w = W.c (.int i)) ∨ ofOpt (intO (some w)) f = .stuck := by
  cases w with
  | l n => exact .inr rfl
  | c d => cases d <;> first | exact .inl ⟨_, rfl⟩ | exact .inr rfl
theorem s_slc {o0 : Expr} {lo0 hi0 : Option Expr} {o : E} {lo hi : Option E} {tl th : TO} {pos p2 : Pos} (ho : PE X o0 (tEv X N xf G Wx o)) (hl : PartOf X N xf G Wx lo0 lo tl) (hh : PartOf X N xf G Wx hi0 hi th) : PE X (.Subscript o0 (.Slice lo0 hi0 none p2) pos) (tEv X N xf G Wx (.slc o lo hi)) := by
  refine PE.imp (pe_slice (sl_all (N := N) (xf := xf)) ho hl.po hh.po) fun σV H Q p => ?_
  obtain ⟨Z, σ, ρ, h, r, re, p⟩ := p
  refine tR_at r re (f := ev G o) (g := fun x h1 => (evo G lo σ h1).bind fun a h2 => ofOpt (intO a) fun i => (evo G hi σ h2).bind fun b h3 => ofOpt (intO b) fun j =>
      ofOpt (look h3 x) fun d => ofOpt (cutD i j d) fun r => .ok (W.c r) h3) p fun x v H1 ρ1 h1 e x1 r1 re1 rx p1 => ?_
  refine part_of (Wx := Wx) (g := fun a h2 => ofOpt (intO a) fun i => (evo G hi σ h2).bind fun b h3 => ofOpt (intO b) fun j =>
      ofOpt (look h3 x) fun d => ofOpt (cutD i j d) fun r => .ok (W.c r) h3) hl r1 re1 p1 (fun w h1 => intO_or w _) fun a oi H2 ρ2 h2 x2 r2 re2 ea p2 => ?_
  have p2' : PostOf X N xf Z σV Wx (RX X N) Q H2 ρ2 h2 (ofOpt (intO a) fun i => (evo G hi σ h2).bind fun b h3 => ofOpt (intO b) fun j =>
      ofOpt (look h3 x) fun d => ofOpt (cutD i j d) fun r => .ok (W.c r) h3) := p2
  rw [ea] at p2'
  refine part_of (Wx := Wx) (g := fun b h3 => ofOpt (intO b) fun j =>
      ofOpt (look h3 x) fun d => ofOpt (cutD oi j d) fun r => .ok (W.c r) h3) hh r2 re2 p2' (fun w h1 => intO_or w _) fun b oj H3 ρ3 h3 x3 r3 re3 eb p3 => ?_
  have p3' : PostOf X N xf Z σV Wx (RX X N) Q H3 ρ3 h3 (ofOpt (intO b) fun j =>
      ofOpt (look h3 x) fun d => ofOpt (cutD oi j d) fun r => .ok (W.c r) h3) := p3
  rw [eb] at p3'
  exact ⟨Z, ρ3, h3, x, _, r3, (rx.keep x2.keep x2.pre).keep x3.keep x3.pre, p3'⟩
/-! ### built-ins by their names -/
theorem s_bi {m : Bool} {b : Bi} {e0 : Expr} {es0 : List Expr} {es : List E} (hp : ∀ t, PA X es0 t → PE X e0 (tCB (rBi X.K X.w N xf m b) t)) (ha : PA X es0 (tEvs X N xf G Wx es)) : PE X e0 (tEv X N xf G Wx (.bi m b es)) := by
  refine PE.imp (hp _ ha) fun σV H Q p => ?_
  obtain ⟨Z, σ, ρ, h, r, re, p⟩ := p
  refine tR_at r re (f := evs G es) (R := RXs X N) (g := fun ws h1 => ofOpt (looks h1 ws) fun ds => ofOpt (bi b ds) fun d => born m d h1) p fun ws vs H1 ρ1 h1 e x1 r1 re1 rx p1 => ?_
  exact ⟨Z, ρ1, h1, ws, _, r1, rx, p1⟩
/-! ### isinstance -/
theorem shape_ty {H : Hp} {Z : Addr → Prop} {ρ : List Addr} {h : A} {x : W} {v : V} {d : D} (F : PF X.K N G nC nA) (r : RepA X.K X.w N Z H ρ h) (q : RepW X.K X.w N ρ H (MM Z ρ h) x v) (e : shape h x = some d) :
    (∃ s, tyStr d = some s ∧ TyX X.K H v (.type s)) ∨ ∃ c fs, d = .ins c fs ∧ TyX X.K H v (.ref (N.cls c)) := by
  have ins : ∀ a c dx vs, H a = some (.ins (N.cls c) dx vs) → TyX X.K H (.ref a) (.ref (N.cls c)) := fun a c dx vs e => .base (.ins e (F.cls c) (F.insA c) F.insB F.insC (F.insD c))
  cases x with
  | c d0 =>
    have hs : ∀ xs, d0 ≠ .scr xs := fun xs z => by subst z; cases e
    have e0 : d0 = d := by
      cases d0 <;> first | (exact absurd rfl (hs _)) | (cases e; rfl)
    subst e0
    have q' : RepD X.K X.w N H (MM Z ρ h) d0 v := q
    cases d0 with
    | non => unfold RepD at q'; subst q'; exact .inl ⟨_, rfl, .base .non⟩
    | bl b => unfold RepD at q'; subst q'; exact .inl ⟨_, rfl, .base (.bl b)⟩
    | int i => unfold RepD at q'; subst q'; exact .inl ⟨_, rfl, .base (.int i)⟩
    | str s => unfold RepD at q'; obtain ⟨q', _⟩ := q'; subst q'; exact .inl ⟨_, rfl, .base (.str s)⟩
    | tup xs =>
      unfold RepD at q'
      obtain ⟨a, vs, rfl, r, _⟩ := q'
      rcases r with ⟨r, _⟩ | ⟨o, its, n, r1, r2, _⟩
      · exact .inl ⟨_, rfl, .base (.tup r)⟩
      · exact .inl ⟨_, rfl, .kTuple r1 r2⟩
    | lst xs =>
      unfold RepD at q'
      obtain ⟨a, vs, rfl, r, _⟩ := q'
      exact .inl ⟨_, rfl, .base (.lst r)⟩
    | scr xs => exact absurd rfl (hs xs)
    | dct t kvs =>
      have l := RepD.toL q'
      obtain ⟨a, rfl, l⟩ := l
      rcases l with ⟨o, ro, tt, ks, rfl, nd, rk⟩ | ⟨rfl, ⟨es, n, kd⟩, rk, rn⟩
      · rcases ro with ro | ⟨o, ro⟩
        · exact .inl ⟨_, rfl, .base (.dK ro)⟩
        · exact .inl ⟨_, rfl, .fDict ro⟩
      · exact .inl ⟨_, rfl, .kDict kd.at_ rfl⟩
    | ins c fs =>
      unfold RepD at q'
      obtain ⟨a, dx, vs, rfl, r, _⟩ := q'
      exact .inr ⟨c, fs, rfl, ins a c dx vs r⟩
  | l n =>
    obtain ⟨a, ea, rfl⟩ := q
    have e' : (match h[n]? with
      | some (.lst xs) => some (D.lst xs)
      | some (.dct t kvs) => some (.dct t kvs)
      | some (.dctF t kvs) => some (.dct t kvs)
      | some (.ins c _) => some (.ins c [])
      | _ => none) = some d := e
    cases q1 : h[n]? with
    | none => rw [q1] at e'; cases e'
    | some o =>
      rw [q1] at e'
      obtain ⟨ho, h1, h2⟩ := r.obj n _ a q1 ea
      cases o with
      | lst xs => cases e'; obtain ⟨vs, rfl, _⟩ := h2; exact .inl ⟨_, rfl, .base (.lst h1)⟩
      | dct t kvs => cases e'; obtain ⟨tt, ks, rfl, _⟩ := h2; exact .inl ⟨_, rfl, .base (.dK h1)⟩
      | dctF t kvs => cases e'; obtain ⟨ob, u, rfl, tt, ks, rfl, _⟩ := h2; exact .inl ⟨_, rfl, .fDict h1⟩
      | ins c fs => cases e'; obtain ⟨dx, vs, rfl, _⟩ := h2; exact .inr ⟨c, [], rfl, ins a c dx vs h1⟩
      | dead => cases e'
theorem isTy_nil {C : Nat → Option Cl} {c : Nat} {fs : List (Nat × D)} {t : Ty} : isTy C (.ins c fs) t = isTy C (.ins c []) t := by cases t <;> rfl
theorem s_isi {e0 c0 : Expr} {e : E} {t : Ty} {p pos : Pos} (F : PF X.K N G nC nA) (ht : tyOk nC t) (hg : Gl X "isinstance") (hm : X.mg "isinstance" = none) (he : PE X e0 (tEv X N xf G Wx e)) (hc : PE X c0 (tC (clsW N t)))
    (h1 : starEach [e0, c0] X.env = (false, eval e0 X.env) :: starEach [c0] X.env) (h2 : starEach [c0] X.env = (false, eval c0 X.env) :: starEach [] X.env) (hpl : (backTo pos (starEach [c0] X.env)).any (·.1) = false) :
    PE X (.Call (.Name "isinstance" p) [e0, c0] [] pos) (tEv X N xf G Wx (.isi e t)) := by
  refine PE.imp (pe_callB call_isi hg hm (by decide +kernel) (pa_cons he (pa_cons hc pa_nil h2) h1) (he := h1) (hpl := hpl)) fun σV H Q p => ?_
  obtain ⟨Z, σ, ρ, h, r, re, p⟩ := p
  refine tR_at r re (f := ev G e) (g := fun x h1 => ofOpt (shape h1 x) fun d => must (known G d) (.ok (W.c (.bl (isTy G.C d t))) h1)) p fun x v H1 ρ1 h1 e x1 r1 re1 rx p1 => ?_
  obtain ⟨d, e1, p2⟩ := PostG.some p1
  obtain ⟨e2, p3⟩ := PostG.must p2
  rcases shape_ty F r1 rx e1 with ⟨s, e3, ty⟩ | ⟨c, fs, rfl, ty⟩
  · exact ⟨v, clsW N t, _, clsV N t, _, rfl, clsV_ok N t, ty, F.isB d s t e3 ht, tR_ok_bl p3 r1⟩
  · have e4 : (G.C c).isSome = true := e2
    obtain ⟨cl, e5⟩ := Option.isSome_iff_exists.mp e4
    exact ⟨v, clsW N t, _, clsV N t, _, rfl, clsV_ok N t, ty, F.isO c cl t e5 ht, by rw [← isTy_nil (fs := fs)]; exact tR_ok_bl p3 r1⟩
end
end B

set_option Elab.async false
set_option linter.all false
set_option maxRecDepth 100000
set_option maxHeartbeats 2000000
/-! Calls: what a call sees of the heap, and what it gives back. Own work. -/
namespace B
open PySem PySem.Spec PyProof.Rows L2

theorem reach_nodup : ∀ (k : Nat) (h : A) (todo acc : List Nat), acc.Nodup → (reach k h todo acc).Nodup
  | 0, _, _, _, nd => nd
  | _ + 1, _, [], _, nd => nd
  | k + 1, h, n :: r, acc, nd => by
    show (match acc.contains n with
      | true => reach k h r acc
      | false => match h[n]? with
        | some o => reach k h (locO o ++ r) (acc ++ [n])
        | none => reach k h r acc).Nodup
    cases e : acc.contains n with
    | true => exact reach_nodup k h r acc nd
    | false =>
      cases h[n]? with
      | none => exact reach_nodup k h r acc nd
      | some o =>
        refine reach_nodup k h _ _ (List.nodup_append.mpr ⟨nd, by simp, fun a ha b hb => ?_⟩)
        have : b = n := by simpa using hb
        subst this
        intro z
        subst z
        have : acc.contains a = true := List.contains_iff_mem.mpr ha
        rw [e] at this; cases this
theorem reach_pre : ∀ (k : Nat) (h : A) (todo acc : List Nat), ∃ t, reach k h todo acc = acc ++ t
  | 0, _, _, acc => ⟨[], by simp [reach]⟩
  | _ + 1, _, [], acc => ⟨[], by simp [reach]⟩
  | k + 1, h, n :: r, acc => by
    show ∃ t, (match acc.contains n with
      | true => reach k h r acc
      | false => match h[n]? with
        | some o => reach k h (locO o ++ r) (acc ++ [n])
        | none => reach k h r acc) = acc ++ t
    cases acc.contains n with
    | true => exact reach_pre k h r acc
    | false =>
      cases h[n]? with
      | none => exact reach_pre k h r acc
      | some o =>
        obtain ⟨t, e⟩ := reach_pre k h (locO o ++ r) (acc ++ [n])
        exact ⟨n :: t, by show reach k h _ _ = _; rw [e]; simp⟩
theorem ixN_get : ∀ {L : List Nat} {n i : Nat}, B.ixN L n = some i → L[i]? = some n
  | [], _, _, e => by cases e
  | m :: r, n, i, e => by
    have e' : (match decide (m = n) with
      | true => some 0
      | false => match B.ixN r n with
        | some i => some (i + 1)
        | none => none) = some i := e
    by_cases h : m = n
    · subst h
      rw [decide_eq_true rfl] at e'
      cases e'
      rfl
    · rw [decide_eq_false h] at e'
      cases q : B.ixN r n with
      | none => rw [q] at e'; cases e'
      | some j =>
        rw [q] at e'
        cases e'
        simpa using ixN_get q
theorem sub_get : ∀ {h : A} {L l : List Nat} {b : A}, sub h L l = some b → b.length = l.length ∧ ∀ (i : Nat) (n : Nat), l[i]? = some n → ∃ o o', h[n]? = some o ∧ renO L o = some o' ∧ b[i]? = some o'
  | h, L, [], b, e => by cases e; exact ⟨rfl, fun i n q => by simp at q⟩
  | h, L, m :: r, b, e => by
    have e' : (match h[m]? with
      | some o => match renO L o with
        | some o' => match sub h L r with
          | some r' => some (o' :: r')
          | none => none
        | none => none
      | none => none) = some b := e
    cases q1 : h[m]? with
    | none => rw [q1] at e'; cases e'
    | some o =>
      rw [q1] at e'
      have e2 : (match renO L o with
        | some o' => match sub h L r with
          | some r' => some (o' :: r')
          | none => none
        | none => none) = some b := e'
      cases q2 : renO L o with
      | none => rw [q2] at e2; cases e2
      | some o' =>
        rw [q2] at e2
        have e3 : (match sub h L r with
          | some r' => some (o' :: r')
          | none => none) = some b := e2
        cases q3 : sub h L r with
        | none => rw [q3] at e3; cases e3
        | some r' =>
          rw [q3] at e3
          cases e3
          obtain ⟨h1, h2⟩ := sub_get q3
          refine ⟨by simp [h1], fun i n q => ?_⟩
          cases i with
          | zero =>
            have : m = n := by simpa using q
            subst this
            exact ⟨o, o', q1, q2, rfl⟩
          | succ i =>
            obtain ⟨o1, o2, g1, g2, g3⟩ := h2 i n (by simpa using q)
            exact ⟨o1, o2, g1, g2, by simpa using g3⟩
theorem renO_dead {L : List Nat} {o o' : O} (e : renO L o = some o') : isDead o' = isDead o := by
  cases o with
  | ins c fs =>
    have e' : (match renF L fs with
      | some fs' => some (O.ins c fs')
      | none => none) = some o' := e
    cases q : renF L fs with
    | none => rw [q] at e'; cases e'
    | some fs' => rw [q] at e'; cases e'; rfl
  | lst _ => cases e; rfl
  | dct _ _ => cases e; rfl
  | dctF _ _ => cases e; rfl
  | dead => cases e; rfl
/-- the addresses of the places L -/
def atL (ρ : List Addr) : List Nat → List Addr
  | [] => []
  | n :: r => (ρ[n]?).getD 0 :: atL ρ r
theorem atL_length (ρ : List Addr) : ∀ L : List Nat, (atL ρ L).length = L.length
  | [] => rfl
  | _ :: r => by show (atL ρ r).length + 1 = r.length + 1; rw [atL_length ρ r]
theorem atL_get {ρ : List Addr} : ∀ {L : List Nat} {i n : Nat} {a : Addr}, L[i]? = some n → ρ[n]? = some a → (atL ρ L)[i]? = some a
  | [], i, _, _, e, _ => by simp at e
  | m :: r, 0, n, a, e, q => by
    have : m = n := by simpa using e
    subst this
    show some ((ρ[m]?).getD 0) = some a
    rw [q]; rfl
  | m :: r, i + 1, n, a, e, q => by
    show (atL ρ r)[i]? = some a
    exact atL_get (by simpa using e) q
section
variable {K : PySem.W.Frag} {w : World} {N : Nm} {xf : Nat → Str} {H : Hp} {ρ : List Addr} {h b : A} {Z : Addr → Prop} {L : List Nat}
/-- what the callee must leave alone besides: what the caller may change and the callee does not see -/
def ZZ (Z : Addr → Prop) (ρ : List Addr) (h : A) (L : List Nat) : Addr → Prop := fun a => Z a ∨ (PP ρ h a ∧ a ∉ atL ρ L)
theorem sub_at (r : RepA K w N Z H ρ h) (e : sub h L L = some b) {i n : Nat} (q : L[i]? = some n) : ∃ a, ρ[n]? = some a ∧ (atL ρ L)[i]? = some a := by
  obtain ⟨o, _, h1, _, _⟩ := (sub_get e).2 i n q
  have hn : n < ρ.length := by rw [r.len]; exact (List.getElem?_eq_some_iff.mp h1).1
  exact ⟨ρ[n], List.getElem?_eq_some_iff.mpr ⟨hn, rfl⟩, atL_get q (List.getElem?_eq_some_iff.mpr ⟨hn, rfl⟩)⟩
theorem atL_mem (r : RepA K w N Z H ρ h) (e : sub h L L = some b) {a : Addr} (ha : a ∈ atL ρ L) : ∃ i n : Nat, L[i]? = some n ∧ ρ[n]? = some a ∧ (atL ρ L)[i]? = some a := by
  obtain ⟨i, hi⟩ := List.mem_iff_getElem?.mp ha
  have hl : i < L.length := by rw [← atL_length ρ L]; exact (List.getElem?_eq_some_iff.mp hi).1
  obtain ⟨a', h1, h2⟩ := sub_at r e (show L[i]? = some L[i] from List.getElem?_eq_some_iff.mpr ⟨hl, rfl⟩)
  rw [hi] at h2; cases h2
  exact ⟨i, L[i], List.getElem?_eq_some_iff.mpr ⟨hl, rfl⟩, h1, hi⟩
/-- the trees avoid the same addresses, within and without -/
theorem MM_sub (r : RepA K w N Z H ρ h) (e : sub h L L = some b) (a : Addr) : MM (ZZ Z ρ h L) (atL ρ L) b a ↔ MM Z ρ h a := by
  constructor
  · rintro (⟨i, o, e1, e2, d⟩ | z | ⟨p, _⟩)
    · have hl : i < L.length := by rw [← atL_length ρ L]; exact (List.getElem?_eq_some_iff.mp e1).1
      have hL : L[i]? = some L[i] := List.getElem?_eq_some_iff.mpr ⟨hl, rfl⟩
      obtain ⟨o1, o2, g1, g2, g3⟩ := (sub_get e).2 i _ hL
      obtain ⟨a', h1, h2⟩ := sub_at r e hL
      rw [e1] at h2; cases h2
      rw [e2] at g3; cases g3
      exact .inl ⟨_, o1, h1, g1, by rw [← renO_dead g2]; exact d⟩
    · exact .inr z
    · exact .inl p
  · rintro (p | z)
    · by_cases ha : a ∈ atL ρ L
      · obtain ⟨i, n, h1, h2, h3⟩ := atL_mem r e ha
        obtain ⟨o1, o2, g1, g2, g3⟩ := (sub_get e).2 i n h1
        obtain ⟨j, o, e1, e2, d⟩ := p
        have : j = n := nodup_get r.nd e1 h2
        subst this
        rw [e2] at g1; cases g1
        exact .inl ⟨i, o2, h3, g3, by rw [renO_dead g2]; exact d⟩
      · exact .inr (.inr ⟨p, ha⟩)
    · exact .inr (.inl z)
theorem keep_eq {P M M' : Addr → Prop} (s : ∀ a, M' a ↔ M a) : Keep H (fun _ => False) M H (fun _ => False) M' := ⟨fun _ _ e _ => e, fun _ f => f.elim, fun a m => .inl ((s a).mp m), fun _ f => f.elim, fun _ o e => ⟨o, e⟩⟩
theorem renW_rep {M M' : Addr → Prop} (s : ∀ a, M' a ↔ M a) (r : RepA K w N Z H ρ h) (e : sub h L L = some b) {x y : W} {v : V} (q : RepW K w N ρ H M x v) (ey : renW L x = some y) : RepW K w N (atL ρ L) H M' y v := by
  cases x with
  | c d => cases ey; exact RepD.keep (P := fun _ => False) (P' := fun _ => False) (keep_eq (P := fun _ => False) s) q
  | l n =>
    obtain ⟨a, ea, ev⟩ := q
    have e' : (match B.ixN L n with
      | some i => some (W.l i)
      | none => none) = some y := ey
    cases q1 : B.ixN L n with
    | none => rw [q1] at e'; cases e'
    | some i =>
      rw [q1] at e'
      cases e'
      exact ⟨a, atL_get (ixN_get q1) ea, ev⟩
theorem renF_rep {M M' : Addr → Prop} (s : ∀ a, M' a ↔ M a) (r : RepA K w N Z H ρ h) (e : sub h L L = some b) : ∀ {fs gs : List (Nat × W)} {vs : List (Str × V)}, RepWF K w N ρ H M fs vs → renF L fs = some gs → RepWF K w N (atL ρ L) H M' gs vs
  | [], gs, vs, q, eg => by cases eg; exact q
  | (f, x) :: fs, gs, vs, ⟨v, vs', ev, q1, q2⟩, eg => by
    have e' : (match renW L x with
      | some w' => match renF L fs with
        | some r' => some ((f, w') :: r')
        | none => none
      | none => none) = some gs := eg
    cases g1 : renW L x with
    | none => rw [g1] at e'; cases e'
    | some x' =>
      rw [g1] at e'
      cases g2 : renF L fs with
      | none => rw [g2] at e'; cases e'
      | some fs' =>
        rw [g2] at e'
        cases e'
        exact ⟨v, vs', ev, renW_rep s r e q1 g1, renF_rep s r e q2 g2⟩
theorem renWs_rep {M M' : Addr → Prop} (s : ∀ a, M' a ↔ M a) (r : RepA K w N Z H ρ h) (e : sub h L L = some b) : ∀ {fs gs : List W} {vs : List V}, RepWs K w N ρ H M fs vs → renWs L fs = some gs → RepWs K w N (atL ρ L) H M' gs vs
  | [], gs, vs, q, eg => by cases eg; exact q
  | x :: fs, gs, vs, ⟨v, vs', ev, q1, q2⟩, eg => by
    have e' : (match renW L x with
      | some w' => match renWs L fs with
        | some r' => some (w' :: r')
        | none => none
      | none => none) = some gs := eg
    cases g1 : renW L x with
    | none => rw [g1] at e'; cases e'
    | some x' =>
      rw [g1] at e'
      cases g2 : renWs L fs with
      | none => rw [g2] at e'; cases e'
      | some fs' =>
        rw [g2] at e'
        cases e'
        exact ⟨v, vs', ev, renW_rep s r e q1 g1, renWs_rep s r e q2 g2⟩
theorem renO_rep {M M' : Addr → Prop} (s : ∀ a, M' a ↔ M a) (r : RepA K w N Z H ρ h) (e : sub h L L = some b) {o o' : O} {ho : HO} (q : RepO K w N ρ H M o ho) (eo : renO L o = some o') : RepO K w N (atL ρ L) H M' o' ho := by
  have k := keep_eq (H := H) (P := fun _ => False) s
  cases o with
  | ins c fs =>
    obtain ⟨dx, vs, ev, q⟩ := q
    have e' : (match renF L fs with
      | some fs' => some (O.ins c fs')
      | none => none) = some o' := eo
    cases g : renF L fs with
    | none => rw [g] at e'; cases e'
    | some fs' => rw [g] at e'; cases e'; exact ⟨dx, vs, ev, renF_rep s r e q g⟩
  | lst _ => cases eo; obtain ⟨vs, ev, q⟩ := q; exact ⟨vs, ev, q.keep k⟩
  | dct _ _ => cases eo; exact RepDc.keep k q
  | dctF _ _ => cases eo; obtain ⟨ob, u, ev, q⟩ := q; exact ⟨ob, u, ev, q.keep k⟩
  | dead => cases eo; trivial
/-- what the callee sees stands -/
theorem sub_rep (r : RepA K w N Z H ρ h) (nd : L.Nodup) (e : sub h L L = some b) : RepA K w N (ZZ Z ρ h L) H (atL ρ L) b := by
  obtain ⟨hl, hg⟩ := sub_get e
  refine ⟨by rw [atL_length, hl], ?_, fun a z => ?_, fun i o a e1 e2 => ?_⟩
  · refine List.nodup_iff_pairwise_ne.mpr (List.pairwise_iff_getElem.mpr fun i j hi hj hij z => ?_)
    have hi' : i < L.length := by rw [← atL_length ρ L]; exact hi
    have hj' : j < L.length := by rw [← atL_length ρ L]; exact hj
    obtain ⟨a1, p1, p2⟩ := sub_at r e (show L[i]? = some L[i] from List.getElem?_eq_some_iff.mpr ⟨hi', rfl⟩)
    obtain ⟨a2, p3, p4⟩ := sub_at r e (show L[j]? = some L[j] from List.getElem?_eq_some_iff.mpr ⟨hj', rfl⟩)
    have h1 : (atL ρ L)[i]? = some (atL ρ L)[i] := List.getElem?_eq_some_iff.mpr ⟨hi, rfl⟩
    have h2 : (atL ρ L)[j]? = some (atL ρ L)[j] := List.getElem?_eq_some_iff.mpr ⟨hj, rfl⟩
    rw [p2] at h1
    rw [p4] at h2
    have e12 : a1 = a2 := by rw [Option.some.inj h1, Option.some.inj h2]; exact z
    subst e12
    have en := nodup_get r.nd p1 p3
    have := (List.getElem_inj (h₀ := hi') (h₁ := hj') nd).mp en
    omega
  · rcases z with z | ⟨⟨i, o, e1, e2, _⟩, na⟩
    · refine ⟨(r.far a z).1, fun ha => ?_⟩
      obtain ⟨i, n, _, h2, _⟩ := atL_mem r e ha
      exact (r.far a z).2 (List.mem_of_getElem? h2)
    · obtain ⟨ho, z, _⟩ := r.obj i o a e2 e1
      exact ⟨⟨ho, z⟩, na⟩
  · have hi' : i < L.length := by rw [← hl]; exact (List.getElem?_eq_some_iff.mp e1).1
    have hL : L[i]? = some L[i] := List.getElem?_eq_some_iff.mpr ⟨hi', rfl⟩
    obtain ⟨o1, o2, g1, g2, g3⟩ := hg i _ hL
    obtain ⟨a1, p1, p2⟩ := sub_at r e hL
    rw [e2] at p2; cases p2
    rw [e1] at g3; cases g3
    obtain ⟨ho, z, q⟩ := r.obj _ o1 a g1 p1
    exact ⟨ho, z, renO_rep (MM_sub r e) r e q g2⟩
end
end B

set_option Elab.async false
set_option linter.all false
set_option maxRecDepth 100000
set_option maxHeartbeats 2000000
/-! What a call gives back. Own work. -/
namespace B
open PySem PySem.Spec PyProof.Rows L2
theorem putL_length (L : List Nat) (m : Nat) : ∀ (l : List Nat) (h b : A), (putL L m h l b).length = h.length
  | [], h, b => by cases b <;> rfl
  | n :: r, h, [] => rfl
  | n :: r, h, o :: b => by
    show (putL L m (h.set n (bakO L m o)) r b).length = _
    rw [putL_length L m r, List.length_set]
theorem putL_out (L : List Nat) (m : Nat) : ∀ (l : List Nat) (h b : A) (n : Nat), n ∉ l → (putL L m h l b)[n]? = h[n]?
  | [], h, b, n, _ => by cases b <;> rfl
  | k :: r, h, [], n, _ => rfl
  | k :: r, h, o :: b, n, hn => by
    show (putL L m (h.set k (bakO L m o)) r b)[n]? = _
    rw [putL_out L m r _ b n fun z => hn (List.mem_cons_of_mem _ z)]
    exact List.getElem?_set_ne (by intro z; subst z; exact hn List.mem_cons_self)
theorem putL_in (L : List Nat) (m : Nat) : ∀ (l : List Nat) (h b : A) (i n : Nat) (o : O), l.Nodup → l[i]? = some n → b[i]? = some o → n < h.length → (putL L m h l b)[n]? = some (bakO L m o)
  | [], _, _, i, n, o, _, e, _, _ => by simp at e
  | k :: r, h, [], i, n, o, _, _, e, _ => by simp at e
  | k :: r, h, u :: b, 0, n, o, nd, e1, e2, hn => by
    have : k = n := by simpa using e1
    subst this
    have : u = o := by simpa using e2
    subst this
    show (putL L m (h.set k (bakO L m u)) r b)[k]? = _
    rw [putL_out L m r _ b k (List.nodup_cons.mp nd).1]
    exact List.getElem?_set_self hn
  | k :: r, h, u :: b, i + 1, n, o, nd, e1, e2, hn => by
    show (putL L m (h.set k (bakO L m u)) r b)[n]? = _
    exact putL_in L m r _ b i n o (List.nodup_cons.mp nd).2 (by simpa using e1) (by simpa using e2) (by rw [List.length_set]; exact hn)
theorem back_length (L : List Nat) (h b : A) : (back L h b).length = h.length + (b.length - L.length) := by
  show (putL L h.length h L b ++ (b.drop L.length).map (bakO L h.length)).length = _
  rw [List.length_append, putL_length, List.length_map, List.length_drop]
theorem back_out {L : List Nat} {h b : A} {n : Nat} (hn : n < h.length) (hl : n ∉ L) : (back L h b)[n]? = h[n]? := by
  show (putL L h.length h L b ++ (b.drop L.length).map (bakO L h.length))[n]? = _
  rw [List.getElem?_append_left (by rw [putL_length]; exact hn), putL_out _ _ _ _ _ _ hl]
theorem back_in {L : List Nat} {h b : A} {i n : Nat} {o : O} (nd : L.Nodup) (hn : n < h.length) (e : L[i]? = some n) (eb : b[i]? = some o) : (back L h b)[n]? = some (bakO L h.length o) := by
  show (putL L h.length h L b ++ (b.drop L.length).map (bakO L h.length))[n]? = _
  rw [List.getElem?_append_left (by rw [putL_length]; exact hn), putL_in L _ L h b i n o nd e eb hn]
theorem back_new {L : List Nat} {h b : A} (j : Nat) : (back L h b)[h.length + j]? = (b[L.length + j]?).map (bakO L h.length) := by
  show (putL L h.length h L b ++ (b.drop L.length).map (bakO L h.length))[h.length + j]? = _
  rw [List.getElem?_append_right (by rw [putL_length]; omega), putL_length, List.getElem?_map, List.getElem?_drop]
  congr 2; congr 1; omega
theorem bakO_dead {L : List Nat} {m : Nat} {o : O} : isDead (bakO L m o) = isDead o := by cases o <;> rfl
section
variable {K : PySem.W.Frag} {w : World} {N : Nm} {xf : Nat → Str} {H H' : Hp} {ρ t : List Addr} {h b b' : A} {Z : Addr → Prop} {L : List Nat}
/-- a place of the callee's heap, seen by the caller -/
theorem bak_at (r : RepA K w N Z H ρ h) (e : sub h L L = some b) {i : Nat} {a : Addr} (q : (atL ρ L ++ t)[i]? = some a) : (ρ ++ t)[bakN L h.length i]? = some a := by
  show (ρ ++ t)[match L[i]? with
    | some m => m
    | none => h.length + (i - L.length)]? = some a
  by_cases hi : i < L.length
  · have hL : L[i]? = some L[i] := List.getElem?_eq_some_iff.mpr ⟨hi, rfl⟩
    obtain ⟨a', h1, h2⟩ := sub_at r e hL
    rw [List.getElem?_append_left (by rw [atL_length]; exact hi), h2] at q
    cases q
    rw [hL]
    exact pre_get ⟨t, rfl⟩ h1
  · rw [List.getElem?_eq_none (by omega : L.length ≤ i)]
    rw [List.getElem?_append_right (by rw [atL_length]; omega), atL_length] at q
    show (ρ ++ t)[h.length + (i - L.length)]? = some a
    rw [List.getElem?_append_right (by rw [r.len]; omega), r.len]
    rw [← q]; congr 1; omega
theorem bak_obj (r : RepA K w N Z H ρ h) (nd : L.Nodup) (e : sub h L L = some b) (hl : L.length ≤ b'.length) {i : Nat} {o : O} (q : b'[i]? = some o) : (back L h b')[bakN L h.length i]? = some (bakO L h.length o) := by
  show (back L h b')[match L[i]? with
    | some m => m
    | none => h.length + (i - L.length)]? = _
  by_cases hi : i < L.length
  · have hL : L[i]? = some L[i] := List.getElem?_eq_some_iff.mpr ⟨hi, rfl⟩
    rw [hL]
    obtain ⟨o1, _, h1, _, _⟩ := (sub_get e).2 i _ hL
    exact back_in nd (List.getElem?_eq_some_iff.mp h1).1 hL q
  · rw [List.getElem?_eq_none (by omega : L.length ≤ i)]
    show (back L h b')[h.length + (i - L.length)]? = _
    rw [back_new, show L.length + (i - L.length) = i by omega, q]
    rfl
/-- what stands in the caller's heap behind the call: from the callee's heap, or untouched -/
theorem bak_inv (r : RepA K w N Z H ρ h) (nd : L.Nodup) (e : sub h L L = some b) (hl : (atL ρ L ++ t).length = b'.length) {i : Nat} {o : O} {a : Addr} (q1 : (back L h b')[i]? = some o) (q2 : (ρ ++ t)[i]? = some a) :
    (∃ (j : Nat) (o' : O), (atL ρ L ++ t)[j]? = some a ∧ b'[j]? = some o' ∧ o = bakO L h.length o') ∨ (h[i]? = some o ∧ ρ[i]? = some a ∧ a ∉ atL ρ L) := by
  rw [List.length_append, atL_length] at hl
  by_cases hi : i < h.length
  · have q2' : ρ[i]? = some a := by rw [List.getElem?_append_left (by rw [r.len]; exact hi)] at q2; exact q2
    by_cases hm : i ∈ L
    · obtain ⟨j, hj⟩ := List.mem_iff_getElem?.mp hm
      have hj' : j < L.length := (List.getElem?_eq_some_iff.mp hj).1
      have hb : b'[j]? = some (b'[j]'(by omega)) := List.getElem?_eq_some_iff.mpr ⟨by omega, rfl⟩
      obtain ⟨a', h1, h2⟩ := sub_at r e hj
      rw [q2'] at h1; cases h1
      refine .inl ⟨j, _, by rw [List.getElem?_append_left (by rw [atL_length]; exact hj')]; exact h2, hb, ?_⟩
      rw [back_in nd hi hj hb] at q1
      exact (Option.some.inj q1).symm
    · rw [back_out hi hm] at q1
      refine .inr ⟨q1, q2', fun z => ?_⟩
      obtain ⟨j, n, h1, h2, _⟩ := atL_mem r e z
      have := nodup_get r.nd h2 q2'
      subst this
      exact hm (List.mem_of_getElem? h1)
  · obtain ⟨k, rfl⟩ : ∃ k, i = h.length + k := ⟨i - h.length, by omega⟩
    rw [back_new] at q1
    rw [List.getElem?_append_right (by rw [r.len]; omega), r.len] at q2
    cases hb : b'[L.length + k]? with
    | none => rw [hb] at q1; cases q1
    | some o' =>
      rw [hb] at q1
      cases q1
      refine .inl ⟨L.length + k, o', ?_, hb, rfl⟩
      rw [List.getElem?_append_right (by rw [atL_length]; omega), atL_length, ← q2]
      congr 1; omega
/-- the same addresses are guarded, within and without -/
theorem bak_PP (r : RepA K w N Z H ρ h) (nd : L.Nodup) (e : sub h L L = some b) (hl : (atL ρ L ++ t).length = b'.length) {a : Addr} (m : PP (ρ ++ t) (back L h b') a) : PP (atL ρ L ++ t) b' a ∨ (PP ρ h a ∧ a ∉ atL ρ L) := by
  obtain ⟨i, o, e1, e2, d⟩ := m
  rcases bak_inv r nd e hl e2 e1 with ⟨j, o', h1, h2, h3⟩ | ⟨h1, h2, h3⟩
  · subst h3
    exact .inl ⟨j, o', h1, h2, by rw [← bakO_dead (L := L) (m := h.length)]; exact d⟩
  · exact .inr ⟨⟨i, o, h2, h1, d⟩, h3⟩
theorem bak_MM (r : RepA K w N Z H ρ h) (nd : L.Nodup) (e : sub h L L = some b) (hl : (atL ρ L ++ t).length = b'.length) (a : Addr) : MM Z (ρ ++ t) (back L h b') a ↔ MM (ZZ Z ρ h L) (atL ρ L ++ t) b' a := by
  have hl' : L.length ≤ b'.length := by rw [← hl, List.length_append, atL_length]; omega
  constructor
  · rintro (m | z)
    · rcases bak_PP r nd e hl m with m | m
      · exact .inl m
      · exact .inr (.inr m)
    · exact .inr (.inl z)
  · rintro (⟨j, o, e1, e2, d⟩ | z | ⟨⟨i, o, e1, e2, d⟩, na⟩)
    · exact .inl ⟨_, _, bak_at r e e1, bak_obj r nd e hl' e2, by rw [bakO_dead]; exact d⟩
    · exact .inr z
    · refine .inl ⟨i, o, pre_get ⟨t, rfl⟩ e1, ?_, d⟩
      rw [back_out (List.getElem?_eq_some_iff.mp e2).1 fun z => ?_]
      · exact e2
      · obtain ⟨j, hj⟩ := List.mem_iff_getElem?.mp z
        exact na (List.mem_of_getElem? (atL_get hj e1))
theorem bakW_rep {M M' : Addr → Prop} (s : ∀ a, M' a ↔ M a) (r : RepA K w N Z H ρ h) (e : sub h L L = some b) {x : W} {v : V} (q : RepW K w N (atL ρ L ++ t) H' M x v) : RepW K w N (ρ ++ t) H' M' (bakW L h.length x) v := by
  cases x with
  | c d => exact RepD.keep (P := fun _ => False) (P' := fun _ => False) (keep_eq (P := fun _ => False) s) q
  | l i =>
    obtain ⟨a, ea, ev⟩ := q
    exact ⟨a, bak_at r e ea, ev⟩
theorem bakF_rep {M M' : Addr → Prop} (s : ∀ a, M' a ↔ M a) (r : RepA K w N Z H ρ h) (e : sub h L L = some b) : ∀ {fs : List (Nat × W)} {vs : List (Str × V)}, RepWF K w N (atL ρ L ++ t) H' M fs vs → RepWF K w N (ρ ++ t) H' M' (bakF L h.length fs) vs
  | [], _, q => q
  | (_, _) :: _, _, ⟨v, vs', ev, q1, q2⟩ => ⟨v, vs', ev, bakW_rep s r e q1, bakF_rep s r e q2⟩
theorem bakO_rep {M M' : Addr → Prop} (s : ∀ a, M' a ↔ M a) (r : RepA K w N Z H ρ h) (e : sub h L L = some b) {o : O} {ho : HO} (q : RepO K w N (atL ρ L ++ t) H' M o ho) : RepO K w N (ρ ++ t) H' M' (bakO L h.length o) ho := by
  have k := keep_eq (H := H') (P := fun _ => False) s
  cases o with
  | ins c fs =>
    obtain ⟨dx, vs, ev, q⟩ := q
    exact ⟨dx, vs, ev, bakF_rep s r e q⟩
  | lst _ => obtain ⟨vs, ev, q⟩ := q; exact ⟨vs, ev, q.keep k⟩
  | dct _ _ => exact RepDc.keep k q
  | dctF _ _ => obtain ⟨ob, u, ev, q⟩ := q; exact ⟨ob, u, ev, q.keep k⟩
  | dead => trivial
theorem sub_PP (r : RepA K w N Z H ρ h) (e : sub h L L = some b) {a : Addr} (m : PP (atL ρ L) b a) : PP ρ h a ∧ a ∈ atL ρ L := by
  obtain ⟨i, o, e1, e2, d⟩ := m
  have hl : i < L.length := by rw [← atL_length ρ L]; exact (List.getElem?_eq_some_iff.mp e1).1
  have hL : L[i]? = some L[i] := List.getElem?_eq_some_iff.mpr ⟨hl, rfl⟩
  obtain ⟨o1, o2, g1, g2, g3⟩ := (sub_get e).2 i _ hL
  obtain ⟨a', h1, h2⟩ := sub_at r e hL
  rw [e1] at h2; cases h2
  rw [e2] at g3; cases g3
  exact ⟨⟨_, o1, h1, g1, by rw [← renO_dead g2]; exact d⟩, List.mem_of_getElem? e1⟩
/-- what the callee did, as the caller sees it -/
theorem back_ext (r : RepA K w N Z H ρ h) (nd : L.Nodup) (e : sub h L L = some b) {ρ' : List Addr} (x : Ext (ZZ Z ρ h L) H (atL ρ L) b H' ρ' b') (r' : RepA K w N (ZZ Z ρ h L) H' ρ' b') :
    ∃ t, ρ' = atL ρ L ++ t ∧ Ext Z H ρ h H' (ρ ++ t) (back L h b') ∧ RepA K w N Z H' (ρ ++ t) (back L h b') ∧ (∀ a, MM Z (ρ ++ t) (back L h b') a ↔ MM (ZZ Z ρ h L) ρ' b' a) := by
  obtain ⟨t, et⟩ := x.pre
  have fr := x.fresh t et
  subst et
  have hl : (atL ρ L ++ t).length = b'.length := r'.len
  have hm := bak_MM (Z := Z) r nd e hl
  have hl' : L.length ≤ b'.length := by rw [← hl, List.length_append, atL_length]; omega
  have x2 : Ext Z H ρ h H' (ρ ++ t) (back L h b') := by
    refine ⟨⟨fun a o h1 h2 => x.keep.keep a o h1 fun m => h2 (sub_PP r e m).1, fun a m => .inl m, fun a m => ?_, fun a m => ?_, x.keep.there⟩, ⟨t, rfl⟩, fun t' e' a ha => ?_⟩
    · rcases x.keep.new a ((hm a).mp m) with m | n
      · exact .inl ((MM_sub r e a).mp m)
      · exact .inr n
    · rcases bak_PP r nd e hl m with m | m
      · rcases x.keep.newP a m with m | n
        · exact .inl (sub_PP r e m).1
        · exact .inr n
      · exact .inl m.1
    · have : t' = t := (List.append_cancel_left e').symm
      subst this
      exact fr a ha
  refine ⟨t, rfl, x2, ⟨?_, ?_, fun a z => ?_, fun i o a e1 e2 => ?_⟩, hm⟩
  · rw [List.length_append, atL_length] at hl
    rw [back_length, List.length_append, r.len]; omega
  · refine List.nodup_append.mpr ⟨r.nd, (List.nodup_append.mp r'.nd).2.1, fun a ha c hc z => ?_⟩
    subst z
    obtain ⟨i, hi⟩ := List.mem_iff_getElem?.mp ha
    have hi' : i < h.length := by rw [← r.len]; exact (List.getElem?_eq_some_iff.mp hi).1
    obtain ⟨ho, q, _⟩ := r.obj i h[i] a (List.getElem?_eq_some_iff.mpr ⟨hi', rfl⟩) hi
    rw [fr a hc] at q; cases q
  · obtain ⟨⟨o, ho⟩, na⟩ := r.far a z
    refine ⟨x.keep.there a o ho, fun m => ?_⟩
    rcases List.mem_append.mp m with m | m
    · exact na m
    · rw [fr a m] at ho; cases ho
  · rcases bak_inv r nd e hl e1 e2 with ⟨j, o', h1, h2, h3⟩ | ⟨h1, h2, h3⟩
    · subst h3
      obtain ⟨ho, q1, q2⟩ := r'.obj j o' a h2 h1
      exact ⟨ho, q1, bakO_rep hm r e q2⟩
    · obtain ⟨ho, q1, q2⟩ := r.obj i o a h1 h2
      exact ⟨ho, x.keep.keep a ho q1 fun m => h3 (sub_PP r e m).2, q2.keep x2.keep x2.pre⟩
/-- a call: the callee is asked for what it sees -/
theorem callF_ok {R : Nat → List W → A → Res W} {f : Nat} {ws : List W} {vs : List V} {Q : VK} {E : XK} (r : RepA K w N Z H ρ h) (q : RepWs K w N ρ H (MM Z ρ h) ws vs) (p : PostG K w N xf Z (RW K w N) Q E H ρ h (callF R f ws h)) :
    ∃ (Z' : Addr → Prop) (ρ' : List Addr) (b : A) (us : List W), RepA K w N Z' H ρ' b ∧ RepWs K w N ρ' H (MM Z' ρ' b) us vs ∧ PostG K w N xf Z' (RW K w N) Q E H ρ' b (R f us b) := by
  have nd : (reach reachK h (locs ws) []).Nodup := reach_nodup _ _ _ _ List.nodup_nil
  generalize eL : reach reachK h (locs ws) [] = L at nd
  have p1 : PostG K w N xf Z (RW K w N) Q E H ρ h (ofOpt (sub h L L) fun b => ofOpt (renWs L ws) fun us => match R f us b with
    | .ok w b' => .ok (bakW L h.length w) (back L h b')
    | .err x d b' => .err x d (back L h b')
    | .stuck => .stuck) := by rw [← eL]; exact p
  obtain ⟨b, e, p2⟩ := PostG.some p1
  obtain ⟨us, eu, p3⟩ := PostG.some p2
  refine ⟨ZZ Z ρ h L, atL ρ L, b, us, sub_rep r nd e, renWs_rep (MM_sub r e) r e q eu, ?_⟩
  cases g : R f us b with
  | stuck => rw [g] at p3; exact p3.elim
  | ok u b' =>
    rw [g] at p3
    intro v H' ρ' x r' rv
    obtain ⟨t, et, x2, r2, hm⟩ := back_ext r nd e x r'
    subst et
    exact p3 v H' _ x2 r2 (bakW_rep hm r e rv)
  | err y d b' =>
    rw [g] at p3
    intro cls dd H' ρ' x r' rx
    obtain ⟨t, et, x2, r2, hm⟩ := back_ext r nd e x r'
    obtain ⟨e1, a, v, e2, e3, e4, e5⟩ := rx
    exact p3 cls dd H' _ x2 r2 ⟨e1, a, v, e2, e3, fun m => e4 ((hm a).mp m), RepD.keep (P := fun _ => False) (P' := fun _ => False) (keep_eq (P := fun _ => False) hm) e5⟩
/-! ### behind a body -/
theorem atL_app (ρ : List Addr) : ∀ (a c : List Nat), atL ρ (a ++ c) = atL ρ a ++ atL ρ c
  | [], c => rfl
  | n :: r, c => by show _ :: atL ρ (r ++ c) = _ :: (atL ρ r ++ atL ρ c); rw [atL_app ρ r c]
theorem atL_upto (ρ : List Addr) : ∀ (m : Nat), m ≤ ρ.length → atL ρ (upto m) = ρ.take m
  | 0, _ => rfl
  | m + 1, hm => by
    show atL ρ (upto m ++ [m]) = _
    rw [atL_app, atL_upto ρ m (by omega)]
    show _ ++ [(ρ[m]?).getD 0] = _
    rw [List.getElem?_eq_getElem (by omega), Option.getD_some, List.take_append_getElem]
theorem upto_mem : ∀ {m n : Nat}, n ∈ upto m ↔ n < m
  | 0, n => by simp [upto]
  | m + 1, n => by
    show n ∈ upto m ++ [m] ↔ _
    rw [List.mem_append, upto_mem, List.mem_singleton]; omega
theorem upto_nodup : ∀ m : Nat, (upto m).Nodup
  | 0 => List.nodup_nil
  | m + 1 => List.nodup_append.mpr ⟨upto_nodup m, by simp, fun a ha b hb z => by
    have : b = m := by simpa using hb
    have := upto_mem.mp ha
    omega⟩
/-- what no longer is reached is let go -/
theorem gc_ok {H0 : Hp} {ρ0 : List Addr} {h0 : A} {α β : Type} {R : RR α β} {Q : β → Hp → Prop} {E : XK} {x : W} {v : V} {f : W → A → Res α} (x0 : Ext Z H0 ρ0 h0 H ρ h) (r0 : ρ0.length = h0.length) (r : RepA K w N Z H ρ h) (q : RepW K w N ρ H (MM Z ρ h) x v) (p : PostG K w N xf Z R Q E H0 ρ0 h0 ((gc h0.length x h).bind f)) :
    ∃ (y : W) (b : A) (ρ' : List Addr), Ext Z H0 ρ0 h0 H ρ' b ∧ RepA K w N Z H ρ' b ∧ RepW K w N ρ' H (MM Z ρ' b) y v ∧ (∀ a, MM Z ρ' b a → MM Z ρ h a) ∧ PostG K w N xf Z R Q E H0 ρ0 h0 (f y b) := by
  have nd : (reach reachK h (locA (h.take h0.length) ++ locW x) (upto h0.length)).Nodup := reach_nodup _ _ _ _ (upto_nodup _)
  obtain ⟨s, es⟩ := reach_pre reachK h (locA (h.take h0.length) ++ locW x) (upto h0.length)
  generalize eL : reach reachK h (locA (h.take h0.length) ++ locW x) (upto h0.length) = L at nd es
  have p1 : PostG K w N xf Z R Q E H0 ρ0 h0 ((ofOpt (sub h L L) fun b => ofOpt (renW L x) fun w' => (.ok w' b : Res W)).bind f) := by rw [← eL]; exact p
  cases e : sub h L L with
  | none => rw [e] at p1; exact p1.elim
  | some b =>
    rw [e] at p1
    cases ey : renW L x with
    | none =>
      have p2 : PostG K w N xf Z R Q E H0 ρ0 h0 ((ofOpt (renW L x) fun w' => (.ok w' b : Res W)).bind f) := p1
      rw [ey] at p2; exact p2.elim
    | some y =>
      have p2 : PostG K w N xf Z R Q E H0 ρ0 h0 ((ofOpt (renW L x) fun w' => (.ok w' b : Res W)).bind f) := p1
      rw [ey] at p2
      have rs := sub_rep r nd e
      have hsub : ∀ a, MM Z (atL ρ L) b a → MM Z ρ h a := fun a m => by
        rcases m with m | z
        · exact .inl (sub_PP r e m).1
        · exact .inr z
      have hsub' : ∀ a, MM Z (atL ρ L) b a → MM (ZZ Z ρ h L) (atL ρ L) b a := fun a m => by
        rcases m with m | z
        · exact .inl m
        · exact .inr (.inl z)
      have kw : Keep H (fun _ => False) (MM (ZZ Z ρ h L) (atL ρ L) b) H (fun _ => False) (MM Z (atL ρ L) b) := ⟨fun _ _ e _ => e, fun _ f => f.elim, fun a m => .inl (hsub' a m), fun _ f => f.elim, fun _ o e => ⟨o, e⟩⟩
      obtain ⟨t0, et0⟩ := x0.pre
      have hle : h0.length ≤ ρ.length := by rw [et0, List.length_append, r0]; omega
      have etk : atL ρ (upto h0.length) = ρ0 := by rw [atL_upto ρ _ hle, et0, ← r0, List.take_left']; rfl
      have eat : atL ρ L = ρ0 ++ atL ρ s := by rw [es, atL_app, etk]
      refine ⟨y, b, atL ρ L, ⟨⟨x0.keep.keep, fun a m => .inl m, fun a m => x0.keep.new a (hsub a m), fun a m => x0.keep.newP a (sub_PP r e m).1, x0.keep.there⟩, ⟨_, eat⟩, fun t' e' a ha => ?_⟩, ⟨rs.len, rs.nd, fun a z => ⟨(r.far a z).1, (rs.far a (.inl z)).2⟩, fun i o a e1 e2 => ?_⟩, ?_, hsub, p2⟩
      · have : t' = atL ρ s := by rw [eat] at e'; exact (List.append_cancel_left e').symm
        subst this
        have nd' : (ρ0 ++ atL ρ s).Nodup := by rw [← eat]; exact rs.nd
        have hna : a ∉ ρ0 := fun z => (List.nodup_append.mp nd').2.2 a z a ha rfl
        have ha' : a ∈ atL ρ L := by rw [eat]; exact List.mem_append_right _ ha
        obtain ⟨i, n, h1, h2, h3⟩ := atL_mem r e ha'
        refine x0.fresh t0 et0 a ?_
        have : a ∈ ρ0 ++ t0 := by rw [← et0]; exact List.mem_of_getElem? h2
        rcases List.mem_append.mp this with z | z
        · exact absurd z hna
        · exact z
      · obtain ⟨ho, q1, q2⟩ := rs.obj i o a e1 e2
        exact ⟨ho, q1, q2.keep kw ⟨[], by simp⟩⟩
      · exact (renW_rep (MM_sub r e) r e q ey).keep kw ⟨[], by simp⟩
end
end B

set_option Elab.async false
set_option linter.all false
set_option maxRecDepth 100000
set_option maxHeartbeats 2000000
/-! Calls as expressions. Own work. -/
namespace B
open PySem PySem.Spec PyProof.Rows L2
section
variable {X : Cx} {CX : CXT} {k : Nat} {f C : Addr} {sp : Sp} {E : L2.St → XK} {x m : Str} {p pos apos : Pos} {e o : Expr} {es : List Expr} {ta : TE} {t : TA} {pins : List (Addr × Obj)} {σ : L2.St} {H : Hp} {s : Shared}
/-- the callee runs; what it lets out is wished for at the slots -/
theorem run_at {E : XK} {Q : VK} {us : List Value} {vs : List V} (F : FnR X.prog X.w X.K X.mg X.base CX k f sp) (hr : Room k X.A) (hx : PassesAt CX X σ E) (I : Inv X pins σ H s) (r : Vals vs us) (h : sp vs H Q E) :
    wpAny (model X.prog X.w) X.A (call (.ref f) us) (EP X pins σ Q) X.xe s := by
  refine wpAny_call (codeAny_mono (F X.A X.stack s H us vs Q E hr I.env0 r h) fun r s' hq => ?_)
  cases r with
  | error e => exact hx pins H s e s' I hq
  | ok fl =>
    cases fl with
    | ret u => exact I.after hq
    | next => exact False.elim hq
    | brk => exact False.elim hq
    | cont => exact False.elim hq
theorem pe_callAt (F : FnR X.prog X.w X.K X.mg X.base CX k f sp) (hr : Room k X.A) (hg : Gl X x) (hm : X.mg x = some (.ref f)) (hk : PySem.W.keepIn X.K (.ref f) = true) (hx : ∀ σ, PassesAt CX X σ (E σ))
    (ha : PA X (e :: es) t) (hdb : (x == ("__debug__" : Str)) = false) (he : starEach (e :: es) X.env = (false, eval e X.env) :: starEach es X.env) (hpl : (backTo pos (starEach es X.env)).any (·.1) = false) :
    PE X (.Call (.Name x p) (e :: es) [] pos) (tCallS sp E t) := by
  refine ⟨fun pins s σ H Q I h => ?_⟩
  refine wpAny_Call_Name_kw (ld_glob I hg hm ?_ hdb)
  refine PySem.W.callWith_K (h₀ := X.base) I.ok.mod.kin hk (thn (ha.run pos pins s σ H _ I h) fun us s1 ⟨vs, H1, I1, r, q⟩ => ⟨I1.kIn, ?_⟩) he hpl
  exact run_at F hr (hx σ) I1 r q
theorem pe_callAt0 (F : FnR X.prog X.w X.K X.mg X.base CX k f sp) (hr : Room k X.A) (hg : Gl X x) (hm : X.mg x = some (.ref f)) (hk : PySem.W.keepIn X.K (.ref f) = true) (hx : ∀ σ, PassesAt CX X σ (E σ))
    (hdb : (x == ("__debug__" : Str)) = false) : PE X (.Call (.Name x p) [] [] pos) (tCallS sp E tNil) := by
  refine ⟨fun pins s σ H Q I h => ?_⟩
  refine wpAny_Call_Name_kw (ld_glob I hg hm ?_ hdb)
  exact PySem.W.callWith_K0 I.kIn hk (run_at (us := []) F hr (hx σ) I .nil h)
/-- o.m(..): the class is seen when o is there -/
def tMethAt (X : Cx) (CX : CXT) (k : Nat) (m : Str) (E : L2.St → XK) (ta : TE) (t : TA) : TE := fun σ H Q => ta σ H fun x H1 => ∃ (a C dx : Addr) (fs : List (Str × V)) (f : Addr) (sp : Sp), x = .ref a ∧ H1 a = some (.ins C dx fs) ∧ fs.lookup m = none ∧ Cls X.K C ∧ Meth X.K C m f ∧
  FnR X.prog X.w X.K X.mg X.base CX k f sp ∧ t σ H1 fun vs H2 => sp (x :: vs) H2 Q (E σ)
theorem pe_methAt {pl : Sem Bool} (he : PE X o ta) (hr : Room k X.A) (hx : ∀ σ, PassesAt CX X σ (E σ)) (ha : PA X (e :: es) t)
    (hst : starEach (e :: es) X.env = (false, eval e X.env) :: starEach es X.env) (hpl : (backTo pos (starEach es X.env)).any (·.1) = false)
    (ht : eval (.Call (.Attribute o m apos) (e :: es) [] pos) X.env = (do
      let ov ← eval o X.env
      standAt apos.atName
      let (f, first) ← holding [ov] (getMethod ov m pl)
      callWith pos f first (backTo pos (starEach (e :: es) X.env)) (backToKw pos (keywordEach [] X.env)))) :
    PE X (.Call (.Attribute o m apos) (e :: es) [] pos) (tMethAt X CX k m E ta t) := by
  refine ⟨fun pins s σ H Q I h => ?_⟩
  refine PySem.W.methodCall_KW (pl := pl) (thn (he.run pins s σ H _ I h) fun u s1 ⟨x, H1, I1, rx, a, C, dx, fs, f, sp, ex, ea, l, c, hm, F, q⟩ => ?_) ht
  subst ex
  obtain rfl : u = Value.ref a := rx
  refine getmeth_ok I1 ea c hm l ?_
  refine PySem.W.callWith_K (first := [.ref a]) (h₀ := X.base) I.ok.mod.kin hm.kp (thn (ha.run pos pins s1 σ H1 _ I1 q) fun us s2 ⟨vs, H2, I2, r, q2⟩ => ⟨I2.kIn, ?_⟩) hst hpl
  exact run_at (us := .ref a :: us) (vs := .ref a :: vs) F hr (hx σ) I2 (.cons rfl r) q2
theorem pe_methAt0 {pl : Sem Bool} (he : PE X o ta) (hr : Room k X.A) (hx : ∀ σ, PassesAt CX X σ (E σ))
    (ht : eval (.Call (.Attribute o m apos) [] [] pos) X.env = (do
      let ov ← eval o X.env
      standAt apos.atName
      let (f, first) ← holding [ov] (getMethod ov m pl)
      callWith pos f first (backTo pos (starEach [] X.env)) (backToKw pos (keywordEach [] X.env)))) :
    PE X (.Call (.Attribute o m apos) [] [] pos) (tMethAt X CX k m E ta tNil) := by
  refine ⟨fun pins s σ H Q I h => ?_⟩
  refine PySem.W.methodCall_KW (pl := pl) (thn (he.run pins s σ H _ I h) fun u s1 ⟨x, H1, I1, rx, a, C, dx, fs, f, sp, ex, ea, l, c, hm, F, q⟩ => ?_) ht
  subst ex
  obtain rfl : u = Value.ref a := rx
  refine getmeth_ok I1 ea c hm l ?_
  exact PySem.W.callWith_K0 (first := [.ref a]) I1.kIn hm.kp (run_at (us := [.ref a]) (vs := [.ref a]) F hr (hx σ) I1 (.cons rfl .nil) q)
def tMakeAt (C : Addr) (sp : Sp) (E : L2.St → XK) (t : TA) : TE := fun σ H Q => t σ H fun vs H1 => ∀ x dx, H1 x = none → H1 dx = none → dx ≠ x →
  sp (V.ref x :: vs) (upd (upd H1 dx (.own x)) x (.ins C dx [])) (fun v H2 => v = .non ∧ Q (.ref x) H2) (E σ)
theorem run_makeAt {E : XK} {Q : VK} {us : List Value} {vs : List V} (M : Mk X.K C f) (F : FnR X.prog X.w X.K X.mg X.base CX k f sp) (hr : Room (k + 1) X.A) (hx : PassesAt CX X σ E) (I : Inv X pins σ H s) (r : Vals vs us)
    (h : ∀ x dx, H x = none → H dx = none → dx ≠ x → sp (V.ref x :: vs) (upd (upd H dx (.own x)) x (.ins C dx [])) (fun v H2 => v = .non ∧ Q (.ref x) H2) E) :
    wpAny (model X.prog X.w) X.A (call (.ref C) us) (EP X pins σ Q) X.xe s := by
  have hq := h (s.heap.objs.size + 1) s.heap.objs.size (I.hok.fresh (Nat.le_succ _)) (I.hok.fresh (Nat.le_refl _)) (Nat.ne_of_lt (Nat.lt_succ_self _))
  have I2 := Inv.made (C := C) I
  refine wpAny_call (make_map (f := f) I.kIn M.makes M.init (beq_iff_eq.mp M.fn) (codeAny_mono (F _ X.stack _ _ (Value.ref (s.heap.objs.size + 1) :: us) _ _ E (hr.make C us []) (I2.env0.make C us []) (Paired.cons (show RelV (V.ref (s.heap.objs.size + 1)) (Value.ref (s.heap.objs.size + 1)) from rfl) r) hq) fun r s' hq' => ?_))
  cases r with
  | error e => exact hx pins _ _ e s' I2 hq'
  | ok fl =>
    cases fl with
    | ret u =>
      obtain ⟨v, H', I3, rv, ev, q3⟩ := I2.after hq'
      subst ev
      exact ⟨rv, ⟨V.ref (s.heap.objs.size + 1), H', I3, rfl, q3⟩⟩
    | next => exact False.elim hq'
    | brk => exact False.elim hq'
    | cont => exact False.elim hq'
theorem pe_makeAt (M : Mk X.K C f) (F : FnR X.prog X.w X.K X.mg X.base CX k f sp) (hr : Room (k + 1) X.A) (hg : Gl X x) (hm : X.mg x = some (.ref C)) (hx : ∀ σ, PassesAt CX X σ (E σ)) (ha : PA X (e :: es) t) (hdb : (x == ("__debug__" : Str)) = false)
    (he : starEach (e :: es) X.env = (false, eval e X.env) :: starEach es X.env) (hpl : (backTo pos (starEach es X.env)).any (·.1) = false) : PE X (.Call (.Name x p) (e :: es) [] pos) (tMakeAt C sp E t) := by
  refine ⟨fun pins s σ H Q I h => ?_⟩
  refine wpAny_Call_Name_kw (ld_glob I hg hm ?_ hdb)
  refine PySem.W.callWith_K (h₀ := X.base) I.ok.mod.kin M.kp (thn (ha.run pos pins s σ H _ I h) fun us s1 ⟨vs, H1, I1, r, q⟩ => ⟨I1.kIn, ?_⟩) he hpl
  exact run_makeAt M F hr (hx σ) I1 r q
theorem pe_makeAt0 (M : Mk X.K C f) (F : FnR X.prog X.w X.K X.mg X.base CX k f sp) (hr : Room (k + 1) X.A) (hg : Gl X x) (hm : X.mg x = some (.ref C)) (hx : ∀ σ, PassesAt CX X σ (E σ)) (hdb : (x == ("__debug__" : Str)) = false) :
    PE X (.Call (.Name x p) [] [] pos) (tMakeAt C sp E tNil) := by
  refine ⟨fun pins s σ H Q I h => ?_⟩
  refine wpAny_Call_Name_kw (ld_glob I hg hm ?_ hdb)
  exact PySem.W.callWith_K0 I.kIn M.kp (run_makeAt (us := []) M F hr (hx σ) I .nil h)
end

/-! ### what the own defs promise -/
section
variable (K : PySem.W.Frag) (w : World) (N : Nm) (xf : Nat → Str)
def spF (R : List W → A → Res W) : Sp := fun vs H Q E => ∃ (Z : Addr → Prop) (ρ : List Addr) (h : A) (ws : List W), RepA K w N Z H ρ h ∧ RepWs K w N ρ H (MM Z ρ h) ws vs ∧ PostG K w N xf Z (RW K w N) Q E H ρ h (R ws h)
end
/-- how an exception lies behind a call: whatever its context (true), or with the context None -/
def cxm (P : Program) (w : World) : Bool → CXT
  | true => L2.CX P w
  | false => L2N.CX P w
def TakesM (X : Cx) (Wx : WX) : Bool → Prop
  | true => L2.Takes X Wx
  | false => L2N.Takes X Wx
theorem cx_up {P : Program} {w : World} {outer : List PySem.Env} {H : Hp} {s : Shared} {E : XK} {u : Value} {s' : Shared} (h : L2N.CX P w outer H s E u s') : L2.CX P w outer H s E u s' := by
  obtain ⟨a, B, H', cls, d, e, fl, r⟩ := h
  exact ⟨a, B, H', cls, d, e, L2H.flyingZ_imp (fun o z => z.zc) fl, r⟩
theorem fnR_up {P : Program} {w : World} {K : PySem.W.Frag} {mg : Str → Option Value} {base : Heap} {k : Nat} {f : Addr} {sp : Sp} (F : FnR P w K mg base (L2N.CX P w) k f sp) : FnR P w K mg base (L2.CX P w) k f sp := by
  intro A outer s H us vs Q E hr e0 r h
  refine codeAny_mono (F A outer s H us vs Q E hr e0 r h) fun r s' hq => ?_
  cases r with
  | error e => exact cx_up hq
  | ok fl => cases fl <;> exact hq
theorem fnR_mode {P : Program} {w : World} {K : PySem.W.Frag} {mg : Str → Option Value} {base : Heap} {k : Nat} {f : Addr} {sp : Sp} {a b : Bool} (h : a = true → b = true) (F : FnR P w K mg base (cxm P w a) k f sp) : FnR P w K mg base (cxm P w b) k f sp := by
  cases a with
  | true => rw [h rfl]; exact F
  | false =>
    cases b with
    | true => exact fnR_up F
    | false => exact F
theorem sky_up {B : Heap} {l : List PySem.Env} {a : Addr} {cls : Value} {d : Option Addr} {L : Addr} {h : Heap} (x : L2.Sky B l a (L2N.Zn cls d) L h) : L2.Sky B l a (Zc cls d) L h := by
  rcases x with ⟨h1, h2, h3, oe, vs, h4, h5, h6⟩ | x | x
  · exact .inl ⟨h1, h2, h3, oe, vs, h4, h5.zc, h6⟩
  · exact .inr (.inl (L2H.flyingZ_imp (fun o z => z.zc) x))
  · exact .inr (.inr ⟨x.1, x.2.1, x.2.2.1, L2H.tracedZ_imp (fun o z => z.zc) x.2.2.2⟩)
theorem takes_down {X : Cx} {Wx : WX} (t : L2.Takes X Wx) : L2N.Takes X Wx := fun u s' ⟨a, B, sI, pins, σ, H, cls, d, e, I, nb, up, sky, r⟩ => t u s' ⟨a, B, sI, pins, σ, H, cls, d, e, I, nb, up, sky_up sky, r⟩
theorem TakesM.down {X : Cx} {Wx : WX} {mo : Bool} (t : TakesM X Wx mo) : L2N.Takes X Wx := by
  cases mo with
  | true => exact takes_down t
  | false => exact t
/-- the defs as they stand; k: the room that they want -/
structure FT (P : Program) (w : World) (K : PySem.W.Frag) (mg : Str → Option Value) (base : Heap) (N : Nm) (xf : Nat → Str) (nF : Nat) (R : Nat → List W → A → Res W) (k : Nat) : Prop where
  fn : ∀ f, f < nF → FnR P w K mg base (cxm P w (N.md f)) k (N.fn f) (spF K w N xf (R f))
  kp : ∀ f, f < nF → PySem.W.keepIn K (.ref (N.fn f)) = true
/-- what is known around a body: its room, the defs that it calls, the wish; mo: whether it may let out exceptions with a context -/
structure BX (X : Cx) (N : Nm) (xf : Nat → Str) (nF : Nat) (G : Gx) (Wx : WX) (k : Nat) (mo : Bool) : Prop where
  ft : FT X.prog X.w X.K X.mg X.base N xf nF G.R (k + 1)
  fm : FT X.prog X.w X.K X.mg X.base N xf nF G.Rm k
  room : Room (k + 1) X.A
  tk : TakesM X Wx mo
section
variable {X : Cx} {N : Nm} {xf : Nat → Str} {G : Gx} {Wx : WX} {Z : Addr → Prop} {nF k : Nat} {mo : Bool}
theorem BX.at (b : BX X N xf nF G Wx k mo) (σ : L2.St) : PassesAt (cxm X.prog X.w mo) X σ (WE Wx σ) := by
  have t := b.tk
  cases mo with
  | true => exact L2.passAt t σ
  | false => exact L2N.passAt t σ
theorem BX.fn (b : BX X N xf nF G Wx k mo) {f : Nat} (hf : f < nF) (hm : N.md f = true → mo = true) : FnR X.prog X.w X.K X.mg X.base (cxm X.prog X.w mo) (k + 1) (N.fn f) (spF X.K X.w N xf (G.R f)) := fnR_mode hm (b.ft.fn f hf)
theorem BX.fnm (b : BX X N xf nF G Wx k mo) {f : Nat} (hf : f < nF) (hm : N.md f = true → mo = true) : FnR X.prog X.w X.K X.mg X.base (cxm X.prog X.w mo) k (N.fn f) (spF X.K X.w N xf (G.Rm f)) := fnR_mode hm (b.fm.fn f hf)
/-- what is called -/
theorem call_post {R : Nat → List W → A → Res W} {f : Nat} {σV : L2.St} {H : Hp} {Q : VK} {ρ : List Addr} {h : A} {ws : List W} {vs : List V} (r : RepA X.K X.w N Z H ρ h) (q : RepWs X.K X.w N ρ H (MM Z ρ h) ws vs) (p : PostOf X N xf Z σV Wx (RX X N) Q H ρ h (callF R f ws h)) :
    spF X.K X.w N xf (R f) vs H Q (WE Wx σV) := by
  obtain ⟨Z', ρ', b, us, r', q', p'⟩ := callF_ok r q p
  exact ⟨Z', ρ', b, us, r', q', p'⟩
theorem s_callT {f : Nat} {es : List E} {σV : L2.St} {H : Hp} {Q : VK} (p : tEv X N xf G Wx (.call f es) σV H Q) : tCallS (spF X.K X.w N xf (G.R f)) (WE Wx) (tEvs X N xf G Wx es) σV H Q := by
  obtain ⟨Z, σ, ρ, h, r, re, p⟩ := p
  refine tR_at r re (f := evs G es) (g := fun ws h1 => callF G.R f ws h1) p fun ws vs H1 ρ1 h1 e1 x1 r1 re1 rx p1 => ?_
  exact call_post r1 rx p1
theorem s_call {f : Nat} {x : Str} {e0 : Expr} {es0 : List Expr} {es : List E} {p pos : Pos} (b : BX X N xf nF G Wx k mo) (hf : f < nF) (hmd : N.md f = true → mo = true) (hg : Gl X x) (hm : X.mg x = some (.ref (N.fn f))) (ha : PA X (e0 :: es0) (tEvs X N xf G Wx es)) (hdb : (x == ("__debug__" : Str)) = false)
    (he : starEach (e0 :: es0) X.env = (false, eval e0 X.env) :: starEach es0 X.env) (hpl : (backTo pos (starEach es0 X.env)).any (·.1) = false) : PE X (.Call (.Name x p) (e0 :: es0) [] pos) (tEv X N xf G Wx (.call f es)) :=
  PE.imp (pe_callAt (b.fn hf hmd) b.room hg hm (b.ft.kp f hf) b.at ha hdb he hpl) fun σ H Q p => s_callT p
theorem tEvs_nil {σV : L2.St} {H : Hp} {Q : List V → Hp → Prop} (p : tEvs X N xf G Wx [] σV H Q) : Q [] H := by
  obtain ⟨Z, σ, ρ, h, r, re, p⟩ := p
  exact tR_ok (R := RXs X N) p r rfl
theorem s_call0 {f : Nat} {x : Str} {p pos : Pos} (b : BX X N xf nF G Wx k mo) (hf : f < nF) (hmd : N.md f = true → mo = true) (hg : Gl X x) (hm : X.mg x = some (.ref (N.fn f))) (hdb : (x == ("__debug__" : Str)) = false) : PE X (.Call (.Name x p) [] [] pos) (tEv X N xf G Wx (.call f [])) :=
  PE.imp (pe_callAt0 (b.fn hf hmd) b.room hg hm (b.ft.kp f hf) b.at hdb) fun σ H Q p => tEvs_nil (s_callT p)
/-! ### methods -/
/-- which methods the classes have -/
structure MF (K : PySem.W.Frag) (N : Nm) (G : Gx) (nF nM : Nat) : Prop where
  cls : ∀ c, Cls K (N.cls c)
  mt : ∀ c cl m f, G.C c = some cl → m < nM → assocN cl.mt m = some f → f < nF ∧ Meth K (N.cls c) (N.mtn m) (N.fn f)
/-- the method m is of a mode that may be called here -/
def MdOk (G : Gx) (N : Nm) (m : Nat) (mo : Bool) : Prop := ∀ c cl f, G.C c = some cl → assocN cl.mt m = some f → N.md f = true → mo = true
theorem clsOf_ok {K : PySem.W.Frag} {w : World} {H : Hp} {ρ : List Addr} {h : A} {x : W} {v : V} {c : Nat} (ra : RepA K w N Z H ρ h) (q : RepW K w N ρ H (MM Z ρ h) x v) (e : clsOf h x = some c) : ∃ a dx fs, v = .ref a ∧ H a = some (.ins (N.cls c) dx fs) ∧ ∀ m, fs.lookup (N.mtn m) = none := by
  have nF1 : ∀ (fs : List (Nat × D)) (vs : List (Str × V)) (m : Nat), RepFs K w N H (MM Z ρ h) fs vs → vs.lookup (N.mtn m) = none := fun fs => by
    induction fs with
    | nil => intro vs m q; unfold RepFs at q; subst q; rfl
    | cons p r ih =>
      intro vs m q
      obtain ⟨f, d⟩ := p
      unfold RepFs at q
      obtain ⟨v, vs', ev, _, b⟩ := q
      subst ev
      have : (N.mtn m == N.at_ f) = false := by simpa using fun z => N.far f m z.symm
      simp only [List.lookup, this]
      exact ih vs' m b
  have nF2 : ∀ (fs : List (Nat × W)) (vs : List (Str × V)) (m : Nat), RepWF K w N ρ H (MM Z ρ h) fs vs → vs.lookup (N.mtn m) = none := fun fs => by
    induction fs with
    | nil => intro vs m q; cases q; rfl
    | cons p r ih =>
      intro vs m q
      obtain ⟨f, d⟩ := p
      obtain ⟨v, vs', ev, _, b⟩ := q
      subst ev
      have : (N.mtn m == N.at_ f) = false := by simpa using fun z => N.far f m z.symm
      simp only [List.lookup, this]
      exact ih vs' m b
  cases x with
  | c d =>
    cases d with
    | ins c' fs =>
      have q' : RepD K w N H (MM Z ρ h) (.ins c' fs) v := q
      cases e
      unfold RepD at q'
      obtain ⟨a, dx, vs, ev, r, _, qf⟩ := q'
      exact ⟨a, dx, vs, ev, r, fun m => nF1 fs vs m qf⟩
    | _ => cases e
  | l n =>
    obtain ⟨a, ea, ev⟩ := q
    have e' : (match h[n]? with
      | some (.ins c _) => some c
      | _ => none) = some c := e
    cases q1 : h[n]? with
    | none => rw [q1] at e'; cases e'
    | some o =>
      rw [q1] at e'
      obtain ⟨ho, h1, h2⟩ := ra.obj n _ a q1 ea
      cases o with
      | ins c' fs =>
        cases e'
        obtain ⟨dx, vs, rfl, qf⟩ := h2
        exact ⟨a, dx, vs, ev, h1, fun m => nF2 fs vs m qf⟩
      | _ => cases e'
theorem methOf_ok {nM : Nat} {K : PySem.W.Frag} {w : World} {H : Hp} {ρ : List Addr} {h : A} {x : W} {v : V} {m f : Nat} (F : MF K N G nF nM) (hd : MdOk G N m mo) (hm : m < nM) (ra : RepA K w N Z H ρ h) (q : RepW K w N ρ H (MM Z ρ h) x v) (e : methOf G m x h = some f) :
    ∃ a c dx fs, v = .ref a ∧ H a = some (.ins (N.cls c) dx fs) ∧ fs.lookup (N.mtn m) = none ∧ (f < nF ∧ (N.md f = true → mo = true)) ∧ Meth K (N.cls c) (N.mtn m) (N.fn f) := by
  obtain ⟨c, e1, e2⟩ := Option.bind_eq_some_iff.mp e
  obtain ⟨cl, e3, e4⟩ := Option.bind_eq_some_iff.mp e2
  obtain ⟨a, dx, fs, h1, h2, h3⟩ := clsOf_ok ra q e1
  obtain ⟨h4, h5⟩ := F.mt c cl m f e3 hm e4
  exact ⟨a, c, dx, fs, h1, h2, h3 m, ⟨h4, hd c cl f e3 e4⟩, h5⟩
theorem s_mtT {nM m : Nat} {o : E} {es : List E} {σV : L2.St} {H : Hp} {Q : VK} (b : BX X N xf nF G Wx k mo) (F : MF X.K N G nF nM) (hd : MdOk G N m mo) (hm : m < nM) (p : tEv X N xf G Wx (.mt m o es) σV H Q) : tMethAt X (cxm X.prog X.w mo) (k + 1) (N.mtn m) (WE Wx) (tEv X N xf G Wx o) (tEvs X N xf G Wx es) σV H Q := by
  obtain ⟨Z, σ, ρ, h, r, re, p⟩ := p
  refine tR_at r re (f := ev G o) (g := fun x h1 => ofOpt (methOf G m x h1) fun f => (evs G es σ h1).bind fun ws h2 => callF G.R f (x :: ws) h2) p fun x v H1 ρ1 h1 e1 x1 r1 re1 rx p1 => ?_
  obtain ⟨f, ef, p2⟩ := PostG.some p1
  obtain ⟨a, c, dx, fs, h1, h2, h3, h4, h5⟩ := methOf_ok F hd hm r1 rx ef
  refine ⟨a, N.cls c, dx, fs, N.fn f, spF X.K X.w N xf (G.R f), h1, h2, h3, F.cls c, h5, b.fn h4.1 h4.2, ?_⟩
  refine tR_at r1 re1 (f := evs G es) (g := fun ws h2 => callF G.R f (x :: ws) h2) p2 fun ws vs H2 ρ2 h2' e2 x2 r2 re2 rws p3 => ?_
  exact call_post (ws := x :: ws) r2 ⟨v, vs, rfl, rx.keep x2.keep x2.pre, rws⟩ p3
theorem s_mt {nM m : Nat} {o0 e0 : Expr} {es0 : List Expr} {o : E} {es : List E} {apos pos : Pos} {pl : Sem Bool} (b : BX X N xf nF G Wx k mo) (F : MF X.K N G nF nM) (hd : MdOk G N m mo) (hm : m < nM) (ho : PE X o0 (tEv X N xf G Wx o)) (ha : PA X (e0 :: es0) (tEvs X N xf G Wx es))
    (hst : starEach (e0 :: es0) X.env = (false, eval e0 X.env) :: starEach es0 X.env) (hpl : (backTo pos (starEach es0 X.env)).any (·.1) = false)
    (ht : eval (.Call (.Attribute o0 (N.mtn m) apos) (e0 :: es0) [] pos) X.env = (do
      let ov ← eval o0 X.env
      standAt apos.atName
      let (f, first) ← holding [ov] (getMethod ov (N.mtn m) pl)
      callWith pos f first (backTo pos (starEach (e0 :: es0) X.env)) (backToKw pos (keywordEach [] X.env)))) :
    PE X (.Call (.Attribute o0 (N.mtn m) apos) (e0 :: es0) [] pos) (tEv X N xf G Wx (.mt m o es)) :=
  PE.imp (pe_methAt ho b.room b.at ha hst hpl ht) fun σ H Q p => s_mtT b F hd hm p
theorem s_mt0 {nM m : Nat} {o0 : Expr} {o : E} {apos pos : Pos} {pl : Sem Bool} (b : BX X N xf nF G Wx k mo) (F : MF X.K N G nF nM) (hd : MdOk G N m mo) (hm : m < nM) (ho : PE X o0 (tEv X N xf G Wx o))
    (ht : eval (.Call (.Attribute o0 (N.mtn m) apos) [] [] pos) X.env = (do
      let ov ← eval o0 X.env
      standAt apos.atName
      let (f, first) ← holding [ov] (getMethod ov (N.mtn m) pl)
      callWith pos f first (backTo pos (starEach [] X.env)) (backToKw pos (keywordEach [] X.env)))) :
    PE X (.Call (.Attribute o0 (N.mtn m) apos) [] [] pos) (tEv X N xf G Wx (.mt m o [])) :=
  PE.imp (pe_methAt0 ho b.room b.at ht) fun σ H Q p => by
    obtain ⟨Z, σ', ρ, h, r, re, p⟩ := s_mtT b F hd hm p
    exact ⟨Z, σ', ρ, h, r, re, PostG.mono p fun v H' ⟨a, C, dx, fs, f, sp, h1, h2, h3, h4, h5, h6, h7⟩ => ⟨a, C, dx, fs, f, sp, h1, h2, h3, h4, h5, h6, tEvs_nil h7⟩⟩
/-! ### new instances -/
theorem s_mkT {c : Nat} {cl : Cl} {f : Nat} {es : List E} {σV : L2.St} {H : Hp} {Q : VK} (hc : G.C c = some cl) (hi : cl.init = some f) (p : tEv X N xf G Wx (.mk c es) σV H Q) : tMakeAt (N.cls c) (spF X.K X.w N xf (G.Rm f)) (WE Wx) (tEvs X N xf G Wx es) σV H Q := by
  obtain ⟨Z, σ, ρ, h, r, re, p⟩ := p
  refine tR_at r re (f := evs G es) (g := fun ws h1 => make G c ws h1) p fun ws vs H1 ρ1 h1 e1 x1 r1 re1 rws p1 => ?_
  intro x dx nx nd ne
  have e : make G c ws h1 = ((callF G.Rm f (.l h1.length :: ws) (h1 ++ [.ins c []])).bind fun u h2 => must (isNon u) (match cl.fz with
    | true => (freeze h2 (.l h1.length)).bind fun d h3 => .ok (.c d) h3
    | false => .ok (.l h1.length) h2)) := by
    show (ofOpt (G.C c) fun cl => ofOpt cl.init fun f => _) = _
    rw [hc]
    show (ofOpt cl.init fun f => _) = _
    rw [hi]
    rfl
  rw [e] at p1
  have nx' : (upd H1 dx (.own x)) x = none := by rw [upd_ne (fun z => ne z.symm)]; exact nx
  have r2 := r1.alloc (o := .own x) nd
  have x2 : Ext Z H1 ρ1 h1 (upd H1 dx (.own x)) ρ1 h1 := Ext.alloc nd
  have x3 : Ext Z (upd H1 dx (.own x)) ρ1 h1 (upd (upd H1 dx (.own x)) x (.ins (N.cls c) dx [])) (ρ1 ++ [x]) (h1 ++ [.ins c []]) := Ext.push r2.len nx'
  have r3 := r2.push (ho := .ins (N.cls c) dx []) (o := .ins c []) nx' ⟨dx, [], rfl, rfl⟩
  have x4 := x2.trans x3
  have hx : (ρ1 ++ [x])[h1.length]? = some x := by rw [← r1.len]; simp
  refine call_post (ws := .l h1.length :: ws) r3 ⟨_, vs, rfl, ⟨x, hx, rfl⟩, rws.keep x4.keep x4.pre⟩ ?_
  refine PostG.mono (PostG.split (R := RX X N) (PostG.ext x4 p1)) fun v H2 ⟨u, h2, ρ2, e2, x5, r5, ru, p5⟩ => ?_
  obtain ⟨hu, p6⟩ := PostG.must p5
  have hu' : u = .c .non := by
    cases u with
    | l n => cases hu
    | c d => cases d <;> first | rfl | cases hu
  subst hu'
  have ru' : RepD X.K X.w N H2 (MM Z ρ2 h2) .non v := ru
  refine ⟨by simpa only [RepD] using ru', ?_⟩
  have hx2 : RepW X.K X.w N ρ2 H2 (MM Z ρ2 h2) (.l h1.length) (.ref x) := ⟨x, pre_get x5.pre hx, rfl⟩
  cases hz : cl.fz with
  | false =>
    rw [hz] at p6
    exact tR_ok p6 r5 hx2
  | true =>
    rw [hz] at p6
    obtain ⟨d, h3, x6, r6, d6, p7⟩ := freeze_ok r5 hx2 p6
    exact tR_ok p7 r6 d6
/-- the classes that are made -/
structure MkF (X : Cx) (N : Nm) (G : Gx) (nF : Nat) (mo : Bool) (c : Nat) (cl : Cl) (f : Nat) : Prop where
  md : N.md f = true → mo = true
  at_ : G.C c = some cl
  init : cl.init = some f
  lt : f < nF
  made : Mk X.K (N.cls c) (N.fn f)
theorem s_mk {c f : Nat} {cl : Cl} {x : Str} {e0 : Expr} {es0 : List Expr} {es : List E} {p pos : Pos} (b : BX X N xf nF G Wx k mo) (F : MkF X N G nF mo c cl f) (hg : Gl X x) (hm : X.mg x = some (.ref (N.cls c))) (ha : PA X (e0 :: es0) (tEvs X N xf G Wx es)) (hdb : (x == ("__debug__" : Str)) = false)
    (he : starEach (e0 :: es0) X.env = (false, eval e0 X.env) :: starEach es0 X.env) (hpl : (backTo pos (starEach es0 X.env)).any (·.1) = false) : PE X (.Call (.Name x p) (e0 :: es0) [] pos) (tEv X N xf G Wx (.mk c es)) :=
  PE.imp (pe_makeAt F.made (b.fnm F.lt F.md) b.room hg hm b.at ha hdb he hpl) fun σ H Q p => s_mkT F.at_ F.init p
theorem s_mk0 {c f : Nat} {cl : Cl} {x : Str} {p pos : Pos} (b : BX X N xf nF G Wx k mo) (F : MkF X N G nF mo c cl f) (hg : Gl X x) (hm : X.mg x = some (.ref (N.cls c))) (hdb : (x == ("__debug__" : Str)) = false) : PE X (.Call (.Name x p) [] [] pos) (tEv X N xf G Wx (.mk c [])) :=
  PE.imp (pe_makeAt0 F.made (b.fnm F.lt F.md) b.room hg hm b.at hdb) fun σ H Q p => tEvs_nil (s_mkT F.at_ F.init p)
end
end B

set_option Elab.async false
set_option linter.all false
set_option maxRecDepth 100000
set_option maxHeartbeats 2000000
/-! == and != where an own class tells it. Own work. -/
namespace B
open PySem PySem.Spec PyProof.Rows L2
section
variable {M : Model} {prog : Program} {w : World} {A : Around} {E : Value → Shared → Prop} {s : Shared} {K : PySem.W.Frag} {x C f L : Addr} {ox : Obj} {od : Option Obj} {h₀ : Heap} {m : Str → Option Value} {b tb : Value}
theorem ifBound_objNe {args : List Value} {Q : Option Value → Shared → Prop} (X : K.In s.heap) (I : PySem.W.InstAt s.heap x ox C od) (hs : PySem.W.findIn K (.ref C) "__ne__" = some (some (.builtin "object.__ne__")))
    (h : wpAny M A (call (.builtin "object.__ne__") (.ref x :: args)) (fun v => Q (some v)) E s) : wpAny M A (callSpecialIfBound? (.ref x) "__ne__" args) Q E s := by
  simp only [callSpecialIfBound?, bindSpecialIfBound?]
  refine wpAny_holding (wpAny_bind (wpAny_bind (wpAny_bind (I.type.here ((PySem.W.looks_findIn X hs).here ?_)))))
  refine wpAny_bind (wpAny_askSetting (wpAny_ite ?_))
  have fin : wpAny M A (call (.builtin "object.__ne__") ([.ref x] ++ args) >>= fun v => pure (some v)) Q E s := wpAny_bind (wpAny_mono h (fun v s' h' => wpAny_pure h') fun _ _ h' => h')
  split
  · exact wpAny_bind (wpAny_of_eq (F.cmp_object.ne.bind _) (wpAny_pure (by exact fin)))
  · exact wpAny_tryCatch (wpAny_bind (wpAny_of_eq (F.cmp_object.ne.bind _) (wpAny_pure (by exact fin))))
theorem entry_ne {Q : Fin → Shared → Prop} (hu : A.units < cLine) (X : K.In s.heap) (I : PySem.W.InstAt s.heap x ox C od) (hs : PySem.W.findIn K (.ref C) "__eq__" = some (some (.ref f))) (hf : PySem.W.isFn K (.ref f) = true)
    (h : wpAny M A (call (.ref f) [.ref x, b]) (fun v s' => ∃ r, v = .bool r ∧ Q (.done (.ret (.bool (!r)))) s') E s) : wpAny M A (Builtin.«object.__ne__» ⟨[.ref x, b], []⟩) Q E s := by
  unfold Builtin.«object.__ne__»
  repeat (first
    | with_reducible refine wpAny_cRoomFor hu ?_
    | (refine wpAny_bind (m := callSpecialIfBound? (.ref x) (Str.ofString "__eq__") [b])
        (PySem.W.ifBound_K X I hs hf (wpAny_mono h (fun r s' hr => by
          obtain ⟨b, rfl, hq⟩ := hr
          repeat (first | exact hq | exact wpAny_pure hq | exact wpAny_truthy_bool hq | (refine wpAny_bind (m := truthy (.bool _)) (wpAny_truthy_bool ?_)) | wp_step)) fun _ _ e => e)))
    | wp_step)
theorem rc_ne {Q : Value → Shared → Prop} (hu : A.units + 1 < cLine) (X : K.In s.heap) (I : PySem.W.InstAt s.heap x ox C od) (hb : PySem.W.Looks (model prog w) s.heap (typeOf b) tb) (hn : PySem.W.notFirst K C tb = true)
    (hs : PySem.W.findIn K (.ref C) "__eq__" = some (some (.ref f))) (hf : PySem.W.isFn K (.ref f) = true) (hne : PySem.W.findIn K (.ref C) "__ne__" = some (some (.builtin "object.__ne__"))) (hm : PySem.W.mroIn K C (.type "object") = some true)
    (h : wpAny (model prog w) A.in1 (call (.ref f) [.ref x, b]) (fun v s' => ∃ r, v = .bool r ∧ Q (.bool (!r)) s') E s) : wpAny (model prog w) A (richCompare .NotEq (.ref x) b) Q E s := by
  have one : wpAny (model prog w) A (tryCompare (.ref x) "__ne__" b) (fun r s' => ∃ v, r = some v ∧ Q v s') E s := by
    unfold tryCompare
    refine wpAny_bind (ifBound_objNe X I hne (wpAny_call (codeAny_call_builtin F.cmp_object.ne.plain F.cmpEntry_ne (PySem.W.check_slot F.cmpKind_ne F.cmpSplit_ne (I.type.andThen (PySem.W.looks_mroIn X hm)) (F.cmpArgs_ne _ _)
      (entry_ne (A := A.in1) hu X I hs hf (wpAny_mono h (fun v s' hv => ?_) fun _ _ e => e))))))
    obtain ⟨r, rfl, hq⟩ := hv
    exact ⟨r, rfl, wpAny_pure ⟨_, rfl, hq⟩⟩
  unfold richCompare
  simp only [oneThing_ref]
  refine wpAny_holding (wpAny_bind (wpAny_cRoomFor (Nat.lt_of_succ_lt hu) ?_))
  rw [cmpInfo_NotEq]
  dsimp only
  refine wpAny_bind (I.type.here (wpAny_bind (hb.here ?_)))
  split
  · rename_i q
    have e : PySem.W.subIn K tb (.ref C) = some false := by
      rcases Bool.or_eq_true_iff.mp hn with e | e
      · rw [beq_iff_eq.mp e] at q; simp at q
      · exact beq_iff_eq.mp e
    refine wpAny_bind ((PySem.W.looks_subIn X e).here ?_)
    simp only [Bool.false_eq_true, if_false]
    refine wpAny_bind (wpAny_mono one (fun r s' z => ?_) fun _ _ e => e)
    obtain ⟨v, rfl, hq⟩ := z
    exact wpAny_pure hq
  · refine wpAny_bind (wpAny_pure ?_)
    simp only [Bool.false_eq_true, if_false]
    refine wpAny_bind (wpAny_mono one (fun r s' z => ?_) fun _ _ e => e)
    obtain ⟨v, rfl, hq⟩ := z
    exact wpAny_pure hq
end
/-- the classes' own == -/
structure EF (K : PySem.W.Frag) (N : Nm) (G : Gx) (nF : Nat) : Prop where
  name : N.mtn 0 = "__eq__"
  ne : ∀ c cl f, G.C c = some cl → assocN cl.mt 0 = some f → PySem.W.findIn K (.ref (N.cls c)) "__ne__" = some (some (.builtin "object.__ne__"))
  nfB : ∀ c cl d s, G.C c = some cl → tyStr d = some s → PySem.W.notFirst K (N.cls c) (.type s) = true
  nfO : ∀ c cl c' cl', G.C c = some cl → G.C c' = some cl' → PySem.W.notFirst K (N.cls c) (.ref (N.cls c')) = true
section
variable {X : Cx} {N : Nm} {xf : Nat → Str} {G : Gx} {Wx : WX} {Z : Addr → Prop} {nF nM nC nA k : Nat} {mo : Bool}
theorem PostG.noErr {K : PySem.W.Frag} {w : World} {α β : Type} {R : RR α β} {Q : β → Hp → Prop} {E E' : XK} {H : Hp} {ρ : List Addr} {h : A} {r : Res α} (p : PostG K w N xf Z R Q E H ρ h (noErr r)) : PostG K w N xf Z R Q E' H ρ h r := by
  cases r with
  | ok a h' => exact p
  | err x d h' => exact p.elim
  | stuck => exact p
/-- what own == is asked -/
theorem ownEq_post {x y : W} {v u : V} {Q : Bool → Hp → Prop} {E : XK} {H : Hp} {ρ : List Addr} {h : A} (b : BX X N xf nF G Wx k mo) (F : MF X.K N G nF nM) (hd : MdOk G N 0 mo) (hM : 0 < nM) (P : PF X.K N G nC nA) (EQ : EF X.K N G nF) (r : RepA X.K X.w N Z H ρ h) (q1 : RepW X.K X.w N ρ H (MM Z ρ h) x v) (q2 : RepW X.K X.w N ρ H (MM Z ρ h) y u)
    (p : PostG X.K X.w N xf Z RB Q E H ρ h (ownEq G x y h)) : ∃ (a : Addr) (c : Nat) (cl : Cl) (dx : Addr) (fs : List (Str × V)) (f : Nat) (tb : Value), v = .ref a ∧ H a = some (.ins (N.cls c) dx fs) ∧ (f < nF ∧ (N.md f = true → mo = true)) ∧ G.C c = some cl ∧ assocN cl.mt 0 = some f ∧ Meth X.K (N.cls c) "__eq__" (N.fn f) ∧ TyX X.K H u tb ∧ PySem.W.notFirst X.K (N.cls c) tb = true ∧
      spF X.K X.w N xf (G.Rm f) [v, u] H (fun z H' => ∃ k, z = .bl k ∧ Q k H') (fun _ _ _ => False) := by
  obtain ⟨d, e1, p1⟩ := PostG.some p
  obtain ⟨e2, p2⟩ := PostG.must p1
  have p3 : PostG X.K X.w N xf Z (RX X N) (fun z H' => ∃ k, z = .bl k ∧ Q k H') (fun _ _ _ => False) H ρ h (method G 0 x [y] h) := by
    refine PostG.noErr (E := E) (PostG.mono (PostG.split (R := RX X N) p2) fun z H1 ⟨a, h1, ρ1, e1, x1, r1, ra, p1⟩ => ?_)
    obtain ⟨t, rfl, p3⟩ := boolOf_some p1
    exact ⟨t, blV ra, p3 t H1 ρ1 (Ext.refl _ _ _ _) r1 rfl⟩
  obtain ⟨f, e3, p4⟩ := PostG.some p3
  obtain ⟨c, g1, g2⟩ := Option.bind_eq_some_iff.mp e3
  obtain ⟨cl, g3, g4⟩ := Option.bind_eq_some_iff.mp g2
  obtain ⟨a, dx, fs, h1, h2, h3⟩ := clsOf_ok r q1 g1
  obtain ⟨h4, h5⟩ := F.mt c cl 0 f g3 hM g4
  rw [EQ.name] at h5
  have sp : spF X.K X.w N xf (G.Rm f) [v, u] H (fun z H' => ∃ k, z = .bl k ∧ Q k H') (fun _ _ _ => False) := by
    obtain ⟨Z', ρ', b', us, r', q', p'⟩ := callF_ok (ws := [x, y]) (vs := [v, u]) r ⟨v, [u], rfl, q1, u, [], rfl, q2, rfl⟩ p4
    exact ⟨Z', ρ', b', us, r', q', p'⟩
  rcases shape_ty P r q2 e1 with ⟨t, e4, ty⟩ | ⟨c', fs', rfl, ty⟩
  · exact ⟨a, c, cl, dx, fs, f, _, h1, h2, ⟨h4, hd c cl f g3 g4⟩, g3, g4, h5, ty, EQ.nfB c cl d t g3 e4, sp⟩
  · obtain ⟨cl', e5⟩ := Option.isSome_iff_exists.mp (show (G.C c').isSome = true from e2)
    exact ⟨a, c, cl, dx, fs, f, _, h1, h2, ⟨h4, hd c cl f g3 g4⟩, g3, g4, h5, ty, EQ.nfO c cl c' cl' g3 e5, sp⟩
theorem pass00 : Passes (L2.CX X.prog X.w) X (fun _ _ _ => False) := fun _ _ _ _ _ _ _ h => by
  obtain ⟨_, _, _, _, _, _, _, _, _, _, _, _, z⟩ := h
  exact z.elim
theorem run_eq {pins : List (Addr × Obj)} {σ : L2.St} {H : Hp} {s : Shared} {A : Around} {E : Value → Shared → Prop} {f : Addr} {sp : Sp} {Q : VK} {us : List Value} {vs : List V} (F : FnR X.prog X.w X.K X.mg X.base (cxm X.prog X.w mo) k f sp) (hr : Room k A) (hA : A.frames = X.A.frames)
    (I : Inv X pins σ H s) (r : Vals vs us) (h : sp vs H Q (fun _ _ _ => False)) : wpAny (model X.prog X.w) A (call (.ref f) us) (EP X pins σ Q) E s := by
  have e := I.env0
  have e0 : Env0 X.prog X.w X.K X.mg X.base A X.stack s H := ⟨by rw [hA]; exact e.frames, e.mod, e.bs, e.bsz, e.funs, e.frf, e.hok, e.bare⟩
  refine wpAny_call (codeAny_mono (F A X.stack s H us vs Q _ hr e0 r h) fun r s' hq => ?_)
  cases r with
  | error e =>
    cases mo with
    | true =>
      obtain ⟨_, _, _, _, _, _, _, _, _, _, _, _, z⟩ := hq
      exact z.elim
    | false =>
      obtain ⟨_, _, _, _, _, _, _, _, _, _, _, _, z⟩ := hq
      exact z.elim
  | ok fl =>
    cases fl with
    | ret u => exact I.after hq
    | next => exact False.elim hq
    | brk => exact False.elim hq
    | cont => exact False.elim hq
theorem cmp_none {o : Op} {x y : W} {h : A} (e : clsOf h x = none) : cmpW G o x y h = opW o x y h := by
  show (match o, clsOf h x with
    | .eq, some _ => (ownEq G x y h).bind fun b h1 => .ok (W.c (.bl b)) h1
    | .ne, some _ => (ownEq G x y h).bind fun b h1 => .ok (W.c (.bl (!b))) h1
    | _, _ => opW o x y h) = _
  rw [e]
  cases o <;> rfl
theorem own_bool {f : Bool → Bool} {Q : VK} {E : XK} {H : Hp} {ρ : List Addr} {h : A} {r : Res Bool} (p : PostG X.K X.w N xf Z (RX X N) Q E H ρ h (r.bind fun b h1 => .ok (W.c (.bl (f b))) h1)) : PostG X.K X.w N xf Z RB (fun b H' => Q (.bl (f b)) H') E H ρ h r := by
  refine PostG.mono (PostG.split (R := RB) p) fun b H1 ⟨a, h1, ρ1, e1, x1, r1, ra, p1⟩ => ?_
  obtain rfl : a = b := ra
  exact p1 _ H1 ρ1 (Ext.refl _ _ _ _) r1 (show RepD _ _ _ _ _ _ _ from blD _)
theorem o_eqOwn (b : BX X N xf nF G Wx k mo) (F : MF X.K N G nF nM) (hd : MdOk G N 0 mo) (hM : 0 < nM) (P : PF X.K N G nC nA) (EQ : EF X.K N G nF) : OpR X (compareOp .Eq) (rCmp X N xf G .eq) := by
  have hu : X.A.units + 200 < cLine := by have := b.room.un; omega
  intro pins s σ H x y v u Q I rx ry q
  obtain ⟨Z, ρ, h, xw, yw, E, r, q1, q2, p⟩ := q
  cases e : clsOf h xw with
  | none =>
    rw [cmp_none e] at p
    exact o_eq (N := N) (xf := xf) hu pins s σ H x y v u Q I rx ry ⟨Z, ρ, h, xw, yw, E, r, q1, q2, p⟩
  | some c0 =>
    have e' : cmpW G .eq xw yw h = (ownEq G xw yw h).bind fun b h1 => .ok (W.c (.bl b)) h1 := by
      show (match Op.eq, clsOf h xw with
        | .eq, some _ => (ownEq G xw yw h).bind fun b h1 => .ok (W.c (.bl b)) h1
        | .ne, some _ => (ownEq G xw yw h).bind fun b h1 => .ok (W.c (.bl (!b))) h1
        | _, _ => opW .eq xw yw h) = _
      rw [e]
    rw [e'] at p
    obtain ⟨a, c, cl, dx, fs, f, tb, rfl, ha, hf, hc, hmt, hm, ty, nf, sp⟩ := ownEq_post b F hd hM P EQ r q1 q2 (own_bool (f := fun b => b) p)
    obtain rfl : v = Value.ref a := rx
    obtain ⟨mA, O, _⟩ := ins_get I.hok ha
    obtain ⟨od, J, _⟩ := O.look
    obtain ⟨P0, Kx, hP, _⟩ := kit_of I ry ty
    obtain ⟨m, hF⟩ := I.fr
    refine PySem.W.cmp_K (op := .Eq) (tb := tb) (by omega) hF I.ok.mod.kin J (Kx.ty _ _ I.kIn hP) nf hm.at_ hm.fn ?_
    refine wpAny_mono (run_eq (us := [.ref a, u]) (vs := [.ref a, y]) (b.fnm hf.1 hf.2) (b.room.mono (Nat.le_succ k)) rfl I (.cons (show RelV (V.ref a) (Value.ref a) from rfl) (.cons ry .nil)) sp) (fun w s' hw => ?_) fun _ _ e => e
    obtain ⟨v', H', I', rv, k', ek, q'⟩ := hw
    subst ek
    obtain rfl : w = .bool k' := rv
    exact ⟨.bl k', H', I', rfl, q'⟩
theorem o_neOwn (b : BX X N xf nF G Wx k mo) (F : MF X.K N G nF nM) (hd : MdOk G N 0 mo) (hM : 0 < nM) (P : PF X.K N G nC nA) (EQ : EF X.K N G nF) : OpR X (compareOp .NotEq) (rCmp X N xf G .ne) := by
  have hu : X.A.units + 200 < cLine := by have := b.room.un; omega
  intro pins s σ H x y v u Q I rx ry q
  obtain ⟨Z, ρ, h, xw, yw, E, r, q1, q2, p⟩ := q
  cases e : clsOf h xw with
  | none =>
    rw [cmp_none e] at p
    exact o_ne (N := N) (xf := xf) hu pins s σ H x y v u Q I rx ry ⟨Z, ρ, h, xw, yw, E, r, q1, q2, p⟩
  | some c0 =>
    have e' : cmpW G .ne xw yw h = (ownEq G xw yw h).bind fun b h1 => .ok (W.c (.bl (!b))) h1 := by
      show (match Op.ne, clsOf h xw with
        | .eq, some _ => (ownEq G xw yw h).bind fun b h1 => .ok (W.c (.bl b)) h1
        | .ne, some _ => (ownEq G xw yw h).bind fun b h1 => .ok (W.c (.bl (!b))) h1
        | _, _ => opW .ne xw yw h) = _
      rw [e]
    rw [e'] at p
    obtain ⟨a, c, cl, dx, fs, f, tb, rfl, ha, hf, hc, hmt, hm, ty, nf, sp⟩ := ownEq_post b F hd hM P EQ r q1 q2 (own_bool (f := fun b => !b) p)
    obtain rfl : v = Value.ref a := rx
    obtain ⟨mA, O, _⟩ := ins_get I.hok ha
    obtain ⟨od, J, _⟩ := O.look
    obtain ⟨P0, Kx, hP, _⟩ := kit_of I ry ty
    refine rc_ne (tb := tb) (by omega) I.kIn J (Kx.ty _ _ I.kIn hP) nf hm.at_ hm.fn (EQ.ne c cl f hc hmt) (P.insD c) ?_
    refine wpAny_mono (run_eq (us := [.ref a, u]) (vs := [.ref a, y]) (b.fnm hf.1 hf.2) b.room.in1 rfl I (.cons (show RelV (V.ref a) (Value.ref a) from rfl) (.cons ry .nil)) sp) (fun w s' hw => ?_) fun _ _ e => e
    obtain ⟨v', H', I', rv, k', ek, q'⟩ := hw
    subst ek
    obtain rfl : w = .bool k' := rv
    exact ⟨k', rfl, .bl (!k'), H', I', rfl, q'⟩
end
end B

set_option Elab.async false
set_option linter.all false
set_option maxRecDepth 100000
set_option maxHeartbeats 2000000
/-! Methods of built-in types. Own work. -/
namespace B
open PySem PySem.Spec PyProof.Rows L2
/-- which type has such methods -/
def tyM : Bm → String
  | .append | .extend | .insert | .popl => "list"
  | .index => "list"
  | .get2 | .pop2 => "dict"
  | .join | .split | .endswith => "str"
/-- what has a type with methods -/
def TyB (X : Cx) (T : String) (x : V) (H : Hp) : Prop := (T = "list" ∧ ∃ a vs, x = .ref a ∧ SqL X.K H a vs) ∨ (T = "dict" ∧ ∃ a, x = .ref a ∧ (IsD H a ∨ ∃ es n, KDict X.K X.w a es n)) ∨ (T = "str" ∧ ∃ z, x = .str z)
theorem tyB_ok {X : Cx} {T : String} : TyOk X T (TyB X T) := by
  intro pins σ H s x v I r ty
  rcases ty with ⟨rfl, a, vs, rfl, q⟩ | ⟨rfl, a, rfl, q | ⟨es, n, q⟩⟩ | ⟨rfl, z, rfl⟩
  · obtain rfl : v = Value.ref a := r
    obtain ⟨its, _, pl, _⟩ := I.list q
    refine ⟨pl.isList.typeIs, fun a e => ?_⟩
    cases e
    obtain ⟨o, n, e, c, hd, _⟩ := pl
    exact ⟨o, e, hd⟩
  · obtain rfl : v = Value.ref a := r
    obtain ⟨t1, t2, _⟩ := isD_at I q
    exact ⟨t1, t2⟩
  · obtain rfl : v = Value.ref a := r
    refine ⟨kd_type q I, fun b e => ?_⟩
    cases e
    exact ⟨_, I.kIn _ _ q.at_, rfl⟩
  · obtain ⟨t, rfl⟩ := r
    exact ⟨typeIs_str _ _ _, fun _ e => nomatch e⟩
section
variable {X : Cx} {N : Nm} {xf : Nat → Str} {G : Gx} {Wx : WX} {Z : Addr → Prop} {nF nM nC nA k : Nat}
theorem look_ty {H : Hp} {M : Addr → Prop} {d : D} {v : V} {T : String} (q : RepL X.K X.w N H M d v) (e : tyStr d = some T) (h : T = "list" ∨ T = "dict" ∨ T = "str") : TyB X T v H := by
  cases d with
  | non => cases e; exact absurd h (by decide)
  | bl _ => cases e; exact absurd h (by decide)
  | int _ => cases e; exact absurd h (by decide)
  | tup _ => cases e; exact absurd h (by decide)
  | ins _ _ => cases e
  | str z =>
    cases e
    obtain ⟨rfl, _⟩ : v = V.str z ∧ _ := by simpa only [RepL, RepD] using q
    exact .inr (.inr ⟨rfl, _, rfl⟩)
  | lst xs =>
    cases e
    obtain ⟨a, vs, rfl, r, _⟩ := q
    exact .inl ⟨rfl, a, vs, rfl, .of r⟩
  | dct t kvs =>
    cases e
    obtain ⟨a, rfl, q⟩ := q
    rcases q with ⟨o, ro, tt, ks, rfl, _⟩ | ⟨_, k, _⟩
    · exact .inr (.inl ⟨rfl, a, rfl, .inl (.inl ⟨ks, ro⟩)⟩)
    · exact .inr (.inl ⟨rfl, a, rfl, .inr k⟩)
  | scr xs =>
    cases e
    have q' : RepD X.K X.w N H M (.scr xs) v := q
    unfold RepD at q'
    obtain ⟨a, vs, rfl, r, _⟩ := q'
    exact .inl ⟨rfl, a, vs, rfl, r.elim (fun r => .inl r.1) fun r => .inr r⟩
def rBm (X : Cx) (N : Nm) (xf : Nat → Str) (m : Bool) (b : Bm) : V → List V → Hp → VK → Prop := fun v vs H Q => ∃ (Z : Addr → Prop) (ρ : List Addr) (h : A) (x : W) (ws : List W) (E : XK), RepA X.K X.w N Z H ρ h ∧ RepW X.K X.w N ρ H (MM Z ρ h) x v ∧ RepWs X.K X.w N ρ H (MM Z ρ h) ws vs ∧
  PostG X.K X.w N xf Z (RX X N) Q E H ρ h (bmGo m b x ws h)
theorem recv_ty {b : Bm} {x : W} {h : A} (nb : b ≠ .index) (e : recv b x h = true) : ∃ d, look h x = some d ∧ tyStr d = some (tyM b) := by
  unfold recv at e
  cases q : look h x with
  | none => rw [q] at e; cases e
  | some d =>
    rw [q] at e
    refine ⟨d, rfl, ?_⟩
    cases d <;> cases b <;> first | (cases e; done) | rfl | exact absurd rfl nb
theorem s_bmT {m : Bool} {b : Bm} {o : E} {es : List E} {σV : L2.St} {H : Hp} {Q : VK} (nb : b ≠ .index) (p : tEv X N xf G Wx (.bm m b o es) σV H Q) : tMG (TyB X (tyM b)) (rBm X N xf m b) (tEv X N xf G Wx o) (tEvs X N xf G Wx es) σV H Q := by
  obtain ⟨Z, σ, ρ, h, r, re, p⟩ := p
  refine tR_at r re (f := ev G o) (g := fun x h1 => must (recv b x h1) ((evs G es σ h1).bind fun ws h2 => bmGo m b x ws h2)) p fun x v H1 ρ1 h1 e1 x1 r1 re1 rx p1 => ?_
  obtain ⟨e2, p2⟩ := PostG.must p1
  obtain ⟨d, e3, e4⟩ := recv_ty nb e2
  refine ⟨look_ty (rx.look r1 e3) e4 (by cases b <;> first | exact .inl rfl | exact .inr (.inl rfl) | exact .inr (.inr rfl)), ?_⟩
  refine tR_at r1 re1 (f := evs G es) (g := fun ws h2 => bmGo m b x ws h2) p2 fun ws vs H2 ρ2 h2 e5 x2 r2 re2 rws p3 => ?_
  exact ⟨Z, ρ2, h2, x, ws, _, r2, rx.keep x2.keep x2.pre, rws, p3⟩
theorem s_bm {m : Bool} {b : Bm} {o0 e0 : Expr} {es0 : List Expr} {o : E} {es : List E} {name : Str} {id : String} {apos cpos : Pos} (nb : b ≠ .index) (pa : PlainAttrs (tyM b)) (slot : Slot (tyM b) name id) (hty : typeOf (.builtin id) = pure (.type "method_descriptor")) (hm : MtR X id (rBm X N xf m b))
    (ho : PE X o0 (tEv X N xf G Wx o)) (ha : PA X (e0 :: es0) (tEvs X N xf G Wx es)) (hbase : attributeBase o0 name X.env (eval o0 X.env) = eval o0 X.env)
    (hfew : ((backTo cpos (starEach (e0 :: es0) X.env)).all (fun x => !x.1) && (backToKw cpos (keywordEach [] X.env)).all (fun x => x.1.isSome)
      && decide ((e0 :: es0).length + ([] : List Keyword).length + (if ([] : List Keyword).isEmpty then 0 else 1) < 30)) = true)
    (hline : (apos.endLine == cpos.line) = true) (hs : starEach (e0 :: es0) X.env = (false, eval e0 X.env) :: starEach es0 X.env) (hplain : (backTo cpos (starEach es0 X.env)).any (·.1) = false) :
    PE X (.Call (.Attribute o0 name apos) (e0 :: es0) [] cpos) (tEv X N xf G Wx (.bm m b o es)) :=
  PE.imp (pe_mG tyB_ok pa slot hty hm ho ha hbase hfew hline hs hplain) fun σ H Q p => s_bmT nb p
theorem s_bm0 {m : Bool} {b : Bm} {o0 : Expr} {o : E} {name : Str} {id : String} {apos cpos : Pos} (nb : b ≠ .index) (pa : PlainAttrs (tyM b)) (slot : Slot (tyM b) name id) (hty : typeOf (.builtin id) = pure (.type "method_descriptor")) (hm : MtR X id (rBm X N xf m b))
    (ho : PE X o0 (tEv X N xf G Wx o)) (hbase : attributeBase o0 name X.env (eval o0 X.env) = eval o0 X.env) (hline : (apos.endLine == cpos.line) = true) :
    PE X (.Call (.Attribute o0 name apos) [] [] cpos) (tEv X N xf G Wx (.bm m b o [])) :=
  PE.imp (pe_mG0 tyB_ok pa slot hty hm ho hbase hline) fun σ H Q p => by
    obtain ⟨Z, σ', ρ, h, r, re, p⟩ := s_bmT nb p
    exact ⟨Z, σ', ρ, h, r, re, PostG.mono p fun v H' ⟨h1, h2⟩ => ⟨h1, tEvs_nil h2⟩⟩
/-! ### append, extend, insert, pop -/
theorem PostG.loc {H : Hp} {ρ : List Addr} {h : A} {Q : VK} {E : XK} {b : Bm} {x : W} {f : Nat → Res W} (p : PostG X.K X.w N xf Z (RX X N) Q E H ρ h (bmL b x f)) : ∃ n, x = .l n ∧ PostG X.K X.w N xf Z (RX X N) Q E H ρ h (f n) := by
  cases x with
  | c d => exact p.elim
  | l n => exact ⟨n, rfl, p⟩
theorem RepDs.one {H : Hp} {M : Addr → Prop} {d : D} {vs : List V} (q : RepDs X.K X.w N H M [d] vs) : ∃ v, vs = [v] ∧ RepD X.K X.w N H M d v := by
  unfold RepDs at q
  obtain ⟨v, vs', rfl, a, b⟩ := q
  unfold RepDs at b
  subst b
  exact ⟨v, rfl, a⟩
theorem RepDs.two {H : Hp} {M : Addr → Prop} {d e : D} {vs : List V} (q : RepDs X.K X.w N H M [d, e] vs) : ∃ v u, vs = [v, u] ∧ RepD X.K X.w N H M d v ∧ RepD X.K X.w N H M e u := by
  unfold RepDs at q
  obtain ⟨v, vs', rfl, a, b⟩ := q
  obtain ⟨u, rfl, c⟩ := RepDs.one b
  exact ⟨v, u, rfl, a, c⟩
theorem RepDs.app {H : Hp} {M : Addr → Prop} : ∀ {xs ys : List D} {vs us : List V}, RepDs X.K X.w N H M xs vs → RepDs X.K X.w N H M ys us → RepDs X.K X.w N H M (xs ++ ys) (vs ++ us)
  | [], _, _, _, q, p => by unfold RepDs at q; subst q; exact p
  | x :: xs, ys, vs, us, q, p => by
    unfold RepDs at q
    obtain ⟨v, vs', rfl, a, b⟩ := q
    show RepDs X.K X.w N H M (x :: (xs ++ ys)) (v :: (vs' ++ us))
    unfold RepDs
    exact ⟨v, _, rfl, a, RepDs.app b p⟩
/-- a list is rewritten -/
theorem set_lst {H : Hp} {ρ : List Addr} {h : A} {Q : VK} {E : XK} {n : Nat} {xs ys : List D} {us : List V} {a : Addr} {d : D} {v : V} (r : RepA X.K X.w N Z H ρ h) (e : h[n]? = some (.lst xs)) (ea : ρ[n]? = some a) (q : RepDs X.K X.w N H (MM Z ρ h) ys us) (qd : RepD X.K X.w N H (MM Z ρ h) d v)
    (p : PostG X.K X.w N xf Z (RX X N) Q E H ρ h (.ok (.c d) (h.set n (.lst ys)))) : Q v (upd H a (.lst us)) := by
  have x1 : Ext Z H ρ h (upd H a (.lst us)) ρ (h.set n (.lst ys)) := Ext.set e rfl ea
  exact p v _ ρ x1 (r.set e rfl ea ⟨us, rfl, q⟩) (show RepD _ _ _ _ _ _ _ from qd.keep x1.keep)
theorem m_append {m : Bool} : MtR X "list.append" (rBm X N xf m .append) := by
  intro pins s σ H x vs v us Q I rx rv q
  obtain ⟨Z, ρ, h, xw, ws, E, r, q1, q2, p⟩ := q
  obtain ⟨n, rfl, p1⟩ := PostG.loc (b := .append) p
  obtain ⟨ds, h1, x1, r1, d1, p2⟩ := freezes_ok r q2 p1
  obtain ⟨a, ea, rfl⟩ := q1
  unfold bmW at p2
  cases eh : h1[n]? with
  | none => rw [eh] at p2; exact p2.elim
  | some ob =>
    rw [eh] at p2
    cases ob with
    | lst xs =>
      cases ds with
      | nil => exact p2.elim
      | cons d dr =>
        cases dr with
        | cons _ _ => exact p2.elim
        | nil =>
          obtain ⟨hl, p4⟩ := PostG.must p2
          obtain ⟨y, rfl, dy⟩ := RepDs.one d1
          obtain ⟨ho, o1, us', rfl, o2⟩ := r1.obj n _ a eh ea
          refine mt_append pins s σ H _ _ v us Q I rx rv ⟨a, us', y, rfl, rfl, o1, ?_, set_lst r1 eh ea (RepDs.app o2 (by unfold RepDs; exact ⟨y, [], rfl, dy, by unfold RepDs; rfl⟩)) nonD p4⟩
          rw [← o2.length, ← sizeMax_eq]; exact of_decide_eq_true hl
    | _ => exact p2.elim
theorem m_extend {m : Bool} : MtR X "list.extend" (rBm X N xf m .extend) := by
  intro pins s σ H x vs v us Q I rx rv q
  obtain ⟨Z, ρ, h, xw, ws, E, r, q1, q2, p⟩ := q
  obtain ⟨n, rfl, p1⟩ := PostG.loc (b := .extend) p
  obtain ⟨ds, e1, p2⟩ := PostG.some p1
  have d1 := q2.looks r e1
  obtain ⟨a, ea, rfl⟩ := q1
  unfold bmW at p2
  cases eh : h[n]? with
  | none => rw [eh] at p2; exact p2.elim
  | some ob =>
    rw [eh] at p2
    cases ob with
    | lst xs =>
      cases ds with
      | nil => exact p2.elim
      | cons d dr =>
        cases dr with
        | cons _ _ => cases d <;> exact p2.elim
        | nil =>
          cases d with
          | lst ys =>
            obtain ⟨hl, p4⟩ := PostG.must p2
            obtain ⟨y, rfl, b, us2, rfl, ob, dy⟩ := rBi_one d1
            obtain ⟨ho, o1, us', rfl, o2⟩ := r.obj n _ a eh ea
            refine mt_extend pins s σ H _ _ v us Q I rx rv ⟨a, b, us', us2, rfl, rfl, o1, ob, ?_, set_lst r eh ea (RepDs.app o2 dy) nonD p4⟩
            rw [← o2.length, ← dy.length, ← sizeMax_eq]; exact of_decide_eq_true hl
          | _ => exact p2.elim
    | _ => exact p2.elim
end
end B

set_option Elab.async false
set_option linter.all false
set_option maxRecDepth 100000
set_option maxHeartbeats 2000000
/-! join, split, get with a default. Own work. -/
namespace B
open PySem PySem.Spec PyProof.Rows L2
/-! ### the parts between signs -/
theorem splitL_ne (c : Nat) : ∀ l : List Nat, splitL c l ≠ []
  | [] => by simp [splitL]
  | x :: r => by
    show (match decide (x = c) with
      | true => [] :: splitL c r
      | false => match splitL c r with
        | a :: t => (x :: a) :: t
        | [] => [[x]]) ≠ []
    cases decide (x = c) with
    | true => simp
    | false => cases splitL c r <;> simp
theorem splitL_eq (c x : Nat) (r : List Nat) : splitL c (x :: r) = if x = c then [] :: splitL c r else match splitL c r with
      | a :: t => (x :: a) :: t
      | [] => [[x]] := by
  show (match decide (x = c) with
      | true => [] :: splitL c r
      | false => match splitL c r with
        | a :: t => (x :: a) :: t
        | [] => [[x]]) = _
  by_cases h : x = c
  · rw [decide_eq_true h, if_pos h]
  · rw [decide_eq_false h, if_neg h]
theorem splitL_free (c : Nat) : ∀ l : List Nat, c ∉ l → splitL c l = [l]
  | [], _ => rfl
  | x :: r, h => by
    have hx : ¬ x = c := by intro z; subst z; exact h List.mem_cons_self
    rw [splitL_eq, if_neg hx, splitL_free c r fun z => h (List.mem_cons_of_mem _ z)]
theorem splitL_app (c : Nat) (t : List Nat) : ∀ l : List Nat, c ∉ l → splitL c (l ++ c :: t) = l :: splitL c t
  | [], _ => by rw [List.nil_append, splitL_eq, if_pos rfl]
  | x :: r, h => by
    have hx : ¬ x = c := by intro z; subst z; exact h List.mem_cons_self
    rw [List.cons_append, splitL_eq, if_neg hx, splitL_app c t r fun z => h (List.mem_cons_of_mem _ z)]
/-- what is joined is split -/
theorem splitL_join (c : Nat) : ∀ ys : List Str, ys ≠ [] → (∀ y ∈ ys, c ∉ y.cps.toList) → splitL c (Str.join ⟨#[c]⟩ ys).cps.toList = ys.map fun y => y.cps.toList
  | [], h, _ => absurd rfl h
  | [y], _, h => by
    show splitL c y.cps.toList = [y.cps.toList]
    exact splitL_free c _ (h y List.mem_cons_self)
  | y :: z :: r, _, h => by
    have ih := splitL_join c (z :: r) (by simp) fun x hx => h x (List.mem_cons_of_mem _ hx)
    have e : (Str.join ⟨#[c]⟩ (y :: z :: r)).cps.toList = y.cps.toList ++ c :: (Str.join ⟨#[c]⟩ (z :: r)).cps.toList := by
      show ((y ++ ⟨#[c]⟩ ++ Str.join ⟨#[c]⟩ (z :: r) : Str)).cps.toList = _
      show (y.cps ++ #[c] ++ (Str.join ⟨#[c]⟩ (z :: r)).cps).toList = _
      simp
    rw [e, splitL_app c _ _ (h y List.mem_cons_self), ih]
    rfl
theorem txt_split_ne (x : Str) (c : Nat) : Txt.split x ⟨#[c]⟩ ≠ [] := by
  unfold Txt.split
  split
  · simp
  · split
    · simp
    · rw [StrLaws.partsBetween_eq]
      obtain ⟨p, r, e⟩ := StrLaws.partsFrom_ne x (⟨#[c]⟩ : Str).length 0 (Builtin.Str.occurrences x ⟨#[c]⟩ 0 x.length (x.length + 1))
      rw [e]; simp
theorem txt_split (x : Str) (c : Nat) : Txt.split x ⟨#[c]⟩ = (splitL c x.cps.toList).map fun l => ⟨l.toArray⟩ := by
  have e := splitL_join c (Txt.split x ⟨#[c]⟩) (txt_split_ne x c) (StrLaws.split_free x c)
  rw [StrLaws.join_split] at e
  rw [e, List.map_map]
  have : ((fun l : List Nat => (⟨l.toArray⟩ : Str)) ∘ fun y : Str => y.cps.toList) = id := by
    funext y
    show (⟨y.cps.toList.toArray⟩ : Str) = y
    rw [Array.toArray_toList]
  rw [this, List.map_id]
/-- no sign is made -/
theorem splitL_mem (c : Nat) : ∀ (l : List Nat) (p : List Nat), p ∈ splitL c l → ∀ x ∈ p, x ∈ l
  | [], p, h, x, hx => by
    have : p = [] := by simpa [splitL] using h
    subst this; cases hx
  | y :: r, p, h, x, hx => by
    rw [splitL_eq] at h
    by_cases e : y = c
    · rw [if_pos e] at h
      rcases List.mem_cons.mp h with z | z
      · subst z; cases hx
      · exact List.mem_cons_of_mem _ (splitL_mem c r p z x hx)
    · rw [if_neg e] at h
      cases q : splitL c r with
      | nil => exact absurd q (splitL_ne c r)
      | cons a t =>
        rw [q] at h
        rcases List.mem_cons.mp h with z | z
        · subst z
          rcases List.mem_cons.mp hx with w | w
          · subst w; exact List.mem_cons_self
          · exact List.mem_cons_of_mem _ (splitL_mem c r a (by rw [q]; exact List.mem_cons_self) x w)
        · exact List.mem_cons_of_mem _ (splitL_mem c r p (by rw [q]; exact List.mem_cons_of_mem _ z) x hx)
theorem strOk_list {l : List Nat} (h : ∀ x ∈ l, x < 0x110000) : PyData.strOk ⟨l.toArray⟩ = true := by
  unfold PyData.strOk
  rw [Array.all_eq_true_iff_forall_mem]
  intro x hx
  exact decide_eq_true (h x (by simpa using hx))
theorem strOk_mem {s : Str} (k : PyData.strOk s = true) : ∀ x ∈ s.cps.toList, x < 0x110000 := fun x hx => by
  unfold PyData.strOk at k
  exact of_decide_eq_true (Array.all_eq_true_iff_forall_mem.mp k x (by simpa using hx))
theorem strOk_join (c : Str) (hc : PyData.strOk c = true) : ∀ ys : List Str, (∀ y ∈ ys, PyData.strOk y = true) → PyData.strOk (Str.join c ys) = true
  | [], _ => by show PyData.strOk ⟨#[]⟩ = true; unfold PyData.strOk; simp
  | [y], h => h y List.mem_cons_self
  | y :: z :: r, h => by
    show PyData.strOk (y ++ c ++ Str.join c (z :: r)) = true
    exact strOk_append (strOk_append (h y List.mem_cons_self) hc) (strOk_join c hc (z :: r) fun x hx => h x (List.mem_cons_of_mem _ hx))
section
variable {X : Cx} {N : Nm} {xf : Nat → Str} {G : Gx} {Wx : WX} {Z : Addr → Prop}
theorem RepDs.strs {H : Hp} {M : Addr → Prop} : ∀ {xs : List D} {vs : List V} {l : List Str}, RepDs X.K X.w N H M xs vs → B.strsD xs = some l → vs = l.map V.str ∧ ∀ y ∈ l, PyData.strOk y = true
  | [], vs, l, q, e => by
    cases e
    unfold RepDs at q
    exact ⟨q, fun y hy => by cases hy⟩
  | x :: r, vs, l, q, e => by
    unfold RepDs at q
    obtain ⟨v, vs', rfl, a, b⟩ := q
    cases x <;> first | (cases e; done) | skip
    rename_i z
    have e' : (match B.strsD r with
      | some l => some (z :: l)
      | none => none) = some l := e
    cases q1 : B.strsD r with
    | none => rw [q1] at e'; cases e'
    | some l' =>
      rw [q1] at e'
      cases e'
      obtain ⟨h1, h2⟩ := RepDs.strs b q1
      obtain ⟨rfl, k⟩ : v = V.str z ∧ PyData.strOk z = true := by simpa only [RepD] using a
      refine ⟨by rw [h1]; rfl, fun y hy => ?_⟩
      rcases List.mem_cons.mp hy with w | w
      · subst w; exact k
      · exact h2 y w
theorem RepDs.ofStrs {H : Hp} {M : Addr → Prop} : ∀ {l : List Str}, (∀ y ∈ l, PyData.strOk y = true) → RepDs X.K X.w N H M (l.map D.str) (l.map V.str)
  | [], _ => by unfold RepDs; rfl
  | z :: r, h => by
    show RepDs X.K X.w N H M (.str z :: r.map D.str) (V.str z :: r.map V.str)
    unfold RepDs
    exact ⟨_, _, rfl, strD (h z List.mem_cons_self), RepDs.ofStrs fun y hy => h y (List.mem_cons_of_mem _ hy)⟩
theorem bm_read {m : Bool} {b : Bm} {x : W} {ws : List W} {h : A} {v : V} {vs : List V} {H : Hp} {ρ : List Addr} {Q : VK} {E : XK} (hb : bmGo m b x ws h = ofOpt (look h x) fun d => ofOpt (looks h ws) fun ds => ofOpt (bmR b d ds) fun r => born m r h) (r : RepA X.K X.w N Z H ρ h) (q1 : RepW X.K X.w N ρ H (MM Z ρ h) x v) (q2 : RepWs X.K X.w N ρ H (MM Z ρ h) ws vs)
    (p : PostG X.K X.w N xf Z (RX X N) Q E H ρ h (bmGo m b x ws h)) : ∃ d ds e, RepL X.K X.w N H (MM Z ρ h) d v ∧ RepLs X.K X.w N H (MM Z ρ h) ds vs ∧ bmR b d ds = some e ∧ PostG X.K X.w N xf Z (RX X N) Q E H ρ h (born m e h) := by
  rw [hb] at p
  obtain ⟨d, e1, p1⟩ := PostG.some p
  obtain ⟨ds, e2, p2⟩ := PostG.some p1
  obtain ⟨e, e3, p3⟩ := PostG.some p2
  exact ⟨d, ds, e, q1.look r e1, q2.looks r e2, e3, p3⟩
theorem m_join {m : Bool} : MtR X "str.join" (rBm X N xf m .join) := by
  intro pins s σ H x vs v us Q I rx rv q
  obtain ⟨Z, ρ, h, xw, ws, E, r, q1, q2, p⟩ := q
  obtain ⟨d, ds, e, l1, l2, e3, p3⟩ := bm_read rfl r q1 q2 p
  cases d <;> first | (cases e3; done) | skip
  rename_i z
  have fin : ∀ xs : List D, joinD z xs = some e → ∀ (a : Addr) (ws' : List V), (SqL X.K H a ws' ∨ SqT X.K H a ws') → RepDs X.K X.w N H (MM Z ρ h) xs ws' → vs = [.ref a] → wpAny (model X.prog X.w) X.A (call (.builtin "str.join") (v :: us)) (EP X pins σ Q) X.xe s := by
    intro xs e4 a ws' hs hd hv
    obtain ⟨rfl, kz⟩ : x = V.str z ∧ PyData.strOk z = true := by simpa only [RepL, RepD] using l1
    unfold joinD at e4
    cases e5 : B.strsD xs with
    | none => rw [e5] at e4; cases e4
    | some l =>
      rw [e5] at e4
      have e4' : (match decide ((l.map (·.length)).sum + l.length * z.length ≤ sizeMax) with
        | true => some (D.str (Str.join z l))
        | false => none) = some e := e4
      cases hc : decide ((l.map (·.length)).sum + l.length * z.length ≤ sizeMax) with
      | false => rw [hc] at e4'; cases e4'
      | true =>
        rw [hc] at e4'
        cases e4'
        obtain ⟨g1, g2⟩ := hd.strs e5
        subst g1
        subst hv
        exact mt_join pins s σ H _ _ v us Q I rx rv ⟨z, a, l, rfl, rfl, hs, of_decide_eq_true hc, by rw [show Txt.join z l = Str.join z l from StrLaws.glued_eq_join z l]; exact born_str p3 r (strOk_join z kz l g2)⟩
  cases ds with
  | nil => cases e3
  | cons d2 dr =>
    cases dr with
    | cons _ _ => cases d2 <;> cases e3
    | nil =>
      obtain ⟨u, hu, lu⟩ := rBi_one l2
      cases d2 with
      | lst xs =>
        obtain ⟨a, ws', rfl, ra, rd⟩ := lu
        exact fin xs e3 a ws' (.inl (.of ra)) rd hu
      | tup xs =>
        obtain ⟨a, ws', rfl, ra, rd⟩ := RepD.tup_inv (show RepD X.K X.w N H (MM Z ρ h) (.tup xs) u from lu)
        exact fin xs e3 a ws' (.inr ra) rd hu
      | _ => cases e3
theorem m_split {m : Bool} : MtR X "str.split" (rBm X N xf m .split) := by
  intro pins s σ H x vs v us Q I rx rv q
  obtain ⟨Z, ρ, h, xw, ws, E, r, q1, q2, p⟩ := q
  obtain ⟨d, ds, e, l1, l2, e3, p3⟩ := bm_read rfl r q1 q2 p
  cases d <;> first | (cases e3; done) | skip
  rename_i z
  cases ds with
  | nil => cases e3
  | cons d2 dr =>
    cases dr with
    | cons _ _ => cases d2 <;> cases e3
    | nil =>
      cases d2 <;> first | (cases e3; done) | skip
      rename_i y
      obtain ⟨u, rfl, lu⟩ := rBi_one l2
      obtain ⟨rfl, kz⟩ : x = V.str z ∧ PyData.strOk z = true := by simpa only [RepL, RepD] using l1
      obtain ⟨rfl, _⟩ : u = V.str y ∧ PyData.strOk y = true := by simpa only [RepL, RepD] using lu
      have e4 : (match y.cps.toList with
        | [c] => match decide (z.length + 2 ≤ sizeMax) with
          | true => some (D.lst ((splitL c z.cps.toList).map fun l => .str ⟨l.toArray⟩))
          | false => none
        | _ => none) = some e := e3
      split at e4
      · rename_i c hc
        cases hz : decide (z.length + 2 ≤ sizeMax) with
        | false => rw [hz] at e4; cases e4
        | true =>
          rw [hz] at e4
          cases e4
          have ey : y = ⟨#[c]⟩ := by
            obtain ⟨cc⟩ := y
            have : cc = #[c] := by simpa using congrArg List.toArray hc
            rw [this]
          subst ey
          refine mt_split pins s σ H _ _ v us Q I rx rv ⟨z, ⟨#[c]⟩, rfl, rfl, rfl, by rw [← sizeMax_eq]; exact of_decide_eq_true hz, fun pp n => ?_⟩
          rw [txt_split]
          refine born_lst p3 r ?_ pp n
          have ho : ∀ y ∈ (splitL c z.cps.toList).map (fun l => (⟨l.toArray⟩ : Str)), PyData.strOk y = true := fun y hy => by
            obtain ⟨l, h1, rfl⟩ := List.mem_map.mp hy
            exact strOk_list fun x hx => strOk_mem kz x (splitL_mem c _ l h1 x hx)
          have := RepDs.ofStrs (X := X) (N := N) (H := H) (M := MM Z ρ h) ho
          rw [List.map_map] at this
          exact this
      · cases e4
/-- d.get(k, x) of a dict of the module -/
theorem k_get2 {pins : List (Addr × Obj)} {s : Shared} {σ : L2.St} {H : Hp} {d : Addr} {es : Array DictEntry} {n : Nat} {z : Str} {u r : Value} {y w : V} {o : Option Value} {Q : VK} (D : KDict X.K X.w d es n) (I : Inv X pins σ H s) (ry : RelV (.str z) u) (rr : RelV y r) (e : PySem.W.nsIn X.K d z = some o)
    (h1 : o = none → w = y) (h2 : ∀ u0, o = some u0 → RelV w u0) (q : Q w H) : wpAny (model X.prog X.w) X.A (call (.builtin "dict.get") [.ref d, u, r]) (EP X pins σ Q) X.xe s := by
  obtain ⟨t, rfl⟩ := ry
  refine call_meetsIn PySem.F.slot_dict_get (kd_type D I) PySem.F.entry_dict_get (PySem.F.args_dict_get_3 _ _ _) (meets_dict_get_default (PySem.strKind X.prog X.w) d (PySem.strKind_is X.prog X.w z t) D.low r) ⟨_, PySem.W.mapOf_K (prog := X.prog) I.kIn D.at_ D.lit, ?_⟩
  rw [PySem.W.find_K D.at_ e]
  refine ⟨w, H, I.tok _, ?_, q⟩
  cases o with
  | none => rw [h1 rfl]; exact rr
  | some u0 => exact h2 u0 rfl
theorem m_get2 (hu : X.A.units + 200 < cLine) {m : Bool} : MtR X "dict.get" (rBm X N xf m .get2) := by
  intro pins s σ H x vs v us Q I rx rv q
  obtain ⟨Z, ρ, h, xw, ws, E, r, q1, q2, p⟩ := q
  obtain ⟨ds, h1, x1, r1, d1, p2⟩ := freezes_ok (f := fun ds h3 => ofOpt (look h3 xw) fun d => ofOpt (bmR .get2 d ds) fun r => .ok (W.c r) h3) r q2 p
  obtain ⟨d, e1, p3⟩ := PostG.some p2
  obtain ⟨e, e3, p4⟩ := PostG.some p3
  have l1 := (q1.keep x1.keep x1.pre).look r1 e1
  have fin : ∀ w, RepD X.K X.w N H (MM Z ρ h1) e w → Q w H := fun w q => p4 w H ρ (Ext.refl _ _ _ _) r1 q
  cases d <;> first | (cases e3; done) | skip
  rename_i t kvs
  cases ds with
  | nil => cases e3
  | cons dk dr =>
    cases dr with
    | nil => cases e3
    | cons dd dr =>
      cases dr with
      | cons _ _ => cases e3
      | nil =>
        obtain ⟨k, y, rfl, lk, ly⟩ := RepDs.two d1
        obtain ⟨r0, er, rfl⟩ := Option.map_eq_some_iff.mp (show (dGet t kvs dk).map (fun r => r.getD dd) = some e from e3)
        unfold dGet at er
        split at er
        · rename_i hk
          cases er
          obtain ⟨ad, rfl, lb⟩ := l1
          obtain ⟨uk, uy, rfl, rk1, rk2⟩ := Vals.two rv
          cases (show v = Value.ref ad from rx)
          rcases lb with ⟨o, ro, tt, ks, rfl, nd, rk⟩ | ⟨rfl, ⟨es, n, kd⟩, rk, rn⟩
          · obtain ⟨key, ek⟩ := keyD_key tt hk
            have ey := (RepD.toL lk).key ek
            subst ey
            refine d_get2 (o := valV ks key) (by omega) I (.inl ⟨ks, key, ro, rfl, rfl⟩) rk1 rk2 fun w' s2 I2 rw' => ⟨_, H, I2, rw', ?_⟩
            rcases rk.val ek with ⟨g1, g2⟩ | ⟨d', v', g1, g2, g3⟩
            · rw [g2]; exact fin _ (by rw [g1]; exact ly)
            · rw [g2]; exact fin _ (by rw [g1]; exact g3)
          · cases dk <;> first | (cases hk; done) | skip
            rename_i z
            obtain ⟨rfl, _⟩ : k = V.str z ∧ _ := by simpa only [RepD] using lk
            rcases rk.val (z := z) with ⟨g1, g2⟩ | ⟨d', u', v', g1, g2, g3, g4⟩
            · exact k_get2 (w := y) kd I rk1 rk2 (rn z g2) (fun _ => rfl) (fun u0 e => by cases e) (fin _ (by rw [g1]; exact ly))
            · exact k_get2 (w := v') kd I rk1 rk2 g2 (fun e => by cases e) (fun u0 e => by cases e; exact g3) (fin _ (by rw [g1]; exact g4))
        · cases er
end
end B

set_option Elab.async false
set_option linter.all false
set_option maxRecDepth 100000
set_option maxHeartbeats 2000000
/-! Statements: each form keeps what the evaluator says, if its parts do. Own work. -/
namespace B
open PySem PySem.Spec PyProof.Rows L2
theorem PS.imp {X : Cx} {s : Stmt} {t t' : TS} (h : PS X s t) (i : ∀ D σ H, t' D σ H → t D σ H) : PS X s t' := ⟨fun pins s σ H D I q => h.run pins s σ H D I (i _ _ _ q)⟩
theorem PSs.imp {X : Cx} {s : List Stmt} {t t' : TS} (h : PSs X s t) (i : ∀ D σ H, t' D σ H → t D σ H) : PSs X s t' := ⟨fun pins s σ H D I q => h.run pins s σ H D I (i _ _ _ q)⟩
section
variable (X : Cx) (N : Nm) (xf : Nat → Str) (G : Gx) (Wx : WX)
/-- some state of the evaluator stands for σV, H, and what f says of it is promised -/
def tSt (f : Env → A → SRes) : TS := fun D σV H => ∃ (Z : Addr → Prop) (σ : Env) (ρ : List Addr) (h : A), RepA X.K X.w N Z H ρ h ∧ RepE X.K X.w N ρ H (MM Z ρ h) σ σV ∧ PostS X.K X.w N xf Z D Wx H ρ h (f σ h)
end
section
variable {X : Cx} {N : Nm} {xf : Nat → Str} {G : Gx} {Wx : WX} {Z : Addr → Prop} {nF nM nC nA k : Nat}
theorem PostS.mono {D D' : Ends} {H : Hp} {ρ : List Addr} {h : A} {r : SRes} (p : PostS X.K X.w N xf Z D Wx H ρ h r) (h1 : ∀ σ H, D.nx σ H → D'.nx σ H) (h2 : ∀ v H, D.rt v H → D'.rt v H) (h3 : ∀ σ H, D.bk σ H → D'.bk σ H) (h4 : ∀ σ H, D.ct σ H → D'.ct σ H) : PostS X.K X.w N xf Z D' Wx H ρ h r := by
  cases r with
  | nx _ _ => exact fun a b c x y z => h1 _ _ (p a b c x y z)
  | rt _ _ => exact fun a b c x y z => h2 _ _ (p a b c x y z)
  | bk _ _ => exact fun a b c x y z => h3 _ _ (p a b c x y z)
  | ct _ _ => exact fun a b c x y z => h4 _ _ (p a b c x y z)
  | er _ _ _ _ => exact p
  | stuck => exact p
/-- the first part is an expression -/
theorem tS_at {α β : Type} {R : RR α β} {D : Ends} {f : Env → A → Res α} {g : α → A → SRes} {σV : L2.St} {H : Hp} {Q1 : β → Hp → Prop} {σ : Env} {ρ : List Addr} {h : A} (r : RepA X.K X.w N Z H ρ h) (re : RepE X.K X.w N ρ H (MM Z ρ h) σ σV)
    (p : PostS X.K X.w N xf Z D Wx H ρ h ((f σ h).then σ g))
    (k : ∀ (a : α) (b : β) (H1 : Hp) (ρ1 : List Addr) (h1 : A), f σ h = .ok a h1 → Ext Z H ρ h H1 ρ1 h1 → RepA X.K X.w N Z H1 ρ1 h1 → RepE X.K X.w N ρ1 H1 (MM Z ρ1 h1) σ σV → R ρ1 H1 (MM Z ρ1 h1) a b → PostS X.K X.w N xf Z D Wx H1 ρ1 h1 (g a h1) → Q1 b H1) :
    tR X N xf R Wx f σV H Q1 := by
  refine ⟨Z, σ, ρ, h, r, re, ?_⟩
  refine PostG.mono (PostS.split (R := R) p re) fun b H1 q => ?_
  obtain ⟨a, h1, ρ1, e, x, r1, ra1, p1⟩ := q
  exact k a b H1 ρ1 h1 e x r1 (re.keep x.keep x.pre) ra1 p1
theorem tS_nx {D : Ends} {σV : L2.St} {H : Hp} {σ : Env} {ρ : List Addr} {h : A} (r : RepA X.K X.w N Z H ρ h) (re : RepE X.K X.w N ρ H (MM Z ρ h) σ σV) (p : PostS X.K X.w N xf Z D Wx H ρ h (.nx σ h)) : D.nx σV H := p σV H ρ (Ext.refl _ _ _ _) r re
theorem PostS.some {D : Ends} {H : Hp} {ρ : List Addr} {h : A} {α : Type} {o : Option α} {f : α → SRes} (p : PostS X.K X.w N xf Z D Wx H ρ h (ofOptS o f)) : ∃ a, o = some a ∧ PostS X.K X.w N xf Z D Wx H ρ h (f a) := by
  cases o with
  | none => exact p.elim
  | some a => exact ⟨a, rfl, p⟩
theorem PostS.must {D : Ends} {H : Hp} {ρ : List Addr} {h : A} {b : Bool} {f : SRes} (p : PostS X.K X.w N xf Z D Wx H ρ h (mustS b f)) : b = true ∧ PostS X.K X.w N xf Z D Wx H ρ h f := by
  cases b with
  | false => exact p.elim
  | true => exact ⟨rfl, p⟩
theorem PostS.bool {D : Ends} {H : Hp} {ρ : List Addr} {h : A} {w : W} {f : Bool → SRes} (p : PostS X.K X.w N xf Z D Wx H ρ h (boolS w f)) : ∃ b, w = .c (.bl b) ∧ PostS X.K X.w N xf Z D Wx H ρ h (f b) := by
  cases w with
  | l n => exact p.elim
  | c d => cases d <;> first | exact p.elim | exact ⟨_, rfl, p⟩
/-! ### blocks -/
theorem sts_nil : PSs X [] (tSt X N xf Wx (exs G [])) := PSs.imp pss_nil fun D σV H ⟨Z, σ, ρ, h, r, re, p⟩ => tS_nx r re p
theorem exs_cons {s : S} {r : List S} {σ : Env} {h : A} : exs G (s :: r) σ h = match ex G s σ h with
    | .nx σ1 h1 => exs G r σ1 h1
    | x => x := rfl
theorem sts_cons {s0 : Stmt} {r0 : List Stmt} {s : S} {r : List S} (h1 : PS X s0 (tSt X N xf Wx (ex G s))) (h2 : PSs X r0 (tSt X N xf Wx (exs G r))) : PSs X (s0 :: r0) (tSt X N xf Wx (exs G (s :: r))) := by
  refine PSs.imp (pss_cons h1 h2) fun D σV H ⟨Z, σ, ρ, h, ra, re, p⟩ => ⟨Z, σ, ρ, h, ra, re, ?_⟩
  rw [exs_cons] at p
  cases e : ex G s σ h with
  | nx σ1 h1 =>
    rw [e] at p
    exact fun σV' H' ρ' x r' re' => ⟨Z, σ1, ρ', h1, r', re', PostS.ext x p⟩
  | rt _ _ => rw [e] at p; exact p
  | bk _ _ => rw [e] at p; exact p
  | ct _ _ => rw [e] at p; exact p
  | er _ _ _ _ => rw [e] at p; exact p
  | stuck => rw [e] at p; exact p
/-! ### small statements -/
theorem st_pass {pos : Pos} : PS X (.Pass pos) (tSt X N xf Wx (ex G .pass)) := PS.imp ps_pass fun D σV H ⟨Z, σ, ρ, h, r, re, p⟩ => tS_nx r re p
theorem st_brk {pos : Pos} : PS X (.Break pos) (tSt X N xf Wx (ex G .brk)) := PS.imp ps_break fun D σV H ⟨Z, σ, ρ, h, r, re, p⟩ => p σV H ρ (Ext.refl _ _ _ _) r re
theorem st_cnt {pos : Pos} : PS X (.Continue pos) (tSt X N xf Wx (ex G .cnt)) := PS.imp ps_continue fun D σV H ⟨Z, σ, ρ, h, r, re, p⟩ => p σV H ρ (Ext.refl _ _ _ _) r re
theorem st_ex {e0 : Expr} {e : E} {pos : Pos} (he : PE X e0 (tEv X N xf G Wx e)) (hs : swapsWith e0 none pos.line X.env = pure false) : PS X (.Expr e0 pos) (tSt X N xf Wx (ex G (.ex e))) := by
  refine PS.imp (ps_expr he hs) fun D σV H ⟨Z, σ, ρ, h, r, re, p⟩ => ?_
  exact tS_at r re (f := ev G e) (g := fun _ h1 => .nx σ h1) p fun w v H1 ρ1 h1 _ x1 r1 re1 rx p1 => tS_nx r1 re1 p1
theorem st_ret {e0 : Expr} {e : E} {pos : Pos} (he : PE X e0 (tEv X N xf G Wx e)) : PS X (.Return (some e0) pos) (tSt X N xf Wx (ex G (.ret e))) := by
  refine PS.imp (ps_ret he) fun D σV H ⟨Z, σ, ρ, h, r, re, p⟩ => ?_
  exact tS_at r re (f := ev G e) (g := fun w h1 => .rt w h1) p fun w v H1 ρ1 h1 _ x1 r1 re1 rx p1 => p1 v H1 ρ1 (Ext.refl _ _ _ _) r1 rx
theorem st_retN {pos : Pos} : PS X (.Return none pos) (tSt X N xf Wx (ex G .retN)) := PS.imp ps_retN fun D σV H ⟨Z, σ, ρ, h, r, re, p⟩ => p .non H ρ (Ext.refl _ _ _ _) r (show RepD _ _ _ _ _ _ _ from nonD)
theorem testOf_then {c : E} {σ : Env} {h : A} {f : Bool → A → SRes} : ((ev G c σ h).then σ fun w h1 => boolS w fun t => f t h1) = (testOf G c σ h).then σ f := by
  show _ = ((ev G c σ h).bind fun w h1 => boolOf w fun b => .ok b h1).then σ f
  cases ev G c σ h with
  | ok w h1 =>
    show boolS w (fun t => f t h1) = Res.then (boolOf w fun b => .ok b h1) σ f
    cases w with
    | l n => rfl
    | c d => cases d <;> rfl
  | err _ _ _ => rfl
  | stuck => rfl
theorem st_if {c0 : Expr} {a0 b0 : List Stmt} {c : E} {a b : List S} {pos : Pos} (hc : PT X c0 (tEvT X N xf G Wx c)) (ha : PSs X a0 (tSt X N xf Wx (exs G a))) (hb : PSs X b0 (tSt X N xf Wx (exs G b))) : PS X (.If c0 a0 b0 pos) (tSt X N xf Wx (ex G (.ife c a b))) := by
  refine PS.imp (ps_if hc ha hb) fun D σV H ⟨Z, σ, ρ, h, r, re, p⟩ => ?_
  have p' : PostS X.K X.w N xf Z D Wx H ρ h ((testOf G c σ h).then σ fun t h1 => match t with
    | true => exs G a σ h1
    | false => exs G b σ h1) := by rw [← testOf_then]; exact p
  refine tS_at r re (f := testOf G c) p' fun t t' H1 ρ1 h1 _ x1 r1 re1 rx p1 => ?_
  obtain rfl : t = t' := rx
  cases t with
  | true => exact iteT ⟨Z, σ, ρ1, h1, r1, re1, p1⟩
  | false => exact iteF ⟨Z, σ, ρ1, h1, r1, re1, p1⟩
/-! ### targets -/
def gN : List Nat → TGs
  | [] => gNil
  | i :: r => gCons (gName i) (gN r)
def gT (X : Cx) : Tg → TG
  | .nm i => gName i
  | .tp is => gTup X.K is.length (gN is)
theorem gN_ok {H : Hp} {M : Addr → Prop} {ρ : List Addr} {Q : L2.St → Hp → Prop} : ∀ {is : List Nat} {ds : List D} {vs : List V} {σ : Env} {σV : L2.St}, ds.length = is.length → RepDs X.K X.w N H M ds vs → RepE X.K X.w N ρ H M σ σV →
    (∀ σV1, RepE X.K X.w N ρ H M ((is.zip ds).foldl (fun σ p => σ.set p.1 (some (W.c p.2))) σ) σV1 → Q σV1 H) → gN is vs σV H Q
  | [], [], vs, σ, σV, _, q, re, k => by unfold RepDs at q; exact ⟨q, k σV re⟩
  | [], _ :: _, _, _, _, e, _, _, _ => by cases e
  | _ :: _, [], _, _, _, e, _, _, _ => by cases e
  | i :: is, d :: ds, vs, σ, σV, e, q, re, k => by
    unfold RepDs at q
    obtain ⟨v, vs', rfl, a, b⟩ := q
    exact ⟨v, vs', rfl, gN_ok (is := is) (by simpa using e) b (re.set (x := .c d) a i) k⟩
theorem gT_ok {t : Tg} {w : W} {v : V} {σ σ1 : Env} {σV : L2.St} {H : Hp} {M : Addr → Prop} {ρ : List Addr} {Q : L2.St → Hp → Prop} (e : bindTg t w σ = some σ1) (q : RepW X.K X.w N ρ H M w v) (re : RepE X.K X.w N ρ H M σ σV) (k : ∀ σV1, RepE X.K X.w N ρ H M σ1 σV1 → Q σV1 H) : gT X t v σV H Q := by
  cases t with
  | nm i => cases e; exact k _ (re.set q i)
  | tp is =>
    cases w with
    | l n => cases e
    | c d =>
      cases d <;> first | (cases e; done) | skip
      rename_i ds
      have e' : (match decide (ds.length = is.length) with
        | true => some ((is.zip ds).foldl (fun σ p => σ.set p.1 (some (W.c p.2))) σ)
        | false => none) = some σ1 := e
      cases hl : decide (ds.length = is.length) with
      | false => rw [hl] at e'; cases e'
      | true =>
        rw [hl] at e'
        cases e'
        obtain ⟨a, vs, rfl, h1, h2⟩ := RepD.tup_inv (show RepD X.K X.w N H M (.tup ds) v from q)
        have hl' := of_decide_eq_true hl
        exact ⟨a, vs, rfl, h1, by rw [← h2.length, hl'], gN_ok hl' h2 re k⟩
theorem st_set {t : Tg} {t0 e0 : Expr} {e : E} {pos : Pos} (hg : PG X t0 (gT X t)) (he : PE X e0 (tEv X N xf G Wx e)) (hs : swapsWithSole [t0] e0 pos.line X.env = pure false) (hw : swappedStores [t0] e0 X.env = pure none)
    (h1 : (assignEach [t0] X.env).map (·.2) = [assign t0 X.env]) : PS X (.Assign [t0] e0 pos) (tSt X N xf Wx (ex G (.set t e))) := by
  refine PS.imp (ps_asg he hg hs hw h1) fun D σV H ⟨Z, σ, ρ, h, r, re, p⟩ => ?_
  refine tS_at r re (f := ev G e) (g := fun w h1 => ofOptS (bindTg t w σ) fun σ1 => .nx σ1 h1) p fun w v H1 ρ1 h1 _ x1 r1 re1 rx p1 => ?_
  obtain ⟨σ1, e1, p2⟩ := PostS.some p1
  exact gT_ok e1 rx re1 fun σV1 re2 => tS_nx r1 re2 p2
theorem st_setN {i : Nat} {x : Str} {e0 : Expr} {e : E} {pos pos' : Pos} (hN : X.N.Nodup) (hi : X.N[i]? = some x) (hx : Loc X.env.scope x) (hf : X.fn x = true ∨ X.env.scope.names.lookup x = some .local) (he : PE X e0 (tEv X N xf G Wx e)) (hs : swapsWith e0 (some (.Name x pos')) pos.line X.env = pure false) :
    PS X (.Assign [.Name x pos'] e0 pos) (tSt X N xf Wx (ex G (.set (.nm i) e))) := by
  refine PS.imp (ps_set hN hi hx he hs hf) fun D σV H ⟨Z, σ, ρ, h, r, re, p⟩ => ?_
  exact tS_at r re (f := ev G e) (g := fun w h1 => .nx (σ.set i (some w)) h1) p fun w v H1 ρ1 h1 _ x1 r1 re1 rx p1 => tS_nx r1 (re1.set rx i) p1
theorem st_par {i j : Nat} {x y : Str} {a0 b0 : Expr} {a b : E} {px py pt pos : Pos} {kt k2 pt2} (hc : X.calm = true) (hN : X.N.Nodup) (hi : X.N[i]? = some x) (hj : X.N[j]? = some y) (hij : i ≠ j)
    (hx : X.env.scope.names.lookup x = some .local) (hy : X.env.scope.names.lookup y = some .local) (ha : PA X [a0, b0] (tEvs X N xf G Wx [a, b]))
    (hw : swappedStores [.Tuple [.Name x px, .Name y py] kt pt] (.Tuple [a0, b0] k2 pt2) X.env = pure (some [x, y]))
    (hs : swapsWithSole [.Tuple [.Name x px, .Name y py] kt pt] (.Tuple [a0, b0] k2 pt2) pos.line X.env = pure false) :
    PS X (.Assign [.Tuple [.Name x px, .Name y py] kt pt] (.Tuple [a0, b0] k2 pt2) pos) (tSt X N xf Wx (ex G (.par i j a b))) := by
  refine PS.imp (ps_par hc hN hi hj hij hx hy ha hw hs) fun D σV H ⟨Z, σ, ρ, h, r, re, p⟩ => ?_
  have p' : PostS X.K X.w N xf Z D Wx H ρ h ((evs G [a, b] σ h).then σ fun ws h2 => match ws with
    | [x, y] => .nx ((σ.set i (some x)).set j (some y)) h2
    | _ => .stuck) := by
    have e : (evs G [a, b] σ h).then σ (fun ws h2 => match ws with
      | [x, y] => .nx ((σ.set i (some x)).set j (some y)) h2
      | _ => .stuck) = (ev G a σ h).then σ fun x h1 => (ev G b σ h1).then σ fun y h2 => .nx ((σ.set i (some x)).set j (some y)) h2 := by
      show Res.then ((ev G a σ h).bind fun w h1 => (evs G [b] σ h1).bind fun ws h2 => .ok (w :: ws) h2) σ _ = _
      cases ev G a σ h with
      | ok w h1 =>
        show Res.then ((evs G [b] σ h1).bind fun ws h2 => .ok (w :: ws) h2) σ _ = _
        show Res.then (((ev G b σ h1).bind fun w h1 => (evs G [] σ h1).bind fun ws h2 => .ok (w :: ws) h2).bind fun ws h2 => .ok (w :: ws) h2) σ _ = (ev G b σ h1).then σ _
        cases ev G b σ h1 <;> rfl
      | err _ _ _ => rfl
      | stuck => rfl
    rw [e]; exact p
  refine tS_at r re (f := evs G [a, b]) p' fun ws vs H1 ρ1 h1 e1 x1 r1 re1 rx p1 => ?_
  have hl := evs_length e1
  cases ws with
  | nil => cases hl
  | cons w1 wr =>
    cases wr with
    | nil => cases hl
    | cons w2 wr =>
      cases wr with
      | cons _ _ => cases hl
      | nil =>
        obtain ⟨v1, _, rfl, q1, v2, _, rfl, q2, rfl⟩ := rx
        exact ⟨v1, v2, rfl, tS_nx r1 ((re1.set q1 i).set q2 j) p1⟩
/-! ### fields -/
theorem RepWF.put {K : PySem.W.Frag} {w : World} {H : Hp} {M : Addr → Prop} {ρ : List Addr} {f : Nat} {y : W} {v : V} (q : RepW K w N ρ H M y v) : ∀ {fs : List (Nat × W)} {vs : List (Str × V)}, RepWF K w N ρ H M fs vs → RepWF K w N ρ H M (putN fs f y) (putF (N.at_ f) v vs)
  | [], vs, e => by cases e; exact ⟨v, [], rfl, q, rfl⟩
  | (g, x) :: r, vs, ⟨u, us, ev, q1, q2⟩ => by
    subst ev
    show RepWF K w N ρ H M (match decide (g = f) with
      | true => (g, y) :: r
      | false => (g, x) :: putN r f y) _
    unfold putF
    by_cases h : g = f
    · subst h
      rw [decide_eq_true rfl, if_pos rfl]
      exact ⟨v, us, rfl, q, q2⟩
    · rw [decide_eq_false h, if_neg fun z => h (N.inj _ _ z)]
      exact ⟨u, _, rfl, q1, RepWF.put q q2⟩
theorem RepWF.length {K : PySem.W.Frag} {w : World} {H : Hp} {M : Addr → Prop} {ρ : List Addr} : ∀ {fs : List (Nat × W)} {vs : List (Str × V)}, RepWF K w N ρ H M fs vs → fs.length = vs.length
  | [], _, e => by cases e; rfl
  | (_, _) :: _, _, ⟨_, _, ev, _, q2⟩ => by subst ev; simp [RepWF.length q2]
/-- the value as it is stored -/
theorem store_ok {D : Ends} {c f : Nat} {x : W} {v : V} {H : Hp} {ρ : List Addr} {h : A} {σ : Env} {g : W → A → SRes} {n : Nat} (r : RepA X.K X.w N Z H ρ h) (q : RepW X.K X.w N ρ H (MM Z ρ h) x v) {α : Type} {f' : W → A → Res α} {R : RR α α}
    {Q : α → Hp → Prop} {E : XK} (p : PostG X.K X.w N xf Z R Q E H ρ h ((storeW G c f x h).bind f')) : ∃ y h1, Ext Z H ρ h H ρ h1 ∧ RepA X.K X.w N Z H ρ h1 ∧ RepW X.K X.w N ρ H (MM Z ρ h1) y v ∧ PostG X.K X.w N xf Z R Q E H ρ h1 (f' y h1) := by
  have p' : PostG X.K X.w N xf Z R Q E H ρ h ((match G.C c with
    | some cl => match cl.own.contains f with
      | true => Res.ok x h
      | false => (freeze h x).bind fun d h1 => Res.ok (W.c d) h1
    | none => (.stuck : Res W)).bind f') := p
  cases e : G.C c with
  | none => rw [e] at p'; exact p'.elim
  | some cl =>
    rw [e] at p'
    cases e2 : cl.own.contains f with
    | true =>
      have p2 : PostG X.K X.w N xf Z R Q E H ρ h ((match cl.own.contains f with
        | true => Res.ok x h
        | false => (freeze h x).bind fun d h1 => Res.ok (W.c d) h1).bind f') := p'
      rw [e2] at p2
      exact ⟨x, h, Ext.refl _ _ _ _, r, q, p2⟩
    | false =>
      have p2 : PostG X.K X.w N xf Z R Q E H ρ h ((match cl.own.contains f with
        | true => Res.ok x h
        | false => (freeze h x).bind fun d h1 => Res.ok (W.c d) h1).bind f') := p'
      rw [e2] at p2
      have p3 : PostG X.K X.w N xf Z R Q E H ρ h (((freeze h x).bind fun d h1 => Res.ok (W.c d) h1).bind f') := p2
      rw [bind_assoc] at p3
      obtain ⟨d, h1, x1, r1, d1, p4⟩ := freeze_ok r q p3
      exact ⟨.c d, h1, x1, r1, d1, p4⟩
end
end B

set_option Elab.async false
set_option linter.all false
set_option maxRecDepth 100000
set_option maxHeartbeats 2000000
/-! Stores into objects. Own work. -/
namespace B
open PySem PySem.Spec PyProof.Rows L2
section
variable {X : Cx} {N : Nm} {xf : Nat → Str} {G : Gx} {Wx : WX} {Z : Addr → Prop} {nF nM nC nA k : Nat}
abbrev RU : RR Unit Unit := fun _ _ _ _ _ => True
/-- what is done before the next statement -/
theorem split_nx {D : Ends} {α : Type} {σV : L2.St} {H : Hp} {σ : Env} {ρ : List Addr} {h : A} {r : Res α} {β : Type} {R : RR α β} (re : RepE X.K X.w N ρ H (MM Z ρ h) σ σV) (p : PostS X.K X.w N xf Z D Wx H ρ h (r.then σ fun _ h3 => .nx σ h3)) :
    PostG X.K X.w N xf Z R (fun _ H' => D.nx σV H') (fun cls dd H' => Wx cls dd σV H') H ρ h r :=
  PostG.mono (PostS.split (R := R) p re) fun _ H1 ⟨a, h1, ρ1, _, x, r1, _, p1⟩ => tS_nx r1 (re.keep x.keep x.pre) p1
theorem RepA.set2 {H : Hp} {ρ : List Addr} {h : A} {n : Nat} {o u : O} {a : Addr} {ho : HO} {Q : Unit → Hp → Prop} {E : XK} (r : RepA X.K X.w N Z H ρ h) (e : h[n]? = some u) (du : isDead u = false) (ea : ρ[n]? = some a) (q : RepO X.K X.w N ρ H (MM Z ρ h) o ho)
    (p : PostG X.K X.w N xf Z RU Q E H ρ h (.ok () (h.set n o))) : Q () (upd H a ho) :=
  p () _ ρ (Ext.set e du ea) (r.set e du ea q) trivial
theorem setField_ok {H : Hp} {ρ : List Addr} {h : A} {o w : W} {x y : V} {f : Nat} {Q : Unit → Hp → Prop} {E : XK} (r : RepA X.K X.w N Z H ρ h) (q1 : RepW X.K X.w N ρ H (MM Z ρ h) o x) (q2 : RepW X.K X.w N ρ H (MM Z ρ h) w y) (p : PostG X.K X.w N xf Z RU Q E H ρ h (setField G o w f h)) :
    ∃ a c dx fs, x = .ref a ∧ H a = some (.ins (N.cls c) dx fs) ∧ fs.length < 1000 ∧ Q () (upd H a (.ins (N.cls c) dx (putF (N.at_ f) y fs))) := by
  cases o with
  | c d => exact p.elim
  | l n =>
    obtain ⟨a, ea, rfl⟩ := q1
    have p' : PostG X.K X.w N xf Z RU Q E H ρ h (match h[n]? with
      | some (.ins c _) => (storeW G c f w h).bind fun w' h1 => match h1[n]? with
        | some (.ins c' fs) => must (decide (c' = c) && decide (fs.length < 1000)) (.ok () (h1.set n (.ins c' (putN fs f w'))))
        | _ => .stuck
      | _ => .stuck) := p
    cases e : h[n]? with
    | none => rw [e] at p'; exact p'.elim
    | some ob =>
      rw [e] at p'
      cases ob with
      | ins c fs0 =>
        obtain ⟨w', h1, x1, r1, q3, p2⟩ := store_ok (R := RU) (n := n) (D := { nx := fun _ _ => True, rt := fun _ _ => True }) (σ := []) (g := fun _ _ => .stuck) r q2 p'
        cases e1 : h1[n]? with
        | none => rw [e1] at p2; exact p2.elim
        | some ob1 =>
          rw [e1] at p2
          cases ob1 with
          | ins c' fs =>
            obtain ⟨hb, p3⟩ := PostG.must p2
            obtain ⟨h3, h4⟩ := Bool.and_eq_true_iff.mp hb
            obtain ⟨ho, o1, dx, vs, rfl, o2⟩ := r1.obj n _ a e1 ea
            exact ⟨a, c', dx, vs, rfl, o1, by rw [← o2.length]; exact of_decide_eq_true h4, r1.set2 (o := .ins c' (putN fs f w')) e1 rfl ea ⟨dx, _, rfl, o2.put q3⟩ p3⟩
          | _ => exact p2.elim
      | _ => exact p'.elim
theorem st_sat {o0 e0 : Expr} {o e : E} {f : Nat} {x : Str} {pos pos' : Pos} (F : PF X.K N G nC nA) (hf : f < nA) (hx : x = N.at_ f) (ho : PE X o0 (tEv X N xf G Wx o)) (he : PE X e0 (tEv X N xf G Wx e))
    (hs : swapsWith e0 (some (.Attribute o0 x pos')) pos.line X.env = pure false) : PS X (.Assign [.Attribute o0 x pos'] e0 pos) (tSt X N xf Wx (ex G (.sat o f e))) := by
  refine PS.imp (ps_fld ho he hs) fun D σV H ⟨Z, σ, ρ, h, r, re, p⟩ => ?_
  refine tS_at r re (f := ev G e) (g := fun w h1 => (ev G o σ h1).then σ fun x h2 => (setField G x w f h2).then σ fun _ h3 => .nx σ h3) p fun w y H1 ρ1 h1 _ x1 r1 re1 rw1 p1 => ?_
  refine tS_at r1 re1 (f := ev G o) (g := fun x h2 => (setField G x w f h2).then σ fun _ h3 => .nx σ h3) p1 fun ow z H2 ρ2 h2 _ x2 r2 re2 ro p2 => ?_
  obtain ⟨a, c, dx, fs, e1, e2, e3, e4⟩ := setField_ok r2 ro (rw1.keep x2.keep x2.pre) (split_nx (R := RU) re2 p2)
  subst hx
  exact ⟨a, _, dx, fs, e1, e2, F.cls c, F.noat c f hf, e3, e4⟩
/-! ### items -/
theorem RepDs.set {K : PySem.W.Frag} {w : World} {H : Hp} {M : Addr → Prop} {d : D} {v : V} (q : RepD K w N H M d v) : ∀ {xs : List D} {vs : List V} (i : Nat), RepDs K w N H M xs vs → RepDs K w N H M (xs.set i d) (vs.set i v)
  | [], vs, i, e => by unfold RepDs at e; subst e; show RepDs K w N H M [] []; unfold RepDs; rfl
  | x :: xs, vs, 0, e => by
    unfold RepDs at e
    obtain ⟨u, us, rfl, a, b⟩ := e
    show RepDs K w N H M (d :: xs) (v :: us)
    unfold RepDs
    exact ⟨v, us, rfl, q, b⟩
  | x :: xs, vs, i + 1, e => by
    unfold RepDs at e
    obtain ⟨u, us, rfl, a, b⟩ := e
    show RepDs K w N H M (x :: xs.set i d) (u :: us.set i v)
    unfold RepDs
    exact ⟨u, _, rfl, a, RepDs.set q i b⟩
theorem RepKs.length {K : PySem.W.Frag} {w : World} {H : Hp} {M : Addr → Prop} : ∀ {kvs : List (D × D)} {ks : List (Key × V)}, RepKs K w N H M kvs ks → kvs.length = ks.length
  | [], _, q => by unfold RepKs at q; subst q; rfl
  | (_, _) :: _, _, q => by
    unfold RepKs at q
    obtain ⟨_, _, _, rfl, _, _, b⟩ := q
    simp [RepKs.length b]
def rSet (X : Cx) (N : Nm) (xf : Nat → Str) : TSet := fun o i v H Q => ∃ (Z : Addr → Prop) (ρ : List Addr) (h : A) (ow iw w : W) (E : XK), RepA X.K X.w N Z H ρ h ∧ RepW X.K X.w N ρ H (MM Z ρ h) ow o ∧ RepW X.K X.w N ρ H (MM Z ρ h) iw i ∧ RepW X.K X.w N ρ H (MM Z ρ h) w v ∧
  PostG X.K X.w N xf Z RU (fun _ H' => Q H') E H ρ h (setItem ow iw w h)
theorem set_all (hu : X.A.units + 200 < cLine) : PSet X (rSet X N xf) := by
  intro pins s σ H o i v ov iv u Q I ro ri rv q
  obtain ⟨Z, ρ, h, ow, iw, w, E, r, q1, q2, q3, p⟩ := q
  cases ow with
  | c d => exact p.elim
  | l n =>
    obtain ⟨a, ea, rfl⟩ := q1
    have p' : PostG X.K X.w N xf Z RU (fun _ H' => Q H') E H ρ h ((freeze h w).bind fun v h1 => ofOpt (look h1 iw) fun x => match h1[n]? with
      | some (.lst xs) => match x with
        | .int j => ofOpt (ixI xs.length j) fun k => .ok () (h1.set n (.lst (xs.set k v)))
        | _ => .stuck
      | some (.dct t kvs) => must (decide (kvs.length < sizeMax)) (ofOpt (dPut t kvs x v) fun kvs' => .ok () (h1.set n (.dct t kvs')))
      | _ => .stuck) := p
    obtain ⟨d, h1, x1, r1, d1, p2⟩ := freeze_ok r q3 p'
    obtain ⟨x, e1, p3⟩ := PostG.some p2
    have lx := (q2.keep x1.keep x1.pre).look r1 e1
    cases e : h1[n]? with
    | none => rw [e] at p3; exact p3.elim
    | some ob =>
      rw [e] at p3
      obtain ⟨ho, o1, o2⟩ := r1.obj n _ a e ea
      cases ob with
      | lst xs =>
        cases x with
        | int j =>
          obtain ⟨k, e2, p4⟩ := PostG.some p3
          obtain ⟨vs, rfl, o3⟩ := o2
          obtain rfl : i = V.int j := by simpa only [RepL, RepD] using lx
          exact set_list pins s σ H _ _ v ov iv u Q I ro ri rv ⟨a, vs, j, k, rfl, rfl, o1, by rw [← o3.length]; exact e2, r1.set2 (o := .lst (xs.set k d)) e rfl ea ⟨_, rfl, RepDs.set d1 k o3⟩ p4⟩
        | _ => exact p3.elim
      | dct t kvs =>
        obtain ⟨hl, p4⟩ := PostG.must p3
        obtain ⟨kvs', e2, p5⟩ := PostG.some p4
        obtain ⟨tt, ks, rfl, nd, rk⟩ := o2
        unfold dPut at e2
        split at e2
        · rename_i hk
          cases e2
          obtain ⟨key, ek⟩ := keyD_key tt hk
          have ey := lx.key ek
          subst ey
          have hl' : ks.length < sizeLine := by rw [← rk.length, ← sizeMax_eq]; exact of_decide_eq_true hl
          exact set_dict (by omega) pins s σ H _ _ v ov iv u Q I ro ri rv ⟨a, _, rfl, DPut.k o1 hl', r1.set2 (o := .dct t (putK kvs x d)) (ho := .dK (L2.putK ks key v)) e rfl ea ⟨tt, _, rfl, putK_keys nd, rk.put ek d1 nd⟩ p5⟩
        · cases e2
      | _ => exact p3.elim
theorem st_six {o0 i0 e0 : Expr} {o i e : E} {pos pos' : Pos} (hu : X.A.units + 200 < cLine) (ho : PE X o0 (tEv X N xf G Wx o)) (hi : PE X i0 (tEv X N xf G Wx i)) (he : PE X e0 (tEv X N xf G Wx e))
    (ha : ∀ v, assign (.Subscript o0 i0 pos') X.env v = (do
      let ov ← holding [v] (eval o0 X.env)
      let iv ← holding [v, ov] (eval i0 X.env)
      standAt pos'
      holding [v, ov, iv] (PySem.setItem ov iv v)
      release [v, ov, iv] []))
    (hs : swapsWithSole [.Subscript o0 i0 pos'] e0 pos.line X.env = pure false) (hw : swappedStores [.Subscript o0 i0 pos'] e0 X.env = pure none)
    (h1 : (assignEach [.Subscript o0 i0 pos'] X.env).map (·.2) = [assign (.Subscript o0 i0 pos') X.env]) : PS X (.Assign [.Subscript o0 i0 pos'] e0 pos) (tSt X N xf Wx (ex G (.six o i e))) := by
  refine PS.imp (ps_asg he (pg_sub ho hi (set_all (N := N) (xf := xf) hu) ha) hs hw h1) fun D σV H ⟨Z, σ, ρ, h, r, re, p⟩ => ?_
  refine tS_at r re (f := ev G e) (g := fun w h1 => (ev G o σ h1).then σ fun x h2 => (ev G i σ h2).then σ fun y h3 => (setItem x y w h3).then σ fun _ h4 => .nx σ h4) p fun w v H1 ρ1 h1 _ x1 r1 re1 rw1 p1 => ?_
  refine tS_at r1 re1 (f := ev G o) (g := fun x h2 => (ev G i σ h2).then σ fun y h3 => (setItem x y w h3).then σ fun _ h4 => .nx σ h4) p1 fun ow ov H2 ρ2 h2 _ x2 r2 re2 ro p2 => ?_
  refine tS_at r2 re2 (f := ev G i) (g := fun y h3 => (setItem ow y w h3).then σ fun _ h4 => .nx σ h4) p2 fun iw iv H3 ρ3 h3 _ x3 r3 re3 ri p3 => ?_
  exact ⟨Z, ρ3, h3, ow, iw, w, _, r3, ro.keep x3.keep x3.pre, ri, rw1.keep (x2.trans x3).keep (x2.trans x3).pre, split_nx (R := RU) re3 p3⟩
end
end B

set_option Elab.async false
set_option linter.all false
set_option maxRecDepth 100000
set_option maxHeartbeats 2000000
/-! Loops. Own work. -/
namespace B
open PySem PySem.Spec PyProof.Rows L2
section
variable (K : PySem.W.Frag) (w : World) (N : Nm)
/-- an iterator that yields the trees xs -/
def ItC (J : L2.It) (xs : List D) (H : Hp) (M : Addr → Prop) : Prop := ∃ I : Hp → (Addr → Prop) → Prop, I H M ∧ (∀ {H P M H' P' M'}, Keep H P M H' P' M' → I H M → I H' M') ∧
  (∀ H M i d, I H M → xs[i]? = some d → J.go i H ∧ ∀ x H', J.yld i H x H' → (H' = H ∧ RepD K w N H M d x) ∨ ∃ p o, H p = none ∧ H' = upd H p o ∧ (¬ M p → RepD K w N H' M d x)) ∧ (∀ H M, I H M → J.stop xs.length H)
def RI : RR B.It L2.It := fun ρ H M it J => match it with
  | .cl xs => ItC K w N J xs H M
  | .lo n => ∃ a, ρ[n]? = some a ∧ J = Itl K a
  | .kd n => False
end
section
variable {K : PySem.W.Frag} {w : World} {N : Nm} {H : Hp} {M : Addr → Prop}
theorem itC_list {xs : List D} {a : Addr} {vs : List V} (e : Rd H a (.lst vs)) (m : ¬ M a) (q : RepDs K w N H M xs vs) : ItC K w N (Itl K a) xs H M := by
  refine ⟨fun H M => Rd H a (.lst vs) ∧ ¬ M a ∧ RepDs K w N H M xs vs, ⟨e, m, q⟩, fun k ⟨h1, h2, h3⟩ => ⟨(k.rd h1 h2).1, (k.rd h1 h2).2, h3.keep k⟩, fun H M i d ⟨h1, h2, h3⟩ hd => ?_, fun H M ⟨h1, h2, h3⟩ => ⟨vs, .inl h1, by rw [h3.length]; exact Nat.le_refl _⟩⟩
  obtain ⟨v, hv, dv⟩ := h3.get hd
  refine ⟨⟨vs, v, .inl h1, hv⟩, fun x H' y => ?_⟩
  obtain ⟨rfl, hy⟩ := y
  have := hy vs (.inl h1)
  rw [hv] at this
  cases this
  exact .inl ⟨rfl, dv⟩
theorem itC_tup {xs : List D} {a : Addr} {vs : List V} (e : (H a = some (.tup vs) ∧ ¬ M a) ∨ KTup K a vs) (q : RepDs K w N H M xs vs) : ItC K w N (Itt K a) xs H M := by
  refine ⟨fun H M => ((H a = some (.tup vs) ∧ ¬ M a) ∨ KTup K a vs) ∧ RepDs K w N H M xs vs, ⟨e, q⟩, fun k ⟨h1, h3⟩ => ⟨h1.imp (fun h => ⟨k.at h.1 h.2, k.not h.1 h.2⟩) id, h3.keep k⟩, fun H M i d ⟨h1, h3⟩ hd => ?_, fun H M ⟨h1, h3⟩ => ⟨vs, ?_, by rw [h3.length]; exact Nat.le_refl _⟩⟩
  · have hs : SqT K H a vs := h1.elim (fun h => .of h.1) fun h => h.sq
    obtain ⟨v, hv, dv⟩ := h3.get hd
    refine ⟨⟨vs, v, hs, hv⟩, fun x H' y => ?_⟩
    obtain ⟨rfl, hy⟩ := y
    have := hy vs hs
    rw [hv] at this
    cases this
    exact .inl ⟨rfl, dv⟩
  · exact h1.elim (fun h => .of h.1) fun h => h.sq
theorem signs_get {s : Str} {i : Nat} {d : D} (e : (signs s)[i]? = some d) : ∃ c, s.cps[i]? = some c ∧ d = .str ⟨#[c]⟩ := by
  have e' : (s.cps.toList.map fun c => D.str ⟨#[c]⟩)[i]? = some d := e
  rw [List.getElem?_map] at e'
  obtain ⟨c, h1, h2⟩ := Option.map_eq_some_iff.mp e'
  exact ⟨c, by simpa using h1, h2.symm⟩
theorem itC_str {s : Str} (k : PyData.strOk s = true) : ItC K w N (Its s) (signs s) H M := by
  refine ⟨fun _ _ => True, trivial, fun _ _ => trivial, fun H M i d _ hd => ?_, fun H M _ => ?_⟩
  · obtain ⟨c, hc, rfl⟩ := signs_get hd
    refine ⟨(Array.getElem?_eq_some_iff.mp hc).1, fun x H' y => ?_⟩
    obtain ⟨rfl, c', hc', rfl⟩ := y
    rw [hc] at hc'; cases hc'
    refine .inl ⟨rfl, strD ?_⟩
    refine strOk_list (l := [c]) fun x hx => ?_
    have : x = c := by simpa using hx
    subst this
    exact strOk_mem k x (by simpa using Array.mem_of_getElem? hc)
  · show s.cps.size ≤ (s.cps.toList.map fun c => D.str ⟨#[c]⟩).length
    simp
theorem intsN_get : ∀ {n : Nat} {lo : Int} {i : Nat} {d : D}, (intsN lo n)[i]? = some d → i < n ∧ d = .int (lo + i)
  | 0, _, _, _, e => by simp [intsN] at e
  | n + 1, lo, 0, d, e => by
    have : D.int lo = d := by simpa [intsN] using e
    exact ⟨by omega, by rw [← this]; simp⟩
  | n + 1, lo, i + 1, d, e => by
    obtain ⟨h1, h2⟩ := intsN_get (n := n) (lo := lo + 1) (i := i) (by simpa [intsN] using e)
    refine ⟨by omega, by rw [h2]; congr 1; omega⟩
theorem intsN_length : ∀ {n : Nat} {lo : Int}, (intsN lo n).length = n
  | 0, _ => rfl
  | n + 1, lo => by simp [intsN, intsN_length]
theorem itC_rng {lo : Int} {n : Nat} : ItC K w N (Itr lo n) (intsN lo n) H M := by
  refine ⟨fun _ _ => True, trivial, fun _ _ => trivial, fun H M i d _ hd => ?_, fun H M _ => ?_⟩
  · obtain ⟨h1, rfl⟩ := intsN_get hd
    refine ⟨h1, fun x H' y => ?_⟩
    obtain ⟨rfl, rfl⟩ := y
    exact .inl ⟨rfl, intD _⟩
  · show n ≤ (intsN lo n).length
    rw [intsN_length]; exact Nat.le_refl _
end
section
variable {X : Cx} {N : Nm} {xf : Nat → Str} {G : Gx} {Wx : WX} {Z : Addr → Prop} {nF nM nC nA k : Nat} {tg : Expr}
theorem PI.imp {i0 : Expr} {t t' : TI} (h : PI X tg i0 t) (i : ∀ σ H R, t' σ H R → t σ H R) : PI X tg i0 t' := ⟨fun pins s σ H R I q => h.run pins s σ H R I (i _ _ _ q)⟩
def tIt (X : Cx) (N : Nm) (xf : Nat → Str) (G : Gx) (Wx : WX) (s : Src) : TI := tR X N xf (RI X.K X.w N) Wx (evi G s)
/-- what may be walked -/
def iAny (K : PySem.W.Frag) (te : TE) : TI := fun σ H R => te σ H fun x H1 => (∃ a xs, x = .ref a ∧ SqL K H1 a xs ∧ R (Itl K a) H1) ∨ (∃ a xs, x = .ref a ∧ SqT K H1 a xs ∧ R (Itt K a) H1) ∨ ∃ z, x = .str z ∧ R (Its z) H1
theorem pi_any {e : Expr} {te : TE} (he : PE X e te) : PI X tg e (iAny X.K te) := by
  refine ⟨fun pins s σ H R I h => ?_⟩
  refine thn (he.run pins s σ H _ I h) fun v s1 ⟨x, H1, I1, r1, q1⟩ => ?_
  rcases q1 with ⟨a, xs, rfl, hq, q⟩ | ⟨a, xs, rfl, hq, q⟩ | ⟨z, rfl, q⟩
  · obtain rfl : v = Value.ref a := r1
    obtain ⟨its, rv, p, hz⟩ := I1.list hq
    refine wpAny_pyIter_list p.isList ?_
    refine ⟨s1.heap.objs.size, [s1.heap.objs.size], _, _, H1, rfl, I1.kept (t' := s1.toks) fun b o e => Heap.get?_push_of_some _ e, turn_list a _, ⟨_, Heap.get?_push_size _ rfl, rfl, rfl⟩, fun b hb => ?_, q⟩
    have e : b = s1.heap.objs.size := by simpa using hb
    subst e
    exact I1.fpOk (Nat.le_refl _) (I1.hok.fresh (Nat.le_refl _))
  · obtain rfl : v = Value.ref a := r1
    obtain ⟨its, rv, p, hz⟩ := I1.tuple hq
    refine wpAny_pyIter_tuple (show s1.heap.IsTuple a its.toArray from p) ?_
    refine ⟨s1.heap.objs.size, [s1.heap.objs.size], _, _, H1, rfl, I1.kept (t' := s1.toks) fun b o e => Heap.get?_push_of_some _ e, turn_tuple a _, ⟨_, Heap.get?_push_size _ rfl, rfl, rfl⟩, fun b hb => ?_, q⟩
    have e : b = s1.heap.objs.size := by simpa using hb
    subst e
    exact I1.fpOk (Nat.le_refl _) (I1.hok.fresh (Nat.le_refl _))
  · obtain ⟨t, rfl⟩ := r1
    cases ha : z.cps.all (· < 128)
    · exact wpAny_pyIter_wide ha (pi_one (tk := s1.toks) I1 _ (turn_str _ z t "str_iterator" (.inr rfl)) ⟨_, Heap.get?_push_size _ rfl, rfl, rfl⟩ q)
    · exact wpAny_pyIter_ascii ha (pi_one (tk := s1.toks) I1 _ (turn_str _ z t "str_ascii_iterator" (.inl rfl)) ⟨_, Heap.get?_push_size _ rfl, rfl, rfl⟩ q)
theorem s_sq {e0 : Expr} {e : E} (he : PE X e0 (tEv X N xf G Wx e)) : PI X tg e0 (tIt X N xf G Wx (.sq e)) := by
  refine PI.imp (pi_any he) fun σV H R ⟨Z, σ, ρ, h, r, re, p⟩ => ?_
  refine tR_at r re (f := ev G e) (g := fun w h1 => ofOpt (itOf w h1) fun it => .ok it h1) p fun w v H1 ρ1 h1 e1 x1 r1 re1 rx p1 => ?_
  obtain ⟨it, e2, p2⟩ := PostG.some p1
  have fin : ∀ J, RI X.K X.w N ρ1 H1 (MM Z ρ1 h1) it J → R J H1 := fun J q => tR_ok (R := RI X.K X.w N) p2 r1 q
  cases w with
  | c d =>
    have q : RepD X.K X.w N H1 (MM Z ρ1 h1) d v := rx
    cases d with
    | tup xs =>
      cases e2
      unfold RepD at q
      obtain ⟨a, vs, rfl, h1', h2⟩ := q
      exact .inr (.inl ⟨a, vs, rfl, h1'.elim (fun h => .of h.1) fun h => h.sq, fin _ (itC_tup h1' h2)⟩)
    | lst xs =>
      cases e2
      unfold RepD at q
      obtain ⟨a, vs, rfl, h1', h2, h3⟩ := q
      exact .inl ⟨a, vs, rfl, .of h1', fin _ (itC_list (.inl h1') h2 h3)⟩
    | str z =>
      cases e2
      obtain ⟨rfl, k⟩ : v = V.str z ∧ PyData.strOk z = true := by simpa only [RepD] using q
      exact .inr (.inr ⟨z, rfl, fin _ (itC_str k)⟩)
    | _ => cases e2
  | l n =>
    have e3 : (match h1[n]? with
      | some (.lst _) => some (B.It.lo n)
      | _ => none) = some it := e2
    obtain ⟨a, ea, rfl⟩ := rx
    cases e4 : h1[n]? with
    | none => rw [e4] at e3; cases e3
    | some ob =>
      rw [e4] at e3
      obtain ⟨ho, o1, o2⟩ := r1.obj n _ a e4 ea
      cases ob with
      | lst xs =>
        cases e3
        obtain ⟨vs, rfl, o3⟩ := o2
        exact .inl ⟨a, vs, rfl, .of o1, fin _ ⟨a, ea, rfl⟩⟩
        | _ => cases e3
end
end B

set_option Elab.async false
set_option linter.all false
set_option maxRecDepth 100000
set_option maxHeartbeats 2000000
/-! for, while, range. Own work. -/
namespace B
open PySem PySem.Spec PyProof.Rows L2
section
variable {X : Cx} {N : Nm} {xf : Nat → Str} {G : Gx} {Wx : WX} {Z : Addr → Prop} {nF nM nC nA k : Nat} {tg : Expr}
/-! ### ranges -/
theorem evs_one {e : E} {σ : Env} {h : A} {α : Type} {f : W → A → Res α} : (ev G e σ h).bind f = (evs G [e] σ h).bind fun ws h1 => match ws with
    | [w] => f w h1
    | _ => .stuck := by
  show _ = ((ev G e σ h).bind fun w h1 => (evs G [] σ h1).bind fun ws h2 => .ok (w :: ws) h2).bind _
  cases ev G e σ h <;> rfl
theorem evs_two {a b : E} {σ : Env} {h : A} {α : Type} {f : W → W → A → Res α} : ((ev G a σ h).bind fun x h1 => (ev G b σ h1).bind fun y h2 => f x y h2) = (evs G [a, b] σ h).bind fun ws h1 => match ws with
    | [w, u] => f w u h1
    | _ => .stuck := by
  show _ = ((ev G a σ h).bind fun w h1 => (evs G [b] σ h1).bind fun ws h2 => .ok (w :: ws) h2).bind _
  cases ev G a σ h with
  | ok w h1 =>
    show _ = Res.bind (Res.bind (evs G [b] σ h1) fun ws h2 => .ok (w :: ws) h2) _
    show _ = Res.bind (Res.bind ((ev G b σ h1).bind fun w h1 => (evs G [] σ h1).bind fun ws h2 => .ok (w :: ws) h2) fun ws h2 => .ok (w :: ws) h2) _
    show (ev G b σ h1).bind _ = _
    cases ev G b σ h1 <;> rfl
  | err _ _ _ => rfl
  | stuck => rfl
theorem inRange_ok {i : Int} (e : inRange i = true) : -(2 ^ 62) ≤ i ∧ i < 2 ^ 62 := by
  have := of_decide_eq_true e
  exact ⟨by omega, by omega⟩
theorem s_rg {a0 : Expr} {a : E} {p pos : Pos} (hg : Gl X "range") (hm : X.mg "range" = none) (ha : PA X [a0] (tEvs X N xf G Wx [a])) (hs : starEach [a0] X.env = [(false, eval a0 X.env)]) : PI X tg (.Call (.Name "range" p) [a0] [] pos) (tIt X N xf G Wx (.rg a)) := by
  refine PI.imp (pi_range1 hg hm ha hs) fun σV H R ⟨Z, σ, ρ, h, r, re, p⟩ => ?_
  have p' : PostOf X N xf Z σV Wx (RI X.K X.w N) R H ρ h ((ev G a σ h).bind fun w h1 => match w with
    | .c (.int i) => must (inRange i) (.ok (.cl (intsN 0 i.toNat)) h1)
    | _ => .stuck) := p
  rw [evs_one] at p'
  refine tR_at r re (f := evs G [a]) p' fun ws vs H1 ρ1 h1 e1 x1 r1 re1 rx p1 => ?_
  have hl := evs_length e1
  cases ws with
  | nil => cases hl
  | cons w wr =>
    cases wr with
    | cons _ _ => cases hl
    | nil =>
      obtain ⟨v, _, rfl, q1, rfl⟩ := rx
      cases w with
      | l n => exact p1.elim
      | c d =>
        cases d <;> first | exact p1.elim | skip
        rename_i i
        obtain ⟨hi, p2⟩ := PostG.must p1
        obtain rfl : v = V.int i := by simpa only [RepW, RepD] using q1
        obtain ⟨h2, h3⟩ := inRange_ok hi
        exact ⟨i, rfl, h2, h3, tR_ok (R := RI X.K X.w N) p2 r1 itC_rng⟩
theorem s_rg2 {a0 b0 : Expr} {a b : E} {p pos : Pos} (hg : Gl X "range") (hm : X.mg "range" = none) (ha : PA X [a0, b0] (tEvs X N xf G Wx [a, b])) (hs : starEach [a0, b0] X.env = [(false, eval a0 X.env), (false, eval b0 X.env)]) (hs2 : starEach [b0] X.env = [(false, eval b0 X.env)]) :
    PI X tg (.Call (.Name "range" p) [a0, b0] [] pos) (tIt X N xf G Wx (.rg2 a b)) := by
  refine PI.imp (pi_range2 hg hm ha hs hs2) fun σV H R ⟨Z, σ, ρ, h, r, re, p⟩ => ?_
  have p' : PostOf X N xf Z σV Wx (RI X.K X.w N) R H ρ h ((ev G a σ h).bind fun w h1 => (ev G b σ h1).bind fun u h2 => match w, u with
    | .c (.int i), .c (.int j) => must (inRange i && inRange j) (.ok (.cl (intsN i (j - i).toNat)) h2)
    | _, _ => .stuck) := p
  rw [evs_two] at p'
  refine tR_at r re (f := evs G [a, b]) p' fun ws vs H1 ρ1 h1 e1 x1 r1 re1 rx p1 => ?_
  have hl := evs_length e1
  cases ws with
  | nil => cases hl
  | cons w wr =>
    cases wr with
    | nil => cases hl
    | cons u wr =>
      cases wr with
      | cons _ _ => cases hl
      | nil =>
        obtain ⟨v, _, rfl, q1, v2, _, rfl, q2, rfl⟩ := rx
        cases w with
        | l n => exact p1.elim
        | c d =>
          cases d <;> first | exact p1.elim | skip
          rename_i i
          cases u with
          | l n => exact p1.elim
          | c d =>
            cases d <;> first | exact p1.elim | skip
            rename_i j
            obtain ⟨hi, p2⟩ := PostG.must p1
            obtain ⟨g1, g2⟩ := Bool.and_eq_true_iff.mp hi
            obtain rfl : v = V.int i := by simpa only [RepW, RepD] using q1
            obtain rfl : v2 = V.int j := by simpa only [RepW, RepD] using q2
            obtain ⟨h2, h3⟩ := inRange_ok g1
            obtain ⟨h4, h5⟩ := inRange_ok g2
            exact ⟨i, j, rfl, ⟨h2, h3, h4, h5⟩, tR_ok (R := RI X.K X.w N) p2 r1 itC_rng⟩
/-! ### for -/
def turnOf (r : SRes) (f : Env → A → SRes) : SRes := match r with
  | .nx σ1 h1 => f σ1 h1
  | .ct σ1 h1 => f σ1 h1
  | .bk σ1 h1 => .nx σ1 h1
  | x => x
theorem loop_post {D : Ends} {NN : L2.St → Hp → Prop} {H : Hp} {ρ : List Addr} {h : A} {r : SRes} {f : Env → A → SRes} (p : PostS X.K X.w N xf Z D Wx H ρ h (turnOf r f))
    (hN : ∀ σ1 h1 σV' H' ρ', Ext Z H ρ h H' ρ' h1 → RepA X.K X.w N Z H' ρ' h1 → RepE X.K X.w N ρ' H' (MM Z ρ' h1) σ1 σV' → PostS X.K X.w N xf Z D Wx H' ρ' h1 (f σ1 h1) → NN σV' H') : PostS X.K X.w N xf Z { D with nx := NN, ct := NN, bk := D.nx } Wx H ρ h r := by
  cases r with
  | nx σ1 h1 => exact fun a b c x y z => hN σ1 h1 a b c x y z (PostS.ext x p)
  | ct σ1 h1 => exact fun a b c x y z => hN σ1 h1 a b c x y z (PostS.ext x p)
  | bk σ1 h1 => exact p
  | rt _ _ => exact p
  | er _ _ _ _ => exact p
  | stuck => exact p
theorem forGo_cons {f : D → Env → A → SRes} {d : D} {r : List D} {σ : Env} {h : A} : forGo f (d :: r) σ h = turnOf (f d σ h) (forGo f r) := by
  show (match f d σ h with
    | .nx σ1 h1 => forGo f r σ1 h1
    | .ct σ1 h1 => forGo f r σ1 h1
    | .bk σ1 h1 => .nx σ1 h1
    | x => x) = _
  cases f d σ h <;> rfl
theorem turnOf_opt {α : Type} {o : Option α} {g : α → SRes} {f : Env → A → SRes} : turnOf (ofOptS o g) f = ofOptS o fun a => turnOf (g a) f := by cases o <;> rfl
theorem st_for {t0 i0 : Expr} {b0 : List Stmt} {t : Tg} {s : Src} {b : List S} {pos : Pos} (hp : PassesOwn (model X.prog X.w) X.A X.env X.xe) (hc : X.calm = true) (hi : PI X t0 i0 (tIt X N xf G Wx s)) (hg : PG X t0 (gT X t)) (hb : PSs X b0 (tSt X N xf Wx (exs G b)))
    (hs : ∀ x, foldedSetIterable i0 X.env x = pure x) : PS X (.For t0 i0 b0 [] pos) (tSt X N xf Wx (ex G (.for_ t s b))) := by
  refine PS.imp (ps_for hp hc hi hg hb hs) fun De σV H ⟨Z, σ, ρ, h, r, re, p⟩ => ?_
  refine tS_at r re (f := evi G s) (g := fun it h1 => forIt (forB t (exs G b)) it σ h1) p fun it J H1 ρ1 h1 _ x1 r1 re1 rx p1 => ?_
  -- one turn
  have turn : ∀ (NN : L2.St → Hp → Prop) (d : D) (rest : Env → A → SRes) (σ2 : Env) (ρ2 : List Addr) (h2 : A) (σV2 : L2.St) (H2 : Hp) (x : V), RepA X.K X.w N Z H2 ρ2 h2 → RepE X.K X.w N ρ2 H2 (MM Z ρ2 h2) σ2 σV2 → RepD X.K X.w N H2 (MM Z ρ2 h2) d x →
      PostS X.K X.w N xf Z De Wx H2 ρ2 h2 (turnOf (forB t (exs G b) d σ2 h2) rest) → (∀ σ3 h3 σV' H' ρ', Ext Z H2 ρ2 h2 H' ρ' h3 → RepA X.K X.w N Z H' ρ' h3 → RepE X.K X.w N ρ' H' (MM Z ρ' h3) σ3 σV' → PostS X.K X.w N xf Z De Wx H' ρ' h3 (rest σ3 h3) → NN σV' H') →
      gT X t x σV2 H2 fun σ4 H4 => tSt X N xf Wx (exs G b) { De with nx := NN, ct := NN, bk := De.nx } σ4 H4 := by
    intro NN d rest σ2 ρ2 h2 σV2 H2 x r2 re2 q2 p2 hN
    have p3 : PostS X.K X.w N xf Z De Wx H2 ρ2 h2 (ofOptS (bindTg t (.c d) σ2) fun σ3 => turnOf (exs G b σ3 h2) rest) := by rw [← turnOf_opt]; exact p2
    obtain ⟨σ3, e3, p4⟩ := PostS.some p3
    exact gT_ok e3 q2 re2 fun σV3 re3 => ⟨Z, σ3, ρ2, h2, r2, re3, loop_post p4 hN⟩
  cases it with
  | cl xs =>
    obtain ⟨I, i0, ik, ig, is⟩ := rx
    refine ⟨fun i m σV H => ∃ σ ρ h, RepA X.K X.w N Z H ρ h ∧ RepE X.K X.w N ρ H (MM Z ρ h) σ σV ∧ I H (MM Z ρ h) ∧ PostS X.K X.w N xf Z De Wx H ρ h (forGo (forB t (exs G b)) (xs.drop i) σ h) ∧ i + m = xs.length,
      ⟨xs.length, σ, ρ1, h1, r1, re1, i0, p1, by omega⟩, ?_⟩
    rintro i m σV2 H2 ⟨σ2, ρ2, h2, r2, re2, i2, p2, hm⟩
    cases m with
    | zero =>
      have : xs.drop i = [] := List.drop_eq_nil_of_le (by omega)
      rw [this] at p2
      refine .inl ⟨?_, tS_nx r2 re2 p2⟩
      rw [show i = xs.length by omega]
      exact is _ _ i2
    | succ m =>
      have hi : i < xs.length := by omega
      have hd : xs[i]? = some xs[i] := List.getElem?_eq_getElem hi
      rw [List.drop_eq_getElem_cons hi, forGo_cons] at p2
      obtain ⟨g1, g2⟩ := ig _ _ i xs[i] i2 hd
      refine .inr ⟨g1, fun σV' H' => ∃ σ ρ h, RepA X.K X.w N Z H' ρ h ∧ RepE X.K X.w N ρ H' (MM Z ρ h) σ σV' ∧ I H' (MM Z ρ h) ∧ PostS X.K X.w N xf Z De Wx H' ρ h (forGo (forB t (exs G b)) (xs.drop (i + 1)) σ h) ∧ (i + 1) + m = xs.length,
        fun σ' H' hh => ⟨m, by omega, hh⟩, fun x H' y => ?_⟩
      rcases g2 x H' y with ⟨rfl, dx⟩ | ⟨pp, o, np, rfl, dx⟩
      · exact turn _ xs[i] _ σ2 ρ2 h2 σV2 _ x r2 re2 dx p2 fun σ3 h3 σV' H' ρ' x3 r3 re3 p3 => ⟨σ3, ρ', h3, r3, re3, ik x3.keep i2, p3, by omega⟩
      · have x2 : Ext Z H2 ρ2 h2 (upd H2 pp o) ρ2 h2 := Ext.alloc np
        exact turn _ xs[i] _ σ2 ρ2 h2 σV2 _ x (r2.alloc np) (re2.keep x2.keep x2.pre) (dx (r2.notM np)) (PostS.ext x2 p2) fun σ3 h3 σV' H' ρ' x3 r3 re3 p3 => ⟨σ3, ρ', h3, r3, re3, ik (x2.trans x3).keep i2, p3, by omega⟩
  | lo n =>
    obtain ⟨a, ea, rfl⟩ := rx
    have p2 : PostS X.K X.w N xf Z De Wx H1 ρ1 h1 (match h1[n]? with
      | some (.lst xs) => forLo (forB t (exs G b)) n xs.length 0 σ h1
      | _ => .stuck) := p1
    cases e2 : h1[n]? with
    | none => rw [e2] at p2; exact p2.elim
    | some ob =>
      rw [e2] at p2
      cases ob with
      | lst xs =>
        refine ⟨fun i m σV H => ∃ σ ρ h, RepA X.K X.w N Z H ρ h ∧ RepE X.K X.w N ρ H (MM Z ρ h) σ σV ∧ ρ[n]? = some a ∧ PostS X.K X.w N xf Z De Wx H ρ h (forLo (forB t (exs G b)) n m i σ h),
          ⟨xs.length, σ, ρ1, h1, r1, re1, ea, p2⟩, ?_⟩
        rintro i m σV2 H2 ⟨σ2, ρ2, h2, r2, re2, ea2, p3⟩
        cases m with
        | zero =>
          have p4 : PostS X.K X.w N xf Z De Wx H2 ρ2 h2 (match h2[n]? with
            | some (.lst xs) => mustS (decide (xs.length = i)) (.nx σ2 h2)
            | _ => .stuck) := p3
          cases e3 : h2[n]? with
          | none => rw [e3] at p4; exact p4.elim
          | some ob =>
            rw [e3] at p4
            cases ob with
            | lst ys =>
              obtain ⟨hl, p5⟩ := PostS.must p4
              obtain ⟨ho, o1, vs, rfl, o2⟩ := r2.obj n _ a e3 ea2
              exact .inl ⟨⟨vs, .of o1, by rw [← o2.length]; exact Nat.le_of_eq (of_decide_eq_true hl)⟩, tS_nx r2 re2 p5⟩
            | _ => exact p4.elim
        | succ m =>
          have p4 : PostS X.K X.w N xf Z De Wx H2 ρ2 h2 (match h2[n]? with
            | some (.lst xs) => ofOptS xs[i]? fun d => match forB t (exs G b) d σ2 h2 with
              | .nx σ1 h1 => forLo (forB t (exs G b)) n m (i + 1) σ1 h1
              | .ct σ1 h1 => forLo (forB t (exs G b)) n m (i + 1) σ1 h1
              | .bk σ1 h1 => .nx σ1 h1
              | x => x
            | _ => .stuck) := p3
          cases e3 : h2[n]? with
          | none => rw [e3] at p4; exact p4.elim
          | some ob =>
            rw [e3] at p4
            cases ob with
            | lst ys =>
              obtain ⟨d, hd, p5⟩ := PostS.some p4
              obtain ⟨ho, o1, vs, rfl, o2⟩ := r2.obj n _ a e3 ea2
              obtain ⟨v, hv, dv⟩ := o2.get hd
              have p6 : PostS X.K X.w N xf Z De Wx H2 ρ2 h2 (turnOf (forB t (exs G b) d σ2 h2) (forLo (forB t (exs G b)) n m (i + 1))) := by
                have e : turnOf (forB t (exs G b) d σ2 h2) (forLo (forB t (exs G b)) n m (i + 1)) = (match forB t (exs G b) d σ2 h2 with
                  | .nx σ1 h1 => forLo (forB t (exs G b)) n m (i + 1) σ1 h1
                  | .ct σ1 h1 => forLo (forB t (exs G b)) n m (i + 1) σ1 h1
                  | .bk σ1 h1 => .nx σ1 h1
                  | x => x) := by cases forB t (exs G b) d σ2 h2 <;> rfl
                rw [e]; exact p5
              refine .inr ⟨⟨vs, v, .of o1, hv⟩, fun σV' H' => ∃ σ ρ h, RepA X.K X.w N Z H' ρ h ∧ RepE X.K X.w N ρ H' (MM Z ρ h) σ σV' ∧ ρ[n]? = some a ∧ PostS X.K X.w N xf Z De Wx H' ρ h (forLo (forB t (exs G b)) n m (i + 1) σ h),
                fun σ' H' hh => ⟨m, by omega, hh⟩, fun x H' y => ?_⟩
              obtain ⟨rfl, hy⟩ := y
              have hx := hy vs (.of o1)
              rw [hv] at hx
              cases hx
              exact turn _ d _ σ2 ρ2 h2 σV2 _ _ r2 re2 dv p6 fun σ3 h3 σV' H' ρ' x3 r3 re3 p3 => ⟨σ3, ρ', h3, r3, re3, pre_get x3.pre ea2, p3⟩
            | _ => exact p4.elim
      | _ => exact p2.elim
  | kd n => exact rx.elim
end
end B

set_option Elab.async false
set_option linter.all false
set_option maxRecDepth 100000
set_option maxHeartbeats 2000000
/-! Own exceptions, raised. Own work. -/
namespace B
open PySem PySem.Spec PyProof.Rows L2
section
variable {X : Cx} {CX : CXT} {k : Nat} {fI C : Addr} {sp : Sp} {x : Str} {p pos : Pos} {e : Expr} {es : List Expr} {ta : TA}
/-- C(e, ..), C's own __init__ keeping sp: an exception whose context is None -/
theorem pmkN (T : OexC X.K C) (iC : PySem.W.findIn X.K (.ref C) "__init__" = some (some (.ref fI))) (tI : PySem.W.typeIn X.K (.ref fI) = some (.type "function"))
    (F1 : FnR X.prog X.w X.K X.mg X.base CX k fI sp) (hr : Room (k + 1) X.A) (hx : Passes CX X (fun _ _ _ => False)) (hg : Gl X x) (hm : X.mg x = some (.ref C)) (ha : PA X (e :: es) ta)
    (hdb : (x == ("__debug__" : Str)) = false) (he : starEach (e :: es) X.env = (false, eval e X.env) :: starEach es X.env) (hpl : (backTo pos (starEach es X.env)).any (·.1) = false) :
    L2N.PMk X (.Call (.Name x p) (e :: es) [] pos) (tMkO C sp [] ta) := by
  intro pins s σ H Q I h
  obtain ⟨nm, q, N, bs, bm, sn, sub, ab, col, dd, k0, k1, k2, k3, k5, hC, hbm⟩ := T.cls
  refine wpAny_Call_Name_kw (ld_glob I hg hm ?_ hdb)
  refine PySem.W.callWith_K (h₀ := X.base) I.ok.mod.kin T.kC (thn (ha.run pos pins s σ H _ I h) fun us s1 ⟨vs, H1, I1, r1, hz, q1⟩ => ⟨I1.kIn, ?_⟩) he hpl
  show wpAny _ _ (call (.ref C) us) _ _ _
  obtain ⟨hp, g, dr, tk, os⟩ := s1
  have hsz : hp.objs.size ≤ hp.objs.size + 1 := Nat.le_succ _
  have hn : H1 (hp.objs.size + 1) = none := I1.hok.fresh hsz
  have hq := q1 (hp.objs.size + 1) hn
  rw [List.append_nil] at hq
  have kk : ∀ b o, hp.get? b = some o → ((hp.push (PySem.W.kdv_tup us)).push (PySem.HandSPX.excO C hp.objs.size)).get? b = some o := fun b o e => Heap.get?_push_of_some _ (Heap.get?_push_of_some _ e)
  have hget : ((hp.push (PySem.W.kdv_tup us)).push (PySem.HandSPX.excO C hp.objs.size)).get? (hp.objs.size + 1) = some (PySem.HandSPX.excO C hp.objs.size) := by heap_get
  have I2 : Inv X pins σ (upd H1 (hp.objs.size + 1) (exo (hp.objs.size + 1) C none)) ⟨(hp.push (PySem.W.kdv_tup us)).push (PySem.HandSPX.excO C hp.objs.size), g, dr, tk, os⟩ :=
    I1.laid (t' := tk) (a := hp.objs.size + 1) (o := exo (hp.objs.size + 1) C none) (h' := (hp.push (PySem.W.kdv_tup us)).push (PySem.HandSPX.excO C hp.objs.size)) kk hsz (exo_ok hget)
  have r2 : Vals (V.ref (hp.objs.size + 1) :: vs) (Value.ref (hp.objs.size + 1) :: us) := .cons rfl r1
  have hus : us.length ≤ sizeLine := by
    rw [← Paired.length r1, sizeLine_eq]
    omega
  refine wpAny_call (PySem.HandSPX.call_own F.excBase_ValueError (fun Y => PySem.HandSPX.refsVE_contains Y bm hbm) (I1.kIn _ _ hC) (PySem.W.looks_findIn I1.kIn iC) (fun self => PySem.W.bind_fn I1.kIn self tI) hus
    (codeAny_mono (F1 _ X.stack _ _ (Value.ref (hp.objs.size + 1) :: us) _ _ (fun _ _ _ => False) (hr.make C us []) (I2.env0.make C us []) r2 hq) fun r s' hq' => ?_))
  cases r with
  | error er => exact hx pins σ _ _ er s' I2 hq'
  | ok fl =>
    cases fl with
    | ret u =>
      obtain ⟨v, H2, os2, bare2, un2, hok2, rv, ev, d, fs, ea, ed, hd1, q2⟩ := hq'
      subst ev
      obtain ⟨h2, g2, d2, t2, os'⟩ := s'
      obtain ⟨t0, G, J, kG, ge, hoe, na⟩ := mk_end0 (d2 := d2) (t2 := t2) I1 hsz kk un2 hok2 os2 bare2 ea ed hd1
      exact ⟨rv, ⟨hp.objs.size + 1, _, _, ⟨G, g2, d2, t2, os'⟩, _, .ref C, some d, rfl, J, kG, ge, hoe, ⟨rfl, rfl, fun vs hv => by cases hv; rfl⟩, rfl, rfl, na, rfl, bare2, raises_own T.exC T.tyC, q2⟩⟩
    | next => exact False.elim hq'
    | brk => exact False.elim hq'
    | cont => exact False.elim hq'
end
/-- what an exception's __init__ promises: one field is set -/
def spI (K : PySem.W.Frag) (f : Str) : Sp := fun vs H Q _ => ∃ (a C : Addr) (v : V), vs = [.ref a, v] ∧ OexC K C ∧ PySem.W.findIn K (.ref C) f = some none ∧ H a = some (exo a C none) ∧
  ∀ dx, H dx = none → dx ≠ a → Q .non (upd (upd H dx (exd dx [(f, v)])) a (exo a C (some dx)))
/-- the exception classes as they stand -/
structure XF (P : Program) (w : World) (K : PySem.W.Frag) (mg : Str → Option Value) (base : Heap) (N : Nm) (xf : Nat → Str) (ra : Nat → Bool) (k : Nat) : Prop where
  ex : ∀ x, ra x = true → OexC K (N.exc x)
  no : ∀ x, ra x = true → PySem.W.findIn K (.ref (N.exc x)) (xf x) = some none
  ini : ∀ x, ra x = true → ∃ fI, PySem.W.findIn K (.ref (N.exc x)) "__init__" = some (some (.ref fI)) ∧ PySem.W.typeIn K (.ref fI) = some (.type "function") ∧ FnR P w K mg base (L2N.CX P w) k fI (spI K (xf x))
section
variable {X : Cx} {N : Nm} {xf : Nat → Str} {G : Gx} {Wx : WX} {Z : Addr → Prop} {nF nM nC nA k : Nat} {ra : Nat → Bool} {mo : Bool}
theorem freezeS_ok {De : Ends} {H : Hp} {ρ : List Addr} {h : A} {σ : Env} {x : W} {v : V} {f : D → A → SRes} (r : RepA X.K X.w N Z H ρ h) (q : RepW X.K X.w N ρ H (MM Z ρ h) x v) (p : PostS X.K X.w N xf Z De Wx H ρ h ((freeze h x).then σ f)) :
    ∃ d h1, Ext Z H ρ h H ρ h1 ∧ RepA X.K X.w N Z H ρ h1 ∧ RepD X.K X.w N H (MM Z ρ h1) d v ∧ PostS X.K X.w N xf Z De Wx H ρ h1 (f d h1) := by
  cases x with
  | c d => exact ⟨d, h, Ext.refl _ _ _ _, r, q, p⟩
  | l n =>
    have p' : PostS X.K X.w N xf Z De Wx H ρ h ((match fzW 8 h (.l n) with
      | some d => (.ok d (kill h (fzL 8 h (.l n))) : Res D)
      | none => .stuck).then σ f) := p
    cases e : fzW 8 h (.l n) with
    | none => rw [e] at p'; exact p'.elim
    | some d =>
      rw [e] at p'
      have x1 : Ext Z H ρ h H ρ (kill h (fzL 8 h (.l n))) := Ext.kill
      exact ⟨d, _, x1, r.kill _, fz_ok r x1.keep 8 (.l n) d v e (fun m hm o ho => kill_dead hm ho) q, PostS.ext x1 p'⟩
theorem upd_swap {H : Hp} {a d : Addr} {u : HO} (na : H a = none) (o1 o2 : HO) (ne : d ≠ a) : upd (L2.del (upd (upd (upd H a o1) d o2) a o1) a) d u = upd H d u := by
  funext b
  by_cases hd : b = d
  · subst hd; rw [upd_same, upd_same]
  · rw [upd_ne hd, upd_ne hd]
    by_cases ha : b = a
    · subst ha; rw [L2.del_same, na]
    · rw [L2.del_ne ha, upd_ne ha, upd_ne hd, upd_ne ha]
theorem st_rai {c : Nat} {x : Str} {e0 : Expr} {e : E} {p pos pos2 : Pos} (hc : X.calm = true) (b : BX X N xf nF G Wx k mo) (F : XF X.prog X.w X.K X.mg X.base N xf ra k) (hx : ra c = true) (hg : Gl X x) (hm : X.mg x = some (.ref (N.exc c))) (ha : PA X [e0] (tEvs X N xf G Wx [e])) (hdb : (x == ("__debug__" : Str)) = false)
    (he : starEach [e0] X.env = (false, eval e0 X.env) :: starEach [] X.env) (hpl : (backTo pos (starEach [] X.env)).any (·.1) = false) :
    PS X (.Raise (some (.Call (.Name x p) [e0] [] pos)) none pos2) (tSt X N xf Wx (ex G (.rai c e))) := by
  obtain ⟨fI, iC, tI, F1⟩ := F.ini c hx
  have hpass : Passes (L2N.CX X.prog X.w) X (fun _ _ _ => False) := fun _ _ _ _ _ _ _ h => by
    obtain ⟨_, _, _, _, _, _, _, _, _, _, _, _, z⟩ := h
    exact z.elim
  refine PS.imp (L2N.ps_raise hc b.tk.down (pmkN (F.ex c hx) iC tI F1 b.room hpass hg hm ha hdb he hpl)) fun De σV H ⟨Z, σ, ρ, h, r, re, p⟩ => ?_
  have p' : PostS X.K X.w N xf Z De Wx H ρ h ((evs G [e] σ h).then σ fun ws h1 => match ws with
    | [w] => (freeze h1 w).then σ fun d h2 => .er c d σ h2
    | _ => .stuck) := by
    have e1 : (evs G [e] σ h).then σ (fun ws h1 => match ws with
      | [w] => (freeze h1 w).then σ fun d h2 => .er c d σ h2
      | _ => .stuck) = (ev G e σ h).then σ fun w h1 => (freeze h1 w).then σ fun d h2 => .er c d σ h2 := by
      show Res.then ((ev G e σ h).bind fun w h1 => (evs G [] σ h1).bind fun ws h2 => .ok (w :: ws) h2) σ _ = _
      cases ev G e σ h <;> rfl
    rw [e1]; exact p
  refine tS_at r re (f := evs G [e]) p' fun ws vs H1 ρ1 h1 e1 x1 r1 re1 rx p1 => ?_
  have hl := evs_length e1
  cases ws with
  | nil => cases hl
  | cons w wr =>
    cases wr with
    | cons _ _ => cases hl
    | nil =>
      obtain ⟨v, _, rfl, q1, rfl⟩ := rx
      obtain ⟨d, h2, x2, r2, d2, p2⟩ := freezeS_ok r1 q1 p1
      refine ⟨by show 1 ≤ 1000; decide, fun a na => ⟨a, N.exc c, v, rfl, F.ex c hx, F.no c hx, upd_same, fun dx nd ne => ⟨rfl, dx, [(xf c, v)], upd_same, ?_, ?_, ?_⟩⟩⟩
      · rw [upd_ne ne, upd_same]
      · rw [upd_ne ne] at nd; exact nd
      · have nd1 : H1 dx = none := by rw [upd_ne ne] at nd; exact nd
        have hh : upd (L2.del (upd (upd (upd H1 a (exo a (N.exc c) none)) dx (exd dx [(xf c, v)])) a (exo a (N.exc c) (some dx))) a) dx (.xd [(xf c, v)]) = upd H1 dx (.xd [(xf c, v)]) := by
          funext b
          by_cases hd : b = dx
          · subst hd; rw [upd_same, upd_same]
          · rw [upd_ne hd, upd_ne hd]
            by_cases ha : b = a
            · subst ha; rw [L2.del_same, na]
            · rw [L2.del_ne ha, upd_ne ha, upd_ne hd, upd_ne ha]
        rw [hh]
        have x3 : Ext Z H1 ρ1 h2 (upd H1 dx (.xd [(xf c, v)])) ρ1 h2 := Ext.alloc nd1
        exact p2 _ _ σV _ ρ1 x3 (r2.alloc nd1) ((re1.keep x2.keep x2.pre).keep x3.keep x3.pre) ⟨rfl, dx, v, rfl, upd_same, r2.notM nd1, d2.keep (Keep.new1 nd1)⟩
end
end B

set_option Elab.async false
set_option linter.all false
set_option maxRecDepth 100000
set_option maxHeartbeats 2000000
/-! try with several clauses, each with a name or without: turned from the library's rules for one named clause and for many without. -/
namespace B
open PySem PySem.Spec PyProof.Rows L2
abbrev SuT := Addr → Value → Option Addr → TS
/-- what the clauses wish of an exception of the body, one after the other; slot: the name's -/
def wA (K : PySem.W.Frag) (Wout : WX) (De : Ends) : List (Value × Option Nat × SuT) → WX
  | [] => Wout
  | (c, none, ts) :: r => fun cls d σ H => ∃ b, PySem.W.exmOne K cls c = some b ∧ (b = true → ∀ a, H a = none → ts a cls d De σ H) ∧ (b = false → wA K Wout De r cls d σ H)
  | (c, some i, ts) :: r => fun cls d σ H => ∃ b, PySem.W.exmOne K cls c = some b ∧
      (b = true → ∀ a, H a = none → ts a cls d { nx := fun σ' H' => De.nx (σ'.set i none) H', rt := De.rt, bk := fun σ' H' => De.bk (σ'.set i none) H', ct := fun σ' H' => De.ct (σ'.set i none) H' } (σ.set i (some (.ref a))) H) ∧
      (b = false → wA K Wout De r cls d σ H)
inductive HdA (X : Cx) : List ExceptHandler → List (Value × Option Nat × SuT) → Prop
  | nil : HdA X [] []
  | cons {x : Str} {c : Value} {ts : SuT} {b₀ : Stmt} {suite : List Stmt} {np pos' : Pos} {hds : List ExceptHandler} {l : List (Value × Option Nat × SuT)} (hc : Names X x c)
      (hsu : ∀ (a : Addr) (oe : Obj) (cls : Value) (d : Option Addr) (pn : List (Addr × Obj)), Zc cls d oe → (∃ vs, oe.data = .fields vs) → PSs (X.suite a ((a, oe) :: pn)) (b₀ :: suite) (ts a cls d)) (r : HdA X hds l) :
      HdA X (.ExceptHandler (some (.Name x np)) none (b₀ :: suite) pos' :: hds) ((c, none, ts) :: l)
  | as_ {x n : Str} {i : Nat} {c : Value} {ts : SuT} {b₀ : Stmt} {suite : List Stmt} {np pos' : Pos} {hds : List ExceptHandler} {l : List (Value × Option Nat × SuT)} (hc : Names X x c) (hi : X.N[i]? = some n) (hln : X.env.kindOf n = some .local)
      (hsu : ∀ (a : Addr) (oe : Obj) (cls : Value) (d : Option Addr) (pn : List (Addr × Obj)), Zc cls d oe → (∃ vs, oe.data = .fields vs) → PSs (X.suite a ((a, oe) :: pn)) (b₀ :: suite) (ts a cls d)) (r : HdA X hds l) :
      HdA X (.ExceptHandler (some (.Name x np)) (some n) (b₀ :: suite) pos' :: hds) ((c, some i, ts) :: l)
section
variable {X : Cx} {body : List Stmt} {h₀ : ExceptHandler} {hds : List ExceptHandler} {l : List (Value × Option Nat × SuT)} {pos : Pos} {tb : WX → TS} {Wout : WX}
theorem ps_tryA (hs : X.stack = X.env :: X.outer) (hf : X.env.frame = some X.env.locals) (hN : X.N.Nodup) (tk : Takes X Wout)
    (hb : ∀ (W : WX) (pn : List (Addr × Obj)) (xe : Value → Shared → Prop), Takes (X.tr pn xe) W → PassesOwn (model X.prog X.w) X.A X.env xe → PSs (X.tr pn xe) body (tb W))
    (hh : HdA X (h₀ :: hds) l) : PS X (.Try body (h₀ :: hds) [] [] pos) (fun De σ H => tb (wA X.K Wout De l) De σ H) := by
  refine ⟨fun pins s σ H De I h => ?_⟩
  have ok := I.ok
  have hfr : X.A.frames = some (X.env :: X.outer) := by rw [ok.frames, hs]
  refine wpAny_Try_except ?_
  refine wpAny_mono ((hb (wA X.K Wout De l) (X.pn ++ pins) (fun e s₁ => wpAny (model X.prog X.w) X.A (noteFrame e X.env) (fun _ s₂ => wpAny (model X.prog X.w) X.A (setFlight e none) (fun _ s₃ =>
    wpAny (model X.prog X.w) X.A (handleBy e X.env (h₀ :: hds)) (SP X pins De) X.xe s₃) X.xe s₂) X.xe s₁) (fun u s' xx => ?_) PassesOwn.looking).run [] s σ H De (I.toTry _) h) (fun f s1 hsp => ?_) (fun e s1 he => he)
  · obtain ⟨a, B, sI, pins', σ', H', cls, d, rfl, J', nb, up, sky, na, os, ag, w⟩ := xx
    have J : Inv X pins σ' H' sI := J'.ofTry ok
    have sky' : Sky B (X.env :: X.outer) a (Zc cls d) X.env.locals s'.heap := by rw [← hs]; exact sky
    show wpAny (model X.prog X.w) X.A (noteFrame (.ref a) X.env) _ _ _
    refine Sky.land Zc.steady hfr hf sky' fun h3 fl3 up3 => ?_
    have J3 : Inv X pins σ' H' { s' with heap := h3 } := J.landed nb fl3.1 (up.trans up3) os ag
    obtain ⟨oe3, vs3, he3, hz3, hd3⟩ := fl3.there
    have notFr : ∀ {h : Heap} {o : Obj} {vs : Array Value}, h.FunFrames B (X.env :: X.outer) → h.get? a = some o → o.data = .fields vs → a ∉ frs (X.env :: X.outer) := fun {h o vs} ff e dd hm => by
      obtain ⟨_, o', e', hnf⟩ := ff.mem hm
      rw [e] at e'; cases e'
      exact hnf _ dd
    have nfr := notFr fl3.2.2.1 he3 hd3
    have nL : a ≠ X.env.locals := fun z => nfr (List.mem_filterMap.mpr ⟨X.env, List.mem_cons_self, by rw [hf, z]⟩)
    have nF : a ∉ X.fs := fun hm => by
      obtain ⟨e, he, q⟩ := List.mem_filterMap.mp hm
      exact nfr (List.mem_filterMap.mpr ⟨e, List.mem_cons_of_mem _ he, q⟩)
    have S3 := J3.suite he3 hd3 na nL nF
    have LT : PySem.W.Looks (model X.prog X.w) h3 (typeOf (.ref a)) cls := fun A Q E s k q => wpAny_typeOf_ref (k _ _ he3) (by rw [hz3.1]; exact q)
    have test : ∀ {x : Str} {c : Value} {np : Pos} {Q : Value → Shared → Prop} {E : Value → Shared → Prop}, Names X x c → Q c { s' with heap := h3 } → wpAny (model X.prog X.w) (X.A.mark (some (.ref a))) (eval (.Name x np) X.env) Q E { s' with heap := h3 } := fun {x c np Q E} hc q => by
      obtain ⟨hg, hdbg, hm | ⟨hm, hv, hnn⟩⟩ := hc
      · exact ld_glob (X := X.suite a ((a, oe3) :: (X.pn ++ pins))) S3 hg hm q hdbg
      · exact ld_blt (X := X.suite a ((a, oe3) :: (X.pn ++ pins))) S3 hg hm hv q hnn hdbg
    have go : ∀ {hds' : List ExceptHandler} {l' : List (Value × Option Nat × SuT)}, HdA X hds' l' → wA X.K Wout De l' cls d σ' H' →
        wpAny (model X.prog X.w) X.A (handleBy (.ref a) X.env hds') (SP X pins De) X.xe { s' with heap := h3 } := by
      intro hds' l' hk
      induction hk with
      | nil =>
        intro w
        refine wpAny_handleBy_nil ?_
        obtain ⟨k1, k2, k3, oe, vs, T, oT, ts', he, hz, hd, h1, hr⟩ := id fl3
        unfold PySem.passOn
        refine wpAny_bind (wpAny_field he hd h1 ?_)
        rw [if_neg (show ¬ ((Value.ref T == Value.none) = true) from by simp)]
        have fin : wpAny (model X.prog X.w) X.A (setFlight (.ref a) X.env.frame) (fun _ s4 => wpAny (model X.prog X.w) X.A (throw (.ref a) : Sem Flow) (SP X pins De) X.xe s4) X.xe { s' with heap := h3 } := by
          rw [hf]
          refine HandSPX.setFlight_upZ fl3 fun h4 hh4 up4 => wpAny_throw (tk _ _ ?_)
          exact ⟨a, B, sI, pins, σ', H', cls, d, rfl, J, nb, (up.trans up3).trans up4, .inr (.inr (by rw [hs]; exact hh4)), na, os, ag, w⟩
        first
          | exact wpAny_bind (wpAny_pure (wpAny_bind fin))
          | exact wpAny_bind fin
      | @cons x c ts b₀ suite np pos' hds2 l2 hc hsu r ih =>
        intro w
        obtain ⟨b, hb1, hyes, hno⟩ := w
        refine wpAny_handleBy_cons (codeAny_handlers_test ?_) (by intro q; cases q)
        have LM := PySem.W.exm_one (M := model X.prog X.w) (J3.kIn) LT hb1
        refine test hc (LM.here ?_)
        cases b with
        | true =>
          refine codeAny_handlers_suite ?_
          refine HandSPX.lands_againZ fl3 fun h4 fl4 up4 => ?_
          have J4 : Inv X pins σ' H' { s' with heap := h4 } := J.landed nb fl4.1 ((up.trans up3).trans up4) os ag
          obtain ⟨oe4, vs4, he4, hz4, hd4⟩ := fl4.there
          have S4 := J4.suite he4 hd4 na nL nF
          refine wpAny_mono ((hsu a oe4 cls d (X.pn ++ pins) hz4 ⟨_, hd4⟩).run [] _ _ H' _ S4 (hyes rfl a na)) (fun f s6 hsp => ?_) (fun _ _ z => False.elim z)
          cases f with
          | next =>
            obtain ⟨σ6, H6, S6, q6⟩ := hsp
            exact ⟨_, _, S6.unsuite ok, q6⟩
          | brk =>
            obtain ⟨σ6, H6, S6, q6⟩ := hsp
            exact ⟨_, _, S6.unsuite ok, q6⟩
          | cont =>
            obtain ⟨σ6, H6, S6, q6⟩ := hsp
            exact ⟨_, _, S6.unsuite ok, q6⟩
          | ret u =>
            obtain ⟨v6, σ6, H6, S6, r6, q6⟩ := hsp
            exact ⟨_, _, _, S6.unsuite ok, r6, q6⟩
        | false =>
          show wpAny _ X.A (handleBy (.ref a) X.env hds2) _ _ _
          exact ih (hno rfl)
      | @as_ x n i c ts b₀ suite np pos' hds2 l2 hc hi hln hsu r ih =>
        intro w
        obtain ⟨b, hb1, hyes, hno⟩ := w
        refine wpAny_handleBy_cons (codeAny_handlers_test ?_) (by intro q; cases q)
        have LM := PySem.W.exm_one (M := model X.prog X.w) (J3.kIn) LT hb1
        refine test hc (LM.here ?_)
        cases b with
        | true =>
          refine codeAny_handlers_suite_as ?_
          refine HandSPX.lands_againZ fl3 fun h4 fl4 up4 => ?_
          have J4 : Inv X pins σ' H' { s' with heap := h4 } := J.landed nb fl4.1 ((up.trans up3).trans up4) os ag
          obtain ⟨oe4, vs4, he4, hz4, hd4⟩ := fl4.there
          have S4 := J4.suite he4 hd4 na nL nF
          refine L2.store_ok (X := X.suite a ((a, oe4) :: (X.pn ++ pins))) (v := .ref a) S4 hN hi (.inl hln) rfl (fun s5 S5 => ?_) (.inr hln)
          refine wpAny_mono ((hsu a oe4 cls d (X.pn ++ pins) hz4 ⟨_, hd4⟩).run [] s5 _ H' _ S5 (hyes rfl a na)) (fun f s6 hsp => ?_) (fun _ _ z => False.elim z)
          have end_ : ∀ {σ6 : L2.St} {H6 : Hp} {Q : Shared → Prop}, Inv (X.suite a ((a, oe4) :: (X.pn ++ pins))) [] σ6 H6 s6 → (∀ s7, Inv X pins (σ6.set i none) H6 s7 → Q s7) →
              wpAny (model X.prog X.w) X.A (do bindName X.env n .none; unbindBehindTheSuite X.env n pos') (fun _ s7 => Q s7) X.xe s6 := fun {σ6 H6 Q} S6 hq => gone_ok (S6.unsuite ok) hN hi hln hq
          cases f with
          | next =>
            obtain ⟨σ6, H6, S6, q6⟩ := hsp
            exact end_ S6 fun s7 J7 => ⟨_, _, J7, q6⟩
          | brk =>
            obtain ⟨σ6, H6, S6, q6⟩ := hsp
            exact end_ S6 fun s7 J7 => ⟨_, _, J7, q6⟩
          | cont =>
            obtain ⟨σ6, H6, S6, q6⟩ := hsp
            exact end_ S6 fun s7 J7 => ⟨_, _, J7, q6⟩
          | ret u =>
            obtain ⟨v6, σ6, H6, S6, r6, q6⟩ := hsp
            exact end_ S6 fun s7 J7 => ⟨_, _, _, J7, r6, q6⟩
        | false =>
          show wpAny _ X.A (handleBy (.ref a) X.env hds2) _ _ _
          exact ih (hno rfl)
    exact go hh w
  · cases f with
    | next =>
      obtain ⟨σ', H', J', q⟩ := hsp
      exact wpAny_execs_nil ⟨σ', H', J'.ofTry ok, q⟩
    | brk =>
      obtain ⟨σ', H', J', q⟩ := hsp
      exact ⟨σ', H', J'.ofTry ok, q⟩
    | cont =>
      obtain ⟨σ', H', J', q⟩ := hsp
      exact ⟨σ', H', J'.ofTry ok, q⟩
    | ret u =>
      obtain ⟨v, σ', H', J', r, q⟩ := hsp
      exact ⟨v, σ', H', J'.ofTry ok, r, q⟩
end
end B

set_option Elab.async false
set_option linter.all false
set_option maxRecDepth 100000
set_option maxHeartbeats 2000000
/-! try: the evaluator's clauses. Own work. -/
namespace B
open PySem PySem.Spec PyProof.Rows L2
/-- what the written part says of the exception classes as clauses name them -/
structure XM (K : PySem.W.Frag) (N : Nm) (G : Gx) : Prop where
  exm : ∀ x c b, G.xs x c = some b → PySem.W.exmOne K (.ref (N.exc x)) (.ref (N.exc c)) = some b
  isi : ∀ x c b, G.xs x c = some b → PySem.W.kitOne K (.ref (N.exc x)) (.ref (N.exc c)) = some b
section
variable {X : Cx} {N : Nm} {xf : Nat → Str} {G : Gx} {Wx : WX} {Z : Addr → Prop} {nF nM nC nA nX k : Nat} {mo : Bool}
/-- no exception is let out -/
def WF : WX := fun _ _ _ _ => False
/-- what the suite 'return [ .. ]' tells of the exception -/
def tRetX (X : Cx) (N : Nm) (xf : Nat → Str) (G : Gx) (i : Nat) (xs : List XI) : SuT := fun a cls dd De σV H => ∃ (Z : Addr → Prop) (ρ : List Addr) (h : A) (x : Nat) (d : D), RepA X.K X.w N Z H ρ h ∧ RepX X.K X.w N xf H (MM Z ρ h) x d cls dd ∧ (∃ c b, G.xs x c = some b) ∧ σV[i]? = some (some (.ref a)) ∧
  PostS X.K X.w N xf Z De WF H ρ h (ofOptS (xis G x d xs) fun ds => .rt (.c (.lst ds)) h)
/-- the clauses' parts -/
def suT (X : Cx) (N : Nm) (xf : Nat → Str) (G : Gx) : List (Nat × Option Nat × List S × Option (List XI)) → List (Value × Option Nat × SuT)
  | [] => []
  | (c, i, b, none) :: r => (.ref (N.exc c), i, fun _ _ _ => tSt X N xf WF (exs G b)) :: suT X N xf G r
  | (c, i, _, some xs) :: r => (.ref (N.exc c), i, tRetX X N xf G (i.getD 0) xs) :: suT X N xf G r
theorem RepX.keep {K : PySem.W.Frag} {w : World} {H H' : Hp} {P M P' M' : Addr → Prop} {x : Nat} {d : D} {cls : Value} {dd : Option Addr} (k : Keep H P M H' P' M') (q : RepX K w N xf H M x d cls dd) : RepX K w N xf H' M' x d cls dd := by
  obtain ⟨e1, a, v, e2, e3, e4, e5⟩ := q
  exact ⟨e1, a, v, e2, k.at e3 e4, k.not e3 e4, e5.keep k⟩
theorem aft_post {De : Ends} {H : Hp} {ρ : List Addr} {h : A} {i : Nat} {r : SRes} (p : PostS X.K X.w N xf Z De Wx H ρ h (aft (some i) r)) :
    PostS X.K X.w N xf Z { nx := fun σ' H' => De.nx (σ'.set i none) H', rt := De.rt, bk := fun σ' H' => De.bk (σ'.set i none) H', ct := fun σ' H' => De.ct (σ'.set i none) H' } WF H ρ h r := by
  cases r with
  | nx σ1 h1 => exact fun σV' H' ρ' x r' re' => p _ H' ρ' x r' (re'.unset i none)
  | bk σ1 h1 => exact fun σV' H' ρ' x r' re' => p _ H' ρ' x r' (re'.unset i none)
  | ct σ1 h1 => exact fun σV' H' ρ' x r' re' => p _ H' ρ' x r' (re'.unset i none)
  | rt w h1 => exact p
  | er _ _ _ _ => exact p.elim
  | stuck => exact p
theorem aft_post0 {De : Ends} {H : Hp} {ρ : List Addr} {h : A} {r : SRes} (p : PostS X.K X.w N xf Z De Wx H ρ h (aft none r)) : PostS X.K X.w N xf Z De WF H ρ h r := by
  cases r with
  | er _ _ _ _ => exact p.elim
  | _ => exact p
theorem exh_cons {c : Nat} {i : Option Nat} {b : List S} {t : Option (List XI)} {r : List (Nat × Option Nat × List S × Option (List XI))} {x : Nat} {d : D} {σ : Env} {h : A} : exh G ((c, i, b, t) :: r) x d σ h = match G.xs x c with
    | some true => (match t with
      | some xs => mustS (slotIn i σ) (ofOptS (xis G x d xs) fun ds => .rt (.c (.lst ds)) h)
      | none => aft i (exs G b (unset i σ) h))
    | some false => exh G r x d σ h
    | none => .stuck := rfl
/-- what the clauses do, promised, is what the rule wishes -/
theorem exh_post (M : XM X.K N G) : ∀ (hs : List (Nat × Option Nat × List S × Option (List XI))) {De : Ends} {H : Hp} {ρ : List Addr} {h : A} {σ : Env} {σV : L2.St} {x : Nat} {d : D} {cls : Value} {dd : Option Addr},
    RepA X.K X.w N Z H ρ h → RepE X.K X.w N ρ H (MM Z ρ h) σ σV → RepX X.K X.w N xf H (MM Z ρ h) x d cls dd → PostS X.K X.w N xf Z De Wx H ρ h (exh G hs x d σ h) →
    wA X.K Wx De (suT X N xf G hs) cls dd σV H
  | [], De, H, ρ, h, σ, σV, x, d, cls, dd, r, re, rx, p => p cls dd σV H ρ (Ext.refl _ _ _ _) r re rx
  | (c, i, b, t) :: hs, De, H, ρ, h, σ, σV, x, d, cls, dd, r, re, rx, p => by
    rw [exh_cons] at p
    have e0 : cls = .ref (N.exc x) := rx.1
    cases e : G.xs x c with
    | none => rw [e] at p; exact p.elim
    | some bb =>
      rw [e] at p
      have em := M.exm x c bb e
      rw [← e0] at em
      cases t with
      | none =>
        cases i with
        | none =>
          refine ⟨bb, em, fun hb a na => ?_, fun hb => ?_⟩
          · subst hb
            exact ⟨Z, σ, ρ, h, r, re, aft_post0 p⟩
          · subst hb
            exact exh_post M hs r re rx p
        | some j =>
          refine ⟨bb, em, fun hb a na => ?_, fun hb => ?_⟩
          · subst hb
            exact ⟨Z, σ.set j none, ρ, h, r, re.unset j _, aft_post p⟩
          · subst hb
            exact exh_post M hs r re rx p
      | some xs =>
        cases i with
        | none =>
          refine ⟨bb, em, fun hb a na => ?_, fun hb => ?_⟩
          · subst hb; exact p.elim
          · subst hb; exact exh_post M hs r re rx p
        | some j =>
          refine ⟨bb, em, fun hb a na => ?_, fun hb => ?_⟩
          · subst hb
            obtain ⟨hj, p2⟩ := PostS.must p
            have hj' : j < σV.length := by rw [← re.len]; exact of_decide_eq_true hj
            refine ⟨Z, ρ, h, x, d, r, rx, ⟨c, _, e⟩, List.getElem?_set_self hj', ?_⟩
            cases q : xis G x d xs with
            | none => rw [q] at p2; exact p2.elim
            | some ds => rw [q] at p2; exact p2
          · subst hb
            exact exh_post M hs r re rx p
theorem st_try {body0 : List Stmt} {h0 : ExceptHandler} {hds0 : List ExceptHandler} {b : List S} {hs : List (Nat × Option Nat × List S × Option (List XI))} {pos : Pos} (M : XM X.K N G) (hst : X.stack = X.env :: X.outer) (hf : X.env.frame = some X.env.locals) (hN : X.N.Nodup) (tk : L2.Takes X Wx)
    (hb : ∀ (W : WX) (pn : List (Addr × Obj)) (xe : Value → Shared → Prop), L2.Takes (X.tr pn xe) W → PassesOwn (model X.prog X.w) X.A X.env xe → PSs (X.tr pn xe) body0 (tSt X N xf W (exs G b)))
    (hh : HdA X (h0 :: hds0) (suT X N xf G hs)) : PS X (.Try body0 (h0 :: hds0) [] [] pos) (tSt X N xf Wx (ex G (.try_ b hs))) := by
  refine PS.imp (ps_tryA hst hf hN tk hb hh) fun De σV H ⟨Z, σ, ρ, h, r, re, p⟩ => ⟨Z, σ, ρ, h, r, re, ?_⟩
  have p' : PostS X.K X.w N xf Z De Wx H ρ h (match exs G b σ h with
    | .er x d σ1 h1 => exh G hs x d σ1 h1
    | r => r) := p
  cases e : exs G b σ h with
  | er x d σ1 h1 =>
    rw [e] at p'
    exact fun cls dd σV' H' ρ' xx r' re' rx => exh_post M hs r' re' rx (PostS.ext xx p')
  | nx _ _ => rw [e] at p'; exact p'
  | rt _ _ => rw [e] at p'; exact p'
  | bk _ _ => rw [e] at p'; exact p'
  | ct _ _ => rw [e] at p'; exact p'
  | stuck => rw [e] at p'; exact p'
/-! ### return [.., e.f, isinstance(e, C), ..] in a suite -/
section
variable {a : Addr} {cls : Value} {dd : Option Addr} {i : Nat} {oe : Obj} {pn : List (Addr × Obj)}
/-- the exception is in slot i -/
def XC (X : Cx) (N : Nm) (xf : Nat → Str) (G : Gx) (a : Addr) (cls : Value) (dd : Option Addr) (i : Nat) (σV : L2.St) (H : Hp) (M : Addr → Prop) (x : Nat) (d : D) : Prop := σV[i]? = some (some (.ref a)) ∧ (∃ c b, G.xs x c = some b) ∧ RepX X.K X.w N xf H M x d cls dd
def tXI (X : Cx) (N : Nm) (xf : Nat → Str) (G : Gx) (a : Addr) (cls : Value) (dd : Option Addr) (i : Nat) (t : XI) : TE := fun σV H Q => ∃ M x d e, XC X N xf G a cls dd i σV H M x d ∧ xi G x d t = some e ∧ ∀ v, RepD X.K X.w N H M e v → Q v H
def tXIs (X : Cx) (N : Nm) (xf : Nat → Str) (G : Gx) (a : Addr) (cls : Value) (dd : Option Addr) (i : Nat) (ts : List XI) : TA := fun σV H Q => ∃ M x d es, XC X N xf G a cls dd i σV H M x d ∧ xis G x d ts = some es ∧ ∀ vs, RepDs X.K X.w N H M es vs → Q vs H
theorem xi_non {j pos} : PE (X.suite a ((a, oe) :: pn)) (.Constant .none j pos) (tXI X N xf G a cls dd i (.k .non)) := PE.imp pe_non fun σV H Q ⟨M, x, d, e, _, e1, k⟩ => by cases e1; exact k _ nonD
theorem xi_bl {b j pos} : PE (X.suite a ((a, oe) :: pn)) (.Constant (.bool b) j pos) (tXI X N xf G a cls dd i (.k (.bl b))) := PE.imp pe_bl fun σV H Q ⟨M, x, d, e, _, e1, k⟩ => by cases e1; exact k _ (blD b)
theorem xi_int {n j pos} : PE (X.suite a ((a, oe) :: pn)) (.Constant (.int n) j pos) (tXI X N xf G a cls dd i (.k (.int n))) := PE.imp pe_int fun σV H Q ⟨M, x, d, e, _, e1, k⟩ => by cases e1; exact k _ (intD n)
theorem xi_str {z j pos} (h : PyData.strOk z = true) : PE (X.suite a ((a, oe) :: pn)) (.Constant (.str z) j pos) (tXI X N xf G a cls dd i (.k (.str z))) := PE.imp pe_str fun σV H Q ⟨M, x, d, e, _, e1, k⟩ => by cases e1; exact k _ (strD h)
theorem xi_nil : PA (X.suite a ((a, oe) :: pn)) [] (tXIs X N xf G a cls dd i []) := PA.imp pa_nil fun σV H Q ⟨M, x, d, es, _, e1, k⟩ => by cases e1; exact k [] (by unfold RepDs; rfl)
theorem xi_cons {e0 : Expr} {es0 : List Expr} {t : XI} {ts : List XI} (he : PE (X.suite a ((a, oe) :: pn)) e0 (tXI X N xf G a cls dd i t)) (hr : PA (X.suite a ((a, oe) :: pn)) es0 (tXIs X N xf G a cls dd i ts))
    (hs : starEach (e0 :: es0) X.env = (false, eval e0 X.env) :: starEach es0 X.env) : PA (X.suite a ((a, oe) :: pn)) (e0 :: es0) (tXIs X N xf G a cls dd i (t :: ts)) := by
  refine PA.imp (pa_cons he hr hs) fun σV H Q ⟨M, x, d, es, c, e1, k⟩ => ?_
  have e2 : (match xi G x d t with
    | some e => match xis G x d ts with
      | some es => some (e :: es)
      | none => none
    | none => none) = some es := e1
  cases q1 : xi G x d t with
  | none => rw [q1] at e2; cases e2
  | some e =>
    rw [q1] at e2
    cases q2 : xis G x d ts with
    | none => rw [q2] at e2; cases e2
    | some es' =>
      rw [q2] at e2
      cases e2
      refine ⟨M, x, d, e, c, q1, fun v hv => ⟨M, x, d, es', c, q2, fun vs hvs => k (v :: vs) ?_⟩⟩
      unfold RepDs
      exact ⟨v, vs, rfl, hv, hvs⟩
theorem xis_length {x : Nat} {d : D} : ∀ {xs : List XI} {ds : List D}, xis G x d xs = some ds → ds.length = xs.length
  | [], _, e => by cases e; rfl
  | t :: ts, ds, e => by
    have e2 : (match xi G x d t with
      | some e => match xis G x d ts with
        | some es => some (e :: es)
        | none => none
      | none => none) = some ds := e
    cases q1 : xi G x d t with
    | none => rw [q1] at e2; cases e2
    | some e =>
      rw [q1] at e2
      cases q2 : xis G x d ts with
      | none => rw [q2] at e2; cases e2
      | some es' =>
        rw [q2] at e2
        cases e2
        simp [xis_length q2]
theorem st_retX {es0 : List Expr} {xs : List XI} {p1 pos : Pos} (hl : xs.length ≤ 1000) (h : PA (X.suite a ((a, oe) :: pn)) es0 (tXIs X N xf G a cls dd i xs)) : PS (X.suite a ((a, oe) :: pn)) (.Return (some (.List es0 p1)) pos) (tRetX X N xf G i xs a cls dd) := by
  refine PS.imp (ps_ret (pe_lst h)) fun De σV H ⟨Z, ρ, h, x, d, r, rx, kx, sl, p⟩ => ?_
  obtain ⟨ds, e, p1⟩ := PostS.some p
  have hlen := xis_length e
  refine ⟨MM Z ρ h, x, d, ds, ⟨sl, kx, rx⟩, e, fun vs hvs => ⟨by rw [← hvs.length, hlen]; exact Nat.le_of_lt (small1000 hl), fun pp n => ?_⟩⟩
  exact p1 _ _ ρ (Ext.alloc n) (r.alloc n) (show RepD _ _ _ _ _ _ _ from lstD upd_same (r.notM n) (hvs.keep (Keep.new1 n)))
end
end
end B

set_option Elab.async false
set_option linter.all false
set_option maxRecDepth 100000
set_option maxHeartbeats 2000000
/-! What a suite reads of the exception; raise .. from None. Own work. -/
namespace B
open PySem PySem.Spec PyProof.Rows L2
/-- what an exception class must say for its instances to be read and asked -/
structure ExI (K : PySem.W.Frag) (C : Addr) : Prop where
  f : XfC K C
  cl : (PySem.W.clsIn K C).isSome = true
  ha : PySem.W.findIn K (.ref C) "__class__" = some (some (.builtin "object.__class__"))
  hn : PySem.W.specialIn K (.builtin "object.__class__") "__get__" = some (some (.builtin "getset_descriptor.__get__"))
  ht : PySem.W.takesIn K (.builtin "object.__class__") = some true
  hm : PySem.W.mroIn K C (.type "object") = some true
/-- .. of the classes that the clauses know -/
structure XI3 (K : PySem.W.Frag) (N : Nm) (xf : Nat → Str) (G : Gx) : Prop where
  e : ∀ x c b, G.xs x c = some b → ExI K (N.exc x)
  no : ∀ x c b, G.xs x c = some b → PySem.W.findIn K (.ref (N.exc x)) (xf x) = some none
  fx : ∀ x, G.fx x = xf x
section
variable {X : Cx} {N : Nm} {xf : Nat → Str} {G : Gx} {Wx : WX} {Z : Addr → Prop} {a : Addr} {cls : Value} {dd : Option Addr} {i : Nat} {oe : Obj} {pn : List (Addr × Obj)}
theorem inst_at {pins : List (Addr × Obj)} {σ : L2.St} {H : Hp} {s : Shared} {C ad : Addr} {fs : List (Str × V)} (I : Inv (X.suite a ((a, oe) :: pn)) pins σ H s) (hz : Zc (.ref C) (some ad) oe) (hf : ∃ vs, oe.data = .fields vs) (ea : H ad = some (.xd fs)) :
    ∃ (od : Obj) (mA : Str → Option Value), PySem.W.InstAt s.heap a oe C (some od) ∧ (∀ n, RelO (fs.lookup n) (mA n)) ∧ ∀ n, PySem.W.lookIn n od = some (mA n) := by
  obtain ⟨ha, _⟩ := I.pin (a, oe) (List.mem_append_left _ List.mem_cons_self)
  obtain ⟨vs, hd⟩ := hf
  have hx : ObjOk X.prog X.w H s.heap ad (.xd fs) := I.hok ad _ ea
  obtain ⟨mA, hns, hr⟩ := hx
  obtain ⟨od, ho, hl⟩ := lookIn_ns hns
  exact ⟨od, mA, ⟨ha, hz.1, by unfold PySem.W.notCls; rw [hd] <;> rfl, by rw [hz.2]; exact ho⟩, hr, hl⟩
theorem xi_fld {n x : Str} {np pos : Pos} (F : XI3 X.K N xf G) (hz : Zc cls dd oe) (hf : ∃ vs, oe.data = .fields vs) (hN : X.N[i]? = some x) (hv : Vis X.env.scope x) (hd : (x == ("__debug__" : Str)) = false) (hcd : (x == ("__classdict__" : Str)) = false)
    (hb : attributeBase (.Name x np) n X.env (eval (.Name x np) X.env) = eval (.Name x np) X.env) : PE (X.suite a ((a, oe) :: pn)) (.Attribute (.Name x np) n pos) (tXI X N xf G a cls dd i (.fld n)) := by
  refine ⟨fun pins s σ H Q I h => ?_⟩
  obtain ⟨M, xx, d, e, ⟨sl, ⟨c, b, kx⟩, rx⟩, e1, k⟩ := h
  have he := (pe_var (X := X.suite a ((a, oe) :: pn)) (pos := np) hN hv hd hcd).run pins s σ H (fun v H1 => v = .ref a ∧ H1 = H) I ⟨_, sl, rfl, rfl⟩
  refine attr_of hb (thn he fun u s1 ⟨v, H1, I1, ru, ev, eH⟩ => ?_)
  subst ev
  rw [eH] at I1
  obtain rfl : u = Value.ref a := ru
  obtain ⟨ec, ad, v0, ed, ea, _, dv⟩ := rx
  rw [ec, ed] at hz
  obtain ⟨od, mA, J, hr, hl⟩ := inst_at I1 hz hf ea
  have e2 : (match decide (G.fx xx = n) with
    | true => some d
    | false => none) = some e := e1
  cases hn : decide (G.fx xx = n) with
  | false => rw [hn] at e2; cases e2
  | true =>
    rw [hn] at e2
    cases e2
    have en : xf xx = n := by rw [← F.fx xx]; exact of_decide_eq_true hn
    subst en
    have l : ([(xf xx, v0)] : List (Str × V)).lookup (xf xx) = some v0 := by simp [List.lookup]
    obtain ⟨u, hu, ru⟩ := RelO.some_of (v := v0) (o := mA (xf xx)) (by rw [← l]; exact hr (xf xx))
    have T := (F.e xx c b kx).f
    exact HandSPX.exc_get I1.kIn J T.ga T.gg T.exC (PySem.W.findObj_own T.hdC (F.no xx c b kx) rfl (by rw [hl, hu])) (handed_of ru) ⟨v0, H, I1.tok _, ru, k v0 dv⟩
def rIsE (X : Cx) (N : Nm) (xf : Nat → Str) (a : Addr) (cls : Value) (dd : Option Addr) : List V → Hp → VK → Prop := fun vs H Q => ∃ (x : Nat) (ad : Addr) (v0 cV : V) (cv : Value) (b : Bool), vs = [.ref a, cV] ∧ cls = .ref (N.exc x) ∧ dd = some ad ∧ H ad = some (.xd [(xf x, v0)]) ∧ ExI X.K (N.exc x) ∧
  (∀ u, RelV cV u → u = cv) ∧ PySem.W.kitOne X.K (.ref (N.exc x)) cv = some b ∧ Q (.bl b) H
theorem call_isX (hz : Zc cls dd oe) (hf : ∃ vs, oe.data = .fields vs) : CallR (X.suite a ((a, oe) :: pn)) (.builtin "isinstance") (rIsE X N xf a cls dd) := by
  intro pins s σ H xs us Q I r h
  obtain ⟨x, ad, v0, cV, cv, b, rfl, ec, ed, ea, E, hcv, e, q⟩ := h
  rw [ec, ed] at hz
  obtain ⟨u1, u2, rfl, r1, r2⟩ := vals2 r
  obtain rfl : u1 = Value.ref a := r1
  have ec := hcv _ r2
  subst ec
  obtain ⟨od, mA, J, _, _⟩ := inst_at I hz hf ea
  exact PySem.W.kia_one (PySem.W.kitx_exc E.cl E.f.ga E.f.gg E.f.exC E.ha E.hn E.ht E.hm) I.kIn J e (fun z => nomatch z) fun tk => ⟨.bl b, H, I.kept (t' := tk) fun _ _ z => z, rfl, q⟩
theorem xi_is {c : Nat} {x : Str} {c0 : Expr} {np p pos : Pos} (F : XI3 X.K N xf G) (M : XM X.K N G) (hz : Zc cls dd oe) (hf : ∃ vs, oe.data = .fields vs) (hN : X.N[i]? = some x) (hv : Vis X.env.scope x) (hd : (x == ("__debug__" : Str)) = false) (hcd : (x == ("__classdict__" : Str)) = false)
    (hg : Gl X "isinstance") (hm : X.mg "isinstance" = none) (hc : PE (X.suite a ((a, oe) :: pn)) c0 (tC (.ref (N.exc c))))
    (h1 : starEach [.Name x np, c0] X.env = (false, eval (.Name x np) X.env) :: starEach [c0] X.env) (h2 : starEach [c0] X.env = (false, eval c0 X.env) :: starEach [] X.env) (hpl : (backTo pos (starEach [c0] X.env)).any (·.1) = false) :
    PE (X.suite a ((a, oe) :: pn)) (.Call (.Name "isinstance" p) [.Name x np, c0] [] pos) (tXI X N xf G a cls dd i (.is c)) := by
  refine PE.imp (pe_callB (call_isX (N := N) (xf := xf) hz hf) hg hm (by decide +kernel) (pa_cons (pe_var (X := X.suite a ((a, oe) :: pn)) (pos := np) hN hv hd hcd) (pa_cons hc pa_nil h2) h1) (he := h1) (hpl := hpl)) fun σV H Q h => ?_
  obtain ⟨M0, xx, d, e, ⟨sl, ⟨c', b', kx⟩, rx⟩, e1, k⟩ := h
  obtain ⟨b, e2, rfl⟩ := Option.map_eq_some_iff.mp (show (G.xs xx c).map D.bl = some e from e1)
  obtain ⟨ec, ad, v0, ed, ea, _, dv⟩ := rx
  exact ⟨_, sl, xx, ad, v0, _, _, b, rfl, ec, ed, ea, F.e xx c' b' kx, fun u hu => hu, M.isi xx c b e2, k _ (blD b)⟩
end
end B

set_option Elab.async false
set_option linter.all false
set_option maxRecDepth 100000
set_option maxHeartbeats 2000000
/-! try: .. except C: raise D(None) from None. Own work. -/
namespace B
open PySem PySem.Spec PyProof.Rows L2
/-- the exception classes' __init__ where an exception is handled -/
structure XFH (P : Program) (w : World) (K : PySem.W.Frag) (mg : Str → Option Value) (base : Heap) (N : Nm) (xf : Nat → Str) (x k : Nat) : Prop where
  ex : OexC K (N.exc x)
  no : PySem.W.findIn K (.ref (N.exc x)) (xf x) = some none
  ini : ∃ fI fd ps, PySem.W.findIn K (.ref (N.exc x)) "__init__" = some (some (.ref fI)) ∧ PySem.W.typeIn K (.ref fI) = some (.type "function") ∧ L2H.FnH P w K mg base (L2N.CX P w) k fI fd ps (spI K (xf x)) ∧ Binds K fd ps []
section
variable {X : Cx} {N : Nm} {xf : Nat → Str} {G : Gx} {Wx : WX} {Z : Addr → Prop} {nF k : Nat} {mo : Bool}
theorem st_tryr {body0 : List Stmt} {b : List S} {c x : Nat} {cn xn : Str} {np p p2 cpos pos pos' rpos tpos : Pos} {j j2} (M : XM X.K N G) (F : XFH X.prog X.w X.K X.mg X.base N xf x k) (hr : Room (k + 1) X.A) (hst : X.stack = X.env :: X.outer) (hf : X.env.frame = some X.env.locals) (hc : Names X cn (.ref (N.exc c)))
    (hpa : ∀ hd : Option Value, PassesOwnAt (model X.prog X.w) (X.A.mark hd) X.A X.env X.xe) (tk : L2.Takes X Wx)
    (hb : ∀ (W : WX) (pn : List (Addr × Obj)) (xe : Value → Shared → Prop), L2N.Takes (X.tr pn xe) W → PassesOwn (model X.prog X.w) X.A X.env xe → PSs (X.tr pn xe) body0 (tSt X N xf W (exs G b)))
    (hg : Gl X xn) (hm : X.mg xn = some (.ref (N.exc x))) (hdb : (xn == ("__debug__" : Str)) = false)
    (he : starEach [.Constant .none j2 p2] X.env = (false, eval (.Constant .none j2 p2) X.env) :: starEach [] X.env) (hpl : (backTo pos (starEach [] X.env)).any (·.1) = false) :
    PS X (.Try body0 [.ExceptHandler (some (.Name cn np)) none [.Raise (some (.Call (.Name xn p) [.Constant .none j2 p2] [] pos)) (some (.Constant .none j cpos)) rpos] pos'] [] [] tpos) (tSt X N xf Wx (ex G (.tryr b c x .non))) := by
  obtain ⟨fI, fd, ps, iC, tI, F1, bb⟩ := F.ini
  have key := L2H.ps_try_onlyX (X := X) (body := body0) (suite := []) (b₀ := .Raise (some (.Call (.Name xn p) [.Constant .none j2 p2] [] pos)) (some (.Constant .none j cpos)) rpos) (np := np) (pos := tpos) (pos' := pos') (Wout := Wx) (tb := fun W => tSt X N xf W (exs G b))
    (ts := fun a cls dd De σV H => ∃ (Z : Addr → Prop) (σ : Env) (ρ : List Addr) (h : A), RepA X.K X.w N Z H ρ h ∧ RepE X.K X.w N ρ H (MM Z ρ h) σ σV ∧ PostS X.K X.w N xf Z De Wx H ρ h (.er x .non σ h)) hst hf hc hpa tk (fun W pn xe t1 _ t3 => hb W pn xe t1 t3)
    (fun a oe cls dd pn hz hfi tkS hot => by
      have hpass : Passes (L2N.CX X.prog X.w) (L2H.suiteX X a ((a, oe) :: pn)) (fun _ _ _ => False) := fun _ _ _ _ _ _ _ h => by
        obtain ⟨_, _, _, _, _, _, _, _, _, _, _, _, z⟩ := h
        exact z.elim
      refine pss_one (PS.imp (L2H.ps_raiseHN hot tkS (L2H.pmk5_oexH (X := L2H.suiteX X a ((a, oe) :: pn)) F.ex iC tI F1 (L2H.roomH_mark hr _) hot bb hpass hg hm (pa_cons pe_non pa_nil he) hdb he hpl)) ?_)
      intro De σV H ⟨Z, σ, ρ, h, r, re, p⟩
      refine ⟨by show 1 ≤ 1000; decide, fun a2 na => ⟨a2, N.exc x, .non, rfl, F.ex, F.no, upd_same, fun dx nd ne => ⟨rfl, dx, [(xf x, .non)], upd_same, ?_, ?_, ?_⟩⟩⟩
      · rw [upd_ne ne, upd_same]
      · rw [upd_ne ne] at nd; exact nd
      · have nd1 : H dx = none := by rw [upd_ne ne] at nd; exact nd
        have hh : upd (L2.del (upd (upd (upd H a2 (exo a2 (N.exc x) none)) dx (exd dx [(xf x, V.non)])) a2 (exo a2 (N.exc x) (some dx))) a2) dx (.xd [(xf x, V.non)]) = upd H dx (.xd [(xf x, V.non)]) := by
          funext b
          by_cases hd : b = dx
          · subst hd; rw [upd_same, upd_same]
          · rw [upd_ne hd, upd_ne hd]
            by_cases ha : b = a2
            · subst ha; rw [L2.del_same, na]
            · rw [L2.del_ne ha, upd_ne ha, upd_ne hd, upd_ne ha]
        rw [hh]
        have x3 : Ext Z H ρ h (upd H dx (.xd [(xf x, V.non)])) ρ h := Ext.alloc nd1
        exact p _ _ σV _ ρ x3 (r.alloc nd1) (re.keep x3.keep x3.pre) ⟨rfl, dx, V.non, rfl, upd_same, r.notM nd1, nonD⟩)
  refine PS.imp key fun De σV H ⟨Z, σ, ρ, h, r, re, p⟩ => ⟨Z, σ, ρ, h, r, re, ?_⟩
  have p' : PostS X.K X.w N xf Z De Wx H ρ h (match exs G b σ h with
    | .er y e σ1 h1 => match G.xs y c with
      | some true => .er x .non σ1 h1
      | some false => .er y e σ1 h1
      | none => .stuck
    | r => r) := p
  cases e : exs G b σ h with
  | er y d σ1 h1 =>
    rw [e] at p'
    intro cls dd σV' H' ρ' xx r' re' rx
    have e0 : cls = .ref (N.exc y) := rx.1
    cases e2 : G.xs y c with
    | none =>
      have p2 : PostS X.K X.w N xf Z De Wx H ρ h (match G.xs y c with
        | some true => .er x .non σ1 h1
        | some false => .er y d σ1 h1
        | none => .stuck) := p'
      rw [e2] at p2; exact p2.elim
    | some b2 =>
      have p2 : PostS X.K X.w N xf Z De Wx H ρ h (match G.xs y c with
        | some true => .er x .non σ1 h1
        | some false => .er y d σ1 h1
        | none => .stuck) := p'
      rw [e2] at p2
      have em := M.exm y c b2 e2
      rw [← e0] at em
      refine ⟨b2, em, fun hb2 a na => ?_, fun hb2 => ?_⟩
      · subst hb2
        exact ⟨Z, σ1, ρ', h1, r', re', PostS.ext xx p2⟩
      · subst hb2
        exact p2 cls dd σV' H' ρ' xx r' re' rx
  | nx _ _ => rw [e] at p'; exact p'
  | rt _ _ => rw [e] at p'; exact p'
  | bk _ _ => rw [e] at p'; exact p'
  | ct _ _ => rw [e] at p'; exact p'
  | stuck => rw [e] at p'; exact p'
end
end B

set_option Elab.async false
set_option linter.all false
set_option maxRecDepth 100000
set_option maxHeartbeats 2000000
/-! A def's body keeps what the evaluator's run says. Own work. -/
namespace B
open PySem PySem.Spec PyProof.Rows L2
section
variable {K : PySem.W.Frag} {w : World} {N : Nm} {xf : Nat → Str} {Z : Addr → Prop}
theorem freeze_run {H : Hp} {ρ : List Addr} {h h1 : A} {x : W} {v : V} {d : D} (r : RepA K w N Z H ρ h) (q : RepW K w N ρ H (MM Z ρ h) x v) (e : freeze h x = .ok d h1) : Ext Z H ρ h H ρ h1 ∧ RepA K w N Z H ρ h1 ∧ RepD K w N H (MM Z ρ h1) d v := by
  cases x with
  | c d0 => cases e; exact ⟨Ext.refl _ _ _ _, r, q⟩
  | l n =>
    have e' : (match fzW 8 h (.l n) with
      | some d => (.ok d (kill h (fzL 8 h (.l n))) : Res D)
      | none => .stuck) = .ok d h1 := e
    cases q1 : fzW 8 h (.l n) with
    | none => rw [q1] at e'; cases e'
    | some d0 =>
      rw [q1] at e'
      cases e'
      have x1 : Ext Z H ρ h H ρ (kill h (fzL 8 h (.l n))) := Ext.kill
      exact ⟨x1, r.kill _, fz_ok r x1.keep 8 (.l n) _ v q1 (fun m hm o ho => kill_dead hm ho) q⟩
theorem freeze_noerr {h : A} {x : W} {y : Nat} {d : D} {h1 : A} (e : freeze h x = .err y d h1) : False := by
  cases x with
  | c d0 => cases e
  | l n =>
    have e' : (match fzW 8 h (.l n) with
      | some d => (.ok d (kill h (fzL 8 h (.l n))) : Res D)
      | none => .stuck) = .err y d h1 := e
    cases q1 : fzW 8 h (.l n) with
    | none => rw [q1] at e'; cases e'
    | some d0 => rw [q1] at e'; cases e'
/-- the body's end, let go of what is not reached -/
theorem ret_post {Q : VK} {E : XK} {Wx : WX} {H : Hp} {ρ : List Addr} {h : A} {F : Fn} {r : SRes} (hW : ∀ cls d σ H, E cls d H → Wx cls d σ H) (r0 : RepA K w N Z H ρ h) (p : PostG K w N xf Z (RW K w N) Q E H ρ h (retOf F h.length r)) :
    PostS K w N xf Z { nx := fun _ H' => Q .non H', rt := Q } Wx H ρ h r := by
  have fin : ∀ {x : W} {v : V} {H' : Hp} {ρ' : List Addr} {h' : A}, Ext Z H ρ h H' ρ' h' → RepA K w N Z H' ρ' h' → RepW K w N ρ' H' (MM Z ρ' h') x v → PostG K w N xf Z (RW K w N) Q E H ρ h (gc h.length x h') → Q v H' := fun {x v H' ρ' h'} x0 r1 q p => by
    rw [← bind_ok (gc h.length x h')] at p
    obtain ⟨y, b, ρ2, x2, r2, q2, _, p2⟩ := gc_ok x0 r0.len r1 q p
    exact p2 v H' ρ2 x2 r2 q2
  cases r with
  | nx σ1 h1 => exact fun σV' H' ρ' x r' re' => fin x r' (show RepW K w N ρ' H' (MM Z ρ' h1) (.c .non) .non from (nonD : RepD K w N H' (MM Z ρ' h1) .non .non)) p
  | rt y h1 =>
    intro v H' ρ' x r' q'
    have p' : PostG K w N xf Z (RW K w N) Q E H ρ h (match F.fz with
      | true => (freeze h1 y).bind fun d h1 => gc h.length (.c d) h1
      | false => gc h.length y h1) := p
    cases e : F.fz with
    | false => rw [e] at p'; exact fin x r' q' p'
    | true =>
      rw [e] at p'
      cases e2 : freeze h1 y with
      | ok d h2 =>
        have p2 : PostG K w N xf Z (RW K w N) Q E H ρ h ((freeze h1 y).bind fun d h1 => gc h.length (.c d) h1) := p'
        rw [e2] at p2
        obtain ⟨x2, r2, d2⟩ := freeze_run r' q' e2
        exact fin (x.trans x2) r2 (show RepW K w N ρ' H' (MM Z ρ' h2) (.c d) v from d2) p2
      | err a d h2 => exact (freeze_noerr e2).elim
      | stuck =>
        have p2 : PostG K w N xf Z (RW K w N) Q E H ρ h ((freeze h1 y).bind fun d h1 => gc h.length (.c d) h1) := p'
        rw [e2] at p2
        exact p2.elim
  | er x d σ1 h1 =>
    intro cls dd σV' H' ρ' x1 r' re' rx
    have p' : PostG K w N xf Z (RW K w N) Q E H ρ h ((gc h.length (.c .non) h1).bind fun _ h2 => .err x d h2) := p
    obtain ⟨y, b, ρ2, x2, r2, q2, sm, p2⟩ := gc_ok x1 r0.len r' (show RepW K w N ρ' H' (MM Z ρ' h1) (.c .non) .non from (nonD : RepD K w N H' (MM Z ρ' h1) .non .non)) p'
    have kp : Keep H' (fun _ => False) (MM Z ρ' h1) H' (fun _ => False) (MM Z ρ2 b) := ⟨fun _ _ e _ => e, fun _ f => f.elim, fun a m => .inl (sm a m), fun _ f => f.elim, fun _ o e => ⟨o, e⟩⟩
    exact hW _ _ _ _ (p2 cls dd H' ρ2 x2 r2 (rx.keep kp))
  | bk _ _ => exact p.elim
  | ct _ _ => exact p.elim
  | stuck => exact p.elim
theorem repE_start {H : Hp} {M : Addr → Prop} {ρ : List Addr} : ∀ {ws : List W} {vs : List V} {n m : Nat}, RepWs K w N ρ H M ws vs → n = m → RepE K w N ρ H M (ws.map some ++ List.replicate n none) (vs.map some ++ List.replicate m none)
  | [], vs, n, m, q, e => by
    cases q
    subst e
    refine ⟨by simp, fun i x hx => ?_⟩
    have : (List.replicate n (none : Option W))[i]? = some (some x) := by simpa using hx
    rw [List.getElem?_replicate] at this
    split at this <;> cases this
  | y :: ws, vs, n, m, ⟨v, vs', ev, q1, q2⟩, e => by
    subst ev
    have ih := repE_start (n := n) (m := m) q2 e
    refine ⟨by have := ih.len; simp at this ⊢; omega, fun i x hx => ?_⟩
    cases i with
    | zero =>
      have : y = x := by simpa using hx
      subst this
      exact ⟨v, by simp, q1⟩
    | succ i =>
      obtain ⟨u, h1, h2⟩ := ih.get i x (by simpa using hx)
      exact ⟨u, by simpa using h1, h2⟩
end
section
variable {P : Program} {w : World} {K : PySem.W.Frag} {mg : Str → Option Value} {base : Heap} {N : Nm} {xf : Nat → Str}
theorem spF_len {R : List W → A → Res W} {vs : List V} {H : Hp} {Q : VK} {E : XK} {n : Nat} (h : spF K w N xf R vs H Q E) (hR : ∀ ws h, ws.length ≠ n → R ws h = .stuck) : vs.length = n := by
  obtain ⟨Z, ρ, h, ws, r, q, p⟩ := h
  rw [← q.length]
  apply Classical.byContradiction
  intro hn
  rw [hR ws h hn] at p
  exact p
theorem run_len {Q : Pr} {k f : Nat} {F : Fn} (e : Q.fn f = some F) (ws : List W) (h : A) (hn : ws.length ≠ F.ar) : run Q (k + 1) f ws h = .stuck := by
  rw [run_succ, e]
  show must (decide (ws.length = F.ar)) _ = _
  rw [decide_eq_false hn]
  rfl
/-- what is promised of a call is promised of the body -/
theorem body_of {Q : Pr} {k f : Nat} {F : Fn} {X : Cx} {names : List Str} {vs : List V} {H : Hp} {V0 : VK} {E : XK} {Wx : WX} (hK : X.K = K) (hw : X.w = w) (e : Q.fn f = some F) (hs : F.sl = names.length) (hW : ∀ cls d σ H, E cls d H → Wx cls d σ H) (h : spF K w N xf (run Q (k + 1) f) vs H V0 E) :
    tSt X N xf Wx (exs (gxOf Q k) F.body) { nx := fun _ H' => V0 .non H', rt := V0 } (L2.start names vs) H := by
  subst hK hw
  obtain ⟨Z, ρ, h, ws, r, q, p⟩ := h
  have p' := p
  rw [run_succ, e] at p'
  obtain ⟨hl, p2⟩ := PostG.must p'
  have hl := of_decide_eq_true hl
  refine ⟨Z, _, ρ, h, r, ?_, ret_post hW r p2⟩
  unfold L2.start
  exact repE_start q (by rw [← q.length, hl, hs])
end
end B

set_option Elab.async false
set_option linter.all false
set_option maxRecDepth 100000
set_option maxHeartbeats 2000000
/-! List comprehensions. Own work. -/
namespace B
open PySem PySem.Spec PyProof.Rows L2
section
variable {X : Cx} {N : Nm} {xf : Nat → Str} {G : Gx} {Wx : WX} {Z : Addr → Prop}
theorem RepE.wipe {H : Hp} {M : Addr → Prop} {ρ : List Addr} {σ : Env} {σV : L2.St} (re : RepE X.K X.w N ρ H M σ σV) : ∀ vs : List Nat, RepE X.K X.w N ρ H M (wipeE σ vs) (L2.wipe σV vs)
  | [] => re
  | v :: vs => (RepE.wipe re vs).unset v none
theorem wipe_set {σ : L2.St} {i : Nat} {u : Option V} : ∀ {vs : List Nat}, i ∈ vs → L2.wipe (σ.set i u) vs = L2.wipe σ vs
  | [], h => by cases h
  | v :: vs, h => by
    unfold L2.wipe
    by_cases hv : i ∈ vs
    · rw [wipe_set hv]
    · have e : i = v := by
        rcases List.mem_cons.mp h with e | e
        · exact e
        · exact absurd e hv
      subst e
      have key : ∀ (ws : List Nat) (τ : L2.St), (L2.wipe (τ.set i u) ws).set i none = (L2.wipe τ ws).set i none := by
        intro ws
        induction ws with
        | nil => intro τ; show (τ.set i u).set i none = τ.set i none; rw [List.set_set]
        | cons x xs ih =>
          intro τ
          show ((L2.wipe (τ.set i u) xs).set x none).set i none = ((L2.wipe τ xs).set x none).set i none
          by_cases hx : x = i
          · subst hx; rw [List.set_set, List.set_set]; exact ih τ
          · rw [List.set_comm _ _ hx, ih τ, List.set_comm _ _ (fun z => hx z.symm)]
      exact key vs σ
theorem wipe_wipe {σ : L2.St} (vs : List Nat) : L2.wipe (L2.wipe σ vs) vs = L2.wipe σ vs := by
  have key : ∀ (ws : List Nat), (∀ x ∈ ws, x ∈ vs) → L2.wipe (L2.wipe σ ws) vs = L2.wipe σ vs := by
    intro ws
    induction ws with
    | nil => intro _; rfl
    | cons x xs ih =>
      intro h
      show L2.wipe ((L2.wipe σ xs).set x none) vs = _
      rw [wipe_set (h x List.mem_cons_self)]
      exact ih fun y hy => h y (List.mem_cons_of_mem _ hy)
  exact key vs fun _ h => h
def tgIn (vs : List Nat) : Tg → Bool
  | .nm i => vs.contains i
  | .tp is => is.all fun i => vs.contains i
/-- the target's slots are the block's own -/
theorem gN_in {H : Hp} {M : Addr → Prop} {ρ : List Addr} {Q : L2.St → Hp → Prop} {vs0 : List Nat} : ∀ {is : List Nat} {ds : List D} {vs : List V} {σ : Env} {σV : L2.St}, (∀ i ∈ is, i ∈ vs0) → ds.length = is.length → RepDs X.K X.w N H M ds vs → RepE X.K X.w N ρ H M σ σV →
    (∀ σV1, L2.wipe σV1 vs0 = L2.wipe σV vs0 → RepE X.K X.w N ρ H M ((is.zip ds).foldl (fun σ p => σ.set p.1 (some (W.c p.2))) σ) σV1 → Q σV1 H) → gN is vs σV H Q
  | [], [], vs, σ, σV, _, _, q, re, k => by unfold RepDs at q; exact ⟨q, k σV rfl re⟩
  | [], _ :: _, _, _, _, _, e, _, _, _ => by cases e
  | _ :: _, [], _, _, _, _, e, _, _, _ => by cases e
  | i :: is, d :: ds, vs, σ, σV, hi, e, q, re, k => by
    unfold RepDs at q
    obtain ⟨v, vs', rfl, a, b⟩ := q
    exact ⟨v, vs', rfl, gN_in (is := is) (fun j hj => hi j (List.mem_cons_of_mem _ hj)) (by simpa using e) b (re.set (x := .c d) a i) fun σV1 h1 h2 => k σV1 (h1.trans (wipe_set (hi i List.mem_cons_self))) h2⟩
theorem gT_in {t : Tg} {d : D} {v : V} {σ σ1 : Env} {σV : L2.St} {H : Hp} {M : Addr → Prop} {ρ : List Addr} {Q : L2.St → Hp → Prop} {vs0 : List Nat} (hin : tgIn vs0 t = true) (e : bindTg t (.c d) σ = some σ1) (q : RepD X.K X.w N H M d v) (re : RepE X.K X.w N ρ H M σ σV)
    (k : ∀ σV1, L2.wipe σV1 vs0 = L2.wipe σV vs0 → RepE X.K X.w N ρ H M σ1 σV1 → Q σV1 H) : gT X t v σV H Q := by
  cases t with
  | nm i =>
    cases e
    exact k _ (wipe_set (List.contains_iff_mem.mp hin)) (re.set (x := .c d) q i)
  | tp is =>
    have hin' : ∀ i ∈ is, i ∈ vs0 := fun i hi => List.contains_iff_mem.mp (List.all_eq_true.mp hin i hi)
    cases d <;> first | (cases e; done) | skip
    rename_i ds
    have e' : (match decide (ds.length = is.length) with
      | true => some ((is.zip ds).foldl (fun σ p => σ.set p.1 (some (W.c p.2))) σ)
      | false => none) = some σ1 := e
    cases hl : decide (ds.length = is.length) with
    | false => rw [hl] at e'; cases e'
    | true =>
      rw [hl] at e'
      cases e'
      obtain ⟨a, vs, rfl, h1, h2⟩ := RepD.tup_inv q
      have hl' := of_decide_eq_true hl
      exact ⟨a, vs, rfl, h1, by rw [← h2.length, hl'], gN_in hin' hl' h2 re k⟩
/-! ### the new list stands outside -/
theorem MM_or {Da : Addr} {ρ : List Addr} {h : A} {a : Addr} : MM (fun b => Z b ∨ b = Da) ρ h a ↔ MM Z ρ h a ∨ a = Da := by
  constructor
  · rintro (m | m | m)
    · exact .inl (.inl m)
    · exact .inl (.inr m)
    · exact .inr m
  · rintro ((m | m) | m)
    · exact .inl m
    · exact .inr (.inl m)
    · exact .inr (.inr m)
/-- .. and back -/
theorem RepA.less {H : Hp} {ρ : List Addr} {h : A} {Da : Addr} (r : RepA X.K X.w N (fun b => Z b ∨ b = Da) H ρ h) : RepA X.K X.w N Z H ρ h := by
  have k : Keep H (fun _ => False) (MM (fun b => Z b ∨ b = Da) ρ h) H (fun _ => False) (MM Z ρ h) := ⟨fun _ _ e _ => e, fun _ f => f.elim, fun a m => .inl (MM_or.mpr (.inl m)), fun _ f => f.elim, fun _ o e => ⟨o, e⟩⟩
  refine ⟨r.len, r.nd, fun a z => r.far a (.inl z), fun i o a e1 e2 => ?_⟩
  obtain ⟨ho, h1, h2⟩ := r.obj i o a e1 e2
  exact ⟨ho, h1, h2.keep k ⟨[], by simp⟩⟩
theorem Ext.less {H H' : Hp} {ρ ρ' : List Addr} {h h' : A} {Da : Addr} (x : Ext (fun b => Z b ∨ b = Da) H ρ h H' ρ' h') (r' : RepA X.K X.w N (fun b => Z b ∨ b = Da) H' ρ' h') (zn : ¬ Z Da) : Ext Z H ρ h H' ρ' h' := by
  refine ⟨⟨x.keep.keep, fun a m => .inl m, fun a m => ?_, x.keep.newP, x.keep.there⟩, x.pre, x.fresh⟩
  rcases x.keep.new a (MM_or.mpr (.inl m)) with m2 | n
  · rcases MM_or.mp m2 with m3 | e
    · exact .inl m3
    · subst e
      have na := (r'.far a (.inr rfl)).2
      rcases m with ⟨i, o, e1, _, _⟩ | z
      · exact absurd (List.mem_of_getElem? e1) na
      · exact absurd z zn
  · exact .inr n
/-- the list is rewritten: nothing else sees it -/
theorem upd_keep {H : Hp} {ρ : List Addr} {h : A} {Da : Addr} {o o' : HO} (r : RepA X.K X.w N (fun b => Z b ∨ b = Da) H ρ h) (e : H Da = some o) : Keep H (fun b => b = Da) (MM (fun b => Z b ∨ b = Da) ρ h) (upd H Da o') (fun b => b = Da) (MM (fun b => Z b ∨ b = Da) ρ h) :=
  ⟨fun a u h1 h2 => by rw [upd_ne h2]; exact h1, fun a m => .inr (.inr m), fun a m => .inl m, fun a m => .inl m, fun a u h1 => by
    by_cases ha : a = Da
    · subst ha; exact ⟨o', upd_same⟩
    · exact ⟨u, by rw [upd_ne ha]; exact h1⟩⟩
theorem RepA.out {H : Hp} {ρ : List Addr} {h : A} {Da : Addr} {o o' : HO} (r : RepA X.K X.w N (fun b => Z b ∨ b = Da) H ρ h) (e : H Da = some o) : RepA X.K X.w N (fun b => Z b ∨ b = Da) (upd H Da o') ρ h := by
  have k := upd_keep (o' := o') r e
  have na := (r.far Da (.inr rfl)).2
  refine ⟨r.len, r.nd, fun a z => ⟨?_, (r.far a z).2⟩, fun i ob a e1 e2 => ?_⟩
  · obtain ⟨u, hu⟩ := (r.far a z).1
    exact k.there a u hu
  · obtain ⟨ho, h1, h2⟩ := r.obj i ob a e1 e2
    have ne : a ≠ Da := fun z => na (z ▸ List.mem_of_getElem? e2)
    exact ⟨ho, by rw [upd_ne ne]; exact h1, h2.keep k ⟨[], by simp⟩⟩
theorem Ext.out {H1 H : Hp} {ρ1 ρ : List Addr} {h1 h : A} {Da : Addr} {o' : HO} (x : Ext Z H1 ρ1 h1 H ρ h) (n : H1 Da = none) : Ext Z H1 ρ1 h1 (upd H Da o') ρ h := by
  refine ⟨⟨fun a o e1 e2 => ?_, x.keep.sub, x.keep.new, x.keep.newP, fun a o e1 => ?_⟩, x.pre, x.fresh⟩
  · have ne : a ≠ Da := fun z => by rw [z, n] at e1; cases e1
    rw [upd_ne ne]; exact x.keep.keep a o e1 e2
  · have ne : a ≠ Da := fun z => by rw [z, n] at e1; cases e1
    rw [upd_ne ne]; exact x.keep.there a o e1
end
end B

set_option Elab.async false
set_option linter.all false
set_option maxRecDepth 100000
set_option maxHeartbeats 2000000
/-! List comprehensions over what stands. Own work. -/
namespace B
open PySem PySem.Spec PyProof.Rows L2
section
variable {X : Cx} {N : Nm} {xf : Nat → Str} {G : Gx} {Wx : WX} {Z : Addr → Prop}
theorem Ext.adopt {H1 H : Hp} {ρ1 ρ : List Addr} {h1 h : A} {Da : Addr} {o : O} (x : Ext Z H1 ρ1 h1 H ρ h) (n : H1 Da = none) (len : ρ.length = h.length) : Ext Z H1 ρ1 h1 H (ρ ++ [Da]) (h ++ [o]) := by
  have pp : ∀ a, PP (ρ ++ [Da]) (h ++ [o]) a → PP ρ h a ∨ a = Da := fun a m => PP.push len m
  refine ⟨⟨x.keep.keep, x.keep.sub, fun a m => ?_, fun a m => ?_, x.keep.there⟩, ?_, fun t e a ha => ?_⟩
  · rcases m with m | z
    · rcases pp a m with m | e
      · exact x.keep.new a (.inl m)
      · exact .inr (e ▸ n)
    · exact x.keep.new a (.inr z)
  · rcases pp a m with m | e
    · exact x.keep.newP a m
    · exact .inr (e ▸ n)
  · obtain ⟨t, e⟩ := x.pre
    exact ⟨t ++ [Da], by rw [e, List.append_assoc]⟩
  · obtain ⟨t0, e0⟩ := x.pre
    have : t = t0 ++ [Da] := by
      rw [e0, List.append_assoc] at e
      exact (List.append_cancel_left e).symm
    subst this
    rcases List.mem_append.mp ha with ha | ha
    · exact x.fresh t0 e0 a ha
    · have : a = Da := by simpa using ha
      subst this; exact n
theorem RepA.adopt {H : Hp} {ρ : List Addr} {h : A} {Da : Addr} {o : O} {ho : HO} (r : RepA X.K X.w N (fun b => Z b ∨ b = Da) H ρ h) (zn : ¬ Z Da) (e : H Da = some ho) (q : RepO X.K X.w N ρ H (MM (fun b => Z b ∨ b = Da) ρ h) o ho) : RepA X.K X.w N Z H (ρ ++ [Da]) (h ++ [o]) := by
  have na := (r.far Da (.inr rfl)).2
  have k : Keep H (fun _ => False) (MM (fun b => Z b ∨ b = Da) ρ h) H (fun _ => False) (MM Z (ρ ++ [Da]) (h ++ [o])) := ⟨fun _ _ e _ => e, fun _ f => f.elim, fun a m => by
    rcases m with m | z
    · rcases PP.push r.len m with m | e
      · exact .inl (.inl m)
      · exact .inl (.inr (.inr e))
    · exact .inl (.inr (.inl z)), fun _ f => f.elim, fun _ o e => ⟨o, e⟩⟩
  refine ⟨by simp [r.len], List.nodup_append.mpr ⟨r.nd, by simp, fun a ha c hc z => ?_⟩, fun a z => ⟨(r.far a (.inl z)).1, fun hm => ?_⟩, fun i ob a e1 e2 => ?_⟩
  · have : c = Da := by simpa using hc
    subst this; subst z; exact na ha
  · rcases List.mem_append.mp hm with hm | hm
    · exact (r.far a (.inl z)).2 hm
    · have : a = Da := by simpa using hm
      subst this; exact zn z
  · by_cases hi : i < h.length
    · rw [List.getElem?_append_left hi] at e1
      rw [List.getElem?_append_left (by rw [r.len]; exact hi)] at e2
      obtain ⟨u, h1, h2⟩ := r.obj i ob a e1 e2
      exact ⟨u, h1, h2.keep k ⟨[Da], rfl⟩⟩
    · rw [List.getElem?_append_right (by omega)] at e1
      rw [List.getElem?_append_right (by rw [r.len]; omega), r.len] at e2
      have hi2 : i - h.length = 0 := by
        have := (List.getElem?_eq_some_iff.mp e1).1
        simp at this; omega
      rw [hi2] at e1 e2
      cases e1
      cases e2
      exact ⟨ho, e, q.keep k ⟨[Da], rfl⟩⟩
/-- the new list as the comprehension's value -/
theorem lc_end {H1 H : Hp} {ρ1 ρ : List Addr} {h1 h : A} {Da : Addr} {m : Bool} {acc : List D} {accV : List V} {Q : VK} {E : XK} (x : Ext Z H1 ρ1 h1 H ρ h) (n : H1 Da = none) (zn : ¬ Z Da) (r : RepA X.K X.w N (fun b => Z b ∨ b = Da) H ρ h) (e : H Da = some (.lst accV)) (q : RepDs X.K X.w N H (MM (fun b => Z b ∨ b = Da) ρ h) acc accV)
    (p : PostG X.K X.w N xf Z (RX X N) Q E H1 ρ1 h1 (born m (.lst acc) h)) : Q (.ref Da) H := by
  have na := (r.far Da (.inr rfl)).2
  cases m with
  | false =>
    have k : Keep H (fun _ => False) (MM (fun b => Z b ∨ b = Da) ρ h) H (fun _ => False) (MM Z ρ h) := ⟨fun _ _ e _ => e, fun _ f => f.elim, fun a m => .inl (MM_or.mpr (.inl m)), fun _ f => f.elim, fun _ o e => ⟨o, e⟩⟩
    have nm : ¬ MM Z ρ h Da := by
      rintro (⟨i, o, e1, _, _⟩ | z)
      · exact na (List.mem_of_getElem? e1)
      · exact zn z
    exact p _ _ _ x r.less (show RepD X.K X.w N H (MM Z ρ h) (.lst acc) (.ref Da) from lstD e nm (q.keep k))
  | true => exact p _ _ _ (x.adopt n r.len) (r.adopt zn e ⟨accV, rfl, q⟩) ⟨Da, by rw [← r.len]; simp, rfl⟩
/-- one turn of the evaluator's comprehension -/
def lcF (G : Gx) (own : List Nat) (e : E) (t : Tg) (c : Option E) (σ : Env) (d : D) (h2 : A) : Res (Option D) := ofOpt (bindTg t (.c d) (wipeE σ own)) fun σ2 => (evc G c σ2 h2).bind fun b h3 => match b with
  | true => (ev G e σ2 h3).bind fun w h4 => (freeze h4 w).bind fun r h5 => .ok (some r) h5
  | false => .ok none h3
end
end B

set_option Elab.async false
set_option linter.all false
set_option maxRecDepth 100000
set_option maxHeartbeats 2000000
/-! List comprehensions: the rule. Own work. -/
namespace B
open PySem PySem.Spec PyProof.Rows L2
section
variable {X : Cx} {N : Nm} {xf : Nat → Str} {G : Gx} {Wx : WX} {Z : Addr → Prop}
def tEvC (X : Cx) (N : Nm) (xf : Nat → Str) (G : Gx) (Wx : WX) (c : Option E) : TT := tR X N xf RB Wx (evc G c)
theorem tc_none : PTs X [] (tEvC X N xf G Wx none) := ⟨fun pins s σ H Q I h => pts_nil.run pins s σ H Q I (by
  obtain ⟨Z, σ', ρ, h, r, re, p⟩ := h
  exact p true H ρ (Ext.refl _ _ _ _) r rfl)⟩
theorem tc_some {c0 : Expr} {c : E} (h : PT X c0 (tEvT X N xf G Wx c)) : PTs X [c0] (tEvC X N xf G Wx (some c)) := ⟨fun pins s σ H Q I q => (pts_one h).run pins s σ H Q I q⟩
theorem lcGo_cons {f : D → A → Res (Option D)} {d : D} {r : List D} {acc : List D} {h : A} : lcGo f (d :: r) acc h = (f d h).bind fun o h1 => match o with
    | some y => must (decide (acc.length < sizeMax)) (lcGo f r (acc ++ [y]) h1)
    | none => lcGo f r acc h1 := rfl
/-- one turn -/
theorem lc_turn {Da : Addr} {own : List Nat} {e : E} {t : Tg} {c : Option E} {σ : Env} {d : D} {σV : L2.St} {H : Hp} {ρ : List Addr} {h : A} {x : V} {NN : Hp → Prop} {o : Option D} {h5 : A} {acc : List D} {accV : List V} (hin : tgIn own t = true) (r : RepA X.K X.w N (fun b => Z b ∨ b = Da) H ρ h) (re : RepE X.K X.w N ρ H (MM (fun b => Z b ∨ b = Da) ρ h) σ σV)
    (q : RepD X.K X.w N H (MM (fun b => Z b ∨ b = Da) ρ h) d x) (eD : H Da = some (.lst accV)) (qa : RepDs X.K X.w N H (MM (fun b => Z b ∨ b = Da) ρ h) acc accV) (hl : acc.length < sizeLine ∨ o = none) (ef : lcF G own e t c σ d h = .ok o h5)
    (k : ∀ H' ρ' h', h' = h5 → Ext (fun b => Z b ∨ b = Da) H ρ h H' ρ' h' → RepA X.K X.w N (fun b => Z b ∨ b = Da) H' ρ' h' → H' Da = some (.lst accV) → match o with
      | some y => ∀ v, RepD X.K X.w N H' (MM (fun b => Z b ∨ b = Da) ρ' h') y v → NN (upd H' Da (.lst (accV ++ [v])))
      | none => NN H') :
    gT X t x (L2.wipe σV own) H fun σ2 H2 => L2.wipe σ2 own = L2.wipe σV own ∧ tEvC X N xf G WF c σ2 H2 fun b H3 => if b = true then tEv X N xf G WF e σ2 H3 fun y H4 => ∃ acc, H4 Da = some (.lst acc) ∧ acc.length < sizeLine ∧ NN (upd H4 Da (.lst (acc ++ [y]))) else NN H3 := by
  have stay : ∀ {H' : Hp} {ρ' : List Addr} {h' : A}, Ext (fun b => Z b ∨ b = Da) H ρ h H' ρ' h' → H' Da = some (.lst accV) := fun {H' ρ' h'} x1 => x1.keep.keep Da _ eD fun ⟨i, ob, e1, _, _⟩ => (r.far Da (.inr rfl)).2 (List.mem_of_getElem? e1)
  have e0 : (ofOpt (bindTg t (.c d) (wipeE σ own)) fun σ2 => (evc G c σ2 h).bind fun b h3 => match b with
    | true => (ev G e σ2 h3).bind fun w h4 => (freeze h4 w).bind fun r h5 => .ok (some r) h5
    | false => .ok none h3) = .ok o h5 := ef
  cases e1 : bindTg t (.c d) (wipeE σ own) with
  | none => rw [e1] at e0; cases e0
  | some σ2 =>
    rw [e1] at e0
    have e2 : ((evc G c σ2 h).bind fun b h3 => match b with
      | true => (ev G e σ2 h3).bind fun w h4 => (freeze h4 w).bind fun r h5 => .ok (some r) h5
      | false => .ok none h3) = .ok o h5 := e0
    refine gT_in hin e1 q (re.wipe own) fun σV1 hw re1 => ⟨by rw [hw, wipe_wipe], ⟨_, σ2, ρ, h, r, re1, ?_⟩⟩
    cases e3 : evc G c σ2 h with
    | err _ _ _ => rw [e3] at e2; cases e2
    | stuck => rw [e3] at e2; cases e2
    | ok b h3 =>
      rw [e3] at e2
      intro b' H3 ρ3 x3 r3 eb
      obtain rfl : b = b' := eb
      cases b with
      | false =>
        have e4 : (Res.ok none h3 : Res (Option D)) = .ok o h5 := e2
        cases e4
        exact iteF (k H3 ρ3 h5 rfl x3 r3 (stay x3))
      | true =>
        have e4 : ((ev G e σ2 h3).bind fun w h4 => (freeze h4 w).bind fun r h5 => .ok (some r) h5) = .ok o h5 := e2
        refine iteT ⟨_, σ2, ρ3, h3, r3, re1.keep x3.keep x3.pre, ?_⟩
        cases e5 : ev G e σ2 h3 with
        | err _ _ _ => rw [e5] at e4; cases e4
        | stuck => rw [e5] at e4; cases e4
        | ok w h4 =>
          rw [e5] at e4
          have e6 : ((freeze h4 w).bind fun r h5 => (.ok (some r) h5 : Res (Option D))) = .ok o h5 := e4
          intro v H4 ρ4 x4 r4 qv
          cases e7 : freeze h4 w with
          | err _ _ _ => rw [e7] at e6; cases e6
          | stuck => rw [e7] at e6; cases e6
          | ok y h6 =>
            rw [e7] at e6
            cases e6
            obtain ⟨x6, r6, d6⟩ := freeze_run r4 qv e7
            have xx := (x3.trans x4).trans x6
            have hk := k H4 ρ4 h5 rfl xx r6 (stay xx)
            exact ⟨accV, stay xx, by rw [← qa.length]; exact hl.resolve_right (by simp), hk v d6⟩
end
end B

set_option Elab.async false
set_option linter.all false
set_option maxRecDepth 100000
set_option maxHeartbeats 2000000
/-! List comprehensions: the rule. Own work. -/
namespace B
open PySem PySem.Spec PyProof.Rows L2
section
variable {X : Cx} {N : Nm} {xf : Nat → Str} {G : Gx} {Wx : WX} {Z : Addr → Prop}
theorem noErr_ok {α β : Type} {r : Res α} {f : α → A → Res β} {E : XK} {Q : V → Hp → Prop} {H : Hp} {ρ : List Addr} {h : A} {R : RR β V} (p : PostG X.K X.w N xf Z R Q E H ρ h ((noErr r).bind f)) : ∃ a h1, r = .ok a h1 ∧ PostG X.K X.w N xf Z R Q E H ρ h (f a h1) := by
  cases r with
  | ok a h1 => exact ⟨a, h1, rfl, p⟩
  | err _ _ _ => exact p.elim
  | stuck => exact p.elim
theorem enter {H1 : Hp} {ρ1 : List Addr} {h1 : A} {Da : Addr} {o : HO} (nD : H1 Da = none) : Keep H1 (PP ρ1 h1) (MM Z ρ1 h1) (upd H1 Da o) (PP ρ1 h1) (MM (fun b => Z b ∨ b = Da) ρ1 h1) :=
  ⟨fun a u e _ => by rw [upd_ne (ne_of_none e nD)]; exact e, fun a m => .inl m, fun a m => by
    rcases MM_or.mp m with m | e
    · exact .inl m
    · exact .inr (e ▸ nD), fun a m => .inl m, fun a u e => ⟨u, by rw [upd_ne (ne_of_none e nD)]; exact e⟩⟩
theorem RepA.enter {H1 : Hp} {ρ1 : List Addr} {h1 : A} {Da : Addr} {o : HO} (r : RepA X.K X.w N Z H1 ρ1 h1) (nD : H1 Da = none) : RepA X.K X.w N (fun b => Z b ∨ b = Da) (upd H1 Da o) ρ1 h1 := by
  have k := B.enter (Z := Z) (ρ1 := ρ1) (h1 := h1) (o := o) nD
  have nin : Da ∉ ρ1 := fun hm => by
    obtain ⟨i, hi⟩ := List.mem_iff_getElem?.mp hm
    have hl : i < h1.length := by rw [← r.len]; exact (List.getElem?_eq_some_iff.mp hi).1
    obtain ⟨ho, q, _⟩ := r.obj i h1[i] Da (List.getElem?_eq_some_iff.mpr ⟨hl, rfl⟩) hi
    rw [nD] at q; cases q
  refine ⟨r.len, r.nd, fun a z => ?_, fun i ob a e1 e2 => ?_⟩
  · rcases z with z | e
    · obtain ⟨⟨u, hu⟩, na⟩ := r.far a z
      exact ⟨k.there a u hu, na⟩
    · subst e; exact ⟨⟨_, upd_same⟩, nin⟩
  · obtain ⟨ho, q1, q2⟩ := r.obj i ob a e1 e2
    exact ⟨ho, by rw [upd_ne (ne_of_none q1 nD)]; exact q1, q2.keep k ⟨[], by simp⟩⟩
/-- between two turns: the evaluator goes on from here -/
def LW (X : Cx) (N : Nm) (Z : Addr → Prop) (Da : Addr) (H1 : Hp) (ρ1 : List Addr) (h1 : A) (I : Hp → (Addr → Prop) → Prop) (σ : Env) (σV : L2.St) (f : D → A → Res (Option D)) (xs : List D) (ds : List D) (hF : A) (i mm : Nat) (H : Hp) : Prop :=
  ∃ ρ h acc accV, Ext Z H1 ρ1 h1 H ρ h ∧ RepA X.K X.w N (fun b => Z b ∨ b = Da) H ρ h ∧ I H (MM (fun b => Z b ∨ b = Da) ρ h) ∧ RepE X.K X.w N ρ H (MM (fun b => Z b ∨ b = Da) ρ h) σ σV ∧ H Da = some (.lst accV) ∧ RepDs X.K X.w N H (MM (fun b => Z b ∨ b = Da) ρ h) acc accV ∧
    lcGo f (xs.drop i) acc h = .ok ds hF ∧ i + mm = xs.length
def LWo (X : Cx) (N : Nm) (Z : Addr → Prop) (Da : Addr) (H1 : Hp) (ρ1 : List Addr) (h1 : A) (n : Nat) (a : Addr) (σ : Env) (σV : L2.St) (f : D → A → Res (Option D)) (ds : List D) (hF : A) (i mm : Nat) (H : Hp) : Prop :=
  ∃ ρ h acc accV, Ext Z H1 ρ1 h1 H ρ h ∧ RepA X.K X.w N (fun b => Z b ∨ b = Da) H ρ h ∧ RepE X.K X.w N ρ H (MM (fun b => Z b ∨ b = Da) ρ h) σ σV ∧ ρ[n]? = some a ∧ H Da = some (.lst accV) ∧ RepDs X.K X.w N H (MM (fun b => Z b ∨ b = Da) ρ h) acc accV ∧
    lcLo f n mm i acc h = .ok ds hF
theorem s_lcT {own : List Nat} {m : Bool} {e : E} {t : Tg} {s : Src} {c : Option E} (hin : tgIn own t = true) {σV : L2.St} {H : Hp} {Q : V → Hp → Prop} (p0 : tEv X N xf G Wx (.lc m own e t s c) σV H Q) :
    tLc (tIt X N xf G Wx s) (gT X t) (tEvC X N xf G WF c) (tEv X N xf G WF e) own σV H Q := by
  obtain ⟨Z, σ, ρ, h, r, re, p⟩ := p0
  refine tR_at r re (f := evi G s) (g := fun it h1 => (noErr (lcIt (lcF G own e t c σ) it h1)).bind fun ds h6 => born m (.lst ds) h6) p fun it J H1 ρ1 h1 _ x1 r1 re1 rx p1 => ?_
  obtain ⟨dsF, hF, eF, pF⟩ := noErr_ok p1
  intro Da nD
  have zn : ¬ Z Da := fun z => by
    obtain ⟨o, ho⟩ := (r1.far Da z).1
    rw [nD] at ho; cases ho
  cases it with
  | cl xs =>
    obtain ⟨I, i0, ik, ig, is⟩ := rx
    have kE := B.enter (Z := Z) (ρ1 := ρ1) (h1 := h1) (o := .lst []) nD
    have eF0 : lcGo (lcF G own e t c σ) (xs.drop 0) [] h1 = .ok dsF hF := eF
    refine ⟨LW X N Z Da H1 ρ1 h1 I σ σV (lcF G own e t c σ) xs dsF hF,
      ⟨xs.length, ρ1, h1, [], [], Ext.alloc nD, r1.enter nD, ik kE i0, re1.keep kE ⟨[], by simp⟩, upd_same, by unfold RepDs; rfl, eF0, by omega⟩, ?_⟩
    rintro i mm H2 ⟨ρ2, h2, acc, accV, x2, r2, i2, re2, eD, qa, eg, hm⟩
    cases mm with
    | zero =>
      have hd : xs.drop i = [] := List.drop_eq_nil_of_le (by omega)
      rw [hd] at eg
      cases eg
      exact .inl ⟨by rw [show i = xs.length by omega]; exact is _ _ i2, lc_end x2 nD zn r2 eD qa pF⟩
    | succ mm =>
      have hi' : i < xs.length := by omega
      have hd : xs[i]? = some xs[i] := List.getElem?_eq_getElem hi'
      rw [List.drop_eq_getElem_cons hi', lcGo_cons] at eg
      obtain ⟨g1, g2⟩ := ig _ _ i xs[i] i2 hd
      cases ef : lcF G own e t c σ xs[i] h2 with
      | err _ _ _ => rw [ef] at eg; cases eg
      | stuck => rw [ef] at eg; cases eg
      | ok o h5 =>
        rw [ef] at eg
        refine .inr ⟨g1, LW X N Z Da H1 ρ1 h1 I σ σV (lcF G own e t c σ) xs dsF hF (i + 1) mm, fun H' hh => ⟨mm, by omega, hh⟩, fun x H' y => ?_⟩
        have step : ∀ (H3 : Hp), Ext (fun b => Z b ∨ b = Da) H2 ρ2 h2 H3 ρ2 h2 → RepA X.K X.w N (fun b => Z b ∨ b = Da) H3 ρ2 h2 → RepD X.K X.w N H3 (MM (fun b => Z b ∨ b = Da) ρ2 h2) xs[i] x → gT X t x (L2.wipe σV own) H3 fun σ2 H4 => L2.wipe σ2 own = L2.wipe σV own ∧ tEvC X N xf G WF c σ2 H4 fun b H5 =>
            if b = true then tEv X N xf G WF e σ2 H5 fun y H6 => ∃ acc, H6 Da = some (.lst acc) ∧ acc.length < sizeLine ∧ LW X N Z Da H1 ρ1 h1 I σ σV (lcF G own e t c σ) xs dsF hF (i + 1) mm (upd H6 Da (.lst (acc ++ [y])))
            else LW X N Z Da H1 ρ1 h1 I σ σV (lcF G own e t c σ) xs dsF hF (i + 1) mm H5 := by
          intro H3 x3 r3 dx
          have eD3 : H3 Da = some (.lst accV) := x3.keep.keep Da _ eD fun ⟨j, ob, e1, _, _⟩ => (r2.far Da (.inr rfl)).2 (List.mem_of_getElem? e1)
          cases o with
          | none =>
            have eg2 : lcGo (lcF G own e t c σ) (xs.drop (i + 1)) acc h5 = .ok dsF hF := eg
            refine lc_turn hin r3 (re2.keep x3.keep x3.pre) dx eD3 (qa.keep x3.keep) (.inr rfl) ef fun H' ρ' h' eh x5 r5 eD5 => ?_
            subst eh
            have xx := x3.trans x5
            exact ⟨ρ', h', acc, accV, x2.trans (xx.less r5 zn), r5, ik xx.keep i2, re2.keep xx.keep xx.pre, eD5, qa.keep xx.keep, eg2, by omega⟩
          | some y =>
            have eg2 : must (decide (acc.length < sizeMax)) (lcGo (lcF G own e t c σ) (xs.drop (i + 1)) (acc ++ [y]) h5) = .ok dsF hF := eg
            cases hl : decide (acc.length < sizeMax) with
            | false => rw [hl] at eg2; cases eg2
            | true =>
              rw [hl] at eg2
              refine lc_turn hin r3 (re2.keep x3.keep x3.pre) dx eD3 (qa.keep x3.keep) (.inl (by rw [← sizeMax_eq]; exact of_decide_eq_true hl)) ef fun H' ρ' h' eh x5 r5 eD5 v dv => ?_
              subst eh
              have xx := x3.trans x5
              have ku := upd_keep (o' := .lst (accV ++ [v])) r5 eD5
              exact ⟨ρ', h', acc ++ [y], accV ++ [v], (x2.trans (xx.less r5 zn)).out nD, r5.out eD5, ik ku (ik xx.keep i2), (re2.keep xx.keep xx.pre).keep ku ⟨[], by simp⟩, upd_same, RepDs.app ((qa.keep xx.keep).keep ku) (by unfold RepDs; exact ⟨v, [], rfl, dv.keep ku, by unfold RepDs; rfl⟩), eg2, by omega⟩
        rcases g2 x H' y with ⟨rfl, dx⟩ | ⟨pp, o', np, rfl, dx⟩
        · exact step _ (Ext.refl _ _ _ _) r2 dx
        · exact step _ (Ext.alloc np) (r2.alloc np) (dx (r2.notM np))
  | lo n =>
    obtain ⟨a, ea, rfl⟩ := rx
    have kE := B.enter (Z := Z) (ρ1 := ρ1) (h1 := h1) (o := .lst []) nD
    have eF0 : (match h1[n]? with
      | some (.lst xs) => lcLo (lcF G own e t c σ) n xs.length 0 [] h1
      | _ => .stuck) = .ok dsF hF := eF
    cases e3 : h1[n]? with
    | none => rw [e3] at eF0; cases eF0
    | some ob =>
      rw [e3] at eF0
      cases ob <;> first | (cases eF0; done) | skip
      rename_i xs
      refine ⟨LWo X N Z Da H1 ρ1 h1 n a σ σV (lcF G own e t c σ) dsF hF, ⟨xs.length, ρ1, h1, [], [], Ext.alloc nD, r1.enter nD, re1.keep kE ⟨[], by simp⟩, ea, upd_same, by unfold RepDs; rfl, eF0⟩, ?_⟩
      rintro i mm H2 ⟨ρ2, h2, acc, accV, x2, r2, re2, ea2, eD, qa, eg⟩
      cases mm with
      | zero =>
        have eg2 : (match h2[n]? with
          | some (.lst xs) => must (decide (xs.length = i)) (.ok acc h2)
          | _ => .stuck) = .ok dsF hF := eg
        cases e4 : h2[n]? with
        | none => rw [e4] at eg2; cases eg2
        | some ob =>
          rw [e4] at eg2
          cases ob <;> first | (cases eg2; done) | skip
          rename_i ys
          have eg3 : must (decide (ys.length = i)) (.ok acc h2) = .ok dsF hF := eg2
          cases hl : decide (ys.length = i) with
          | false => rw [hl] at eg3; cases eg3
          | true =>
            rw [hl] at eg3
            cases eg3
            obtain ⟨ho, o1, vs, rfl, o2⟩ := r2.obj n _ a e4 ea2
            exact .inl ⟨⟨vs, .of o1, by rw [← o2.length]; exact Nat.le_of_eq (of_decide_eq_true hl)⟩, lc_end x2 nD zn r2 eD qa pF⟩
      | succ mm =>
        have eg2 : (match h2[n]? with
          | some (.lst xs) => ofOpt xs[i]? fun d => (lcF G own e t c σ d h2).bind fun o h1 => match o with
            | some y => must (decide (acc.length < sizeMax)) (lcLo (lcF G own e t c σ) n mm (i + 1) (acc ++ [y]) h1)
            | none => lcLo (lcF G own e t c σ) n mm (i + 1) acc h1
          | _ => .stuck) = .ok dsF hF := eg
        cases e4 : h2[n]? with
        | none => rw [e4] at eg2; cases eg2
        | some ob =>
          rw [e4] at eg2
          cases ob <;> first | (cases eg2; done) | skip
          rename_i ys
          have eg3 : (ofOpt ys[i]? fun d => (lcF G own e t c σ d h2).bind fun o h1 => match o with
            | some y => must (decide (acc.length < sizeMax)) (lcLo (lcF G own e t c σ) n mm (i + 1) (acc ++ [y]) h1)
            | none => lcLo (lcF G own e t c σ) n mm (i + 1) acc h1) = .ok dsF hF := eg2
          cases hd : ys[i]? with
          | none => rw [hd] at eg3; cases eg3
          | some d =>
            rw [hd] at eg3
            have eg4 : ((lcF G own e t c σ d h2).bind fun o h1 => match o with
              | some y => must (decide (acc.length < sizeMax)) (lcLo (lcF G own e t c σ) n mm (i + 1) (acc ++ [y]) h1)
              | none => lcLo (lcF G own e t c σ) n mm (i + 1) acc h1) = .ok dsF hF := eg3
            obtain ⟨ho, o1, vs, rfl, o2⟩ := r2.obj n _ a e4 ea2
            obtain ⟨v, hv, dv⟩ := o2.get hd
            cases ef : lcF G own e t c σ d h2 with
            | err _ _ _ => rw [ef] at eg4; cases eg4
            | stuck => rw [ef] at eg4; cases eg4
            | ok o h5 =>
              rw [ef] at eg4
              refine .inr ⟨⟨vs, v, .of o1, hv⟩, LWo X N Z Da H1 ρ1 h1 n a σ σV (lcF G own e t c σ) dsF hF (i + 1) mm, fun H' hh => ⟨mm, by omega, hh⟩, fun x H' y => ?_⟩
              obtain ⟨rfl, hy⟩ := y
              have hx := hy vs (.of o1)
              rw [hv] at hx
              cases hx
              cases o with
              | none =>
                have eg5 : lcLo (lcF G own e t c σ) n mm (i + 1) acc h5 = .ok dsF hF := eg4
                refine lc_turn hin r2 re2 dv eD qa (.inr rfl) ef fun H' ρ' h' eh x5 r5 eD5 => ?_
                subst eh
                exact ⟨ρ', h', acc, accV, x2.trans (x5.less r5 zn), r5, re2.keep x5.keep x5.pre, pre_get x5.pre ea2, eD5, qa.keep x5.keep, eg5⟩
              | some y =>
                have eg5 : must (decide (acc.length < sizeMax)) (lcLo (lcF G own e t c σ) n mm (i + 1) (acc ++ [y]) h5) = .ok dsF hF := eg4
                cases hl : decide (acc.length < sizeMax) with
                | false => rw [hl] at eg5; cases eg5
                | true =>
                  rw [hl] at eg5
                  refine lc_turn hin r2 re2 dv eD qa (.inl (by rw [← sizeMax_eq]; exact of_decide_eq_true hl)) ef fun H' ρ' h' eh x5 r5 eD5 v dv => ?_
                  subst eh
                  have ku := upd_keep (o' := .lst (accV ++ [v])) r5 eD5
                  exact ⟨ρ', h', acc ++ [y], accV ++ [v], (x2.trans (x5.less r5 zn)).out nD, r5.out eD5, (re2.keep x5.keep x5.pre).keep ku ⟨[], by simp⟩, pre_get x5.pre ea2, upd_same, RepDs.app ((qa.keep x5.keep).keep ku) (by unfold RepDs; exact ⟨v, [], rfl, dv.keep ku, by unfold RepDs; rfl⟩), eg5⟩
  | kd n => exact rx.elim
theorem s_lc {elt tg iter : Expr} {ifs : List Expr} {scope : Scope} {own : List (Str × Nat)} {pos : Pos} {m : Bool} {e : E} {t : Tg} {s : Src} {c : Option E} (hc : X.calm = true) (hN : X.N.Nodup) (hin : tgIn (own.map (·.2)) t = true) (hi : PI X tg iter (tIt X N xf G Wx s)) (ok : BlkOk X.N X.env.scope scope own)
    (hg : ∀ (s : Shared) (H : Hp) (C : Addr) (cl : List (Str × Addr)) (fp : List Addr), PG (X.blk s H scope (compEnvC scope cl C X.env) fp) tg (gT X t)) (ht : ∀ (s : Shared) (H : Hp) (C : Addr) (cl : List (Str × Addr)) (fp : List Addr), PTs (X.blk s H scope (compEnvC scope cl C X.env) fp) ifs (tEvC X N xf G WF c))
    (he : ∀ (s : Shared) (H : Hp) (C : Addr) (cl : List (Str × Addr)) (fp : List Addr), PE (X.blk s H scope (compEnvC scope cl C X.env) fp) elt (tEv X N xf G WF e)) (hs : ∀ x, foldedSetIterable iter X.env x = pure x) :
    PE X (.ListComp elt [⟨tg, iter, ifs, 0⟩] scope pos) (tEv X N xf G Wx (.lc m (own.map (·.2)) e t s c)) :=
  PE.imp (pe_lc hc hN hi ok hg ht he hs) fun σV H Q p => s_lcT hin p
/-- name = [..] on one line, the name a local -/
theorem st_setLc {i : Nat} {y : Str} {py : Pos} {elt tg iter : Expr} {ifs : List Expr} {scope : Scope} {own : List (Str × Nat)} {pos spos : Pos} {m : Bool} {e : E} {t : Tg} {s : Src} {c : Option E} (hc : X.calm = true) (hN : X.N.Nodup) (hy : X.N[i]? = some y) (hyl : X.env.scope.names.lookup y = some .local)
    (hsw : swapsWith (.ListComp elt [⟨tg, iter, ifs, 0⟩] scope pos) (some (.Name y py)) spos.line X.env = pure true) (hin : tgIn (own.map (·.2)) t = true) (hi : PI X tg iter (tIt X N xf G Wx s)) (ok : BlkOk X.N X.env.scope scope own)
    (hg : ∀ (s : Shared) (H : Hp) (C : Addr) (cl : List (Str × Addr)) (fp : List Addr), PG (X.blk s H scope (compEnvC scope cl C X.env) fp) tg (gT X t)) (ht : ∀ (s : Shared) (H : Hp) (C : Addr) (cl : List (Str × Addr)) (fp : List Addr), PTs (X.blk s H scope (compEnvC scope cl C X.env) fp) ifs (tEvC X N xf G WF c))
    (he : ∀ (s : Shared) (H : Hp) (C : Addr) (cl : List (Str × Addr)) (fp : List Addr), PE (X.blk s H scope (compEnvC scope cl C X.env) fp) elt (tEv X N xf G WF e)) (hs : ∀ x, foldedSetIterable iter X.env x = pure x) :
    PS X (.Assign [.Name y py] (.ListComp elt [⟨tg, iter, ifs, 0⟩] scope pos) spos) (tSt X N xf Wx (ex G (.set (.nm i) (.lc m (own.map (·.2)) e t s c)))) := by
  refine PS.imp (ps_setLc hc hN hy hyl hsw hi ok hg ht he hs) fun De σV H ⟨Z, σ, ρ, h, r, re, p⟩ => s_lcT (m := m) hin ?_
  exact tS_at r re (f := ev G (.lc m (own.map (·.2)) e t s c)) (g := fun w h1 => .nx (σ.set i (some w)) h1) p fun w v H1 ρ1 h1 _ x1 r1 re1 rx p1 => tS_nx r1 (re1.set rx i) p1
end
end B

set_option Elab.async false
set_option linter.all false
set_option maxRecDepth 100000
set_option maxHeartbeats 2000000
/-! enumerate over a tuple: turned from the library's text for lists. Own work. -/
namespace B
open PySem PySem.Spec PyProof.Rows L2
open AutoSeq1 (wpAny_loadPart')
theorem meets_enumerate_newT (l : Addr) (items : Array Value) (n : Nat) (dct : Option Addr) (sl : Array (Option Value)) :
    Meets (Builtin.«enumerate.__new__» ⟨[.type "enumerate", .ref l], []⟩) (fun _ R s => s.heap.get? l = some { cls := .type "tuple", dict := dct, data := .seq items n, slots := sl } ∧
      R (.ok (.ret (.ref (s.heap.push { cls := .type "tuple_iterator", data := .fields #[.ref l, .int 0 0] }).objs.size)))
        { s with heap := (s.heap.push { cls := .type "tuple_iterator", data := .fields #[.ref l, .int 0 0] }).push { cls := .type "enumerate", data := .fields #[.none, .bool false, .ref s.heap.objs.size, rawInt 0, .none, .none] } }) :=
  .of_wp fun prog w A R s h => by
    obtain ⟨hp, g, d, tk, os⟩ := s; obtain ⟨hl, h⟩ := h
    have hsub := sub_enumerate
    have hL : Heap.IsTuple (Shared.heap ⟨hp, g, d, tk, os⟩) l items := ⟨_, hl, rfl, n, rfl⟩
    wp_walk using wpAny_loadPart' hl
    refine wpAny_stack_any fun st => wpAny_pure ?_
    split
    · rename_i c _ _ _ _ _
      cases (c == Value.type "enumerate")
      · wp_walk using wpAny_loadPart' hl, wpAny_pyIter_tuple hL
        exact ⟨_, rfl, h⟩
      · wp_walk using wpAny_loadPart' hl, wpAny_pyIter_tuple hL
        exact ⟨_, rfl, h⟩
    · wp_walk using wpAny_loadPart' hl, wpAny_pyIter_tuple hL
      exact ⟨_, rfl, h⟩
section
variable {prog : Program} {w : World} {A : Around} {E : Value → Shared → Prop} {s : Shared}
theorem call_enumerate_tuple {l : Addr} {items : Array Value} {Q : Value → Shared → Prop} (hL : s.heap.IsTuple l items)
    (h : ∀ h', IsEnum h' (s.heap.objs.size + 1) s.heap.objs.size 0 .none → h'.IsTupleIter s.heap.objs.size l 0 → h'.objs.size = s.heap.objs.size + 2 →
      (∀ b o, s.heap.get? b = some o → h'.get? b = some o) → Q (.ref (s.heap.objs.size + 1)) { s with heap := h' }) :
    wpAny (model prog w) A (call (.type "enumerate") [.ref l]) Q E s := by
  obtain ⟨⟨c, dct, dt, sl⟩, hl, hc, n, hd⟩ := hL
  replace hc : c = .type "tuple" := hc
  replace hd : dt = .seq items n := hd
  subst hc hd
  refine callType_new F.called_enumerate (by decide) (F.typeCall_enumerate_1 _) (F.newCall_enumerate_1 _) (fun obj => F.args_object_init_2 obj _) F.entry_enumerate_new
    (meets_enumerate_newT l items n dct sl) ⟨hl, ?_⟩
  have hz : (s.heap.push { cls := .type "tuple_iterator", data := .fields #[.ref l, .int 0 0] }).objs.size = s.heap.objs.size + 1 := Heap.size_push ..
  show _ ∧ _
  rw [hz]
  have he : IsEnum ((s.heap.push { cls := .type "tuple_iterator", data := .fields #[.ref l, .int 0 0] }).push
      { cls := .type "enumerate", data := .fields #[.none, .bool false, .ref s.heap.objs.size, rawInt 0, .none, .none] }) (s.heap.objs.size + 1) s.heap.objs.size 0 .none := by
    have := Heap.get?_push_size (s.heap.push { cls := .type "tuple_iterator", data := .fields #[.ref l, .int 0 0] })
      (o := { cls := .type "enumerate", data := .fields #[.none, .bool false, .ref s.heap.objs.size, rawInt 0, .none, .none] }) rfl
    rw [hz] at this; exact this
  refine ⟨⟨_, he, rfl⟩, h _ he ⟨_, Heap.get?_push_of_some _ (Heap.get?_push_size _ rfl), rfl, rfl⟩ (by rw [Heap.size_push, hz]) fun b o x => Heap.get?_push_of_some _ (Heap.get?_push_of_some _ x)⟩
end
/-- the tuple at a, each item in a new pair -/
def Ited (K : PySem.W.Frag) (a : Addr) : L2.It :=
  ⟨fun i H => ∃ (xs : List V) (x : V), SqT K H a xs ∧ xs[i]? = some x, fun i H v H' => ∃ T x, v = .ref T ∧ H T = none ∧ H' = upd H T (.tup [.int (i : Nat), x]) ∧ ∀ xs, SqT K H a xs → xs[i]? = some x, fun i H => ∃ xs : List V, SqT K H a xs ∧ xs.length = i⟩
theorem turn_enumT {P : Program} {w : World} {K : PySem.W.Frag} {elts : List Expr} {kk : Nat} {tpos : Pos} (a e it : Addr) :
    Turn P w K (.Tuple elts kk tpos) (Ited K a) [e, it] e (fun i h => (∃ old, IsEnum h e it ((i : Nat) : Int) old) ∧ h.IsTupleIter it a i ∧ e ≠ it ∧ a ≠ e ∧ a ≠ it) where
  mem := by simp
  obj := fun i h st b hb => by
    obtain ⟨⟨old, he⟩, ⟨o, ho, hc, hd⟩, _⟩ := st
    have e' : b = e ∨ b = it := by simpa using hb
    rcases e' with z | z
    · rw [z]; exact ⟨_, he, fun v q => nomatch q⟩
    · rw [z]; exact ⟨o, ho, fun v q => by rw [hd] at q; cases q⟩
  keep := fun i h h' st k => let ⟨⟨old, he⟩, hi, hne⟩ := st; ⟨⟨old, k e (by simp) _ he⟩, hi.at fun o q => k it (by simp) o q, hne⟩
  item := by
    intro X hP hw hK hc i pins s σ H E I hf st hg
    subst hP hw hK
    obtain ⟨⟨old, he⟩, hit, hne, hae, hai⟩ := st
    obtain ⟨xs, x, hq, hx⟩ := hg
    obtain ⟨its, rv, p, hz⟩ := I.tuple hq
    obtain ⟨u, hu, ru⟩ := rv.get hx
    have hel : e < s.heap.objs.size := Heap.lt_size he
    have hil : it < s.heap.objs.size := by obtain ⟨_, q, _⟩ := hit; exact Heap.lt_size q
    have hi : i < its.toArray.size := by simpa using (List.getElem?_eq_some_iff.mp hu).1
    have Dr := Draws.tuple (prog := X.prog) (w := X.w) (A := X.A.in1) (I.ok.hd hc) it a hai its.toArray
    refine wpAny_pyNext_enum_itemD Dr he (St := fun i h => h.IsTupleIter it a i ∧ h.IsTuple a its.toArray) ⟨hit, p⟩ hi hne (by simp [hne, Ne.symm hae]) fun y h' tk hy ho st' hT hsz hk => ?_
    obtain ⟨hit', p'⟩ := st'
    have ey : y = u := by
      have : its.toArray[i]? = some u := by simpa using hu
      rw [this] at hy; exact (Option.some.inj hy).symm
    subst ey
    refine ⟨_, rfl, wpAny_letOwnedTupleGo_enum (s := { s with heap := h', toks := tk + 1 }) ho fun h'' he' sb => ?_⟩
    have hT2 : h''.get? s.heap.objs.size = some { cls := .type "tuple", data := .seq #[.int i tk, y] } := (sb.2 _ (Nat.ne_of_gt hel)).trans hT
    have new : ObjOk X.prog X.w (upd H s.heap.objs.size (.tup [.int (i : Nat), x])) h'' s.heap.objs.size (.tup [.int (i : Nat), x]) :=
      ⟨by show 2 ≤ sizeLine; decide, [.int i tk, y], .cons ⟨_, rfl⟩ (.cons ru .nil), ⟨_, hT2, rfl, _, rfl⟩⟩
    have I1 : Inv X pins σ (upd H s.heap.objs.size (.tup [.int (i : Nat), x])) { s with heap := h'', toks := tk + 1 } :=
      I.turnedNew (ch := [e, it]) (fun b ob hb q => (sb.2 b (fun z => hb (by simp [z]))).trans (hk b ob (fun z => hb (by simp [z])) (fun z => hb (by simp [z])) q)) hf (Nat.le_refl _) new
    refine ⟨.ref s.heap.objs.size, _, I1, rfl, ⟨_, x, rfl, I.hok.fresh (Nat.le_refl _), rfl, fun ys hy => by rw [I.tuple_inj hy hq]; exact hx⟩, ⟨⟨y, ?_⟩, hit'.at fun o q => (sb.2 it (Ne.symm hne)).trans q, hne, hae, hai⟩, fun b hb => ?_⟩
    · have e1 : ((i + 1 : Nat) : Int) = (i : Int) + 1 := by omega
      rw [e1]; exact he'
    · have hb' : b < s.heap.objs.size := by
        have e' : b = e ∨ b = it := by simpa using hb
        rcases e' with z | z
        · rw [z]; exact hel
        · rw [z]; exact hil
      rw [upd_ne (Nat.ne_of_lt hb')]
      exact (hf b hb).1
  done := by
    intro X hP hw hK hc i pins s σ H E I hf st hg
    subst hP hw hK
    obtain ⟨⟨old, he⟩, hit, hne, hae, hai⟩ := st
    obtain ⟨xs, hq, hx⟩ := hg
    obtain ⟨its, rv, p, hz⟩ := I.tuple hq
    obtain ⟨f0, f1, f2, f3, f4, f5⟩ := hf it (by simp)
    have hl : i = its.toArray.size := by rw [List.size_toArray, ← rv.length, hx]
    have Dr := Draws.tuple (prog := X.prog) (w := X.w) (A := X.A.in1) (I.ok.hd hc) it a hai its.toArray
    exact wpAny_pyNext_enum_endD Dr he (St := fun i h => h.IsTupleIter it a i ∧ h.IsTuple a its.toArray) ⟨hl ▸ hit, p⟩ fun h' eb => ⟨rfl, I.turned (t' := s.toks) (fun b o hb q => eb b o hb q) f0 f1 f3 f4 f5⟩
  self := fun A i s Q E st h => let ⟨⟨_, he⟩, _⟩ := st; wpAny_pyIter_enum he h
section
variable {X : Cx} {N : Nm} {xf : Nat → Str} {G : Gx} {Wx : WX} {Z : Addr → Prop}
def iEnumA (K : PySem.W.Frag) (ta : TA) : TI := fun σ H R => ta σ H fun vs H1 => ∃ a, vs = [.ref a] ∧ ((∃ xs, SqL K H1 a xs ∧ R (Ite K a) H1) ∨ ∃ xs, SqT K H1 a xs ∧ R (Ited K a) H1)
theorem pi_enumA {e : Expr} {ta : TA} {p pos tpos : Pos} {elts : List Expr} {kk : Nat} (hg : Gl X "enumerate") (hm : X.mg "enumerate" = none) (ha : PA X [e] ta) (hs : starEach [e] X.env = [(false, eval e X.env)]) :
    PI X (.Tuple elts kk tpos) (.Call (.Name "enumerate" p) [e] [] pos) (iEnumA X.K ta) := by
  refine ⟨fun pins s σ H R I h => ?_⟩
  refine Call_ (ld_blt I hg hm boot_enumerate (PyProof.Rows.callWith_type1 (thn (ha.run pos pins s σ H _ I h) fun us s1 ⟨vs, H1, I1, r1, q1⟩ => ?_) hs rfl))
  obtain ⟨a, ex, q⟩ := q1
  subst ex
  obtain rfl := Vals.ref1 r1
  have fp : ∀ b, b ∈ [s1.heap.objs.size + 1, s1.heap.objs.size] → FpOk X pins H1 b := fun b hb => by
    have e' : b = s1.heap.objs.size + 1 ∨ b = s1.heap.objs.size := by simpa using hb
    have hle : s1.heap.objs.size ≤ b := by
      rcases e' with z | z
      · rw [z]; exact Nat.le_add_right _ _
      · rw [z]; exact Nat.le_refl _
    exact I1.fpOk hle (I1.hok.fresh hle)
  rcases q with ⟨xs, hq, q⟩ | ⟨xs, hq, q⟩
  · obtain ⟨its, rv, p', hz⟩ := I1.list hq
    refine call_enumerate_list p'.isList fun h' he hit hsz hk => wpAny_pyIter_enum he ?_
    have I2 : Inv X pins σ H1 { s1 with heap := h' } := I1.kept (t' := s1.toks) hk
    exact ⟨s1.heap.objs.size + 1, [s1.heap.objs.size + 1, s1.heap.objs.size], _, _, H1, rfl, I2, turn_enum a (s1.heap.objs.size + 1) s1.heap.objs.size, ⟨⟨.none, he⟩, hit, Nat.succ_ne_self _⟩, fp, q⟩
  · obtain ⟨its, rv, p', hz⟩ := I1.tuple hq
    have hal : a < s1.heap.objs.size := by obtain ⟨_, q1, _⟩ := (show IsTup s1.heap a its.toArray from p'); exact Heap.lt_size q1
    refine call_enumerate_tuple (show s1.heap.IsTuple a its.toArray from p') fun h' he hit hsz hk => wpAny_pyIter_enum he ?_
    have I2 : Inv X pins σ H1 { s1 with heap := h' } := I1.kept (t' := s1.toks) hk
    exact ⟨s1.heap.objs.size + 1, [s1.heap.objs.size + 1, s1.heap.objs.size], _, _, H1, rfl, I2, turn_enumT a (s1.heap.objs.size + 1) s1.heap.objs.size, ⟨⟨.none, he⟩, hit, Nat.succ_ne_self _, Nat.ne_of_lt (Nat.lt_succ_of_lt hal), Nat.ne_of_lt hal⟩, fp, q⟩
end
end B

set_option Elab.async false
set_option linter.all false
set_option maxRecDepth 100000
set_option maxHeartbeats 2000000
/-! The names of a program; its facts by a look that computes. Own work. -/
namespace B
open PySem PySem.Spec PyProof.Rows L2
/-- the names of a program: where defs stand, classes, exceptions, attributes, methods, the exceptions' fields -/
structure Tb where
  fns : List (Option (Str × Option Str))
  cls : List Str
  exc : List Str
  ats : List Str
  mts : List Str
  fxs : List Str
  rz : List Bool
def Tb.ra (T : Tb) (x : Nat) : Bool := match T.rz[x]? with
  | some b => b
  | none => false
def pad (i : Nat) : Str := ⟨(List.replicate (i + 60) 97).toArray⟩
theorem pad_len (i : Nat) : (pad i).length = i + 60 := by simp [pad, Str.length]
def shortB (l : List Str) : Bool := l.all fun s => decide (0 < s.length ∧ s.length < 60)
def apart (l r : List Str) : Bool := l.all fun s => r.all fun t => !decide (s = t)
def distinct : List Str → Bool
  | [] => true
  | s :: r => r.all (fun t => !decide (s = t)) && distinct r
def Tb.good (T : Tb) : Bool := shortB T.ats && (shortB T.mts && (distinct T.ats && apart T.ats T.mts))
def nth (l : List Str) (p : Nat → Str) (i : Nat) : Str := match l[i]? with
  | some s => s
  | none => p i
theorem ba {a b : Bool} (h : (a && b) = true) : a = true ∧ b = true := Bool.and_eq_true_iff.mp h
theorem shortB_ok {l : List Str} (h : shortB l = true) {s : Str} (hs : s ∈ l) : 0 < s.length ∧ s.length < 60 := of_decide_eq_true (List.all_eq_true.mp h s hs)
theorem distinct_ok : ∀ {l : List Str}, distinct l = true → ∀ (i j : Nat) (s : Str), l[i]? = some s → l[j]? = some s → i = j
  | [], _, i, j, s, e, _ => by simp at e
  | x :: r, h, i, j, s, e1, e2 => by
    obtain ⟨h1, h2⟩ := ba (show (r.all (fun t => !decide (x = t)) && distinct r) = true from h)
    have no : ∀ k, r[k]? = some s → x = s → False := fun k hk e => by
      have := List.all_eq_true.mp h1 s (List.mem_of_getElem? hk)
      simp [e] at this
    cases i with
    | zero =>
      cases j with
      | zero => rfl
      | succ j => exact (no j (by simpa using e2) (by simpa using e1)).elim
    | succ i =>
      cases j with
      | zero => exact (no i (by simpa using e1) (by simpa using e2)).elim
      | succ j => rw [distinct_ok h2 i j s (by simpa using e1) (by simpa using e2)]
theorem nth_len {l : List Str} {p : Nat → Str} {i : Nat} (h : shortB l = true) : (∃ s, l[i]? = some s ∧ nth l p i = s ∧ 0 < s.length ∧ s.length < 60) ∨ (l[i]? = none ∧ nth l p i = p i) := by
  unfold nth
  cases e : l[i]? with
  | none => exact .inr ⟨rfl, rfl⟩
  | some s => exact .inl ⟨s, rfl, rfl, shortB_ok h (List.mem_of_getElem? e)⟩
theorem at_inj {l : List Str} (h1 : shortB l = true) (h2 : distinct l = true) (i j : Nat) (e : nth l pad i = nth l pad j) : i = j := by
  rcases nth_len (p := pad) (i := i) h1 with ⟨s, a1, a2, a3, a4⟩ | ⟨a1, a2⟩ <;> rcases nth_len (p := pad) (i := j) h1 with ⟨t, b1, b2, b3, b4⟩ | ⟨b1, b2⟩
  · rw [a2, b2] at e
    subst e
    exact distinct_ok h2 i j s a1 b1
  · rw [a2, b2] at e
    have := pad_len j
    rw [← e] at this
    omega
  · rw [a2, b2] at e
    have := pad_len i
    rw [e] at this
    omega
  · rw [a2, b2] at e
    have h := pad_len i
    rw [e, pad_len] at h
    omega
theorem at_far {l r : List Str} (h1 : shortB l = true) (h2 : shortB r = true) (h3 : apart l r = true) (i j : Nat) : nth l pad i ≠ nth r (fun _ => Str.empty) j := by
  intro e
  rcases nth_len (p := pad) (i := i) h1 with ⟨s, a1, a2, a3, a4⟩ | ⟨a1, a2⟩ <;> rcases nth_len (p := fun _ => Str.empty) (i := j) h2 with ⟨t, b1, b2, b3, b4⟩ | ⟨b1, b2⟩ <;> rw [a2, b2] at e
  · have := List.all_eq_true.mp (List.all_eq_true.mp h3 s (List.mem_of_getElem? a1)) t (List.mem_of_getElem? b1)
    simp [e] at this
  · rw [e] at a3; exact absurd a3 (by decide)
  · have := pad_len i
    rw [e] at this
    omega
  · have := pad_len i
    rw [e] at this
    have : Str.empty.length = 0 := rfl
    omega
def headOr (l : List Str) : Str := match l with
  | s :: _ => s
  | [] => Str.empty
def firstFn : List (Option (Str × Option Str)) → Str × Option Str
  | some p :: _ => p
  | none :: r => firstFn r
  | [] => (Str.empty, none)
def Tb.nm (T : Tb) (md : Nat → Bool) (g : T.good = true) (K : PySem.W.Frag) : Nm where
  cls := fun c => He.ga K (nth T.cls (fun _ => headOr T.cls) c)
  exc := fun c => He.ga K (nth T.exc (fun _ => headOr T.exc) c)
  fn := fun f => match T.fns[f]? with
    | some (some p) => He.fAd K p
    | _ => He.fAd K (firstFn T.fns)
  at_ := nth T.ats pad
  inj := at_inj (ba g).1 (ba (ba (ba g).2).2).1
  mtn := nth T.mts fun _ => Str.empty
  far := at_far (ba g).1 (ba (ba g).2).1 (ba (ba (ba g).2).2).2
  md := md
/-! ### the looks -/
def clsNames (T : Tb) : List Str := headOr T.cls :: T.cls
theorem nth_mem {l : List Str} (i : Nat) : nth l (fun _ => headOr l) i ∈ headOr l :: l := by
  unfold nth
  cases e : l[i]? with
  | none => exact List.mem_cons_self ..
  | some s => exact List.mem_cons_of_mem _ (List.mem_of_getElem? e)
def eqO := He.eqO
def clsB (K : PySem.W.Frag) (T : Tb) (x : Str) : Bool := (He.Fa.cls x).ok K && (T.ats.all (fun f => (He.Fa.noat x f).ok K) && (He.eqO (PySem.W.findIn K (.ref (He.ga K x)) "__class__") (some (some (.builtin "object.__class__"))) && decide (PySem.W.mroIn K (He.ga K x) (.type "object") = some true)))
def objB (K : PySem.W.Frag) : Bool := He.eqO (PySem.W.specialIn K (.builtin "object.__class__") "__get__") (some (some (.builtin "getset_descriptor.__get__"))) && decide (PySem.W.takesIn K (.builtin "object.__class__") = some true)
def tyReps : List (D × String) := [(.non, "NoneType"), (.bl false, "bool"), (.int 0, "int"), (.str Str.empty, "str"), (.tup [], "tuple"), (.lst [], "list"), (.dct .s [], "dict")]
def tys (n : Nat) : List Ty := [.int, .bool, .str, .tup, .lst, .dct] ++ (List.range n).map .own
def kitB (K : PySem.W.Frag) (N : Nm) (C : Nat → Option Cl) (nC : Nat) : Bool := (tys nC).all fun t => tyReps.all (fun p => decide (PySem.W.kitOne K (.type p.2) (clsV N t) = some (isTy C p.1 t))) && (List.range nC).all fun c => decide (PySem.W.kitOne K (.ref (N.cls c)) (clsV N t) = some (isTy C (.ins c []) t))
theorem tys_ok {n : Nat} {t : Ty} (h : tyOk n t) : t ∈ tys n := by
  cases t with
  | own c => exact List.mem_append_right _ (List.mem_map.mpr ⟨c, List.mem_range.mpr h, rfl⟩)
  | _ => exact List.mem_append_left _ (by simp)
theorem isTy_rep {C : Nat → Option Cl} {d : D} {s : String} {t : Ty} (e : tyStr d = some s) : ∃ r, (r, s) ∈ tyReps ∧ isTy C d t = isTy C r t := by
  cases d <;> first | (cases e; done) | skip
  · cases e; exact ⟨.non, by simp [tyReps], by cases t <;> rfl⟩
  · cases e; exact ⟨.bl false, by simp [tyReps], by cases t <;> rfl⟩
  · cases e; exact ⟨.int 0, by simp [tyReps], by cases t <;> rfl⟩
  · cases e; exact ⟨.str Str.empty, by simp [tyReps], by cases t <;> rfl⟩
  · cases e; exact ⟨.tup [], by simp [tyReps], by cases t <;> rfl⟩
  · cases e; exact ⟨.lst [], by simp [tyReps], by cases t <;> rfl⟩
  · cases e; exact ⟨.dct .s [], by simp [tyReps], by cases t <;> rfl⟩
  · cases e; exact ⟨.lst [], by simp [tyReps], by cases t <;> rfl⟩

def exB (K : PySem.W.Frag) (T : Tb) (N : Nm) (C : Nat → Option Cl) : Bool := (clsNames T).all (clsB K T) && (objB K && kitB K N C T.cls.length)
section
variable {K : PySem.W.Frag} {T : Tb} {md : Nat → Bool} {g : T.good = true}
theorem at_mem {l : List Str} {f : Nat} (h : f < l.length) : nth l pad f ∈ l := by
  unfold nth
  rw [List.getElem?_eq_getElem h]
  exact List.getElem_mem h
theorem pf_ok {G : Gx} (h : exB K T (T.nm md g K) G.C = true) (hC : ∀ c cl, G.C c = some cl → c < T.cls.length) : PF K (T.nm md g K) G T.cls.length T.ats.length := by
  obtain ⟨h1, h2⟩ := ba h
  obtain ⟨h2, h3⟩ := ba h2
  have hc : ∀ c, clsB K T (nth T.cls (fun _ => headOr T.cls) c) = true := fun c => List.all_eq_true.mp h1 _ (nth_mem c)
  obtain ⟨o1, o2⟩ := ba h2
  refine ⟨fun c => He.cls_ok (ba (hc c)).1, fun c f hf => ?_, fun c => ?_, He.eqO_ok o1, of_decide_eq_true o2, fun c => ?_, fun d s t e ht => ?_, fun c cl t e ht => ?_⟩
  · have := (ba (ba (hc c)).2).1
    exact He.noat_ok (List.all_eq_true.mp this _ (at_mem hf))
  · exact He.eqO_ok (ba (ba (ba (hc c)).2).2).1
  · exact of_decide_eq_true (ba (ba (ba (hc c)).2).2).2
  · have k := List.all_eq_true.mp h3 t (tys_ok ht)
    obtain ⟨r, hr, e2⟩ := isTy_rep (C := G.C) (t := t) e
    rw [e2]
    exact of_decide_eq_true (List.all_eq_true.mp (ba k).1 _ hr)
  · have k := List.all_eq_true.mp h3 t (tys_ok ht)
    exact of_decide_eq_true (List.all_eq_true.mp (ba k).2 c (List.mem_range.mpr (hC c cl e)))
end

/-! ### methods -/
theorem assocN_mem {α : Type} : ∀ {l : List (Nat × α)} {m : Nat} {f : α}, assocN l m = some f → (m, f) ∈ l
  | [], m, f, e => by cases e
  | (a, b) :: r, m, f, e => by
    have e' : (match decide (a = m) with
      | true => some b
      | false => assocN r m) = some f := e
    cases h : decide (a = m) with
    | true =>
      rw [h] at e'
      obtain rfl := of_decide_eq_true h
      cases e'
      exact List.mem_cons_self ..
    | false => rw [h] at e'; exact List.mem_cons_of_mem _ (assocN_mem e')
def mtB (K : PySem.W.Frag) (N : Nm) (C : Nat → Option Cl) (nC nF : Nat) : Bool := (List.range nC).all fun c => match C c with
  | some cl => cl.mt.all fun p => decide (p.2 < nF) && (He.eqO (PySem.W.findIn K (.ref (N.cls c)) (N.mtn p.1)) (some (some (.ref (N.fn p.2)))) && (PySem.W.isFn K (.ref (N.fn p.2)) && PySem.W.keepIn K (.ref (N.fn p.2))))
  | none => true
theorem mf_ok {K : PySem.W.Frag} {N : Nm} {G : Gx} {nC nF nM nA : Nat} (P : PF K N G nC nA) (h : mtB K N G.C nC nF = true) (hC : ∀ c cl, G.C c = some cl → c < nC) : MF K N G nF nM := by
  refine ⟨P.cls, fun c cl m f e _ a => ?_⟩
  have k := List.all_eq_true.mp h c (List.mem_range.mpr (hC c cl e))
  rw [e] at k
  have k2 := List.all_eq_true.mp k (m, f) (assocN_mem a)
  obtain ⟨k3, k4⟩ := ba k2
  obtain ⟨k5, k6⟩ := ba k4
  exact ⟨of_decide_eq_true k3, He.eqO_ok k5, (ba k6).1, (ba k6).2⟩
def efB (K : PySem.W.Frag) (N : Nm) (C : Nat → Option Cl) (nC : Nat) : Bool := decide (N.mtn 0 = "__eq__") && (List.range nC).all fun c => match C c with
  | some cl => (match assocN cl.mt 0 with
    | some _ => He.eqO (PySem.W.findIn K (.ref (N.cls c)) "__ne__") (some (some (.builtin "object.__ne__")))
    | none => true) && (tyReps.all (fun p => PySem.W.notFirst K (N.cls c) (.type p.2)) && (List.range nC).all fun d => PySem.W.notFirst K (N.cls c) (.ref (N.cls d)))
  | none => true
theorem ef_ok {K : PySem.W.Frag} {N : Nm} {G : Gx} {nC nF : Nat} (h : efB K N G.C nC = true) (hC : ∀ c cl, G.C c = some cl → c < nC) : EF K N G nF := by
  obtain ⟨h1, h2⟩ := ba h
  have k : ∀ c cl, G.C c = some cl → _ := fun c cl e => List.all_eq_true.mp h2 c (List.mem_range.mpr (hC c cl e))
  refine ⟨of_decide_eq_true h1, fun c cl f e a => ?_, fun c cl d s e t => ?_, fun c cl c' cl' e e' => ?_⟩
  · have q := k c cl e
    rw [e] at q
    have q1 := (ba q).1
    rw [a] at q1
    exact He.eqO_ok q1
  · have q := k c cl e
    rw [e] at q
    obtain ⟨r, hr, _⟩ := isTy_rep (C := G.C) (t := .int) t
    exact List.all_eq_true.mp (ba (ba q).2).1 _ hr
  · have q := k c cl e
    rw [e] at q
    exact List.all_eq_true.mp (ba (ba q).2).2 c' (List.mem_range.mpr (hC c' cl' e'))
def mkB (K : PySem.W.Frag) (N : Nm) (C : Nat → Option Cl) (nC nF : Nat) : Bool := (List.range nC).all fun c => match C c with
  | some cl => (match cl.init with
    | some f => decide (f < nF) && (PySem.W.makesIn K (N.cls c) && (He.eqO (PySem.W.findIn K (.ref (N.cls c)) "__init__") (some (some (.ref (N.fn f)))) && (PySem.W.isFn K (.ref (N.fn f)) && PySem.W.keepIn K (.ref (N.cls c)))))
    | none => true)
  | none => true
theorem mk_ok {K : PySem.W.Frag} {N : Nm} {C : Nat → Option Cl} {nC nF c f : Nat} {cl : Cl} (h : mkB K N C nC nF = true) (hc : c < nC) (e : C c = some cl) (i : cl.init = some f) : f < nF ∧ Mk K (N.cls c) (N.fn f) := by
  have k := List.all_eq_true.mp h c (List.mem_range.mpr hc)
  rw [e] at k
  have k2 : (match cl.init with
    | some f => decide (f < nF) && (PySem.W.makesIn K (N.cls c) && (He.eqO (PySem.W.findIn K (.ref (N.cls c)) "__init__") (some (some (.ref (N.fn f)))) && (PySem.W.isFn K (.ref (N.fn f)) && PySem.W.keepIn K (.ref (N.cls c)))))
    | none => true) = true := k
  rw [i] at k2
  obtain ⟨k3, k4⟩ := ba k2
  obtain ⟨k5, k6⟩ := ba k4
  obtain ⟨k7, k8⟩ := ba k6
  exact ⟨of_decide_eq_true k3, k5, He.eqO_ok k7, (ba k8).1, (ba k8).2⟩
theorem MkF.of {X : Cx} {N : Nm} {G : Gx} {nC nF : Nat} {mo : Bool} {c f : Nat} {cl : Cl} (h : mkB X.K N G.C nC nF = true) (hc : c < nC) (e : G.C c = some cl) (i : cl.init = some f) (md : N.md f = true → mo = true) : MkF X N G nF mo c cl f :=
  ⟨md, e, i, (mk_ok h hc e i).1, (mk_ok h hc e i).2⟩
/-! ### exceptions -/
def excB (K : PySem.W.Frag) (C : Addr) (base : String) (rf : List Value → Bool) : Bool := match K.lookup C with
  | some ⟨.type "type", _, .cls cd, sl⟩ => (match cd.mro, sl.toList with
    | .ref C' :: bm, [_, _, _, _, some (.builtin n), _] => C' == C && n == base && !cd.hasDel && cd.hasDict && rf bm
    | _, _ => false)
  | _ => false
theorem excB_ok {K : PySem.W.Frag} {C : Addr} {base : String} {rf : List Value → Bool} (q : excB K C base rf = true) : ∃ nm q N bs bm sn sub ab col dd k0 k1 k2 k3 k5, K.lookup C = some (excClassObj nm q C N bs bm true sn sub ab col dd k0 k1 k2 k3 k5 base) ∧ rf bm = true := by
  unfold excB at q
  split at q
  · rename_i dd cd sl ho
    split at q
    · rename_i C' bm k0 k1 k2 k3 n k5 hm hs
      simp only [Bool.and_eq_true, beq_iff_eq, Bool.not_eq_true'] at q
      obtain ⟨⟨⟨⟨rfl, rfl⟩, hdel⟩, hd⟩, hr⟩ := q
      obtain ⟨nm, bs, mro, ns, qn, hdi, sn, sub, ab, col, del⟩ := cd
      dsimp only at hm hdel hd
      subst hm hdel hd
      have hsl : sl = #[k0, k1, k2, k3, some (.builtin n), k5] := by
        obtain ⟨l⟩ := sl
        simp only at hs
        rw [hs]
      subst hsl
      exact ⟨nm, qn, ns, bs, bm, sn, sub, ab, col, dd, k0, k1, k2, k3, k5, ho, hr⟩
    · cases q
  · cases q
def oexB (K : PySem.W.Frag) (C : Addr) (f : Str) : Bool := excB K C "ValueError.__new__" PySem.HandSPX.refsVE && (He.eqO (PySem.W.findIn K (.ref C) "__setattr__") (some (some (.builtin "object.__setattr__"))) && (decide (PySem.W.subIn K (.ref C) (.type "BaseException") = some true) &&
  (decide (PySem.W.typeIn K (.ref C) = some (.type "type")) && (PySem.W.keepIn K (.ref C) && (He.eqO (PySem.W.findIn K (.ref C) f) (some none) && (decide (PySem.W.findIn K (.ref C) "__init__" = some (some (.ref (He.ma K C "__init__")))) && decide (PySem.W.typeIn K (.ref (He.ma K C "__init__")) = some (.type "function"))))))))
theorem oexB_ok {K : PySem.W.Frag} {C : Addr} {f : Str} (h : oexB K C f = true) : OexC K C ∧ PySem.W.findIn K (.ref C) f = some none ∧ PySem.W.findIn K (.ref C) "__init__" = some (some (.ref (He.ma K C "__init__"))) ∧ PySem.W.typeIn K (.ref (He.ma K C "__init__")) = some (.type "function") := by
  obtain ⟨h1, h⟩ := ba h
  obtain ⟨h2, h⟩ := ba h
  obtain ⟨h3, h⟩ := ba h
  obtain ⟨h4, h⟩ := ba h
  obtain ⟨h5, h⟩ := ba h
  obtain ⟨h6, h⟩ := ba h
  obtain ⟨h7, h8⟩ := ba h
  exact ⟨⟨excB_ok h1, He.eqO_ok h2, of_decide_eq_true h3, of_decide_eq_true h4, h5⟩, He.eqO_ok h6, of_decide_eq_true h7, of_decide_eq_true h8⟩
def xmB (K : PySem.W.Frag) (N : Nm) (xs : Nat → Nat → Option Bool) (nX : Nat) : Bool := (List.range nX).all fun x => (List.range nX).all fun c => match xs x c with
  | some b => decide (PySem.W.exmOne K (.ref (N.exc x)) (.ref (N.exc c)) = some b) && decide (PySem.W.kitOne K (.ref (N.exc x)) (.ref (N.exc c)) = some b)
  | none => true
theorem xm_ok {K : PySem.W.Frag} {N : Nm} {G : Gx} {nX : Nat} (h : xmB K N G.xs nX = true) (hX : ∀ x c b, G.xs x c = some b → x < nX ∧ c < nX) : XM K N G := by
  have k : ∀ x c b, G.xs x c = some b → _ := fun x c b e => List.all_eq_true.mp (List.all_eq_true.mp h x (List.mem_range.mpr (hX x c b e).1)) c (List.mem_range.mpr (hX x c b e).2)
  refine ⟨fun x c b e => ?_, fun x c b e => ?_⟩
  · have q := k x c b e
    rw [e] at q
    exact of_decide_eq_true (ba q).1
  · have q := k x c b e
    rw [e] at q
    exact of_decide_eq_true (ba q).2
def xiB (K : PySem.W.Frag) (C : Addr) (f : Str) : Bool := xfB K C && ((PySem.W.clsIn K C).isSome && (He.eqO (PySem.W.findIn K (.ref C) "__class__") (some (some (.builtin "object.__class__"))) && (decide (PySem.W.mroIn K C (.type "object") = some true) && He.eqO (PySem.W.findIn K (.ref C) f) (some none))))
theorem xi_ok {K : PySem.W.Frag} {N : Nm} {G : Gx} {nX : Nat} (ho : objB K = true) (h : ((List.range nX).all fun x => xiB K (N.exc x) (G.fx x)) = true) (hX : ∀ x c b, G.xs x c = some b → x < nX ∧ c < nX) : XI3 K N G.fx G := by
  obtain ⟨o1, o2⟩ := ba ho
  have k : ∀ x c b, G.xs x c = some b → xiB K (N.exc x) (G.fx x) = true := fun x c b e => List.all_eq_true.mp h x (List.mem_range.mpr (hX x c b e).1)
  refine ⟨fun x c b e => ?_, fun x c b e => ?_, fun _ => rfl⟩
  · obtain ⟨h1, h2⟩ := ba (k x c b e)
    obtain ⟨h3, h4⟩ := ba h2
    obtain ⟨h5, h6⟩ := ba h4
    exact ⟨xfB_ok h1, h3, He.eqO_ok h5, He.eqO_ok o1, of_decide_eq_true o2, of_decide_eq_true (ba h6).1⟩
  · obtain ⟨h1, h2⟩ := ba (k x c b e)
    obtain ⟨h3, h4⟩ := ba h2
    obtain ⟨h5, h6⟩ := ba h4
    exact He.eqO_ok (ba h6).2
end B

set_option Elab.async false
set_option linter.all false
set_option maxRecDepth 100000
set_option maxHeartbeats 2000000
/-! Constants of the module. Own work. -/
namespace B
open PySem PySem.Spec PyProof.Rows L2
def vOf : Value → V
  | .bool b => .bl b
  | .int i _ => .int i
  | .str s _ => .str s
  | .ref a => .ref a
  | _ => .non
mutual
def valB (K : PySem.W.Frag) : D → Value → Bool
  | .non, .none => true
  | .bl b, .bool c => b == c
  | .int i, .int j _ => decide (i = j)
  | .str x, .str y _ => decide (x = y) && PyData.strOk x
  | .tup xs, .ref a => match K.lookup a with
    | some ⟨.type c, _, .seq its _, _⟩ => decide (c = "tuple") && (decide (its.size ≤ sizeLine) && valsB K xs its.toList)
    | _ => false
  | _, _ => false
def valsB (K : PySem.W.Frag) : List D → List Value → Bool
  | [], [] => true
  | d :: r, v :: s => valB K d v && valsB K r s
  | _, _ => false
end
section
variable {K : PySem.W.Frag} {w : World} {N : Nm}
mutual
theorem valB_ok : ∀ {d : D} {u : Value}, valB K d u = true → RelV (vOf u) u ∧ ∀ H M, RepD K w N H M d (vOf u)
  | .non, u, h => by
    cases u <;> first | (cases h; done) | skip
    exact ⟨rfl, fun H M => by unfold RepD; rfl⟩
  | .bl b, u, h => by
    cases u <;> first | (cases h; done) | skip
    rename_i c
    have e : b = c := eq_of_beq (show (b == c) = true from h)
    subst e
    exact ⟨rfl, fun H M => by unfold RepD; rfl⟩
  | .int i, u, h => by
    cases u <;> first | (cases h; done) | skip
    rename_i j t
    have e : i = j := of_decide_eq_true (show decide (i = j) = true from h)
    subst e
    exact ⟨⟨t, rfl⟩, fun H M => by unfold RepD; rfl⟩
  | .str x, u, h => by
    cases u <;> first | (cases h; done) | skip
    rename_i y t
    obtain ⟨h1, h2⟩ := ba (show (decide (x = y) && PyData.strOk x) = true from h)
    have e : x = y := of_decide_eq_true h1
    subst e
    exact ⟨⟨t, rfl⟩, fun H M => by unfold RepD; exact ⟨rfl, h2⟩⟩
  | .tup xs, u, h => by
    cases u <;> first | (cases h; done) | skip
    rename_i a
    have h' : (match K.lookup a with
      | some ⟨.type c, _, .seq its _, _⟩ => decide (c = "tuple") && (decide (its.size ≤ sizeLine) && valsB K xs its.toList)
      | _ => false) = true := h
    split at h'
    · rename_i c od its n sl hl
      obtain ⟨h1, h2⟩ := ba h'
      obtain ⟨h3, h4⟩ := ba h2
      obtain ⟨q1, q2⟩ := valsB_ok h4
      refine ⟨rfl, fun H M => ?_⟩
      unfold RepD
      exact ⟨a, its.toList.map vOf, rfl, .inr ⟨_, its, n, hl, congrArg Value.type (of_decide_eq_true h1), rfl, of_decide_eq_true h3, q1⟩, q2 H M⟩
    · cases h'
  | .lst _, u, h => by cases u <;> cases h
  | .dct _ _, u, h => by cases u <;> cases h
  | .ins _ _, u, h => by cases u <;> cases h
  | .scr _, u, h => by cases u <;> cases h
theorem valsB_ok : ∀ {ds : List D} {us : List Value}, valsB K ds us = true → Vals (us.map vOf) us ∧ ∀ H M, RepDs K w N H M ds (us.map vOf)
  | [], us, h => by
    cases us with
    | nil => exact ⟨.nil, fun H M => by unfold RepDs; rfl⟩
    | cons _ _ => cases h
  | d :: r, us, h => by
    cases us with
    | nil => cases h
    | cons u s =>
      obtain ⟨h1, h2⟩ := ba (show (valB K d u && valsB K r s) = true from h)
      obtain ⟨a1, a2⟩ := valB_ok h1
      obtain ⟨b1, b2⟩ := valsB_ok h2
      exact ⟨.cons a1 b1, fun H M => by unfold RepDs; exact ⟨_, _, rfl, a2 H M, b2 H M⟩⟩
end
end
/-- the module's name x is the constant d -/
def Con (K : PySem.W.Frag) (w : World) (mg : Str → Option Value) (N : Nm) (x : Str) (d : D) : Prop := ∃ u v, mg x = some u ∧ RelV v u ∧ ∀ H M, RepD K w N H M d v
def conB (K : PySem.W.Frag) (x : Str) (d : D) : Bool := match PySem.W.nsIn K mainGlobals x with
  | some (some u) => valB K d u
  | _ => false
theorem conB_ok {K : PySem.W.Frag} {w : World} {N : Nm} {h : Heap} {mg : Str → Option Value} (X : K.In h) (G : h.Ns mainGlobals mg) {x : Str} {d : D} (c : conB K x d = true) : Con K w mg N x d := by
  unfold conB at c
  cases e : PySem.W.nsIn K mainGlobals x with
  | none => rw [e] at c; cases c
  | some o =>
    rw [e] at c
    cases o with
    | none => cases c
    | some u =>
      obtain ⟨a, b⟩ := valB_ok (w := w) (N := N) (show valB K d u = true from c)
      exact ⟨u, vOf u, PySem.W.mg_of X G e, a, b⟩
/-! ### dicts with text keys -/
def strK : D → Str
  | .str s => s
  | _ => Str.empty
def kvB (K : PySem.W.Frag) (a : Addr) (k d : D) : Bool := match k with
  | .str k => (match PySem.W.nsIn K a k with
    | some (some u) => valB K d u
    | _ => false)
  | _ => false
def dctB (K : PySem.W.Frag) (x : Str) (kvs : List (D × D)) : Bool := He.eqO (PySem.W.nsIn K mainGlobals x) (some (some (.ref (He.ga K x)))) && kvs.all fun p => kvB K (He.ga K x) p.1 p.2
theorem repKD_of {K : PySem.W.Frag} {w : World} {N : Nm} {H : Hp} {M : Addr → Prop} {a : Addr} : ∀ {kvs : List (D × D)}, (kvs.all fun p => kvB K a p.1 p.2) = true → RepKD K w N H M a kvs
  | [], _ => by unfold RepKD; trivial
  | (k, d) :: r, h => by
    obtain ⟨h1, h2⟩ := ba (show (kvB K a k d && r.all fun p => kvB K a p.1 p.2) = true from h)
    unfold RepKD
    refine ⟨?_, repKD_of h2⟩
    cases k <;> first | (cases h1; done) | skip
    rename_i z
    have h1' : (match PySem.W.nsIn K a z with
      | some (some u) => valB K d u
      | _ => false) = true := h1
    cases e : PySem.W.nsIn K a z with
    | none => rw [e] at h1'; cases h1'
    | some o =>
      rw [e] at h1'
      cases o with
      | none => cases h1'
      | some u =>
        obtain ⟨a1, a2⟩ := valB_ok (w := w) (N := N) (show valB K d u = true from h1')
        exact ⟨z, u, vOf u, rfl, e, a1, a2 H M⟩
theorem dic_none {K : PySem.W.Frag} {P : Params} {a : Addr} {ks : List Str} (h : He.dicW K a = some (He.keysIn P ks)) {z : Str} (hz : z ∉ ks) : PySem.W.nsIn K a z = some none := by
  unfold He.dicW at h
  unfold PySem.W.nsIn
  split at h
  · rename_i c es n sl hl
    split at h
    · have h2 := Option.some.inj h
      rw [hl]
      have key : ∀ e ∈ es.toList, ∃ x t, e.key = .str x t ∧ x ∈ ks := fun e he => by
        have m : He.keyOf e ∈ He.keysIn P ks := h2 ▸ List.mem_map.mpr ⟨e, he, rfl⟩
        obtain ⟨k, hk, ek⟩ := List.mem_map.mp m
        unfold He.keyOf at ek
        split at ek
        · rename_i x t q
          have := (Option.some.inj ek)
          have e1 : k = x := congrArg Prod.fst this
          exact ⟨x, t, q, e1 ▸ hk⟩
        · cases ek
      have f1 : es.toList.find? (·.key.isStr z) = none := by
        rw [List.find?_eq_none]
        intro e he q
        obtain ⟨x, t, e1, e2⟩ := key e he
        rw [e1] at q
        have : x = z := by simpa [Value.isStr] using q
        exact hz (this ▸ e2)
      have f2 : es.toList.any (·.refKey) = false := by
        rw [List.any_eq_false]
        intro e he q
        obtain ⟨x, t, e1, e2⟩ := key e he
        simp [DictEntry.refKey, e1] at q
      show (match es.toList.find? (·.key.isStr z) with
        | some e => some (some e.val)
        | none => if es.toList.any (·.refKey) then none else some none) = some none
      rw [f1, f2]
      rfl
    · cases h
  · cases h
theorem dctB_ok {K : PySem.W.Frag} {w : World} {N : Nm} {h : Heap} {mg : Str → Option Value} (X : K.In h) (G : h.Ns mainGlobals mg) {x : Str} {kvs : List (D × D)} {ks : List Str} (c : dctB K x kvs = true) (t : He.dicW K (He.ga K x) = some (He.keysIn w.params ks)) (e : kvs.map (·.1) = ks.map .str) : Con K w mg N x (.dct .s kvs) := by
  obtain ⟨c1, c2⟩ := ba c
  refine ⟨_, .ref (He.ga K x), PySem.W.mg_of X G (He.eqO_ok c1), rfl, fun H M => ?_⟩
  unfold RepD
  refine ⟨_, rfl, .inr ⟨rfl, He.dicW_ok t, repKD_of c2, fun z hz => dic_none t fun hm => ?_⟩⟩
  have m : D.str z ∈ kvs.map (·.1) := e ▸ List.mem_map.mpr ⟨z, hm, rfl⟩
  obtain ⟨p, hp, ep⟩ := List.mem_map.mp m
  exact hz p hp ep
section
variable {X : Cx} {N : Nm} {xf : Nat → Str} {G : Gx} {Wx : WX}
theorem s_g {x : Str} {d : D} {pos : Pos} (hg : Gl X x) (hd : (x == ("__debug__" : Str)) = false) (c : Con X.K X.w X.mg N x d) : PE X (.Name x pos) (tEv X N xf G Wx (.k d)) := by
  obtain ⟨u, v, hm, rv, q⟩ := c
  exact PE.imp (pe_glob hg hm rv hd) fun σV H Q ⟨Z, σ, ρ, h, r, re, p⟩ => tR_ok (R := RX X N) p r (show RepD X.K X.w N H (MM Z ρ h) d v from q _ _)
end
end B

set_option Elab.async false
set_option linter.all false
set_option maxRecDepth 100000
set_option maxHeartbeats 2000000
/-! A def's body in its surroundings; the defs by induction. Own work. -/
namespace B
open PySem PySem.Spec PyProof.Rows L2
/-! ### an exception's __init__ -/
section
variable {P : Program} {w : World} {K : PySem.W.Frag} {mg : Str → Option Value} {base : Heap}
theorem init_read {K : PySem.W.Frag} {f s v : Str} {X : Cx} {vs : List V} {H : Hp} {Q : VK} {E : XK} (hK : X.K = K) (h : spI K f vs H Q E) : tOst X.K f (tVar 0) (tVar 1) { nx := fun _ H' => Q .non H', rt := Q } (L2.start [s, v] vs) H := by
  subst hK
  obtain ⟨a, C, x, rfl, T, no, ha, q⟩ := h
  exact ⟨x, rfl, .ref a, rfl, a, C, rfl, T, no, .inl ⟨ha, fun dx n ne => q dx n ne⟩⟩
theorem init_ok {CX : CXT} {k : Nat} {x qual f s v : Str} {params : Arguments} {sc : Scope} {kws : List (Str × V)} {fI : Addr} {fd : FuncData} {q1 q2 q3 q4 : Pos} (F : FunD K x qual params [.Assign [.Attribute (.Name s q1) f q2] (.Name v q3) q4] sc [] kws fI fd) (S : FnScope [s, v] [s, v] sc)
    (h1 : sc.names.lookup s = some .local) (h2 : sc.names.lookup v = some .local) (d1 : (s == ("__debug__" : Str)) = false) (d2 : (v == ("__debug__" : Str)) = false) (c1 : (s == ("__classdict__" : Str)) = false) (c2 : (v == ("__classdict__" : Str)) = false) : FnOk P w K mg base CX (k + 1) fI fd [s, v] (spI K f) := by
  refine F.ok S (fun vs H Q E h => ?_) (fun cdv A outer s0 H vs Q E hr h => ⟨tOst K f (tVar 0) (tVar 1), ?_, ?_⟩)
  · obtain ⟨a, C, x, rfl, _⟩ := h; rfl
  · exact pss_one (ps_ost (pe_var (i := 0) rfl (.inl h1) d1 c1) (pe_var (i := 1) rfl (.inl h2) d2 c2))
  · exact init_read (X := cxOf CX P w K mg base [s, v] qual sc fI cdv A outer s0 H E) rfl h
theorem init_okH {CX : CXT} {k : Nat} {x qual f s v : Str} {params : Arguments} {sc : Scope} {kws : List (Str × V)} {fI : Addr} {fd : FuncData} {q1 q2 q3 q4 : Pos} (F : FunD K x qual params [.Assign [.Attribute (.Name s q1) f q2] (.Name v q3) q4] sc [] kws fI fd) (S : FnScope [s, v] [s, v] sc)
    (h1 : sc.names.lookup s = some .local) (h2 : sc.names.lookup v = some .local) (d1 : (s == ("__debug__" : Str)) = false) (d2 : (v == ("__debug__" : Str)) = false) (c1 : (s == ("__classdict__" : Str)) = false) (c2 : (v == ("__classdict__" : Str)) = false) : L2H.FnH P w K mg base CX (k + 1) fI fd [s, v] (spI K f) := by
  obtain ⟨oc, od, dV, kV, doc, pm, an, cdv, ct, osl, rfl, lk, hcd, _, _⟩ := F.ex
  refine L2H.fn_ofH lk hcd S (fun vs H Q E h => ?_) (fun A outer s0 H vs Q E p hot hr h => ⟨tOst K f (tVar 0) (tVar 1), ?_, ?_⟩)
  · obtain ⟨a, C, x, rfl, _⟩ := h; rfl
  · exact pss_one (ps_ost (pe_var (i := 0) rfl (.inl h1) d1 c1) (pe_var (i := 1) rfl (.inl h2) d2 c2))
  · exact init_read (X := L2H.cxH CX P w K mg base [s, v] qual sc fI cdv A outer s0 H E p) rfl h
end
/-! ### what stands for the whole program -/
structure GF (P : Program) (w : World) (K : PySem.W.Frag) (mg : Str → Option Value) (base : Heap) (N : Nm) (Q : Pr) (T : Tb) (cons : List (Str × D)) (frs : List Str) : Prop where
  pf : ∀ k, PF K N (gxOf Q k) T.cls.length T.ats.length
  mf : ∀ k, MF K N (gxOf Q k) T.fns.length T.mts.length
  ef : ∀ k, EF K N (gxOf Q k) T.fns.length
  mkb : mkB K N Q.cl T.cls.length T.fns.length = true
  xm : ∀ k, XM K N (gxOf Q k)
  xi : ∀ k, XI3 K N Q.fx (gxOf Q k)
  xf : XF P w K mg base N Q.fx T.ra 1
  xh : ∀ x, T.ra x = true → XFH P w K mg base N Q.fx x 1
  fns : ∀ (f : Nat) (x : Str), T.fns[f]? = some (some (x, none)) → mg x = some (.ref (N.fn f))
  cls : ∀ (c : Nat) (x : Str), T.cls[c]? = some x → mg x = some (.ref (N.cls c))
  exc : ∀ (c : Nat) (x : Str), T.exc[c]? = some x → mg x = some (.ref (N.exc c))
  fre : ∀ (i : Nat) (x : Str), frs[i]? = some x → mg x = none
  con : ∀ (i : Nat) (x : Str) (d : D), cons[i]? = some (x, d) → Con K w mg N x d
/-- a body's surroundings -/
structure AR (X : Cx) (N : Nm) (Q : Pr) (T : Tb) (cons : List (Str × D)) (frs : List Str) (k r : Nat) (Wx : WX) (mo : Bool) : Prop where
  g : GF X.prog X.w X.K X.mg X.base N Q T cons frs
  b : BX X N Q.fx T.fns.length (gxOf Q k) Wx (r + 1) mo

section
variable {X : Cx} {N : Nm} {Q : Pr} {T : Tb} {cons : List (Str × D)} {frs : List Str} {k r : Nat} {Wx : WX} {mo : Bool}
theorem AR.pf (a : AR X N Q T cons frs k r Wx mo) : PF X.K N (gxOf Q k) T.cls.length T.ats.length := a.g.pf k
theorem AR.mf (a : AR X N Q T cons frs k r Wx mo) : MF X.K N (gxOf Q k) T.fns.length T.mts.length := a.g.mf k
theorem AR.ef (a : AR X N Q T cons frs k r Wx mo) : EF X.K N (gxOf Q k) T.fns.length := a.g.ef k
theorem AR.xm (a : AR X N Q T cons frs k r Wx mo) : XM X.K N (gxOf Q k) := a.g.xm k
theorem AR.xi (a : AR X N Q T cons frs k r Wx mo) : XI3 X.K N Q.fx (gxOf Q k) := a.g.xi k
theorem XF.mono {P : Program} {w : World} {K : PySem.W.Frag} {mg : Str → Option Value} {base : Heap} {xf : Nat → Str} {ra : Nat → Bool} {i j : Nat} (F : XF P w K mg base N xf ra i) (h : i ≤ j) : XF P w K mg base N xf ra j :=
  ⟨F.ex, F.no, fun x hx => let ⟨fI, a, b, c⟩ := F.ini x hx; ⟨fI, a, b, c.mono h⟩⟩
theorem XFH.mono {P : Program} {w : World} {K : PySem.W.Frag} {mg : Str → Option Value} {base : Heap} {xf : Nat → Str} {x i j : Nat} (F : XFH P w K mg base N xf x i) (h : i ≤ j) : XFH P w K mg base N xf x j :=
  ⟨F.ex, F.no, let ⟨fI, fd, ps, a, b, c, d⟩ := F.ini; ⟨fI, fd, ps, a, b, ⟨c.len, fun A outer s H args us vs Q E p hr => c.run A outer s H args us vs Q E p (hr.mono h)⟩, d⟩⟩
theorem AR.xf (a : AR X N Q T cons frs k r Wx mo) : XF X.prog X.w X.K X.mg X.base N Q.fx T.ra (r + 1) := a.g.xf.mono (by omega)
theorem AR.xh (a : AR X N Q T cons frs k r Wx mo) {x : Nat} (hx : T.ra x = true) : XFH X.prog X.w X.K X.mg X.base N Q.fx x (r + 1) := (a.g.xh x hx).mono (by omega)
theorem AR.hu (a : AR X N Q T cons frs k r Wx mo) : X.A.units + 200 < cLine := by have := a.b.room.un; omega
theorem AR.mkf (a : AR X N Q T cons frs k r Wx mo) {c f : Nat} {cl : Cl} (hc : c < T.cls.length) (e : Q.cl c = some cl) (i : cl.init = some f) (md : N.md f = true → mo = true) : MkF X N (gxOf Q k) T.fns.length mo c cl f := MkF.of a.g.mkb hc e i md
theorem BX.of_blk {nF : Nat} {G : Gx} {xf : Nat → Str} (b : BX X N xf nF G Wx k mo) (s : Shared) (H : Hp) (sc : Scope) (ce : PySem.Env) (fp : List Addr) : BX (X.blk s H sc ce fp) N xf nF G WF k mo :=
  ⟨b.ft, b.fm, b.room, by
    cases mo with
    | true => exact fun u s' x => by obtain ⟨_, _, _, _, _, _, _, _, _, _, _, _, _, _, _, _, z⟩ := x; exact z.elim
    | false => exact fun u s' x => by obtain ⟨_, _, _, _, _, _, _, _, _, _, _, _, _, _, _, _, z⟩ := x; exact z.elim⟩
theorem AR.blk (a : AR X N Q T cons frs k r Wx mo) (s : Shared) (H : Hp) (sc : Scope) (ce : PySem.Env) (fp : List Addr) : AR (X.blk s H sc ce fp) N Q T cons frs k r WF mo := ⟨a.g, a.b.of_blk s H sc ce fp⟩
theorem AR.tr (a : AR X N Q T cons frs k r Wx mo) {W : WX} {pn : List (Addr × Obj)} {xe : Value → Shared → Prop} {m2 : Bool} (tk : TakesM (X.tr pn xe) W m2) : AR (X.tr pn xe) N Q T cons frs k r W m2 := ⟨a.g, ⟨a.b.ft, a.b.fm, a.b.room, tk⟩⟩
end
/-! ### a def keeps what the evaluator says -/
section
variable {P : Program} {w : World} {K : PySem.W.Frag} {mg : Str → Option Value} {base : Heap} {N : Nm} {Q : Pr} {T : Tb} {cons : List (Str × D)} {frs : List Str} {k r : Nat}
theorem takesM_of {X : Cx} {E : XK} {mo : Bool} {E₁ : Value → Shared → Prop} (hs : X.stack = X.env :: X.outer) (hf : X.env.frame = some X.env.locals) (hex : X.ex = [])
    (hx : X.xe = fun e s' => wpAny (model X.prog X.w) X.A (leaving X.env e) (fun _ s'' => cxm X.prog X.w mo X.outer X.H_0 X.s_0 E e s'') E₁ s') : TakesM X (fun cls d _ H => E cls d H) mo := by
  cases mo with
  | true => exact L2.takes_of hs hf hex hx
  | false => exact L2N.takes_of hs hf hex hx
abbrev cxF (P : Program) (w : World) (K : PySem.W.Frag) (mg : Str → Option Value) (base : Heap) (mo : Bool) (names : List Str) (qual : Str) (sc : Scope) (f : Addr) (cdv : Value) (A : Around) (outer : List PySem.Env) (s : Shared) (H : Hp) (E : XK) : Cx :=
  cxOf (cxm P w mo) P w K mg base names qual sc f cdv A outer s H E
theorem fn_go {f : Nat} {F : Fn} {x qual : Str} {params : Arguments} {body : List Stmt} {sc : Scope} {kws : List (Str × V)} {fd : FuncData} {names ps : List Str} (Fd : FunD K x qual params body sc [] kws (N.fn f) fd) (S : FnScope names ps sc)
    (e : Q.fn f = some F) (hs : F.sl = names.length) (ha : F.ar = ps.length) (g : GF P w K mg base N Q T cons frs) (ft : FT P w K mg base N Q.fx T.fns.length (run Q k) (r + 2)) (fm : FT P w K mg base N Q.fx T.fns.length (run Q (k - 1)) (r + 1))
    (hD : ∀ cdv A outer s H E, AR (cxF P w K mg base (N.md f) names qual sc (N.fn f) cdv A outer s H E) N Q T cons frs k r (fun cls d _ H => E cls d H) (N.md f) →
      PassesOwn (model P w) (cxF P w K mg base (N.md f) names qual sc (N.fn f) cdv A outer s H E).A (cxF P w K mg base (N.md f) names qual sc (N.fn f) cdv A outer s H E).env (cxF P w K mg base (N.md f) names qual sc (N.fn f) cdv A outer s H E).xe →
      (∀ hd : Option Value, PassesOwnAt (model P w) ((cxF P w K mg base (N.md f) names qual sc (N.fn f) cdv A outer s H E).A.mark hd) (cxF P w K mg base (N.md f) names qual sc (N.fn f) cdv A outer s H E).A (cxF P w K mg base (N.md f) names qual sc (N.fn f) cdv A outer s H E).env (cxF P w K mg base (N.md f) names qual sc (N.fn f) cdv A outer s H E).xe) →
      PSs (cxF P w K mg base (N.md f) names qual sc (N.fn f) cdv A outer s H E) body (tSt (cxF P w K mg base (N.md f) names qual sc (N.fn f) cdv A outer s H E) N Q.fx (fun cls d _ H => E cls d H) (exs (gxOf Q k) F.body))) :
    FnOk P w K mg base (cxm P w (N.md f)) (r + 3) (N.fn f) fd ps (spF K w N Q.fx (run Q (k + 1) f)) := by
    refine Fd.ok S (fun vs H V0 E h => ?_) (fun cdv A outer s H vs V0 E hr h => ⟨_, hD cdv A outer s H E ⟨g, ⟨ft, fm, hr, ?_⟩⟩ PassesOwn.leaving (fun _ => PassesOwnAt.leaving), ?_⟩)
    · rw [← ha]
      exact spF_len h fun ws h hn => run_len e ws h hn
    · exact takesM_of rfl rfl rfl rfl
    · exact body_of (X := cxF P w K mg base (N.md f) names qual sc (N.fn f) cdv A outer s H E) rfl rfl e hs (fun _ _ _ _ h => h) h
theorem fn_raw {f : Nat} {x qual : Str} {params : Arguments} {body : List Stmt} {sc : Scope} {kws : List (Str × V)} {fd : FuncData} {ps : List Str} (Fd : FunD K x qual params body sc [] kws (N.fn f) fd)
    (bn : ∀ (kV doc pm : Value) (an : Option Addr) (cdv ct : Value) (us : List Value), us.length = ps.length → bindArgs (PySem.W.fnOf x qual params body sc .none kV doc pm an cdv ct) ⟨us, []⟩ = pure (ps.zip us))
    (ok : FnOk P w K mg base (cxm P w (N.md f)) (r + 3) (N.fn f) fd ps (spF K w N Q.fx (run Q (k + 1) f))) : FnR P w K mg base (cxm P w (N.md f)) (r + 3) (N.fn f) (spF K w N Q.fx (run Q (k + 1) f)) := by
  have := ok.raw (ds := []) (dvs := []) (Fd.bindsN bn) .nil
  exact this.imp fun vs H V0 E h => by rw [List.append_nil]; exact h
theorem ft_zero (r : Nat) (kp : ∀ f, f < T.fns.length → PySem.W.keepIn K (.ref (N.fn f)) = true) : FT P w K mg base N Q.fx T.fns.length (run Q 0) r :=
  ⟨fun f hf A outer s H us vs V0 E hr e0 r h => by obtain ⟨Z, ρ, h, ws, _, _, p⟩ := h; exact p.elim, kp⟩
/-- all defs -/
theorem ft_all (kp : ∀ f, f < T.fns.length → PySem.W.keepIn K (.ref (N.fn f)) = true)
    (h0 : ∀ k r f, f < T.fns.length → Q.fn f ≠ none → FT P w K mg base N Q.fx T.fns.length (run Q k) (r + 2) → FT P w K mg base N Q.fx T.fns.length (run Q (k - 1)) (r + 1) → FnR P w K mg base (cxm P w (N.md f)) (r + 3) (N.fn f) (spF K w N Q.fx (run Q (k + 1) f))) :
    ∀ k, FT P w K mg base N Q.fx T.fns.length (run Q k) (k + 2) ∧ FT P w K mg base N Q.fx T.fns.length (run Q (k - 1)) (k + 1)
  | 0 => ⟨ft_zero _ kp, ft_zero _ kp⟩
  | k + 1 => ⟨⟨fun f hf => by
      cases e : Q.fn f with
      | none =>
        intro A outer s H us vs V0 E hr e0 r h
        obtain ⟨Z, ρ, h, ws, _, _, p⟩ := h
        rw [run_succ, e] at p
        exact p.elim
      | some F => exact h0 k k f hf (by rw [e]; exact fun z => nomatch z) (ft_all kp h0 k).1 (ft_all kp h0 k).2, kp⟩, (ft_all kp h0 k).1⟩
end
end B

set_option Elab.async false
set_option linter.all false
set_option maxRecDepth 100000
set_option maxHeartbeats 2000000
/-! enumerate in the evaluator. Own work. -/
namespace B
open PySem PySem.Spec PyProof.Rows L2
theorem enums_get : ∀ {xs : List D} {n i : Nat} {d : D}, (enums xs n)[i]? = some d → ∃ x, xs[i]? = some x ∧ d = .tup [.int ((n + i : Nat) : Int), x]
  | [], _, _, _, e => by simp [enums] at e
  | x :: r, n, 0, d, e => ⟨x, rfl, by simpa [enums] using e.symm⟩
  | x :: r, n, i + 1, d, e => by
    obtain ⟨y, h1, h2⟩ := enums_get (xs := r) (n := n + 1) (i := i) (by simpa [enums] using e)
    exact ⟨y, by simpa using h1, by rw [h2, show n + 1 + i = n + (i + 1) by omega]⟩
theorem enums_length : ∀ {xs : List D} {n : Nat}, (enums xs n).length = xs.length
  | [], _ => rfl
  | x :: r, n => by simp [enums, enums_length]
section
variable {K : PySem.W.Frag} {w : World} {N : Nm} {H : Hp} {M : Addr → Prop}
theorem pairD {p : Addr} {n : Nat} {d : D} {v : V} {H H' : Hp} {P P' M' : Addr → Prop} (k : Keep H P M H' P' M') (e : H' p = some (.tup [.int (n : Nat), v])) (m : ¬ M' p) (q : RepD K w N H M d v) : RepD K w N H' M' (.tup [.int (n : Nat), d]) (.ref p) := by
  unfold RepD
  refine ⟨p, _, rfl, .inl ⟨e, m⟩, ?_⟩
  unfold RepDs
  refine ⟨_, _, rfl, intD _, ?_⟩
  unfold RepDs
  exact ⟨_, _, rfl, q.keep k, by unfold RepDs; rfl⟩
theorem itC_enL {xs : List D} {a : Addr} {vs : List V} (e : Rd H a (.lst vs)) (m : ¬ M a) (q : RepDs K w N H M xs vs) : ItC K w N (Ite K a) (enums xs 0) H M := by
  refine ⟨fun H M => Rd H a (.lst vs) ∧ ¬ M a ∧ RepDs K w N H M xs vs, ⟨e, m, q⟩, fun k ⟨h1, h2, h3⟩ => ⟨(k.rd h1 h2).1, (k.rd h1 h2).2, h3.keep k⟩, fun H M i d ⟨h1, h2, h3⟩ hd => ?_, fun H M ⟨h1, h2, h3⟩ => ⟨vs, .inl h1, by rw [enums_length, h3.length]; exact Nat.le_refl _⟩⟩
  obtain ⟨x, hx, rfl⟩ := enums_get hd
  obtain ⟨v, hv, dv⟩ := h3.get hx
  refine ⟨⟨vs, v, .inl h1, hv⟩, fun y H' z => ?_⟩
  obtain ⟨T, u, rfl, nT, rfl, hu⟩ := z
  have := hu vs (.inl h1)
  rw [hv] at this
  cases this
  refine .inr ⟨T, _, nT, rfl, fun mT => ?_⟩
  rw [Nat.zero_add]
  exact pairD (Keep.new1 nT) upd_same mT dv
theorem itC_enT {xs : List D} {a : Addr} {vs : List V} (e : (H a = some (.tup vs) ∧ ¬ M a) ∨ KTup K a vs) (q : RepDs K w N H M xs vs) : ItC K w N (Ited K a) (enums xs 0) H M := by
  refine ⟨fun H M => ((H a = some (.tup vs) ∧ ¬ M a) ∨ KTup K a vs) ∧ RepDs K w N H M xs vs, ⟨e, q⟩, fun k ⟨h1, h3⟩ => ⟨h1.imp (fun h => ⟨k.at h.1 h.2, k.not h.1 h.2⟩) id, h3.keep k⟩, fun H M i d ⟨h1, h3⟩ hd => ?_, fun H M ⟨h1, h3⟩ => ⟨vs, h1.elim (fun h => .of h.1) fun h => h.sq, by rw [enums_length, h3.length]⟩⟩
  have hs : SqT K H a vs := h1.elim (fun h => .of h.1) fun h => h.sq
  obtain ⟨x, hx, rfl⟩ := enums_get hd
  obtain ⟨v, hv, dv⟩ := h3.get hx
  refine ⟨⟨vs, v, hs, hv⟩, fun y H' z => ?_⟩
  obtain ⟨T, u, rfl, nT, rfl, hu⟩ := z
  have := hu vs hs
  rw [hv] at this
  cases this
  refine .inr ⟨T, _, nT, rfl, fun mT => ?_⟩
  rw [Nat.zero_add]
  exact pairD (Keep.new1 nT) upd_same mT dv
end
section
variable {X : Cx} {N : Nm} {xf : Nat → Str} {G : Gx} {Wx : WX} {Z : Addr → Prop}
theorem s_en {a0 : Expr} {a : E} {p pos tpos : Pos} {elts : List Expr} {kk : Nat} (hg : Gl X "enumerate") (hm : X.mg "enumerate" = none) (ha : PA X [a0] (tEvs X N xf G Wx [a])) (hs : starEach [a0] X.env = [(false, eval a0 X.env)]) :
    PI X (.Tuple elts kk tpos) (.Call (.Name "enumerate" p) [a0] [] pos) (tIt X N xf G Wx (.en a)) := by
  refine PI.imp (pi_enumA hg hm ha hs) fun σV H R ⟨Z, σ, ρ, h, r, re, p⟩ => ?_
  have p' : PostOf X N xf Z σV Wx (RI X.K X.w N) R H ρ h ((ev G a σ h).bind fun w h1 => match w with
    | .c d => ofOpt (seqOf d) fun xs => .ok (.cl (enums xs 0)) h1
    | _ => .stuck) := p
  rw [evs_one] at p'
  refine tR_at r re (f := evs G [a]) p' fun ws vs H1 ρ1 h1 e1 x1 r1 re1 rx p1 => ?_
  have hl := evs_length e1
  cases ws with
  | nil => cases hl
  | cons w wr =>
    cases wr with
    | cons _ _ => cases hl
    | nil =>
      obtain ⟨v, _, rfl, q1, rfl⟩ := rx
      cases w with
      | l n => exact p1.elim
      | c d =>
        obtain ⟨xs, e2, p2⟩ := PostG.some p1
        have q : RepD X.K X.w N H1 (MM Z ρ1 h1) d v := q1
        cases d <;> first | (cases e2; done) | skip
        · cases e2
          unfold RepD at q
          obtain ⟨a, vs, rfl, h1', h2⟩ := q
          exact ⟨a, rfl, .inr ⟨vs, h1'.elim (fun h => .of h.1) fun h => h.sq, tR_ok (R := RI X.K X.w N) p2 r1 (itC_enT h1' h2)⟩⟩
        · cases e2
          unfold RepD at q
          obtain ⟨a, vs, rfl, h1', h2, h3⟩ := q
          exact ⟨a, rfl, .inl ⟨vs, .of h1', tR_ok (R := RI X.K X.w N) p2 r1 (itC_enL (.inl h1') h2 h3)⟩⟩
end
end B

set_option Elab.async false
set_option linter.all false
set_option maxRecDepth 100000
set_option maxHeartbeats 2000000
/-! The whole look at a program's facts; the end. Own work. -/
namespace B
open PySem PySem.Spec PyProof.Rows L2
def gloB (K : PySem.W.Frag) (x : Str) : Bool := (He.Fa.glo x).ok K
def cgB (K : PySem.W.Frag) (p : Str × D) : Bool := match p.2 with
  | .dct .s kvs => dctB K p.1 kvs
  | d => conB K p.1 d
def fnB (K : PySem.W.Frag) (o : Option (Str × Option Str)) : Bool := match o with
  | some (x, none) => gloB K x && PySem.W.keepIn K (.ref (He.fAd K (x, none)))
  | some p => PySem.W.keepIn K (.ref (He.fAd K p))
  | none => true
def chk (T : Tb) (N : Nm) (Q : Pr) (cons : List (Str × D)) (frs : List Str) (K : PySem.W.Frag) : Bool :=
  exB K T N Q.cl && (mtB K N Q.cl T.cls.length T.fns.length && (efB K N Q.cl T.cls.length && (mkB K N Q.cl T.cls.length T.fns.length && (xmB K N Q.xs T.exc.length && ((List.range T.exc.length).all (fun x => xiB K (N.exc x) (Q.fx x)) &&
  ((List.range T.exc.length).all (fun x => !T.ra x || oexB K (N.exc x) (Q.fx x)) && (T.fns.all (fnB K) && (PySem.W.keepIn K (.ref (He.fAd K (firstFn T.fns))) && (T.cls.all (gloB K) && (T.exc.all (gloB K) && (frs.all (fun x => (He.Fa.free x).ok K) && cons.all (cgB K))))))))))))
/-- the tables with text keys among the constants -/
def tabsOf : List (Str × D) → List He.Tab
  | [] => []
  | (x, .dct .s kvs) :: r => (fun K => He.ga K x, kvs.map fun p => strK p.1) :: tabsOf r
  | _ :: r => tabsOf r
theorem tabsOf_mem : ∀ {cons : List (Str × D)} {x : Str} {kvs : List (D × D)}, (x, D.dct .s kvs) ∈ cons → ((fun K => He.ga K x, kvs.map fun p => strK p.1) : He.Tab) ∈ tabsOf cons
  | [], _, _, h => by cases h
  | (y, d) :: r, x, kvs, h => by
    rcases List.mem_cons.mp h with e | h
    · cases e
      exact List.mem_cons_self ..
    · have ih := tabsOf_mem h
      cases d <;> first | exact ih | skip
      rename_i t ks
      cases t <;> first | exact ih | exact List.mem_cons_of_mem _ ih
theorem SaysT.tabW {fa : List He.Fa} {fn : List He.DefD} {ts : List He.Tab} {w : World} {K : PySem.W.Frag} (c : He.SaysT fa fn ts w K) {t : He.Tab} (h : t ∈ ts) : He.dicW K (t.1 K) = some (He.keysIn w.params t.2) := by
  obtain ⟨i, hi, e0⟩ := List.mem_iff_getElem.mp h
  have e : ts.map (fun t => He.dicW K (t.1 K)) = ts.map fun t => some (He.keysIn w.params t.2) := congrArg (fun z : He.AlT => z.2) c
  have e2 : (ts.map fun t => He.dicW K (t.1 K))[i]? = (ts.map fun t => some (He.keysIn w.params t.2))[i]? := by rw [e]
  rw [List.getElem?_map, List.getElem?_map, List.getElem?_eq_getElem hi, e0] at e2
  exact Option.some.inj e2
theorem keys_str {K : PySem.W.Frag} {a : Addr} : ∀ {kvs : List (D × D)}, (kvs.all fun p => kvB K a p.1 p.2) = true → kvs.map (·.1) = (kvs.map fun p => strK p.1).map D.str
  | [], _ => rfl
  | (k, d) :: r, h => by
    obtain ⟨h1, h2⟩ := ba (show (kvB K a k d && r.all fun p => kvB K a p.1 p.2) = true from h)
    have ih := keys_str h2
    cases k <;> first | (cases h1; done) | skip
    rename_i z
    show D.str z :: r.map (·.1) = D.str z :: (r.map fun p => strK p.1).map D.str
    rw [ih]
section
variable {P : Program} {w : World} {K : PySem.W.Frag} {mg : Str → Option Value} {base h : Heap} {T : Tb} {md : Nat → Bool} {g : T.good = true} {Q : Pr} {cons : List (Str × D)} {frs : List Str}
theorem gf_of (X : K.In h) (G : h.Ns mainGlobals mg) (c : chk T (T.nm md g K) Q cons frs K = true) (hC : ∀ c cl, Q.cl c = some cl → c < T.cls.length) (hX : ∀ x c b, Q.xs x c = some b → x < T.exc.length ∧ c < T.exc.length)
    (tb : ∀ t ∈ tabsOf cons, He.dicW K (t.1 K) = some (He.keysIn w.params t.2))
    (ini : ∀ x, T.ra x = true → ∃ (fd : FuncData) (ps : List Str), FnOk P w K mg base (L2N.CX P w) 1 (He.ma K ((T.nm md g K).exc x) "__init__") fd ps (spI K (Q.fx x)) ∧ L2H.FnH P w K mg base (L2N.CX P w) 1 (He.ma K ((T.nm md g K).exc x) "__init__") fd ps (spI K (Q.fx x)) ∧ Binds K fd ps [])
    (hra : ∀ x, T.ra x = true → x < T.exc.length) :
    GF P w K mg base (T.nm md g K) Q T cons frs ∧ ∀ f, f < T.fns.length → PySem.W.keepIn K (.ref ((T.nm md g K).fn f)) = true := by
  obtain ⟨c1, c⟩ := ba c
  obtain ⟨c2, c⟩ := ba c
  obtain ⟨c3, c⟩ := ba c
  obtain ⟨c4, c⟩ := ba c
  obtain ⟨c5, c⟩ := ba c
  obtain ⟨c6, c⟩ := ba c
  obtain ⟨c7, c⟩ := ba c
  obtain ⟨c8, c⟩ := ba c
  obtain ⟨c9, c⟩ := ba c
  obtain ⟨c10, c⟩ := ba c
  obtain ⟨c11, c⟩ := ba c
  obtain ⟨c12, c13⟩ := ba c
  have ho : objB K = true := (ba (ba c1).2).1
  have pf : ∀ k, PF K (T.nm md g K) (gxOf Q k) T.cls.length T.ats.length := fun k => pf_ok (G := gxOf Q k) c1 hC
  have ox : ∀ x, T.ra x = true → oexB K ((T.nm md g K).exc x) (Q.fx x) = true := fun x hx => by
    have := List.all_eq_true.mp c7 x (List.mem_range.mpr (hra x hx))
    rw [hx] at this
    exact this
  have gl : ∀ x, gloB K x = true → mg x = some (.ref (He.ga K x)) := fun x hx => He.glo_ok X G hx
  refine ⟨⟨pf, fun k => mf_ok (G := gxOf Q k) (pf k) c2 hC, fun k => ef_ok (G := gxOf Q k) c3 hC, c4, fun k => xm_ok (G := gxOf Q k) c5 hX, fun k => xi_ok (G := gxOf Q k) ho c6 hX, ⟨fun x hx => (oexB_ok (ox x hx)).1, fun x hx => (oexB_ok (ox x hx)).2.1, fun x hx => ?_⟩, fun x hx => ?_, fun f x e => ?_, fun c x e => ?_, fun c x e => ?_, fun i x e => ?_, fun i x d e => ?_⟩, fun f hf => ?_⟩
  · obtain ⟨fd, ps, F1, F2, b⟩ := ini x hx
    obtain ⟨_, _, o3, o4⟩ := oexB_ok (ox x hx)
    have := F1.raw (ds := []) (dvs := []) b .nil
    exact ⟨_, o3, o4, this.imp fun vs H V0 E h => by rw [List.append_nil]; exact h⟩
  · obtain ⟨fd, ps, F1, F2, b⟩ := ini x hx
    obtain ⟨o1, o2, o3, o4⟩ := oexB_ok (ox x hx)
    exact ⟨o1, o2, _, fd, ps, o3, o4, F2, b⟩
  · have k := List.all_eq_true.mp c8 _ (List.mem_of_getElem? e)
    have e2 : (T.nm md g K).fn f = He.ga K x := by
      show (match T.fns[f]? with
        | some (some p) => He.fAd K p
        | _ => He.fAd K (firstFn T.fns)) = _
      rw [e] <;> rfl
    rw [e2]
    exact gl x (ba (show (gloB K x && _) = true from k)).1
  · have e2 : (T.nm md g K).cls c = He.ga K x := by
      show He.ga K (nth T.cls _ c) = _
      unfold nth
      rw [e]
    rw [e2]
    exact gl x (List.all_eq_true.mp c10 _ (List.mem_of_getElem? e))
  · have e2 : (T.nm md g K).exc c = He.ga K x := by
      show He.ga K (nth T.exc _ c) = _
      unfold nth
      rw [e]
    rw [e2]
    exact gl x (List.all_eq_true.mp c11 _ (List.mem_of_getElem? e))
  · exact He.free_ok X G (List.all_eq_true.mp c12 _ (List.mem_of_getElem? e))
  · have k := List.all_eq_true.mp c13 _ (List.mem_of_getElem? e)
    have dflt : conB K x d = true → Con K w mg (T.nm md g K) x d := fun q => conB_ok X G q
    cases d <;> first | exact dflt k | skip
    rename_i t kvs
    cases t <;> first | exact dflt k | skip
    have t1 := tb _ (tabsOf_mem (List.mem_of_getElem? e))
    have k1 : dctB K x kvs = true := k
    exact dctB_ok X G k1 t1 (keys_str (ba k1).2)
  · cases e : T.fns[f]? with
    | none => rw [List.getElem?_eq_none_iff] at e; omega
    | some o =>
      have k := List.all_eq_true.mp c8 _ (List.mem_of_getElem? e)
      have e0 : (T.nm md g K).fn f = match T.fns[f]? with
          | some (some p) => He.fAd K p
          | _ => He.fAd K (firstFn T.fns) := rfl
      rw [e0, e]
      cases o with
      | none => exact c9
      | some p =>
        show PySem.W.keepIn K (.ref (He.fAd K p)) = true
        obtain ⟨x, m⟩ := p
        cases m with
        | none => exact (ba (show (gloB K x && _) = true from k)).2
        | some m => exact k
/-- the script as the law gets it -/
theorem spF_script {N : Nm} {xf : Nat → Str} {R : List W → A → Res W} (hR : ∀ ns : List Int, ns.length ≤ 63 → R [.c (.scr (ns.map D.int))] [] = .ok (.c (.bl true)) []) {H : Hp} {a : Addr} {ns : List Int} (hl : ns.length ≤ 63) (S : SqL K H a (ns.map V.int)) :
    spF K w N xf R [.ref a] H (fun v _ => v = .bl true) fun _ _ _ => False := by
  refine ⟨fun _ => False, [], [], [.c (.scr (ns.map D.int))], ⟨rfl, List.nodup_nil, fun _ z => z.elim, fun i o a e _ => by simp at e⟩, ⟨.ref a, [], rfl, ?_, rfl⟩, ?_⟩
  · show RepD K w N H (MM (fun _ => False) [] []) (.scr (ns.map D.int)) (.ref a)
    unfold RepD
    refine ⟨a, ns.map V.int, rfl, ?_, ?_⟩
    · rcases S with r | r
      · refine .inl ⟨r, ?_⟩
        rintro (⟨i, o, e, _⟩ | z)
        · simp at e
        · exact z
      · exact .inr r
    · clear hl S
      induction ns with
      | nil => show RepDs _ _ _ _ _ [] []; unfold RepDs; rfl
      | cons n r ih => show RepDs _ _ _ _ _ (.int n :: r.map D.int) (.int n :: r.map V.int); unfold RepDs; exact ⟨_, _, rfl, intD n, ih⟩
  · rw [hR ns hl]
    intro v H' ρ' _ _ q
    have q' : RepD K w N H' (MM (fun _ => False) ρ' []) (.bl true) v := q
    unfold RepD at q'
    exact q'
end
/-- whatever the world -/
def CXw (P : Program) : CXT := fun outer H s E u s' => ∃ w, L2.CX P w outer H s E u s'
theorem fnOk_w {P : Program} {w : World} {K : PySem.W.Frag} {mg : Str → Option Value} {base : Heap} {k : Nat} {f : Addr} {fd : FuncData} {ps : List Str} {sp : Sp} (F : FnOk P w K mg base (L2.CX P w) k f fd ps sp) : FnOk P w K mg base (CXw P) k f fd ps sp := by
  refine ⟨F.len, fun A outer s H args us vs Q E hr he hb hv hs => codeAny_mono (F.run A outer s H args us vs Q E hr he hb hv hs) fun r s' hq => ?_⟩
  cases r with
  | error e => exact ⟨w, hq⟩
  | ok fl =>
    cases fl with
    | ret u => exact hq
    | next => exact False.elim hq
    | brk => exact False.elim hq
    | cont => exact False.elim hq
end B

set_option linter.all false
set_option maxRecDepth 100000
/-! The defs of law_k88_bodies_written in the evaluator's syntax: printed by gen.py. Own work. -/
namespace B
open PySem (Str)
def c_METHODS : D := .tup [.str "truth", .str "length", .str "item", .str "walk", .str "back", .str "has", .str "like", .str "unlike", .str "before", .str "behind", .str "hash", .str "grow", .str "plus", .str "call"]
def c_MOST_COUNT : D := .int 4
def c_KINDS : D := .dct .s [(.str "truth", .str "flag"), (.str "length", .str "count"), (.str "item", .str "item"), (.str "walk", .str "walker"), (.str "back", .str "walker"), (.str "has", .str "flag"), (.str "like", .str "flag"), (.str "unlike", .str "flag"), (.str "before", .str "flag"), (.str "behind", .str "flag"), (.str "hash", .str "count"), (.str "grow", .str "any"), (.str "plus", .str "any"), (.str "call", .str "any")]
def c_TAKING : D := .tup [.str "has", .str "like", .str "unlike", .str "before", .str "behind", .str "grow", .str "plus"]
def c_DECLINING : D := .tup [.str "like", .str "unlike", .str "before", .str "behind", .str "grow", .str "plus"]
def c_MOST_DEEP : D := .int 6
def c_MOST_NODES : D := .int 16
def c_SIZES : D := .dct .s [(.str "yes", .int 1), (.str "no", .int 1), (.str "count", .int 2), (.str "raise", .int 1), (.str "decline", .int 1), (.str "further", .int 1), (.str "not", .int 2), (.str "if", .int 4)]
def c_ASKED_OF_ONE : D := .tup [.str "truth", .str "size", .str "hash"]
def c_ASKED_OF_TWO : D := .tup [.str "member", .str "like", .str "unlike", .str "before", .str "behind"]
def c_DIGITS : D := .tup [.str "0", .str "1", .str "2", .str "3", .str "4"]
def c_SINGLE : D := .tup [.str "yes", .str "no", .str "raise", .str "decline", .str "further"]
def c_MOST_WORDS : D := .int 64
/-- is_number -/
def sy_0 : List S := [.ret (.bo true [.isi (.var 0) .int, .not_ (.isi (.var 0) .bool), .ch .le .le (.var 1) (.var 0) (.var 2)])]
def F_0 : Fn := ⟨3, 3, true, sy_0⟩
/-- is_method -/
def sy_1 : List S := [.ret (.bo true [.isi (.var 0) .str, .op .in_ (.var 0) (.k c_METHODS)])]
def F_1 : Fn := ⟨1, 1, true, sy_1⟩
/-- look_at_method -/
def sy_2 : List S := [.ife (.not_ (.call 1 [.var 0])) [.rai 1 (.var 0)] []]
def F_2 : Fn := ⟨1, 1, true, sy_2⟩
/-- kind_of -/
def sy_3 : List S := [.ex (.call 2 [.var 0]),
  .ret (.ix (.k c_KINDS) (.var 0))]
def F_3 : Fn := ⟨1, 1, true, sy_3⟩
/-- takes_other -/
def sy_4 : List S := [.ex (.call 2 [.var 0]),
  .ret (.op .in_ (.var 0) (.k c_TAKING))]
def F_4 : Fn := ⟨1, 1, true, sy_4⟩
/-- may_decline -/
def sy_5 : List S := [.ex (.call 2 [.var 0]),
  .ret (.op .in_ (.var 0) (.k c_DECLINING))]
def F_5 : Fn := ⟨1, 1, true, sy_5⟩
/-- is_role -/
def sy_6 : List S := [.ife (.not_ (.isi (.var 1) .str)) [.ret (.k (.bl false))] [],
  .ret (.bo false [.op .eq (.var 1) (.k (.str "self")), .bo true [.op .eq (.var 1) (.k (.str "other")), .call 4 [.var 0]]])]
def F_6 : Fn := ⟨2, 2, true, sy_6⟩
/-- is_ask -/
def sy_7 : List S := [.ife (.bo false [.op .eq (.var 1) (.tup []), .not_ (.isi (.ix (.var 1) (.k (.int 0))) .str)]) [.ret (.k (.bl false))] [],
  .ife (.op .ne (.lc false [2] (.var 2) (.nm 2) (.sq (.slc (.var 1) (some (.k (.int 1))) none)) (some (.not_ (.call 6 [.var 0, .var 2])))) (.lst false [])) [.ret (.k (.bl false))] [],
  .ife (.op .in_ (.ix (.var 1) (.k (.int 0))) (.k c_ASKED_OF_ONE)) [.ret (.op .eq (.bi false .len [.var 1]) (.k (.int 2)))] [],
  .ret (.bo true [.op .in_ (.ix (.var 1) (.k (.int 0))) (.k c_ASKED_OF_TWO), .op .eq (.bi false .len [.var 1]) (.k (.int 3)), .op .ne (.ix (.var 1) (.k (.int 1))) (.ix (.var 1) (.k (.int 2)))])]
def F_7 : Fn := ⟨2, 3, true, sy_7⟩
/-- is_node -/
def sy_8 : List S := [.ife (.bo false [.not_ (.isi (.var 1) .tup), .op .eq (.var 1) (.tup []), .not_ (.isi (.ix (.var 1) (.k (.int 0))) .str)]) [.ret (.k (.bl false))] [],
  .set (.nm 3) (.ix (.var 1) (.k (.int 0))),
  .ife (.op .eq (.var 3) (.k (.str "ask"))) [.ret (.call 7 [.var 0, .slc (.var 1) (some (.k (.int 1))) none])] [],
  .ife (.op .ne (.bm false .get2 (.k c_SIZES) [.var 3, .k (.int 0)]) (.bi false .len [.var 1])) [.ret (.k (.bl false))] [],
  .ife (.op .eq (.var 3) (.k (.str "count"))) [.ret (.call 0 [.ix (.var 1) (.k (.int 1)), .k (.int 0), .k c_MOST_COUNT])] [],
  .ife (.op .eq (.var 3) (.k (.str "decline"))) [.ret (.bo true [.var 2, .call 5 [.var 0]])] [],
  .ret (.bo false [.op .ne (.var 3) (.k (.str "further")), .var 2])]
def F_8 : Fn := ⟨3, 4, true, sy_8⟩
/-- lay_node -/
def sy_9 : List S := [.set (.nm 5) (.bi false .len [.var 4]),
  .ife (.bo false [.op .eq (.var 5) (.k c_MOST_NODES), .op .gt (.var 2) (.k c_MOST_DEEP), .not_ (.call 8 [.var 0, .var 1, .var 3])]) [.rai 2 (.var 5)] [],
  .ex (.bm false .append (.var 4) [.var 1]),
  .ife (.op .notin (.ix (.var 1) (.k (.int 0))) (.tup [.k (.str "not"), .k (.str "if")])) [.ret (.var 5)] [],
  .set (.nm 6) (.lst true []),
  .for_ (.tp [7, 8]) (.en (.slc (.var 1) (some (.k (.int 1))) none)) [.ex (.bm false .append (.var 6) [.call 9 [.var 0, .var 8, .op .add (.var 2) (.k (.int 1)), .bo true [.var 3, .op .gt (.var 7) (.k (.int 0))], .var 4]])],
  .six (.var 4) (.var 5) (.op .add (.tup [.ix (.var 1) (.k (.int 0))]) (.bi false .tuple [.var 6])),
  .ret (.var 5)]
def F_9 : Fn := ⟨5, 9, true, sy_9⟩
/-- words_of -/
def sy_10 : List S := [.set (.nm 1) (.lst true []),
  .for_ (.nm 2) (.sq (.var 0)) [.ife (.isi (.var 2) .tup) [.ex (.bm false .extend (.var 1) [.call 10 [.var 2]])] [.ex (.bm false .append (.var 1) [.bi false .str [.var 2]])]],
  .ret (.var 1)]
def F_10 : Fn := ⟨1, 3, true, sy_10⟩
/-- write_body -/
def sy_11 : List S := [.ret (.bm false .join (.k (.str " ")) [.call 10 [.at_ (.var 0) 1]])]
def F_11 : Fn := ⟨1, 1, true, sy_11⟩
/-- read_parts -/
def sy_12 : List S := [.set (.nm 3) (.lst true []),
  .for_ (.nm 4) (.rg (.var 2)) [.set (.nm 5) (.call 13 [.var 0, .var 1]),
  .ife (.op .is_ (.var 5) (.k .non)) [.ret (.k .non)] [],
  .ex (.bm false .append (.var 3) [.ix (.var 5) (.k (.int 0))]),
  .set (.nm 1) (.ix (.var 5) (.k (.int 1)))],
  .ret (.tup [.bi false .tuple [.var 3], .var 1])]
def F_12 : Fn := ⟨3, 6, true, sy_12⟩
/-- read_words -/
def sy_13 : List S := [.set (.nm 2) (.ife (.op .lt (.var 1) (.bi false .len [.var 0])) (.ix (.var 0) (.var 1)) (.k (.str ""))),
  .set (.nm 3) (.ife (.op .lt (.op .add (.var 1) (.k (.int 1))) (.bi false .len [.var 0])) (.ix (.var 0) (.op .add (.var 1) (.k (.int 1)))) (.k (.str ""))),
  .ife (.op .in_ (.var 2) (.k c_SINGLE)) [.ret (.tup [.tup [.var 2], .op .add (.var 1) (.k (.int 1))])] [],
  .ife (.bo true [.op .eq (.var 2) (.k (.str "count")), .op .in_ (.var 3) (.k c_DIGITS)]) [.ret (.tup [.tup [.var 2, .bi false .int [.var 3]], .op .add (.var 1) (.k (.int 2))])] [],
  .ife (.op .eq (.var 2) (.k (.str "ask"))) [.set (.nm 4) (.ife (.op .in_ (.var 3) (.k c_ASKED_OF_TWO)) (.op .add (.var 1) (.k (.int 4))) (.op .add (.var 1) (.k (.int 3)))),
  .ret (.tup [.bi false .tuple [.slc (.var 0) (some (.var 1)) (some (.var 4))], .var 4])] [],
  .ife (.op .notin (.var 2) (.tup [.k (.str "not"), .k (.str "if")])) [.ret (.k .non)] [],
  .set (.nm 5) (.call 12 [.var 0, .op .add (.var 1) (.k (.int 1)), .ife (.op .eq (.var 2) (.k (.str "not"))) (.k (.int 1)) (.k (.int 3))]),
  .ret (.ife (.op .is_ (.var 5) (.k .non)) (.k .non) (.tup [.op .add (.tup [.var 2]) (.ix (.var 5) (.k (.int 0))), .ix (.var 5) (.k (.int 1))]))]
def F_13 : Fn := ⟨2, 6, true, sy_13⟩
/-- read_body -/
def sy_14 : List S := [.ife (.bo false [.not_ (.call 1 [.var 0]), .op .notin (.ix (.k c_KINDS) (.var 0)) (.tup [.k (.str "flag"), .k (.str "count")])]) [.rai 1 (.var 0)] [],
  .set (.nm 2) (.ife (.isi (.var 1) .str) (.bm false .split (.var 1) [.k (.str " ")]) (.lst false [])),
  .set (.nm 3) (.ife (.op .le (.bi false .len [.var 2]) (.k c_MOST_WORDS)) (.call 13 [.var 2, .k (.int 0)]) (.k .non)),
  .ife (.bo false [.op .is_ (.var 3) (.k .non), .op .ne (.ix (.var 3) (.k (.int 1))) (.bi false .len [.var 2])]) [.rai 3 (.k .non)] [],
  .tryr [.ret (.mk 0 [.var 0, .ix (.var 3) (.k (.int 0))])] 2 3 .non]
def F_14 : Fn := ⟨2, 4, true, sy_14⟩
/-- _law_pool -/
def sy_15 : List S := [.set (.nm 2) (.k (.int 0)),
  .ife (.op .lt (.var 1) (.bi false .len [.var 0])) [.set (.nm 2) (.ix (.var 0) (.var 1))] [],
  .set (.nm 3) (.bi false .max2 [.var 2, .op .sub (.neg (.k (.int 1))) (.var 2)]),
  .ret (.lst true [.op .mul (.var 3) (.bi false .int [.op .ge (.var 3) (.op .pow (.k (.int 10)) (.k (.int 18)))]), .op .mod (.op .mul (.bi false .int [.op .add (.op .add (.op .mod (.bi false .int [.var 3]) (.k (.int 2147483629))) (.op .mul (.k (.int 7919)) (.var 1))) (.k (.int 104729))]) (.k (.int 48271))) (.k (.int 2147483647))])]
def F_15 : Fn := ⟨2, 4, false, sy_15⟩
/-- _law_take -/
def sy_16 : List S := [.ife (.op .gt (.ix (.var 0) (.k (.int 0))) (.k (.int 0))) [.set (.nm 2) (.op .mod (.bi false .int [.ix (.var 0) (.k (.int 0))]) (.var 1)),
  .six (.var 0) (.k (.int 0)) (.op .fdiv (.ix (.var 0) (.k (.int 0))) (.var 1)),
  .ret (.var 2)] [],
  .six (.var 0) (.k (.int 1)) (.op .mod (.bi false .int [.op .add (.op .mul (.ix (.var 0) (.k (.int 1))) (.k (.int 48271))) (.k (.int 11))]) (.k (.int 2147483647))),
  .ret (.op .mod (.op .fdiv (.op .mod (.bi false .int [.op .mul (.ix (.var 0) (.k (.int 1))) (.ix (.var 0) (.k (.int 1)))]) (.k (.int 2147483629))) (.k (.int 64))) (.var 1))]
def F_16 : Fn := ⟨2, 3, true, sy_16⟩
/-- _law_one -/
def sy_17 : List S := [.ret (.ix (.var 1) (.call 16 [.var 0, .bi false .len [.var 1]]))]
def F_17 : Fn := ⟨2, 2, true, sy_17⟩
/-- _law_leaf -/
def sy_18 : List S := [.set (.nm 3) (.lst false [.tup [.k (.str "yes")], .tup [.k (.str "no")], .tup [.k (.str "count"), .call 16 [.var 0, .k (.int 5)]], .tup [.k (.str "raise")]]),
  .ife (.op .in_ (.var 1) (.lst false [.k (.str "length"), .k (.str "hash")])) [.set (.nm 3) (.lst false [.tup [.k (.str "count"), .call 16 [.var 0, .k (.int 5)]], .tup [.k (.str "count"), .k (.int 0)], .tup [.k (.str "no")], .tup [.k (.str "raise")]])] [],
  .ife (.var 2) [.set (.nm 3) (.op .add (.var 3) (.lst false [.tup [.k (.str "further")], .tup [.k (.str "further")]]))] [],
  .ife (.bo true [.var 2, .op .in_ (.var 1) (.lst false [.k (.str "like"), .k (.str "unlike"), .k (.str "before"), .k (.str "behind")])]) [.set (.nm 3) (.op .add (.var 3) (.lst false [.tup [.k (.str "decline")], .tup [.k (.str "decline")]]))] [],
  .ret (.call 17 [.var 0, .var 3])]
def F_18 : Fn := ⟨3, 4, true, sy_18⟩
/-- _law_asking -/
def sy_19 : List S := [.ife (.op .in_ (.var 1) (.lst false [.k (.str "truth"), .k (.str "length"), .k (.str "hash")])) [.ret (.tup [.k (.str "ask"), .call 17 [.var 0, .lst false [.k (.str "truth"), .k (.str "size"), .k (.str "hash")]], .k (.str "self")])] [],
  .ife (.op .eq (.call 16 [.var 0, .k (.int 4)]) (.k (.int 0))) [.set (.nm 2) (.lst false [.k (.str "truth"), .k (.str "size"), .k (.str "hash")]),
  .ret (.tup [.k (.str "ask"), .call 17 [.var 0, .var 2], .call 17 [.var 0, .lst false [.k (.str "self"), .k (.str "other")]]])] [],
  .set (.nm 2) (.lst false [.k (.str "member"), .k (.str "like"), .k (.str "unlike"), .k (.str "like"), .k (.str "unlike"), .k (.str "before"), .k (.str "behind")]),
  .set (.nm 3) (.call 17 [.var 0, .var 2]),
  .ife (.op .eq (.call 16 [.var 0, .k (.int 2)]) (.k (.int 0))) [.ret (.tup [.k (.str "ask"), .var 3, .k (.str "self"), .k (.str "other")])] [],
  .ret (.tup [.k (.str "ask"), .var 3, .k (.str "other"), .k (.str "self")])]
def F_19 : Fn := ⟨2, 4, true, sy_19⟩
/-- _law_deep -/
def sy_20 : List S := [.set (.nm 4) (.call 16 [.var 0, .k (.int 8)]),
  .ife (.bo false [.op .lt (.var 4) (.k (.int 2)), .bo true [.op .eq (.var 2) (.k (.int 0)), .op .lt (.var 4) (.k (.int 4))]]) [.ret (.call 18 [.var 0, .var 1, .var 3])] [],
  .ife (.bo false [.op .lt (.var 4) (.k (.int 5)), .op .eq (.var 2) (.k (.int 0))]) [.ret (.call 19 [.var 0, .var 1])] [],
  .ife (.op .eq (.var 4) (.k (.int 5))) [.ret (.tup [.k (.str "not"), .call 20 [.var 0, .var 1, .op .sub (.var 2) (.k (.int 1)), .k (.bl false)]])] [],
  .par 5 6 (.call 20 [.var 0, .var 1, .op .sub (.var 2) (.k (.int 1)), .k (.bl false)]) (.call 20 [.var 0, .var 1, .op .sub (.var 2) (.k (.int 1)), .var 3]),
  .ret (.tup [.k (.str "if"), .var 5, .var 6, .call 20 [.var 0, .var 1, .op .sub (.var 2) (.k (.int 1)), .var 3]])]
def F_20 : Fn := ⟨4, 7, true, sy_20⟩
/-- _law_flat -/
def sy_21 : List S := [.set (.nm 1) (.lst true []),
  .for_ (.nm 2) (.sq (.var 0)) [.ife (.isi (.var 2) .tup) [.set (.nm 1) (.cat (.var 1) (.call 21 [.var 2]))] [.ex (.bm false .append (.var 1) [.bi false .str [.var 2]])]],
  .ret (.var 1)]
def F_21 : Fn := ⟨1, 3, true, sy_21⟩
/-- _law_read -/
def sy_22 : List S := [.try_ [.ret (.call 14 [.var 0, .var 1])] [(3, some 2, [], some [.k (.str "note"), .fld "line", .is 0, .is 1]), (1, some 2, [], some [.k (.str "name"), .fld "value", .is 0, .is 3])]]
def F_22 : Fn := ⟨2, 3, true, sy_22⟩
/-- _law_due -/
def sy_23 : List S := [.try_ [.ret (.mk 0 [.var 0, .var 1])] [(2, none, [.ret (.lst false [.k (.str "note"), .k .non, .k (.bl true), .k (.bl false)])], none)]]
def F_23 : Fn := ⟨2, 2, true, sy_23⟩
/-- _law_bent -/
def sy_24 : List S := [.set (.nm 2) (.bm false .split (.var 1) [.k (.str " ")]),
  .set (.nm 3) (.call 16 [.var 0, .op .add (.bi false .len [.var 2]) (.k (.int 1))]),
  .set (.nm 4) (.lst true [.op .add (.var 1) (.k (.str " ")), .op .add (.k (.str " ")) (.var 1), .op .add (.var 1) (.k (.str " yes")), .op .add (.var 1) (.k (.str "\n")), .k (.str ""), .bm false .join (.k (.str " ")) [.slc (.var 2) none (some (.neg (.k (.int 1))))], .op .add (.var 1) (.var 1)]),
  .ex (.bm false .append (.var 4) [.op .add (.op .add (.bm false .join (.k (.str " ")) [.slc (.var 2) none (some (.var 3))]) (.k (.str "  "))) (.bm false .join (.k (.str " ")) [.slc (.var 2) (some (.var 3)) none])]),
  .set (.nm 4) (.cat (.var 4) (.lst false [.k (.str "count 5"), .k (.str "count"), .k (.str "count 03"), .k (.str "count -1"), .k (.str "not"), .k (.str "if yes no"), .k (.str "ask"), .k (.str "ask truth"), .k (.str "maybe")])),
  .ex (.bm false .append (.var 4) [.bm false .join (.k (.str " ")) [.op .add (.op .mul (.lst false [.k (.str "not")]) (.op .add (.k (.int 1)) (.call 16 [.var 0, .k (.int 1200)]))) (.lst false [.k (.str "maybe")])]]),
  .ret (.op .add (.var 4) (.lst false [.bm false .join (.k (.str " ")) [.op .add (.op .mul (.lst false [.k (.str "not")]) (.k (.int 1200))) (.lst false [.k (.str "yes")])], .k (.str "Yes"), .k (.str "(yes)")]))]
def F_24 : Fn := ⟨2, 5, true, sy_24⟩
/-- _law_right -/
def sy_25 : List S := [.set (.nm 3) (.mk 0 [.var 1, .var 2]),
  .set (.nm 4) (.call 11 [.var 3]),
  .ife (.bo false [.not_ (.isi (.var 4) .str), .op .ne (.var 4) (.bm false .join (.k (.str " ")) [.call 21 [.var 2]])]) [.ret (.k (.bl false))] [],
  .set (.nm 5) (.call 22 [.var 1, .var 4]),
  .ife (.bo false [.not_ (.isi (.var 5) (.own 0)), .op .ne (.var 5) (.var 3), .op .ne (.at_ (.var 5) 1) (.var 2), .op .ne (.at_ (.var 5) 0) (.var 1)]) [.ret (.k (.bl false))] [],
  .for_ (.nm 6) (.sq (.op .add (.call 24 [.var 0, .var 4]) (.lst false [.k .non, .k (.int 0), .lst false [.k (.str "yes")], .tup [.k (.str "yes")], .k (.bl true)]))) [.ife (.op .ne (.call 22 [.var 1, .var 6]) (.lst false [.k (.str "note"), .k .non, .k (.bl true), .k (.bl false)])) [.ret (.k (.bl false))] []],
  .for_ (.nm 7) (.sq (.lst false [.k (.str "truth"), .k (.str "length"), .k (.str "has"), .k (.str "like"), .k (.str "behind"), .k (.str "hash")])) [.ife (.op .ne (.call 22 [.var 7, .var 4]) (.call 23 [.var 7, .var 2])) [.ret (.k (.bl false))] []],
  .for_ (.nm 6) (.sq (.lst false [.k .non, .k (.str "item"), .k (.str "walk"), .k (.str "grow"), .k (.str "call"), .k (.str "size"), .k (.int 0), .lst false [], .k (.str "step")])) [.ife (.bo false [.op .ne (.call 22 [.var 6, .var 4]) (.lst false [.k (.str "name"), .var 6, .k (.bl true), .k (.bl false)]), .op .ne (.ix (.call 22 [.var 6, .k (.int 0)]) (.k (.int 0))) (.k (.str "name"))]) [.ret (.k (.bl false))] []],
  .ret (.k (.bl true))]
def F_25 : Fn := ⟨3, 8, true, sy_25⟩
/-- _law_greatest -/
def sy_26 : List S := [.set (.nm 0) (.tup [.k (.str "ask"), .k (.str "like"), .k (.str "self"), .k (.str "other")]),
  .set (.nm 1) (.tup [.k (.str "if"), .var 0, .var 0, .var 0]),
  .for_ (.nm 2) (.rg (.k (.int 4))) [.set (.nm 1) (.tup [.k (.str "if"), .var 0, .var 0, .var 1])],
  .ret (.var 1)]
def F_26 : Fn := ⟨0, 3, true, sy_26⟩
/-- law -/
def sy_27 : List S := [.ife (.op .ne (.bi false .len [.call 21 [.call 26 []]]) (.k (.int 49))) [.ret (.k (.bl false))] [],
  .ife (.not_ (.call 25 [.call 15 [.var 0, .k (.int 0)], .k (.str "unlike"), .call 26 []])) [.ret (.k (.bl false))] [],
  .for_ (.nm 1) (.rg (.bi false .max2 [.k (.int 1), .bi false .min2 [.k (.int 20), .bi false .len [.var 0]]])) [.set (.nm 2) (.call 15 [.var 0, .var 1]),
  .set (.nm 3) (.lst false [.k (.str "truth"), .k (.str "length"), .k (.str "has"), .k (.str "like"), .k (.str "unlike"), .k (.str "before"), .k (.str "behind"), .k (.str "hash")]),
  .set (.nm 4) (.call 17 [.var 2, .var 3]),
  .ife (.not_ (.call 25 [.var 2, .var 4, .call 20 [.var 2, .var 4, .k (.int 2), .k (.bl true)]])) [.ret (.k (.bl false))] []],
  .ret (.k (.bl true))]
def F_27 : Fn := ⟨1, 5, true, sy_27⟩
/-- Body.__init__ -/
def sy_28 : List S := [.ife (.bo false [.not_ (.call 1 [.var 1]), .op .notin (.call 3 [.var 1]) (.tup [.k (.str "flag"), .k (.str "count")])]) [.rai 1 (.var 1)] [],
  .set (.nm 3) (.lst true []),
  .ex (.call 9 [.var 1, .var 2, .k (.int 1), .k (.bl true), .var 3]),
  .sat (.var 0) 0 (.var 1),
  .sat (.var 0) 1 (.var 2),
  .sat (.var 0) 2 (.bi false .tuple [.var 3])]
def F_28 : Fn := ⟨3, 4, false, sy_28⟩
/-- Body.nodes -/
def sy_29 : List S := [.ret (.bi false .list [.at_ (.var 0) 2])]
def F_29 : Fn := ⟨1, 1, true, sy_29⟩
/-- Body.__eq__ -/
def sy_30 : List S := [.ret (.bo true [.isi (.var 1) (.own 0), .op .eq (.at_ (.var 0) 0) (.at_ (.var 1) 0), .op .eq (.at_ (.var 0) 1) (.at_ (.var 1) 1)])]
def F_30 : Fn := ⟨2, 2, true, sy_30⟩
def fnTZ : List (Option Fn) := [some F_0, some F_1, some F_2, some F_3, some F_4, some F_5, some F_6, some F_7, some F_8, some F_9, some F_10, some F_11, some F_12, some F_13, some F_14, some F_15, some F_16, some F_17, some F_18, some F_19, some F_20, some F_21, some F_22, some F_23, some F_24, some F_25, some F_26, some F_27, some F_28, some F_29, some F_30]
def clTZ : List (Option Cl) := [some ⟨some 28, true, [], [(3, 29), (0, 30)], [0]⟩]
def xsTZ : List (List (Option Bool)) := [[none, none, none, none], [some true, some true, some false, some false], [some true, some false, some true, some false], [some true, some false, some false, some true]]
def fxTZ : List Str := ["", "value", "place", "line"]
def PZ : Pr := ⟨fun i => match fnTZ[i]? with
  | some o => o
  | none => none, fun c => match clTZ[c]? with
  | some o => o
  | none => none, fun x c => match xsTZ[x]? with
  | some l => (match l[c]? with
    | some o => o
    | none => none)
  | none => none, fun x => match fxTZ[x]? with
  | some s => s
  | none => Str.empty⟩
end B

set_option Elab.async false
set_option linter.all false
set_option maxRecDepth 100000
set_option maxHeartbeats 4000000
/-! The defs of law_k88_bodies_written as they stand, tied to the evaluator: printed by gen.py. Own work. -/
namespace B
open PySem PySem.Spec PyProof.Rows L2
def topS (i : Nat) : Stmt := PySem.Challenge.pw_answersby_k88_bodies_written.main.body.getD i (.Pass ⟨0, 0, 0, 0⟩)
def inS (st : Stmt) (j : Nat) : Stmt := match st with
  | .ClassDef _ _ _ b _ _ _ _ _ _ _ => b.getD j (.Pass ⟨0, 0, 0, 0⟩)
  | s => s
theorem nd_ASKED_OF_ONE : (("ASKED_OF_ONE" : Str) == ("__debug__" : Str)) = false ∧ (("ASKED_OF_ONE" : Str) == ("__classdict__" : Str)) = false := by decide
theorem nd_ASKED_OF_TWO : (("ASKED_OF_TWO" : Str) == ("__debug__" : Str)) = false ∧ (("ASKED_OF_TWO" : Str) == ("__classdict__" : Str)) = false := by decide
theorem nd_AnswerError : (("AnswerError" : Str) == ("__debug__" : Str)) = false ∧ (("AnswerError" : Str) == ("__classdict__" : Str)) = false := by decide
theorem nd_Body : (("Body" : Str) == ("__debug__" : Str)) = false ∧ (("Body" : Str) == ("__classdict__" : Str)) = false := by decide
theorem nd_DECLINING : (("DECLINING" : Str) == ("__debug__" : Str)) = false ∧ (("DECLINING" : Str) == ("__classdict__" : Str)) = false := by decide
theorem nd_DIGITS : (("DIGITS" : Str) == ("__debug__" : Str)) = false ∧ (("DIGITS" : Str) == ("__classdict__" : Str)) = false := by decide
theorem nd_KINDS : (("KINDS" : Str) == ("__debug__" : Str)) = false ∧ (("KINDS" : Str) == ("__classdict__" : Str)) = false := by decide
theorem nd_METHODS : (("METHODS" : Str) == ("__debug__" : Str)) = false ∧ (("METHODS" : Str) == ("__classdict__" : Str)) = false := by decide
theorem nd_MOST_COUNT : (("MOST_COUNT" : Str) == ("__debug__" : Str)) = false ∧ (("MOST_COUNT" : Str) == ("__classdict__" : Str)) = false := by decide
theorem nd_MOST_DEEP : (("MOST_DEEP" : Str) == ("__debug__" : Str)) = false ∧ (("MOST_DEEP" : Str) == ("__classdict__" : Str)) = false := by decide
theorem nd_MOST_NODES : (("MOST_NODES" : Str) == ("__debug__" : Str)) = false ∧ (("MOST_NODES" : Str) == ("__classdict__" : Str)) = false := by decide
theorem nd_MOST_WORDS : (("MOST_WORDS" : Str) == ("__debug__" : Str)) = false ∧ (("MOST_WORDS" : Str) == ("__classdict__" : Str)) = false := by decide
theorem nd_NoBody : (("NoBody" : Str) == ("__debug__" : Str)) = false ∧ (("NoBody" : Str) == ("__classdict__" : Str)) = false := by decide
theorem nd_NoName : (("NoName" : Str) == ("__debug__" : Str)) = false ∧ (("NoName" : Str) == ("__classdict__" : Str)) = false := by decide
theorem nd_NoNote : (("NoNote" : Str) == ("__debug__" : Str)) = false ∧ (("NoNote" : Str) == ("__classdict__" : Str)) = false := by decide
theorem nd_SINGLE : (("SINGLE" : Str) == ("__debug__" : Str)) = false ∧ (("SINGLE" : Str) == ("__classdict__" : Str)) = false := by decide
theorem nd_SIZES : (("SIZES" : Str) == ("__debug__" : Str)) = false ∧ (("SIZES" : Str) == ("__classdict__" : Str)) = false := by decide
theorem nd_TAKING : (("TAKING" : Str) == ("__debug__" : Str)) = false ∧ (("TAKING" : Str) == ("__classdict__" : Str)) = false := by decide
theorem nd__law_again : (("_law_again" : Str) == ("__debug__" : Str)) = false ∧ (("_law_again" : Str) == ("__classdict__" : Str)) = false := by decide
theorem nd__law_asked : (("_law_asked" : Str) == ("__debug__" : Str)) = false ∧ (("_law_asked" : Str) == ("__classdict__" : Str)) = false := by decide
theorem nd__law_asking : (("_law_asking" : Str) == ("__debug__" : Str)) = false ∧ (("_law_asking" : Str) == ("__classdict__" : Str)) = false := by decide
theorem nd__law_at : (("_law_at" : Str) == ("__debug__" : Str)) = false ∧ (("_law_at" : Str) == ("__classdict__" : Str)) = false := by decide
theorem nd__law_at_tail : (("_law_at_tail" : Str) == ("__debug__" : Str)) = false ∧ (("_law_at_tail" : Str) == ("__classdict__" : Str)) = false := by decide
theorem nd__law_bent : (("_law_bent" : Str) == ("__debug__" : Str)) = false ∧ (("_law_bent" : Str) == ("__classdict__" : Str)) = false := by decide
theorem nd__law_body : (("_law_body" : Str) == ("__debug__" : Str)) = false ∧ (("_law_body" : Str) == ("__classdict__" : Str)) = false := by decide
theorem nd__law_cell : (("_law_cell" : Str) == ("__debug__" : Str)) = false ∧ (("_law_cell" : Str) == ("__classdict__" : Str)) = false := by decide
theorem nd__law_deep : (("_law_deep" : Str) == ("__debug__" : Str)) = false ∧ (("_law_deep" : Str) == ("__classdict__" : Str)) = false := by decide
theorem nd__law_deep_here : (("_law_deep_here" : Str) == ("__debug__" : Str)) = false ∧ (("_law_deep_here" : Str) == ("__classdict__" : Str)) = false := by decide
theorem nd__law_due : (("_law_due" : Str) == ("__debug__" : Str)) = false ∧ (("_law_due" : Str) == ("__classdict__" : Str)) = false := by decide
theorem nd__law_flat : (("_law_flat" : Str) == ("__debug__" : Str)) = false ∧ (("_law_flat" : Str) == ("__classdict__" : Str)) = false := by decide
theorem nd__law_found : (("_law_found" : Str) == ("__debug__" : Str)) = false ∧ (("_law_found" : Str) == ("__classdict__" : Str)) = false := by decide
theorem nd__law_greatest : (("_law_greatest" : Str) == ("__debug__" : Str)) = false ∧ (("_law_greatest" : Str) == ("__classdict__" : Str)) = false := by decide
theorem nd__law_k : (("_law_k" : Str) == ("__debug__" : Str)) = false ∧ (("_law_k" : Str) == ("__classdict__" : Str)) = false := by decide
theorem nd__law_leaf : (("_law_leaf" : Str) == ("__debug__" : Str)) = false ∧ (("_law_leaf" : Str) == ("__classdict__" : Str)) = false := by decide
theorem nd__law_many : (("_law_many" : Str) == ("__debug__" : Str)) = false ∧ (("_law_many" : Str) == ("__classdict__" : Str)) = false := by decide
theorem nd__law_method : (("_law_method" : Str) == ("__debug__" : Str)) = false ∧ (("_law_method" : Str) == ("__classdict__" : Str)) = false := by decide
theorem nd__law_one : (("_law_one" : Str) == ("__debug__" : Str)) = false ∧ (("_law_one" : Str) == ("__classdict__" : Str)) = false := by decide
theorem nd__law_one_here : (("_law_one_here" : Str) == ("__debug__" : Str)) = false ∧ (("_law_one_here" : Str) == ("__classdict__" : Str)) = false := by decide
theorem nd__law_other : (("_law_other" : Str) == ("__debug__" : Str)) = false ∧ (("_law_other" : Str) == ("__classdict__" : Str)) = false := by decide
theorem nd__law_part : (("_law_part" : Str) == ("__debug__" : Str)) = false ∧ (("_law_part" : Str) == ("__classdict__" : Str)) = false := by decide
theorem nd__law_pool : (("_law_pool" : Str) == ("__debug__" : Str)) = false ∧ (("_law_pool" : Str) == ("__classdict__" : Str)) = false := by decide
theorem nd__law_pool_here : (("_law_pool_here" : Str) == ("__debug__" : Str)) = false ∧ (("_law_pool_here" : Str) == ("__classdict__" : Str)) = false := by decide
theorem nd__law_read : (("_law_read" : Str) == ("__debug__" : Str)) = false ∧ (("_law_read" : Str) == ("__classdict__" : Str)) = false := by decide
theorem nd__law_right : (("_law_right" : Str) == ("__debug__" : Str)) = false ∧ (("_law_right" : Str) == ("__classdict__" : Str)) = false := by decide
theorem nd__law_script : (("_law_script" : Str) == ("__debug__" : Str)) = false ∧ (("_law_script" : Str) == ("__classdict__" : Str)) = false := by decide
theorem nd__law_size : (("_law_size" : Str) == ("__debug__" : Str)) = false ∧ (("_law_size" : Str) == ("__classdict__" : Str)) = false := by decide
theorem nd__law_some : (("_law_some" : Str) == ("__debug__" : Str)) = false ∧ (("_law_some" : Str) == ("__classdict__" : Str)) = false := by decide
theorem nd__law_take : (("_law_take" : Str) == ("__debug__" : Str)) = false ∧ (("_law_take" : Str) == ("__classdict__" : Str)) = false := by decide
theorem nd__law_text : (("_law_text" : Str) == ("__debug__" : Str)) = false ∧ (("_law_text" : Str) == ("__classdict__" : Str)) = false := by decide
theorem nd__law_told : (("_law_told" : Str) == ("__debug__" : Str)) = false ∧ (("_law_told" : Str) == ("__classdict__" : Str)) = false := by decide
theorem nd__law_turn : (("_law_turn" : Str) == ("__debug__" : Str)) = false ∧ (("_law_turn" : Str) == ("__classdict__" : Str)) = false := by decide
theorem nd__law_way : (("_law_way" : Str) == ("__debug__" : Str)) = false ∧ (("_law_way" : Str) == ("__classdict__" : Str)) = false := by decide
theorem nd__law_words : (("_law_words" : Str) == ("__debug__" : Str)) = false ∧ (("_law_words" : Str) == ("__classdict__" : Str)) = false := by decide
theorem nd__law_wrong : (("_law_wrong" : Str) == ("__debug__" : Str)) = false ∧ (("_law_wrong" : Str) == ("__classdict__" : Str)) = false := by decide
theorem nd_at : (("at" : Str) == ("__debug__" : Str)) = false ∧ (("at" : Str) == ("__classdict__" : Str)) = false := by decide
theorem nd_at_tail : (("at_tail" : Str) == ("__debug__" : Str)) = false ∧ (("at_tail" : Str) == ("__classdict__" : Str)) = false := by decide
theorem nd_beside : (("beside" : Str) == ("__debug__" : Str)) = false ∧ (("beside" : Str) == ("__classdict__" : Str)) = false := by decide
theorem nd_body : (("body" : Str) == ("__debug__" : Str)) = false ∧ (("body" : Str) == ("__classdict__" : Str)) = false := by decide
theorem nd_depth : (("depth" : Str) == ("__debug__" : Str)) = false ∧ (("depth" : Str) == ("__classdict__" : Str)) = false := by decide
theorem nd_e : (("e" : Str) == ("__debug__" : Str)) = false ∧ (("e" : Str) == ("__classdict__" : Str)) = false := by decide
theorem nd_expression : (("expression" : Str) == ("__debug__" : Str)) = false ∧ (("expression" : Str) == ("__classdict__" : Str)) = false := by decide
theorem nd_found : (("found" : Str) == ("__debug__" : Str)) = false ∧ (("found" : Str) == ("__classdict__" : Str)) = false := by decide
theorem nd_high : (("high" : Str) == ("__debug__" : Str)) = false ∧ (("high" : Str) == ("__classdict__" : Str)) = false := by decide
theorem nd_is_ask : (("is_ask" : Str) == ("__debug__" : Str)) = false ∧ (("is_ask" : Str) == ("__classdict__" : Str)) = false := by decide
theorem nd_is_method : (("is_method" : Str) == ("__debug__" : Str)) = false ∧ (("is_method" : Str) == ("__classdict__" : Str)) = false := by decide
theorem nd_is_node : (("is_node" : Str) == ("__debug__" : Str)) = false ∧ (("is_node" : Str) == ("__classdict__" : Str)) = false := by decide
theorem nd_is_number : (("is_number" : Str) == ("__debug__" : Str)) = false ∧ (("is_number" : Str) == ("__classdict__" : Str)) = false := by decide
theorem nd_is_role : (("is_role" : Str) == ("__debug__" : Str)) = false ∧ (("is_role" : Str) == ("__classdict__" : Str)) = false := by decide
theorem nd_kind_of : (("kind_of" : Str) == ("__debug__" : Str)) = false ∧ (("kind_of" : Str) == ("__classdict__" : Str)) = false := by decide
theorem nd_later : (("later" : Str) == ("__debug__" : Str)) = false ∧ (("later" : Str) == ("__classdict__" : Str)) = false := by decide
theorem nd_law : (("law" : Str) == ("__debug__" : Str)) = false ∧ (("law" : Str) == ("__classdict__" : Str)) = false := by decide
theorem nd_lay_node : (("lay_node" : Str) == ("__debug__" : Str)) = false ∧ (("lay_node" : Str) == ("__classdict__" : Str)) = false := by decide
theorem nd_look_at_method : (("look_at_method" : Str) == ("__debug__" : Str)) = false ∧ (("look_at_method" : Str) == ("__classdict__" : Str)) = false := by decide
theorem nd_low : (("low" : Str) == ("__debug__" : Str)) = false ∧ (("low" : Str) == ("__classdict__" : Str)) = false := by decide
theorem nd_many : (("many" : Str) == ("__debug__" : Str)) = false ∧ (("many" : Str) == ("__classdict__" : Str)) = false := by decide
theorem nd_may_decline : (("may_decline" : Str) == ("__debug__" : Str)) = false ∧ (("may_decline" : Str) == ("__classdict__" : Str)) = false := by decide
theorem nd_method : (("method" : Str) == ("__debug__" : Str)) = false ∧ (("method" : Str) == ("__classdict__" : Str)) = false := by decide
theorem nd_nodes : (("nodes" : Str) == ("__debug__" : Str)) = false ∧ (("nodes" : Str) == ("__classdict__" : Str)) = false := by decide
theorem nd_number : (("number" : Str) == ("__debug__" : Str)) = false ∧ (("number" : Str) == ("__classdict__" : Str)) = false := by decide
theorem nd_other : (("other" : Str) == ("__debug__" : Str)) = false ∧ (("other" : Str) == ("__classdict__" : Str)) = false := by decide
theorem nd_part : (("part" : Str) == ("__debug__" : Str)) = false ∧ (("part" : Str) == ("__classdict__" : Str)) = false := by decide
theorem nd_parts : (("parts" : Str) == ("__debug__" : Str)) = false ∧ (("parts" : Str) == ("__classdict__" : Str)) = false := by decide
theorem nd_place : (("place" : Str) == ("__debug__" : Str)) = false ∧ (("place" : Str) == ("__classdict__" : Str)) = false := by decide
theorem nd_read : (("read" : Str) == ("__debug__" : Str)) = false ∧ (("read" : Str) == ("__classdict__" : Str)) = false := by decide
theorem nd_read_body : (("read_body" : Str) == ("__debug__" : Str)) = false ∧ (("read_body" : Str) == ("__classdict__" : Str)) = false := by decide
theorem nd_read_parts : (("read_parts" : Str) == ("__debug__" : Str)) = false ∧ (("read_parts" : Str) == ("__classdict__" : Str)) = false := by decide
theorem nd_read_words : (("read_words" : Str) == ("__debug__" : Str)) = false ∧ (("read_words" : Str) == ("__classdict__" : Str)) = false := by decide
theorem nd_role : (("role" : Str) == ("__debug__" : Str)) = false ∧ (("role" : Str) == ("__classdict__" : Str)) = false := by decide
theorem nd_self : (("self" : Str) == ("__debug__" : Str)) = false ∧ (("self" : Str) == ("__classdict__" : Str)) = false := by decide
theorem nd_takes_other : (("takes_other" : Str) == ("__debug__" : Str)) = false ∧ (("takes_other" : Str) == ("__classdict__" : Str)) = false := by decide
theorem nd_text : (("text" : Str) == ("__debug__" : Str)) = false ∧ (("text" : Str) == ("__classdict__" : Str)) = false := by decide
theorem nd_value : (("value" : Str) == ("__debug__" : Str)) = false ∧ (("value" : Str) == ("__classdict__" : Str)) = false := by decide
theorem nd_word : (("word" : Str) == ("__debug__" : Str)) = false ∧ (("word" : Str) == ("__classdict__" : Str)) = false := by decide
theorem nd_words : (("words" : Str) == ("__debug__" : Str)) = false ∧ (("words" : Str) == ("__classdict__" : Str)) = false := by decide
theorem nd_words_of : (("words_of" : Str) == ("__debug__" : Str)) = false ∧ (("words_of" : Str) == ("__classdict__" : Str)) = false := by decide
theorem nd_write_body : (("write_body" : Str) == ("__debug__" : Str)) = false ∧ (("write_body" : Str) == ("__classdict__" : Str)) = false := by decide
theorem bt_isinstance : bootBuiltins "isinstance" = some (.builtin "isinstance") := by decide +kernel
theorem bt_int : bootBuiltins "int" = some (.type "int") := by decide +kernel
theorem bt_bool : bootBuiltins "bool" = some (.type "bool") := by decide +kernel
theorem bt_str : bootBuiltins "str" = some (.type "str") := by decide +kernel
theorem bt_len : bootBuiltins "len" = some (.builtin "len") := by decide +kernel
theorem bt_tuple : bootBuiltins "tuple" = some (.type "tuple") := by decide +kernel
theorem bt_max : bootBuiltins "max" = some (.builtin "max") := by decide +kernel
theorem bt_min : bootBuiltins "min" = some (.builtin "min") := by decide +kernel
theorem bt_list : bootBuiltins "list" = some (.type "list") := by decide +kernel
def TZ : Tb := ⟨[some ("is_number", none), some ("is_method", none), some ("look_at_method", none), some ("kind_of", none), some ("takes_other", none), some ("may_decline", none), some ("is_role", none), some ("is_ask", none), some ("is_node", none), some ("lay_node", none), some ("words_of", none), some ("write_body", none), some ("read_parts", none), some ("read_words", none), some ("read_body", none), some ("_law_pool", none), some ("_law_take", none), some ("_law_one", none), some ("_law_leaf", none), some ("_law_asking", none), some ("_law_deep", none), some ("_law_flat", none), some ("_law_read", none), some ("_law_due", none), some ("_law_bent", none), some ("_law_right", none), some ("_law_greatest", none), some ("law", none), some ("Body", some "__init__"), some ("Body", some "nodes"), some ("Body", some "__eq__")], ["Body"], ["AnswerError", "NoName", "NoBody", "NoNote"], ["method", "expression", "own_nodes"], ["__eq__", "__getitem__", "__setitem__", "nodes"], fxTZ, [false, true, true, true]⟩
theorem goodZ : TZ.good = true := by decide +kernel
def mdZ (f : Nat) : Bool := [23, 22, 25, 27, 14].contains f
abbrev NZ (K : PySem.W.Frag) : Nm := TZ.nm mdZ goodZ K
def consZ : List (Str × D) := [("METHODS", c_METHODS), ("MOST_COUNT", c_MOST_COUNT), ("KINDS", c_KINDS), ("TAKING", c_TAKING), ("DECLINING", c_DECLINING), ("MOST_DEEP", c_MOST_DEEP), ("MOST_NODES", c_MOST_NODES), ("SIZES", c_SIZES), ("ASKED_OF_ONE", c_ASKED_OF_ONE), ("ASKED_OF_TWO", c_ASKED_OF_TWO), ("DIGITS", c_DIGITS), ("SINGLE", c_SINGLE), ("MOST_WORDS", c_MOST_WORDS)]
def frsZ : List Str := ["isinstance", "int", "bool", "str", "len", "tuple", "enumerate", "range", "max", "min", "list"]
theorem cl_lt {c : Nat} {cl : Cl} (h : PZ.cl c = some cl) : c < 1 := by
  apply Classical.byContradiction
  intro hn
  have : clTZ[c]? = none := List.getElem?_eq_none (by show 1 ≤ c; omega)
  have h2 : (match clTZ[c]? with
    | some o => o
    | none => none) = some cl := h
  rw [this] at h2
  cases h2
theorem mdAll : ((List.range 1).all fun c => match PZ.cl c with
  | some cl => cl.mt.all fun p => !mdZ p.2
  | none => true) = true := by decide +kernel
theorem mdM {k m : Nat} {K : PySem.W.Frag} {mo : Bool} : MdOk (gxOf PZ k) (NZ K) m mo := fun c cl f e a h => by
  have z := List.all_eq_true.mp mdAll c (List.mem_range.mpr (cl_lt e))
  have e2 : PZ.cl c = some cl := e
  rw [e2] at z
  have z2 := List.all_eq_true.mp z (m, f) (assocN_mem a)
  have h2 : mdZ f = true := h
  rw [h2] at z2
  cases z2
section
variable {w : World} {K : PySem.W.Frag} {mg : Str → Option Value} {base : Heap}
def st_0 : Stmt := (topS 11)
theorem sc_0 : FnScope ["value", "low", "high"] ["value", "low", "high"] (defScope st_0) := ⟨rfl, rfl, rfl, by decide +kernel, rfl, by decide +kernel, by decide +kernel⟩
/-- is_number -/
theorem d_0 {k r : Nat} {fd : FuncData} (g : GF PySem.Challenge.pw_answersby_k88_bodies_written w K mg base (NZ K) PZ TZ consZ frsZ) (Fd : FunD K "is_number" "is_number" (defArgs st_0) (defBody st_0) (defScope st_0) [] [] ((NZ K).fn 0) fd) (ft : FT PySem.Challenge.pw_answersby_k88_bodies_written w K mg base (NZ K) PZ.fx TZ.fns.length (run PZ k) (r + 2)) (fm : FT PySem.Challenge.pw_answersby_k88_bodies_written w K mg base (NZ K) PZ.fx TZ.fns.length (run PZ (k - 1)) (r + 1)) :
    FnOk PySem.Challenge.pw_answersby_k88_bodies_written w K mg base (cxm PySem.Challenge.pw_answersby_k88_bodies_written w (mdZ 0)) (r + 3) ((NZ K).fn 0) fd ["value", "low", "high"] (spF K w (NZ K) PZ.fx (run PZ (k + 1) 0)) :=
  fn_go (f := 0) (F := F_0) (names := ["value", "low", "high"]) (ps := ["value", "low", "high"]) Fd sc_0 rfl rfl rfl g ft fm fun cdv A outer s0 H0 E0 a po poAt =>
  have S := sc_0
  sts_cons (st_ret (s_and (s_isi a.pf trivial rfl (a.g.fre 0 _ rfl) (s_var (i := 0) rfl (.inl rfl) nd_value.1 nd_value.2) (pe_bltn rfl (a.g.fre 1 _ rfl) bt_int rfl) rfl rfl rfl) (s_and (s_not (s_isi a.pf trivial rfl (a.g.fre 0 _ rfl) (s_var (i := 0) rfl (.inl rfl) nd_value.1 nd_value.2) (pe_bltn rfl (a.g.fre 2 _ rfl) bt_bool rfl) rfl rfl rfl)) (s_bo1 (s_chain o_le o_le rfl (s_var (i := 1) rfl (.inl rfl) nd_low.1 nd_low.2) (s_var (i := 0) rfl (.inl rfl) nd_value.1 nd_value.2) (s_var (i := 2) rfl (.inl rfl) nd_high.1 nd_high.2))))))
    (sts_nil)
def st_1 : Stmt := (topS 12)
theorem sc_1 : FnScope ["value"] ["value"] (defScope st_1) := ⟨rfl, rfl, rfl, by decide +kernel, rfl, by decide +kernel, by decide +kernel⟩
/-- is_method -/
theorem d_1 {k r : Nat} {fd : FuncData} (g : GF PySem.Challenge.pw_answersby_k88_bodies_written w K mg base (NZ K) PZ TZ consZ frsZ) (Fd : FunD K "is_method" "is_method" (defArgs st_1) (defBody st_1) (defScope st_1) [] [] ((NZ K).fn 1) fd) (ft : FT PySem.Challenge.pw_answersby_k88_bodies_written w K mg base (NZ K) PZ.fx TZ.fns.length (run PZ k) (r + 2)) (fm : FT PySem.Challenge.pw_answersby_k88_bodies_written w K mg base (NZ K) PZ.fx TZ.fns.length (run PZ (k - 1)) (r + 1)) :
    FnOk PySem.Challenge.pw_answersby_k88_bodies_written w K mg base (cxm PySem.Challenge.pw_answersby_k88_bodies_written w (mdZ 1)) (r + 3) ((NZ K).fn 1) fd ["value"] (spF K w (NZ K) PZ.fx (run PZ (k + 1) 1)) :=
  fn_go (f := 1) (F := F_1) (names := ["value"]) (ps := ["value"]) Fd sc_1 rfl rfl rfl g ft fm fun cdv A outer s0 H0 E0 a po poAt =>
  have S := sc_1
  sts_cons (st_ret (s_and (s_isi a.pf trivial rfl (a.g.fre 0 _ rfl) (s_var (i := 0) rfl (.inl rfl) nd_value.1 nd_value.2) (pe_bltn rfl (a.g.fre 3 _ rfl) bt_str rfl) rfl rfl rfl) (s_bo1 (s_cmp (rCmp_op (by decide) (by decide) (o_in a.hu)) rfl (s_var (i := 0) rfl (.inl rfl) nd_value.1 nd_value.2) (s_g rfl nd_METHODS.1 (a.g.con 0 _ _ rfl))))))
    (sts_nil)
def st_2 : Stmt := (topS 13)
theorem sc_2 : FnScope ["value"] ["value"] (defScope st_2) := ⟨rfl, rfl, rfl, by decide +kernel, rfl, by decide +kernel, by decide +kernel⟩
/-- look_at_method -/
theorem d_2 {k r : Nat} {fd : FuncData} (g : GF PySem.Challenge.pw_answersby_k88_bodies_written w K mg base (NZ K) PZ TZ consZ frsZ) (Fd : FunD K "look_at_method" "look_at_method" (defArgs st_2) (defBody st_2) (defScope st_2) [] [] ((NZ K).fn 2) fd) (ft : FT PySem.Challenge.pw_answersby_k88_bodies_written w K mg base (NZ K) PZ.fx TZ.fns.length (run PZ k) (r + 2)) (fm : FT PySem.Challenge.pw_answersby_k88_bodies_written w K mg base (NZ K) PZ.fx TZ.fns.length (run PZ (k - 1)) (r + 1)) :
    FnOk PySem.Challenge.pw_answersby_k88_bodies_written w K mg base (cxm PySem.Challenge.pw_answersby_k88_bodies_written w (mdZ 2)) (r + 3) ((NZ K).fn 2) fd ["value"] (spF K w (NZ K) PZ.fx (run PZ (k + 1) 2)) :=
  fn_go (f := 2) (F := F_2) (names := ["value"]) (ps := ["value"]) Fd sc_2 rfl rfl rfl g ft fm fun cdv A outer s0 H0 E0 a po poAt =>
  have S := sc_2
  sts_cons (st_if (s_ptNot (s_pt (fun _ => rfl) (s_call a.b (by decide) (show mdZ 1 = true → mdZ 2 = true from by decide) rfl (a.g.fns 1 _ rfl) (s_cons (s_var (i := 0) rfl (.inl rfl) nd_value.1 nd_value.2) (s_nil) rfl) nd_is_method.1 rfl rfl))) (sts_cons (st_rai rfl a.b a.xf rfl rfl (a.g.exc 1 _ rfl) (s_cons (s_var (i := 0) rfl (.inl rfl) nd_value.1 nd_value.2) (s_nil) rfl) nd_NoName.1 rfl rfl)
    (sts_nil)) (sts_nil))
    (sts_nil)
def st_3 : Stmt := (topS 14)
theorem sc_3 : FnScope ["method"] ["method"] (defScope st_3) := ⟨rfl, rfl, rfl, by decide +kernel, rfl, by decide +kernel, by decide +kernel⟩
/-- kind_of -/
theorem d_3 {k r : Nat} {fd : FuncData} (g : GF PySem.Challenge.pw_answersby_k88_bodies_written w K mg base (NZ K) PZ TZ consZ frsZ) (Fd : FunD K "kind_of" "kind_of" (defArgs st_3) (defBody st_3) (defScope st_3) [] [] ((NZ K).fn 3) fd) (ft : FT PySem.Challenge.pw_answersby_k88_bodies_written w K mg base (NZ K) PZ.fx TZ.fns.length (run PZ k) (r + 2)) (fm : FT PySem.Challenge.pw_answersby_k88_bodies_written w K mg base (NZ K) PZ.fx TZ.fns.length (run PZ (k - 1)) (r + 1)) :
    FnOk PySem.Challenge.pw_answersby_k88_bodies_written w K mg base (cxm PySem.Challenge.pw_answersby_k88_bodies_written w (mdZ 3)) (r + 3) ((NZ K).fn 3) fd ["method"] (spF K w (NZ K) PZ.fx (run PZ (k + 1) 3)) :=
  fn_go (f := 3) (F := F_3) (names := ["method"]) (ps := ["method"]) Fd sc_3 rfl rfl rfl g ft fm fun cdv A outer s0 H0 E0 a po poAt =>
  have S := sc_3
  sts_cons (st_ex (s_call a.b (by decide) (show mdZ 2 = true → mdZ 3 = true from by decide) rfl (a.g.fns 2 _ rfl) (s_cons (s_var (i := 0) rfl (.inl rfl) nd_method.1 nd_method.2) (s_nil) rfl) nd_look_at_method.1 rfl rfl) rfl)
    (sts_cons (st_ret (s_ix a.hu (s_g rfl nd_KINDS.1 (a.g.con 2 _ _ rfl)) (s_var (i := 0) rfl (.inl rfl) nd_method.1 nd_method.2) (fun _ _ => rfl)))
    (sts_nil))
def st_4 : Stmt := (topS 15)
theorem sc_4 : FnScope ["method"] ["method"] (defScope st_4) := ⟨rfl, rfl, rfl, by decide +kernel, rfl, by decide +kernel, by decide +kernel⟩
/-- takes_other -/
theorem d_4 {k r : Nat} {fd : FuncData} (g : GF PySem.Challenge.pw_answersby_k88_bodies_written w K mg base (NZ K) PZ TZ consZ frsZ) (Fd : FunD K "takes_other" "takes_other" (defArgs st_4) (defBody st_4) (defScope st_4) [] [] ((NZ K).fn 4) fd) (ft : FT PySem.Challenge.pw_answersby_k88_bodies_written w K mg base (NZ K) PZ.fx TZ.fns.length (run PZ k) (r + 2)) (fm : FT PySem.Challenge.pw_answersby_k88_bodies_written w K mg base (NZ K) PZ.fx TZ.fns.length (run PZ (k - 1)) (r + 1)) :
    FnOk PySem.Challenge.pw_answersby_k88_bodies_written w K mg base (cxm PySem.Challenge.pw_answersby_k88_bodies_written w (mdZ 4)) (r + 3) ((NZ K).fn 4) fd ["method"] (spF K w (NZ K) PZ.fx (run PZ (k + 1) 4)) :=
  fn_go (f := 4) (F := F_4) (names := ["method"]) (ps := ["method"]) Fd sc_4 rfl rfl rfl g ft fm fun cdv A outer s0 H0 E0 a po poAt =>
  have S := sc_4
  sts_cons (st_ex (s_call a.b (by decide) (show mdZ 2 = true → mdZ 4 = true from by decide) rfl (a.g.fns 2 _ rfl) (s_cons (s_var (i := 0) rfl (.inl rfl) nd_method.1 nd_method.2) (s_nil) rfl) nd_look_at_method.1 rfl rfl) rfl)
    (sts_cons (st_ret (s_cmp (rCmp_op (by decide) (by decide) (o_in a.hu)) rfl (s_var (i := 0) rfl (.inl rfl) nd_method.1 nd_method.2) (s_g rfl nd_TAKING.1 (a.g.con 3 _ _ rfl))))
    (sts_nil))
def st_5 : Stmt := (topS 16)
theorem sc_5 : FnScope ["method"] ["method"] (defScope st_5) := ⟨rfl, rfl, rfl, by decide +kernel, rfl, by decide +kernel, by decide +kernel⟩
/-- may_decline -/
theorem d_5 {k r : Nat} {fd : FuncData} (g : GF PySem.Challenge.pw_answersby_k88_bodies_written w K mg base (NZ K) PZ TZ consZ frsZ) (Fd : FunD K "may_decline" "may_decline" (defArgs st_5) (defBody st_5) (defScope st_5) [] [] ((NZ K).fn 5) fd) (ft : FT PySem.Challenge.pw_answersby_k88_bodies_written w K mg base (NZ K) PZ.fx TZ.fns.length (run PZ k) (r + 2)) (fm : FT PySem.Challenge.pw_answersby_k88_bodies_written w K mg base (NZ K) PZ.fx TZ.fns.length (run PZ (k - 1)) (r + 1)) :
    FnOk PySem.Challenge.pw_answersby_k88_bodies_written w K mg base (cxm PySem.Challenge.pw_answersby_k88_bodies_written w (mdZ 5)) (r + 3) ((NZ K).fn 5) fd ["method"] (spF K w (NZ K) PZ.fx (run PZ (k + 1) 5)) :=
  fn_go (f := 5) (F := F_5) (names := ["method"]) (ps := ["method"]) Fd sc_5 rfl rfl rfl g ft fm fun cdv A outer s0 H0 E0 a po poAt =>
  have S := sc_5
  sts_cons (st_ex (s_call a.b (by decide) (show mdZ 2 = true → mdZ 5 = true from by decide) rfl (a.g.fns 2 _ rfl) (s_cons (s_var (i := 0) rfl (.inl rfl) nd_method.1 nd_method.2) (s_nil) rfl) nd_look_at_method.1 rfl rfl) rfl)
    (sts_cons (st_ret (s_cmp (rCmp_op (by decide) (by decide) (o_in a.hu)) rfl (s_var (i := 0) rfl (.inl rfl) nd_method.1 nd_method.2) (s_g rfl nd_DECLINING.1 (a.g.con 4 _ _ rfl))))
    (sts_nil))
def st_6 : Stmt := (topS 23)
theorem sc_6 : FnScope ["method", "value"] ["method", "value"] (defScope st_6) := ⟨rfl, rfl, rfl, by decide +kernel, rfl, by decide +kernel, by decide +kernel⟩
/-- is_role -/
theorem d_6 {k r : Nat} {fd : FuncData} (g : GF PySem.Challenge.pw_answersby_k88_bodies_written w K mg base (NZ K) PZ TZ consZ frsZ) (Fd : FunD K "is_role" "is_role" (defArgs st_6) (defBody st_6) (defScope st_6) [] [] ((NZ K).fn 6) fd) (ft : FT PySem.Challenge.pw_answersby_k88_bodies_written w K mg base (NZ K) PZ.fx TZ.fns.length (run PZ k) (r + 2)) (fm : FT PySem.Challenge.pw_answersby_k88_bodies_written w K mg base (NZ K) PZ.fx TZ.fns.length (run PZ (k - 1)) (r + 1)) :
    FnOk PySem.Challenge.pw_answersby_k88_bodies_written w K mg base (cxm PySem.Challenge.pw_answersby_k88_bodies_written w (mdZ 6)) (r + 3) ((NZ K).fn 6) fd ["method", "value"] (spF K w (NZ K) PZ.fx (run PZ (k + 1) 6)) :=
  fn_go (f := 6) (F := F_6) (names := ["method", "value"]) (ps := ["method", "value"]) Fd sc_6 rfl rfl rfl g ft fm fun cdv A outer s0 H0 E0 a po poAt =>
  have S := sc_6
  sts_cons (st_if (s_ptNot (s_pt (fun _ => rfl) (s_isi a.pf trivial rfl (a.g.fre 0 _ rfl) (s_var (i := 1) rfl (.inl rfl) nd_value.1 nd_value.2) (pe_bltn rfl (a.g.fre 3 _ rfl) bt_str rfl) rfl rfl rfl))) (sts_cons (st_ret (s_bl))
    (sts_nil)) (sts_nil))
    (sts_cons (st_ret (s_or (s_cmp (o_eqOwn a.b a.mf mdM (by decide) a.pf a.ef) rfl (s_var (i := 1) rfl (.inl rfl) nd_value.1 nd_value.2) (s_str (by decide +kernel))) (s_bo1 (s_and (s_cmp (o_eqOwn a.b a.mf mdM (by decide) a.pf a.ef) rfl (s_var (i := 1) rfl (.inl rfl) nd_value.1 nd_value.2) (s_str (by decide +kernel))) (s_bo1 (s_call a.b (by decide) (show mdZ 4 = true → mdZ 6 = true from by decide) rfl (a.g.fns 4 _ rfl) (s_cons (s_var (i := 0) rfl (.inl rfl) nd_method.1 nd_method.2) (s_nil) rfl) nd_takes_other.1 rfl rfl))))))
    (sts_nil))
def st_7 : Stmt := (topS 24)
theorem sc_7 : FnScope ["method", "parts", "role"] ["method", "parts"] (defScope st_7) := ⟨rfl, rfl, rfl, by decide +kernel, rfl, by decide +kernel, by decide +kernel⟩
/-- is_ask -/
theorem d_7 {k r : Nat} {fd : FuncData} (g : GF PySem.Challenge.pw_answersby_k88_bodies_written w K mg base (NZ K) PZ TZ consZ frsZ) (Fd : FunD K "is_ask" "is_ask" (defArgs st_7) (defBody st_7) (defScope st_7) [] [] ((NZ K).fn 7) fd) (ft : FT PySem.Challenge.pw_answersby_k88_bodies_written w K mg base (NZ K) PZ.fx TZ.fns.length (run PZ k) (r + 2)) (fm : FT PySem.Challenge.pw_answersby_k88_bodies_written w K mg base (NZ K) PZ.fx TZ.fns.length (run PZ (k - 1)) (r + 1)) :
    FnOk PySem.Challenge.pw_answersby_k88_bodies_written w K mg base (cxm PySem.Challenge.pw_answersby_k88_bodies_written w (mdZ 7)) (r + 3) ((NZ K).fn 7) fd ["method", "parts"] (spF K w (NZ K) PZ.fx (run PZ (k + 1) 7)) :=
  fn_go (f := 7) (F := F_7) (names := ["method", "parts", "role"]) (ps := ["method", "parts"]) Fd sc_7 rfl rfl rfl g ft fm fun cdv A outer s0 H0 E0 a po poAt =>
  have S := sc_7
  sts_cons (st_if (s_ptBo (s_pwOr (s_ptCmp (o_eqOwn a.b a.mf mdM (by decide) a.pf a.ef) rfl (s_var (i := 1) rfl (.inl rfl) nd_parts.1 nd_parts.2) (s_tup (show 0 ≤ 1000 from by decide) (s_nil))) (s_pwOr1 (s_ptNot (s_pt (fun _ => rfl) (s_isi a.pf trivial rfl (a.g.fre 0 _ rfl) (s_ix a.hu (s_var (i := 1) rfl (.inl rfl) nd_parts.1 nd_parts.2) (s_int) (fun _ _ => rfl)) (pe_bltn rfl (a.g.fre 3 _ rfl) bt_str rfl) rfl rfl rfl)))))) (sts_cons (st_ret (s_bl))
    (sts_nil)) (sts_nil))
    (sts_cons (st_if (s_ptCmp (o_neOwn a.b a.mf mdM (by decide) a.pf a.ef) rfl (s_lc (own := [("role", 2)]) rfl S.nd (by decide) (s_sq (s_slc (s_var (i := 1) rfl (.inl rfl) nd_parts.1 nd_parts.2) (.inr ⟨_, _, rfl, rfl, s_int, rfl⟩) (.inl ⟨rfl, rfl, rfl⟩))) (blkOk_by (N := ["method", "parts", "role"]) (sc := defScope st_7) (by decide +kernel)) (fun s H C cl fp => pg_name (i := 2) S.nd rfl (.inl rfl) (.inr rfl)) (fun s H C cl fp => tc_some (s_ptNot (s_pt (fun _ => rfl) (s_call (a.blk s H _ _ fp).b (by decide) (show mdZ 6 = true → mdZ 7 = true from by decide) rfl ((a.blk s H _ _ fp).g.fns 6 _ rfl) (s_cons (s_var (i := 0) rfl (.inr (.inl rfl)) nd_method.1 nd_method.2) (s_cons (s_var (i := 2) rfl (.inl rfl) nd_role.1 nd_role.2) (s_nil) rfl) rfl) nd_is_role.1 rfl rfl)))) (fun s H C cl fp => s_var (i := 2) rfl (.inl rfl) nd_role.1 nd_role.2) (fun _ => rfl)) (s_lst (show 0 ≤ 1000 from by decide) (s_nil))) (sts_cons (st_ret (s_bl))
    (sts_nil)) (sts_nil))
    (sts_cons (st_if (s_ptCmp (rCmp_op (by decide) (by decide) (o_in a.hu)) rfl (s_ix a.hu (s_var (i := 1) rfl (.inl rfl) nd_parts.1 nd_parts.2) (s_int) (fun _ _ => rfl)) (s_g rfl nd_ASKED_OF_ONE.1 (a.g.con 8 _ _ rfl))) (sts_cons (st_ret (s_cmp (o_eqOwn a.b a.mf mdM (by decide) a.pf a.ef) rfl (s_bi (fun _ h => pe_callB b_len rfl (a.g.fre 4 _ rfl) bt_len h) (s_cons (s_var (i := 1) rfl (.inl rfl) nd_parts.1 nd_parts.2) (s_nil) rfl)) (s_int)))
    (sts_nil)) (sts_nil))
    (sts_cons (st_ret (s_and (s_cmp (rCmp_op (by decide) (by decide) (o_in a.hu)) rfl (s_ix a.hu (s_var (i := 1) rfl (.inl rfl) nd_parts.1 nd_parts.2) (s_int) (fun _ _ => rfl)) (s_g rfl nd_ASKED_OF_TWO.1 (a.g.con 9 _ _ rfl))) (s_and (s_cmp (o_eqOwn a.b a.mf mdM (by decide) a.pf a.ef) rfl (s_bi (fun _ h => pe_callB b_len rfl (a.g.fre 4 _ rfl) bt_len h) (s_cons (s_var (i := 1) rfl (.inl rfl) nd_parts.1 nd_parts.2) (s_nil) rfl)) (s_int)) (s_bo1 (s_cmp (o_neOwn a.b a.mf mdM (by decide) a.pf a.ef) rfl (s_ix a.hu (s_var (i := 1) rfl (.inl rfl) nd_parts.1 nd_parts.2) (s_int) (fun _ _ => rfl)) (s_ix a.hu (s_var (i := 1) rfl (.inl rfl) nd_parts.1 nd_parts.2) (s_int) (fun _ _ => rfl)))))))
    (sts_nil))))
def st_8 : Stmt := (topS 25)
theorem sc_8 : FnScope ["method", "value", "at_tail", "word"] ["method", "value", "at_tail"] (defScope st_8) := ⟨rfl, rfl, rfl, by decide +kernel, rfl, by decide +kernel, by decide +kernel⟩
/-- is_node -/
theorem d_8 {k r : Nat} {fd : FuncData} (g : GF PySem.Challenge.pw_answersby_k88_bodies_written w K mg base (NZ K) PZ TZ consZ frsZ) (Fd : FunD K "is_node" "is_node" (defArgs st_8) (defBody st_8) (defScope st_8) [] [] ((NZ K).fn 8) fd) (ft : FT PySem.Challenge.pw_answersby_k88_bodies_written w K mg base (NZ K) PZ.fx TZ.fns.length (run PZ k) (r + 2)) (fm : FT PySem.Challenge.pw_answersby_k88_bodies_written w K mg base (NZ K) PZ.fx TZ.fns.length (run PZ (k - 1)) (r + 1)) :
    FnOk PySem.Challenge.pw_answersby_k88_bodies_written w K mg base (cxm PySem.Challenge.pw_answersby_k88_bodies_written w (mdZ 8)) (r + 3) ((NZ K).fn 8) fd ["method", "value", "at_tail"] (spF K w (NZ K) PZ.fx (run PZ (k + 1) 8)) :=
  fn_go (f := 8) (F := F_8) (names := ["method", "value", "at_tail", "word"]) (ps := ["method", "value", "at_tail"]) Fd sc_8 rfl rfl rfl g ft fm fun cdv A outer s0 H0 E0 a po poAt =>
  have S := sc_8
  sts_cons (st_if (s_ptBo (s_pwOr (s_ptNot (s_pt (fun _ => rfl) (s_isi a.pf trivial rfl (a.g.fre 0 _ rfl) (s_var (i := 1) rfl (.inl rfl) nd_value.1 nd_value.2) (pe_bltn rfl (a.g.fre 5 _ rfl) bt_tuple rfl) rfl rfl rfl))) (s_pwOr (s_ptCmp (o_eqOwn a.b a.mf mdM (by decide) a.pf a.ef) rfl (s_var (i := 1) rfl (.inl rfl) nd_value.1 nd_value.2) (s_tup (show 0 ≤ 1000 from by decide) (s_nil))) (s_pwOr1 (s_ptNot (s_pt (fun _ => rfl) (s_isi a.pf trivial rfl (a.g.fre 0 _ rfl) (s_ix a.hu (s_var (i := 1) rfl (.inl rfl) nd_value.1 nd_value.2) (s_int) (fun _ _ => rfl)) (pe_bltn rfl (a.g.fre 3 _ rfl) bt_str rfl) rfl rfl rfl))))))) (sts_cons (st_ret (s_bl))
    (sts_nil)) (sts_nil))
    (sts_cons (st_setN (i := 3) S.nd rfl (.inl rfl) (.inr rfl) (s_ix a.hu (s_var (i := 1) rfl (.inl rfl) nd_value.1 nd_value.2) (s_int) (fun _ _ => rfl)) rfl)
    (sts_cons (st_if (s_ptCmp (o_eqOwn a.b a.mf mdM (by decide) a.pf a.ef) rfl (s_var (i := 3) rfl (.inl rfl) nd_word.1 nd_word.2) (s_str (by decide +kernel))) (sts_cons (st_ret (s_call a.b (by decide) (show mdZ 7 = true → mdZ 8 = true from by decide) rfl (a.g.fns 7 _ rfl) (s_cons (s_var (i := 0) rfl (.inl rfl) nd_method.1 nd_method.2) (s_cons (s_slc (s_var (i := 1) rfl (.inl rfl) nd_value.1 nd_value.2) (.inr ⟨_, _, rfl, rfl, s_int, rfl⟩) (.inl ⟨rfl, rfl, rfl⟩)) (s_nil) rfl) rfl) nd_is_ask.1 rfl rfl))
    (sts_nil)) (sts_nil))
    (sts_cons (st_if (s_ptCmp (o_neOwn a.b a.mf mdM (by decide) a.pf a.ef) rfl (s_bm (by decide) PySem.F.plainAttrs_dict PySem.F.slot_dict_get PySem.F.type_dict_get (m_get2 a.hu) (s_g rfl nd_SIZES.1 (a.g.con 7 _ _ rfl)) (s_cons (s_var (i := 3) rfl (.inl rfl) nd_word.1 nd_word.2) (s_cons (s_int) (s_nil) rfl) rfl) rfl rfl rfl rfl rfl) (s_bi (fun _ h => pe_callB b_len rfl (a.g.fre 4 _ rfl) bt_len h) (s_cons (s_var (i := 1) rfl (.inl rfl) nd_value.1 nd_value.2) (s_nil) rfl))) (sts_cons (st_ret (s_bl))
    (sts_nil)) (sts_nil))
    (sts_cons (st_if (s_ptCmp (o_eqOwn a.b a.mf mdM (by decide) a.pf a.ef) rfl (s_var (i := 3) rfl (.inl rfl) nd_word.1 nd_word.2) (s_str (by decide +kernel))) (sts_cons (st_ret (s_call a.b (by decide) (show mdZ 0 = true → mdZ 8 = true from by decide) rfl (a.g.fns 0 _ rfl) (s_cons (s_ix a.hu (s_var (i := 1) rfl (.inl rfl) nd_value.1 nd_value.2) (s_int) (fun _ _ => rfl)) (s_cons (s_int) (s_cons (s_g rfl nd_MOST_COUNT.1 (a.g.con 1 _ _ rfl)) (s_nil) rfl) rfl) rfl) nd_is_number.1 rfl rfl))
    (sts_nil)) (sts_nil))
    (sts_cons (st_if (s_ptCmp (o_eqOwn a.b a.mf mdM (by decide) a.pf a.ef) rfl (s_var (i := 3) rfl (.inl rfl) nd_word.1 nd_word.2) (s_str (by decide +kernel))) (sts_cons (st_ret (s_and (s_var (i := 2) rfl (.inl rfl) nd_at_tail.1 nd_at_tail.2) (s_bo1 (s_call a.b (by decide) (show mdZ 5 = true → mdZ 8 = true from by decide) rfl (a.g.fns 5 _ rfl) (s_cons (s_var (i := 0) rfl (.inl rfl) nd_method.1 nd_method.2) (s_nil) rfl) nd_may_decline.1 rfl rfl))))
    (sts_nil)) (sts_nil))
    (sts_cons (st_ret (s_or (s_cmp (o_neOwn a.b a.mf mdM (by decide) a.pf a.ef) rfl (s_var (i := 3) rfl (.inl rfl) nd_word.1 nd_word.2) (s_str (by decide +kernel))) (s_bo1 (s_var (i := 2) rfl (.inl rfl) nd_at_tail.1 nd_at_tail.2))))
    (sts_nil)))))))
def st_9 : Stmt := (topS 26)
theorem sc_9 : FnScope ["method", "value", "depth", "at_tail", "nodes", "place", "parts", "at", "part"] ["method", "value", "depth", "at_tail", "nodes"] (defScope st_9) := ⟨rfl, rfl, rfl, by decide +kernel, rfl, by decide +kernel, by decide +kernel⟩
/-- lay_node -/
theorem d_9 {k r : Nat} {fd : FuncData} (g : GF PySem.Challenge.pw_answersby_k88_bodies_written w K mg base (NZ K) PZ TZ consZ frsZ) (Fd : FunD K "lay_node" "lay_node" (defArgs st_9) (defBody st_9) (defScope st_9) [] [] ((NZ K).fn 9) fd) (ft : FT PySem.Challenge.pw_answersby_k88_bodies_written w K mg base (NZ K) PZ.fx TZ.fns.length (run PZ k) (r + 2)) (fm : FT PySem.Challenge.pw_answersby_k88_bodies_written w K mg base (NZ K) PZ.fx TZ.fns.length (run PZ (k - 1)) (r + 1)) :
    FnOk PySem.Challenge.pw_answersby_k88_bodies_written w K mg base (cxm PySem.Challenge.pw_answersby_k88_bodies_written w (mdZ 9)) (r + 3) ((NZ K).fn 9) fd ["method", "value", "depth", "at_tail", "nodes"] (spF K w (NZ K) PZ.fx (run PZ (k + 1) 9)) :=
  fn_go (f := 9) (F := F_9) (names := ["method", "value", "depth", "at_tail", "nodes", "place", "parts", "at", "part"]) (ps := ["method", "value", "depth", "at_tail", "nodes"]) Fd sc_9 rfl rfl rfl g ft fm fun cdv A outer s0 H0 E0 a po poAt =>
  have S := sc_9
  sts_cons (st_setN (i := 5) S.nd rfl (.inl rfl) (.inr rfl) (s_bi (fun _ h => pe_callB b_len rfl (a.g.fre 4 _ rfl) bt_len h) (s_cons (s_var (i := 4) rfl (.inl rfl) nd_nodes.1 nd_nodes.2) (s_nil) rfl)) rfl)
    (sts_cons (st_if (s_ptBo (s_pwOr (s_ptCmp (o_eqOwn a.b a.mf mdM (by decide) a.pf a.ef) rfl (s_var (i := 5) rfl (.inl rfl) nd_place.1 nd_place.2) (s_g rfl nd_MOST_NODES.1 (a.g.con 6 _ _ rfl))) (s_pwOr (s_ptCmp (rCmp_op (by decide) (by decide) o_gt) rfl (s_var (i := 2) rfl (.inl rfl) nd_depth.1 nd_depth.2) (s_g rfl nd_MOST_DEEP.1 (a.g.con 5 _ _ rfl))) (s_pwOr1 (s_ptNot (s_pt (fun _ => rfl) (s_call a.b (by decide) (show mdZ 8 = true → mdZ 9 = true from by decide) rfl (a.g.fns 8 _ rfl) (s_cons (s_var (i := 0) rfl (.inl rfl) nd_method.1 nd_method.2) (s_cons (s_var (i := 1) rfl (.inl rfl) nd_value.1 nd_value.2) (s_cons (s_var (i := 3) rfl (.inl rfl) nd_at_tail.1 nd_at_tail.2) (s_nil) rfl) rfl) rfl) nd_is_node.1 rfl rfl))))))) (sts_cons (st_rai rfl a.b a.xf rfl rfl (a.g.exc 2 _ rfl) (s_cons (s_var (i := 5) rfl (.inl rfl) nd_place.1 nd_place.2) (s_nil) rfl) nd_NoBody.1 rfl rfl)
    (sts_nil)) (sts_nil))
    (sts_cons (st_ex (s_bm (by decide) PySem.F.plainAttrs_list PySem.F.slot_list_append PySem.F.type_list_append m_append (s_var (i := 4) rfl (.inl rfl) nd_nodes.1 nd_nodes.2) (s_cons (s_var (i := 1) rfl (.inl rfl) nd_value.1 nd_value.2) (s_nil) rfl) rfl rfl rfl rfl rfl) rfl)
    (sts_cons (st_if (s_ptCmp (rCmp_op (by decide) (by decide) (o_notin a.hu)) rfl (s_ix a.hu (s_var (i := 1) rfl (.inl rfl) nd_value.1 nd_value.2) (s_int) (fun _ _ => rfl)) (s_tup (show 2 ≤ 1000 from by decide) (s_cons (s_str (by decide +kernel)) (s_cons (s_str (by decide +kernel)) (s_nil) rfl) rfl))) (sts_cons (st_ret (s_var (i := 5) rfl (.inl rfl) nd_place.1 nd_place.2))
    (sts_nil)) (sts_nil))
    (sts_cons (st_setN (i := 6) S.nd rfl (.inl rfl) (.inr rfl) (s_lst (show 0 ≤ 1000 from by decide) (s_nil)) rfl)
    (sts_cons (st_for po rfl (s_en rfl (a.g.fre 6 _ rfl) (s_cons (s_slc (s_var (i := 1) rfl (.inl rfl) nd_value.1 nd_value.2) (.inr ⟨_, _, rfl, rfl, s_int, rfl⟩) (.inl ⟨rfl, rfl, rfl⟩)) (s_nil) rfl) rfl) (pg_tup rfl (pgs_cons (pg_name (i := 7) S.nd rfl (.inl rfl) (.inr rfl)) (pgs_cons (pg_name (i := 8) S.nd rfl (.inl rfl) (.inr rfl)) (pgs_nil)))) (sts_cons (st_ex (s_bm (by decide) PySem.F.plainAttrs_list PySem.F.slot_list_append PySem.F.type_list_append m_append (s_var (i := 6) rfl (.inl rfl) nd_parts.1 nd_parts.2) (s_cons (s_call a.b (by decide) (show mdZ 9 = true → mdZ 9 = true from by decide) rfl (a.g.fns 9 _ rfl) (s_cons (s_var (i := 0) rfl (.inl rfl) nd_method.1 nd_method.2) (s_cons (s_var (i := 8) rfl (.inl rfl) nd_part.1 nd_part.2) (s_cons (s_bin o_add (by decide) (by decide) (s_var (i := 2) rfl (.inl rfl) nd_depth.1 nd_depth.2) (s_int)) (s_cons (s_and (s_var (i := 3) rfl (.inl rfl) nd_at_tail.1 nd_at_tail.2) (s_bo1 (s_cmp (rCmp_op (by decide) (by decide) o_gt) rfl (s_var (i := 7) rfl (.inl rfl) nd_at.1 nd_at.2) (s_int)))) (s_cons (s_var (i := 4) rfl (.inl rfl) nd_nodes.1 nd_nodes.2) (s_nil) rfl) rfl) rfl) rfl) rfl) nd_lay_node.1 rfl rfl) (s_nil) rfl) rfl rfl rfl rfl rfl) rfl)
    (sts_nil)) (fun _ => rfl))
    (sts_cons (st_six a.hu (s_var (i := 4) rfl (.inl rfl) nd_nodes.1 nd_nodes.2) (s_var (i := 5) rfl (.inl rfl) nd_place.1 nd_place.2) (s_bin o_add (by decide) (by decide) (s_tup (show 1 ≤ 1000 from by decide) (s_cons (s_ix a.hu (s_var (i := 1) rfl (.inl rfl) nd_value.1 nd_value.2) (s_int) (fun _ _ => rfl)) (s_nil) rfl)) (s_bi (fun _ h => pe_callTy b_tuple rfl (a.g.fre 5 _ rfl) bt_tuple h) (s_cons (s_var (i := 6) rfl (.inl rfl) nd_parts.1 nd_parts.2) (s_nil) rfl))) (fun _ => rfl) rfl rfl rfl)
    (sts_cons (st_ret (s_var (i := 5) rfl (.inl rfl) nd_place.1 nd_place.2))
    (sts_nil))))))))
def st_10 : Stmt := (topS 32)
theorem sc_10 : FnScope ["expression", "found", "part"] ["expression"] (defScope st_10) := ⟨rfl, rfl, rfl, by decide +kernel, rfl, by decide +kernel, by decide +kernel⟩
/-- words_of -/
theorem d_10 {k r : Nat} {fd : FuncData} (g : GF PySem.Challenge.pw_answersby_k88_bodies_written w K mg base (NZ K) PZ TZ consZ frsZ) (Fd : FunD K "words_of" "words_of" (defArgs st_10) (defBody st_10) (defScope st_10) [] [] ((NZ K).fn 10) fd) (ft : FT PySem.Challenge.pw_answersby_k88_bodies_written w K mg base (NZ K) PZ.fx TZ.fns.length (run PZ k) (r + 2)) (fm : FT PySem.Challenge.pw_answersby_k88_bodies_written w K mg base (NZ K) PZ.fx TZ.fns.length (run PZ (k - 1)) (r + 1)) :
    FnOk PySem.Challenge.pw_answersby_k88_bodies_written w K mg base (cxm PySem.Challenge.pw_answersby_k88_bodies_written w (mdZ 10)) (r + 3) ((NZ K).fn 10) fd ["expression"] (spF K w (NZ K) PZ.fx (run PZ (k + 1) 10)) :=
  fn_go (f := 10) (F := F_10) (names := ["expression", "found", "part"]) (ps := ["expression"]) Fd sc_10 rfl rfl rfl g ft fm fun cdv A outer s0 H0 E0 a po poAt =>
  have S := sc_10
  sts_cons (st_setN (i := 1) S.nd rfl (.inl rfl) (.inr rfl) (s_lst (show 0 ≤ 1000 from by decide) (s_nil)) rfl)
    (sts_cons (st_for po rfl (s_sq (s_var (i := 0) rfl (.inl rfl) nd_expression.1 nd_expression.2)) (pg_name (i := 2) S.nd rfl (.inl rfl) (.inr rfl)) (sts_cons (st_if (s_pt (fun _ => rfl) (s_isi a.pf trivial rfl (a.g.fre 0 _ rfl) (s_var (i := 2) rfl (.inl rfl) nd_part.1 nd_part.2) (pe_bltn rfl (a.g.fre 5 _ rfl) bt_tuple rfl) rfl rfl rfl)) (sts_cons (st_ex (s_bm (by decide) PySem.F.plainAttrs_list PySem.F.slot_list_extend PySem.F.type_list_extend m_extend (s_var (i := 1) rfl (.inl rfl) nd_found.1 nd_found.2) (s_cons (s_call a.b (by decide) (show mdZ 10 = true → mdZ 10 = true from by decide) rfl (a.g.fns 10 _ rfl) (s_cons (s_var (i := 2) rfl (.inl rfl) nd_part.1 nd_part.2) (s_nil) rfl) nd_words_of.1 rfl rfl) (s_nil) rfl) rfl rfl rfl rfl rfl) rfl)
    (sts_nil)) (sts_cons (st_ex (s_bm (by decide) PySem.F.plainAttrs_list PySem.F.slot_list_append PySem.F.type_list_append m_append (s_var (i := 1) rfl (.inl rfl) nd_found.1 nd_found.2) (s_cons (s_bi (fun _ h => pe_callTy b_str rfl (a.g.fre 3 _ rfl) bt_str h) (s_cons (s_var (i := 2) rfl (.inl rfl) nd_part.1 nd_part.2) (s_nil) rfl)) (s_nil) rfl) rfl rfl rfl rfl rfl) rfl)
    (sts_nil)))
    (sts_nil)) (fun _ => rfl))
    (sts_cons (st_ret (s_var (i := 1) rfl (.inl rfl) nd_found.1 nd_found.2))
    (sts_nil)))
def st_11 : Stmt := (topS 33)
theorem sc_11 : FnScope ["body"] ["body"] (defScope st_11) := ⟨rfl, rfl, rfl, by decide +kernel, rfl, by decide +kernel, by decide +kernel⟩
/-- write_body -/
theorem d_11 {k r : Nat} {fd : FuncData} (g : GF PySem.Challenge.pw_answersby_k88_bodies_written w K mg base (NZ K) PZ TZ consZ frsZ) (Fd : FunD K "write_body" "write_body" (defArgs st_11) (defBody st_11) (defScope st_11) [] [] ((NZ K).fn 11) fd) (ft : FT PySem.Challenge.pw_answersby_k88_bodies_written w K mg base (NZ K) PZ.fx TZ.fns.length (run PZ k) (r + 2)) (fm : FT PySem.Challenge.pw_answersby_k88_bodies_written w K mg base (NZ K) PZ.fx TZ.fns.length (run PZ (k - 1)) (r + 1)) :
    FnOk PySem.Challenge.pw_answersby_k88_bodies_written w K mg base (cxm PySem.Challenge.pw_answersby_k88_bodies_written w (mdZ 11)) (r + 3) ((NZ K).fn 11) fd ["body"] (spF K w (NZ K) PZ.fx (run PZ (k + 1) 11)) :=
  fn_go (f := 11) (F := F_11) (names := ["body"]) (ps := ["body"]) Fd sc_11 rfl rfl rfl g ft fm fun cdv A outer s0 H0 E0 a po poAt =>
  have S := sc_11
  sts_cons (st_ret (s_bm (by decide) PySem.F.plainAttrs_str PySem.F.slot_str_join PySem.F.type_str_join m_join (s_str (by decide +kernel)) (s_cons (s_call a.b (by decide) (show mdZ 10 = true → mdZ 11 = true from by decide) rfl (a.g.fns 10 _ rfl) (s_cons (s_at a.pf (by decide) rfl (s_var (i := 0) rfl (.inl rfl) nd_body.1 nd_body.2) rfl) (s_nil) rfl) nd_words_of.1 rfl rfl) (s_nil) rfl) rfl rfl rfl rfl rfl))
    (sts_nil)
def st_12 : Stmt := (topS 34)
theorem sc_12 : FnScope ["words", "at", "many", "found", "number", "read"] ["words", "at", "many"] (defScope st_12) := ⟨rfl, rfl, rfl, by decide +kernel, rfl, by decide +kernel, by decide +kernel⟩
/-- read_parts -/
theorem d_12 {k r : Nat} {fd : FuncData} (g : GF PySem.Challenge.pw_answersby_k88_bodies_written w K mg base (NZ K) PZ TZ consZ frsZ) (Fd : FunD K "read_parts" "read_parts" (defArgs st_12) (defBody st_12) (defScope st_12) [] [] ((NZ K).fn 12) fd) (ft : FT PySem.Challenge.pw_answersby_k88_bodies_written w K mg base (NZ K) PZ.fx TZ.fns.length (run PZ k) (r + 2)) (fm : FT PySem.Challenge.pw_answersby_k88_bodies_written w K mg base (NZ K) PZ.fx TZ.fns.length (run PZ (k - 1)) (r + 1)) :
    FnOk PySem.Challenge.pw_answersby_k88_bodies_written w K mg base (cxm PySem.Challenge.pw_answersby_k88_bodies_written w (mdZ 12)) (r + 3) ((NZ K).fn 12) fd ["words", "at", "many"] (spF K w (NZ K) PZ.fx (run PZ (k + 1) 12)) :=
  fn_go (f := 12) (F := F_12) (names := ["words", "at", "many", "found", "number", "read"]) (ps := ["words", "at", "many"]) Fd sc_12 rfl rfl rfl g ft fm fun cdv A outer s0 H0 E0 a po poAt =>
  have S := sc_12
  sts_cons (st_setN (i := 3) S.nd rfl (.inl rfl) (.inr rfl) (s_lst (show 0 ≤ 1000 from by decide) (s_nil)) rfl)
    (sts_cons (st_for po rfl (s_rg rfl (a.g.fre 7 _ rfl) (s_cons (s_var (i := 2) rfl (.inl rfl) nd_many.1 nd_many.2) (s_nil) rfl) rfl) (pg_name (i := 4) S.nd rfl (.inl rfl) (.inr rfl)) (sts_cons (st_setN (i := 5) S.nd rfl (.inl rfl) (.inr rfl) (s_call a.b (by decide) (show mdZ 13 = true → mdZ 12 = true from by decide) rfl (a.g.fns 13 _ rfl) (s_cons (s_var (i := 0) rfl (.inl rfl) nd_words.1 nd_words.2) (s_cons (s_var (i := 1) rfl (.inl rfl) nd_at.1 nd_at.2) (s_nil) rfl) rfl) nd_read_words.1 rfl rfl) rfl)
    (sts_cons (st_if (s_ptCmp (rCmp_op (by decide) (by decide) o_is) rfl (s_var (i := 5) rfl (.inl rfl) nd_read.1 nd_read.2) (s_non)) (sts_cons (st_ret (s_non))
    (sts_nil)) (sts_nil))
    (sts_cons (st_ex (s_bm (by decide) PySem.F.plainAttrs_list PySem.F.slot_list_append PySem.F.type_list_append m_append (s_var (i := 3) rfl (.inl rfl) nd_found.1 nd_found.2) (s_cons (s_ix a.hu (s_var (i := 5) rfl (.inl rfl) nd_read.1 nd_read.2) (s_int) (fun _ _ => rfl)) (s_nil) rfl) rfl rfl rfl rfl rfl) rfl)
    (sts_cons (st_setN (i := 1) S.nd rfl (.inl rfl) (.inr rfl) (s_ix a.hu (s_var (i := 5) rfl (.inl rfl) nd_read.1 nd_read.2) (s_int) (fun _ _ => rfl)) rfl)
    (sts_nil))))) (fun _ => rfl))
    (sts_cons (st_ret (s_tup (show 2 ≤ 1000 from by decide) (s_cons (s_bi (fun _ h => pe_callTy b_tuple rfl (a.g.fre 5 _ rfl) bt_tuple h) (s_cons (s_var (i := 3) rfl (.inl rfl) nd_found.1 nd_found.2) (s_nil) rfl)) (s_cons (s_var (i := 1) rfl (.inl rfl) nd_at.1 nd_at.2) (s_nil) rfl) rfl)))
    (sts_nil)))
def st_13 : Stmt := (topS 35)
theorem sc_13 : FnScope ["words", "at", "word", "beside", "later", "read"] ["words", "at"] (defScope st_13) := ⟨rfl, rfl, rfl, by decide +kernel, rfl, by decide +kernel, by decide +kernel⟩
/-- read_words -/
theorem d_13 {k r : Nat} {fd : FuncData} (g : GF PySem.Challenge.pw_answersby_k88_bodies_written w K mg base (NZ K) PZ TZ consZ frsZ) (Fd : FunD K "read_words" "read_words" (defArgs st_13) (defBody st_13) (defScope st_13) [] [] ((NZ K).fn 13) fd) (ft : FT PySem.Challenge.pw_answersby_k88_bodies_written w K mg base (NZ K) PZ.fx TZ.fns.length (run PZ k) (r + 2)) (fm : FT PySem.Challenge.pw_answersby_k88_bodies_written w K mg base (NZ K) PZ.fx TZ.fns.length (run PZ (k - 1)) (r + 1)) :
    FnOk PySem.Challenge.pw_answersby_k88_bodies_written w K mg base (cxm PySem.Challenge.pw_answersby_k88_bodies_written w (mdZ 13)) (r + 3) ((NZ K).fn 13) fd ["words", "at"] (spF K w (NZ K) PZ.fx (run PZ (k + 1) 13)) :=
  fn_go (f := 13) (F := F_13) (names := ["words", "at", "word", "beside", "later", "read"]) (ps := ["words", "at"]) Fd sc_13 rfl rfl rfl g ft fm fun cdv A outer s0 H0 E0 a po poAt =>
  have S := sc_13
  sts_cons (st_setN (i := 2) S.nd rfl (.inl rfl) (.inr rfl) (s_ife (s_ptCmp (rCmp_op (by decide) (by decide) o_lt) rfl (s_var (i := 1) rfl (.inl rfl) nd_at.1 nd_at.2) (s_bi (fun _ h => pe_callB b_len rfl (a.g.fre 4 _ rfl) bt_len h) (s_cons (s_var (i := 0) rfl (.inl rfl) nd_words.1 nd_words.2) (s_nil) rfl))) (s_ix a.hu (s_var (i := 0) rfl (.inl rfl) nd_words.1 nd_words.2) (s_var (i := 1) rfl (.inl rfl) nd_at.1 nd_at.2) (fun _ _ => rfl)) (s_str (by decide +kernel))) rfl)
    (sts_cons (st_setN (i := 3) S.nd rfl (.inl rfl) (.inr rfl) (s_ife (s_ptCmp (rCmp_op (by decide) (by decide) o_lt) rfl (s_bin o_add (by decide) (by decide) (s_var (i := 1) rfl (.inl rfl) nd_at.1 nd_at.2) (s_int)) (s_bi (fun _ h => pe_callB b_len rfl (a.g.fre 4 _ rfl) bt_len h) (s_cons (s_var (i := 0) rfl (.inl rfl) nd_words.1 nd_words.2) (s_nil) rfl))) (s_ix a.hu (s_var (i := 0) rfl (.inl rfl) nd_words.1 nd_words.2) (s_bin o_add (by decide) (by decide) (s_var (i := 1) rfl (.inl rfl) nd_at.1 nd_at.2) (s_int)) (fun _ _ => rfl)) (s_str (by decide +kernel))) rfl)
    (sts_cons (st_if (s_ptCmp (rCmp_op (by decide) (by decide) (o_in a.hu)) rfl (s_var (i := 2) rfl (.inl rfl) nd_word.1 nd_word.2) (s_g rfl nd_SINGLE.1 (a.g.con 11 _ _ rfl))) (sts_cons (st_ret (s_tup (show 2 ≤ 1000 from by decide) (s_cons (s_tup (show 1 ≤ 1000 from by decide) (s_cons (s_var (i := 2) rfl (.inl rfl) nd_word.1 nd_word.2) (s_nil) rfl)) (s_cons (s_bin o_add (by decide) (by decide) (s_var (i := 1) rfl (.inl rfl) nd_at.1 nd_at.2) (s_int)) (s_nil) rfl) rfl)))
    (sts_nil)) (sts_nil))
    (sts_cons (st_if (s_ptBo (s_pwAnd (s_ptCmp (o_eqOwn a.b a.mf mdM (by decide) a.pf a.ef) rfl (s_var (i := 2) rfl (.inl rfl) nd_word.1 nd_word.2) (s_str (by decide +kernel))) (s_pwAnd1 (s_ptCmp (rCmp_op (by decide) (by decide) (o_in a.hu)) rfl (s_var (i := 3) rfl (.inl rfl) nd_beside.1 nd_beside.2) (s_g rfl nd_DIGITS.1 (a.g.con 10 _ _ rfl)))))) (sts_cons (st_ret (s_tup (show 2 ≤ 1000 from by decide) (s_cons (s_tup (show 2 ≤ 1000 from by decide) (s_cons (s_var (i := 2) rfl (.inl rfl) nd_word.1 nd_word.2) (s_cons (s_bi (fun _ h => pe_callTy b_int rfl (a.g.fre 1 _ rfl) bt_int h) (s_cons (s_var (i := 3) rfl (.inl rfl) nd_beside.1 nd_beside.2) (s_nil) rfl)) (s_nil) rfl) rfl)) (s_cons (s_bin o_add (by decide) (by decide) (s_var (i := 1) rfl (.inl rfl) nd_at.1 nd_at.2) (s_int)) (s_nil) rfl) rfl)))
    (sts_nil)) (sts_nil))
    (sts_cons (st_if (s_ptCmp (o_eqOwn a.b a.mf mdM (by decide) a.pf a.ef) rfl (s_var (i := 2) rfl (.inl rfl) nd_word.1 nd_word.2) (s_str (by decide +kernel))) (sts_cons (st_setN (i := 4) S.nd rfl (.inl rfl) (.inr rfl) (s_ife (s_ptCmp (rCmp_op (by decide) (by decide) (o_in a.hu)) rfl (s_var (i := 3) rfl (.inl rfl) nd_beside.1 nd_beside.2) (s_g rfl nd_ASKED_OF_TWO.1 (a.g.con 9 _ _ rfl))) (s_bin o_add (by decide) (by decide) (s_var (i := 1) rfl (.inl rfl) nd_at.1 nd_at.2) (s_int)) (s_bin o_add (by decide) (by decide) (s_var (i := 1) rfl (.inl rfl) nd_at.1 nd_at.2) (s_int))) rfl)
    (sts_cons (st_ret (s_tup (show 2 ≤ 1000 from by decide) (s_cons (s_bi (fun _ h => pe_callTy b_tuple rfl (a.g.fre 5 _ rfl) bt_tuple h) (s_cons (s_slc (s_var (i := 0) rfl (.inl rfl) nd_words.1 nd_words.2) (.inr ⟨_, _, rfl, rfl, s_var (i := 1) rfl (.inl rfl) nd_at.1 nd_at.2, rfl⟩) (.inr ⟨_, _, rfl, rfl, s_var (i := 4) rfl (.inl rfl) nd_later.1 nd_later.2, rfl⟩)) (s_nil) rfl)) (s_cons (s_var (i := 4) rfl (.inl rfl) nd_later.1 nd_later.2) (s_nil) rfl) rfl)))
    (sts_nil))) (sts_nil))
    (sts_cons (st_if (s_ptCmp (rCmp_op (by decide) (by decide) (o_notin a.hu)) rfl (s_var (i := 2) rfl (.inl rfl) nd_word.1 nd_word.2) (s_tup (show 2 ≤ 1000 from by decide) (s_cons (s_str (by decide +kernel)) (s_cons (s_str (by decide +kernel)) (s_nil) rfl) rfl))) (sts_cons (st_ret (s_non))
    (sts_nil)) (sts_nil))
    (sts_cons (st_setN (i := 5) S.nd rfl (.inl rfl) (.inr rfl) (s_call a.b (by decide) (show mdZ 12 = true → mdZ 13 = true from by decide) rfl (a.g.fns 12 _ rfl) (s_cons (s_var (i := 0) rfl (.inl rfl) nd_words.1 nd_words.2) (s_cons (s_bin o_add (by decide) (by decide) (s_var (i := 1) rfl (.inl rfl) nd_at.1 nd_at.2) (s_int)) (s_cons (s_ife (s_ptCmp (o_eqOwn a.b a.mf mdM (by decide) a.pf a.ef) rfl (s_var (i := 2) rfl (.inl rfl) nd_word.1 nd_word.2) (s_str (by decide +kernel))) (s_int) (s_int)) (s_nil) rfl) rfl) rfl) nd_read_parts.1 rfl rfl) rfl)
    (sts_cons (st_ret (s_ife (s_ptCmp (rCmp_op (by decide) (by decide) o_is) rfl (s_var (i := 5) rfl (.inl rfl) nd_read.1 nd_read.2) (s_non)) (s_non) (s_tup (show 2 ≤ 1000 from by decide) (s_cons (s_bin o_add (by decide) (by decide) (s_tup (show 1 ≤ 1000 from by decide) (s_cons (s_var (i := 2) rfl (.inl rfl) nd_word.1 nd_word.2) (s_nil) rfl)) (s_ix a.hu (s_var (i := 5) rfl (.inl rfl) nd_read.1 nd_read.2) (s_int) (fun _ _ => rfl))) (s_cons (s_ix a.hu (s_var (i := 5) rfl (.inl rfl) nd_read.1 nd_read.2) (s_int) (fun _ _ => rfl)) (s_nil) rfl) rfl))))
    (sts_nil))))))))
def st_14 : Stmt := (topS 36)
theorem sc_14 : FnScope ["method", "text", "words", "read"] ["method", "text"] (defScope st_14) := ⟨rfl, rfl, rfl, by decide +kernel, rfl, by decide +kernel, by decide +kernel⟩
/-- read_body -/
theorem d_14 {k r : Nat} {fd : FuncData} (g : GF PySem.Challenge.pw_answersby_k88_bodies_written w K mg base (NZ K) PZ TZ consZ frsZ) (Fd : FunD K "read_body" "read_body" (defArgs st_14) (defBody st_14) (defScope st_14) [] [] ((NZ K).fn 14) fd) (ft : FT PySem.Challenge.pw_answersby_k88_bodies_written w K mg base (NZ K) PZ.fx TZ.fns.length (run PZ k) (r + 2)) (fm : FT PySem.Challenge.pw_answersby_k88_bodies_written w K mg base (NZ K) PZ.fx TZ.fns.length (run PZ (k - 1)) (r + 1)) :
    FnOk PySem.Challenge.pw_answersby_k88_bodies_written w K mg base (cxm PySem.Challenge.pw_answersby_k88_bodies_written w (mdZ 14)) (r + 3) ((NZ K).fn 14) fd ["method", "text"] (spF K w (NZ K) PZ.fx (run PZ (k + 1) 14)) :=
  fn_go (f := 14) (F := F_14) (names := ["method", "text", "words", "read"]) (ps := ["method", "text"]) Fd sc_14 rfl rfl rfl g ft fm fun cdv A outer s0 H0 E0 a po poAt =>
  have S := sc_14
  sts_cons (st_if (s_ptBo (s_pwOr (s_ptNot (s_pt (fun _ => rfl) (s_call a.b (by decide) (show mdZ 1 = true → mdZ 14 = true from by decide) rfl (a.g.fns 1 _ rfl) (s_cons (s_var (i := 0) rfl (.inl rfl) nd_method.1 nd_method.2) (s_nil) rfl) nd_is_method.1 rfl rfl))) (s_pwOr1 (s_ptCmp (rCmp_op (by decide) (by decide) (o_notin a.hu)) rfl (s_ix a.hu (s_g rfl nd_KINDS.1 (a.g.con 2 _ _ rfl)) (s_var (i := 0) rfl (.inl rfl) nd_method.1 nd_method.2) (fun _ _ => rfl)) (s_tup (show 2 ≤ 1000 from by decide) (s_cons (s_str (by decide +kernel)) (s_cons (s_str (by decide +kernel)) (s_nil) rfl) rfl)))))) (sts_cons (st_rai rfl a.b a.xf rfl rfl (a.g.exc 1 _ rfl) (s_cons (s_var (i := 0) rfl (.inl rfl) nd_method.1 nd_method.2) (s_nil) rfl) nd_NoName.1 rfl rfl)
    (sts_nil)) (sts_nil))
    (sts_cons (st_setN (i := 2) S.nd rfl (.inl rfl) (.inr rfl) (s_ife (s_pt (fun _ => rfl) (s_isi a.pf trivial rfl (a.g.fre 0 _ rfl) (s_var (i := 1) rfl (.inl rfl) nd_text.1 nd_text.2) (pe_bltn rfl (a.g.fre 3 _ rfl) bt_str rfl) rfl rfl rfl)) (s_bm (by decide) PySem.F.plainAttrs_str PySem.F.slot_str_split PySem.F.type_str_split m_split (s_var (i := 1) rfl (.inl rfl) nd_text.1 nd_text.2) (s_cons (s_str (by decide +kernel)) (s_nil) rfl) rfl rfl rfl rfl rfl) (s_lst (show 0 ≤ 1000 from by decide) (s_nil))) rfl)
    (sts_cons (st_setN (i := 3) S.nd rfl (.inl rfl) (.inr rfl) (s_ife (s_ptCmp (rCmp_op (by decide) (by decide) o_le) rfl (s_bi (fun _ h => pe_callB b_len rfl (a.g.fre 4 _ rfl) bt_len h) (s_cons (s_var (i := 2) rfl (.inl rfl) nd_words.1 nd_words.2) (s_nil) rfl)) (s_g rfl nd_MOST_WORDS.1 (a.g.con 12 _ _ rfl))) (s_call a.b (by decide) (show mdZ 13 = true → mdZ 14 = true from by decide) rfl (a.g.fns 13 _ rfl) (s_cons (s_var (i := 2) rfl (.inl rfl) nd_words.1 nd_words.2) (s_cons (s_int) (s_nil) rfl) rfl) nd_read_words.1 rfl rfl) (s_non)) rfl)
    (sts_cons (st_if (s_ptBo (s_pwOr (s_ptCmp (rCmp_op (by decide) (by decide) o_is) rfl (s_var (i := 3) rfl (.inl rfl) nd_read.1 nd_read.2) (s_non)) (s_pwOr1 (s_ptCmp (o_neOwn a.b a.mf mdM (by decide) a.pf a.ef) rfl (s_ix a.hu (s_var (i := 3) rfl (.inl rfl) nd_read.1 nd_read.2) (s_int) (fun _ _ => rfl)) (s_bi (fun _ h => pe_callB b_len rfl (a.g.fre 4 _ rfl) bt_len h) (s_cons (s_var (i := 2) rfl (.inl rfl) nd_words.1 nd_words.2) (s_nil) rfl)))))) (sts_cons (st_rai rfl a.b a.xf rfl rfl (a.g.exc 3 _ rfl) (s_cons (s_non) (s_nil) rfl) nd_NoNote.1 rfl rfl)
    (sts_nil)) (sts_nil))
    (sts_cons (st_tryr a.xm (a.xh (x := 3) rfl) a.b.room rfl rfl ⟨rfl, nd_NoBody.1, .inl (a.g.exc 2 _ rfl)⟩ poAt a.b.tk (fun W pn xe tk po2 => sts_cons (st_ret (s_mk (a.tr (m2 := false) tk).b ((a.tr (m2 := false) tk).mkf (c := 0) (by decide) rfl rfl (show mdZ 28 = true → false = true from by decide)) rfl ((a.tr (m2 := false) tk).g.cls 0 _ rfl) (s_cons (s_var (i := 0) rfl (.inl rfl) nd_method.1 nd_method.2) (s_cons (s_ix (a.tr (m2 := false) tk).hu (s_var (i := 3) rfl (.inl rfl) nd_read.1 nd_read.2) (s_int) (fun _ _ => rfl)) (s_nil) rfl) rfl) nd_Body.1 rfl rfl))
    (sts_nil)) rfl (a.g.exc 3 _ rfl) nd_NoNote.1 rfl rfl)
    (sts_nil)))))
def st_15 : Stmt := (topS 38)
theorem sc_15 : FnScope ["_law_script", "_law_k", "_law_cell", "_law_size"] ["_law_script", "_law_k"] (defScope st_15) := ⟨rfl, rfl, rfl, by decide +kernel, rfl, by decide +kernel, by decide +kernel⟩
/-- _law_pool -/
theorem d_15 {k r : Nat} {fd : FuncData} (g : GF PySem.Challenge.pw_answersby_k88_bodies_written w K mg base (NZ K) PZ TZ consZ frsZ) (Fd : FunD K "_law_pool" "_law_pool" (defArgs st_15) (defBody st_15) (defScope st_15) [] [] ((NZ K).fn 15) fd) (ft : FT PySem.Challenge.pw_answersby_k88_bodies_written w K mg base (NZ K) PZ.fx TZ.fns.length (run PZ k) (r + 2)) (fm : FT PySem.Challenge.pw_answersby_k88_bodies_written w K mg base (NZ K) PZ.fx TZ.fns.length (run PZ (k - 1)) (r + 1)) :
    FnOk PySem.Challenge.pw_answersby_k88_bodies_written w K mg base (cxm PySem.Challenge.pw_answersby_k88_bodies_written w (mdZ 15)) (r + 3) ((NZ K).fn 15) fd ["_law_script", "_law_k"] (spF K w (NZ K) PZ.fx (run PZ (k + 1) 15)) :=
  fn_go (f := 15) (F := F_15) (names := ["_law_script", "_law_k", "_law_cell", "_law_size"]) (ps := ["_law_script", "_law_k"]) Fd sc_15 rfl rfl rfl g ft fm fun cdv A outer s0 H0 E0 a po poAt =>
  have S := sc_15
  sts_cons (st_setN (i := 2) S.nd rfl (.inl rfl) (.inr rfl) (s_int) rfl)
    (sts_cons (st_if (s_ptCmp (rCmp_op (by decide) (by decide) o_lt) rfl (s_var (i := 1) rfl (.inl rfl) nd__law_k.1 nd__law_k.2) (s_bi (fun _ h => pe_callB b_len rfl (a.g.fre 4 _ rfl) bt_len h) (s_cons (s_var (i := 0) rfl (.inl rfl) nd__law_script.1 nd__law_script.2) (s_nil) rfl))) (sts_cons (st_setN (i := 2) S.nd rfl (.inl rfl) (.inr rfl) (s_ix a.hu (s_var (i := 0) rfl (.inl rfl) nd__law_script.1 nd__law_script.2) (s_var (i := 1) rfl (.inl rfl) nd__law_k.1 nd__law_k.2) (fun _ _ => rfl)) rfl)
    (sts_nil)) (sts_nil))
    (sts_cons (st_setN (i := 3) S.nd rfl (.inl rfl) (.inr rfl) (s_bi (fun _ h => pe_callB (b_max rfl) rfl (a.g.fre 8 _ rfl) bt_max h) (s_cons (s_var (i := 2) rfl (.inl rfl) nd__law_cell.1 nd__law_cell.2) (s_cons (s_bin o_sub (by decide) (by decide) (s_neg (s_int)) (s_var (i := 2) rfl (.inl rfl) nd__law_cell.1 nd__law_cell.2)) (s_nil) rfl) rfl)) rfl)
    (sts_cons (st_ret (s_lst (show 2 ≤ 1000 from by decide) (s_cons (s_bin o_mul (by decide) (by decide) (s_var (i := 3) rfl (.inl rfl) nd__law_size.1 nd__law_size.2) (s_bi (fun _ h => pe_callTy b_int rfl (a.g.fre 1 _ rfl) bt_int h) (s_cons (s_cmp (rCmp_op (by decide) (by decide) o_ge) rfl (s_var (i := 3) rfl (.inl rfl) nd__law_size.1 nd__law_size.2) (s_bin o_pow (by decide) (by decide) (s_int) (s_int))) (s_nil) rfl))) (s_cons (s_bin o_mod (by decide) (by decide) (s_bin o_mul (by decide) (by decide) (s_bi (fun _ h => pe_callTy b_int rfl (a.g.fre 1 _ rfl) bt_int h) (s_cons (s_bin o_add (by decide) (by decide) (s_bin o_add (by decide) (by decide) (s_bin o_mod (by decide) (by decide) (s_bi (fun _ h => pe_callTy b_int rfl (a.g.fre 1 _ rfl) bt_int h) (s_cons (s_var (i := 3) rfl (.inl rfl) nd__law_size.1 nd__law_size.2) (s_nil) rfl)) (s_int)) (s_bin o_mul (by decide) (by decide) (s_int) (s_var (i := 1) rfl (.inl rfl) nd__law_k.1 nd__law_k.2))) (s_int)) (s_nil) rfl)) (s_int)) (s_int)) (s_nil) rfl) rfl)))
    (sts_nil))))
def st_16 : Stmt := (topS 39)
theorem sc_16 : FnScope ["_law_pool_here", "_law_many", "_law_found"] ["_law_pool_here", "_law_many"] (defScope st_16) := ⟨rfl, rfl, rfl, by decide +kernel, rfl, by decide +kernel, by decide +kernel⟩
/-- _law_take -/
theorem d_16 {k r : Nat} {fd : FuncData} (g : GF PySem.Challenge.pw_answersby_k88_bodies_written w K mg base (NZ K) PZ TZ consZ frsZ) (Fd : FunD K "_law_take" "_law_take" (defArgs st_16) (defBody st_16) (defScope st_16) [] [] ((NZ K).fn 16) fd) (ft : FT PySem.Challenge.pw_answersby_k88_bodies_written w K mg base (NZ K) PZ.fx TZ.fns.length (run PZ k) (r + 2)) (fm : FT PySem.Challenge.pw_answersby_k88_bodies_written w K mg base (NZ K) PZ.fx TZ.fns.length (run PZ (k - 1)) (r + 1)) :
    FnOk PySem.Challenge.pw_answersby_k88_bodies_written w K mg base (cxm PySem.Challenge.pw_answersby_k88_bodies_written w (mdZ 16)) (r + 3) ((NZ K).fn 16) fd ["_law_pool_here", "_law_many"] (spF K w (NZ K) PZ.fx (run PZ (k + 1) 16)) :=
  fn_go (f := 16) (F := F_16) (names := ["_law_pool_here", "_law_many", "_law_found"]) (ps := ["_law_pool_here", "_law_many"]) Fd sc_16 rfl rfl rfl g ft fm fun cdv A outer s0 H0 E0 a po poAt =>
  have S := sc_16
  sts_cons (st_if (s_ptCmp (rCmp_op (by decide) (by decide) o_gt) rfl (s_ix a.hu (s_var (i := 0) rfl (.inl rfl) nd__law_pool_here.1 nd__law_pool_here.2) (s_int) (fun _ _ => rfl)) (s_int)) (sts_cons (st_setN (i := 2) S.nd rfl (.inl rfl) (.inr rfl) (s_bin o_mod (by decide) (by decide) (s_bi (fun _ h => pe_callTy b_int rfl (a.g.fre 1 _ rfl) bt_int h) (s_cons (s_ix a.hu (s_var (i := 0) rfl (.inl rfl) nd__law_pool_here.1 nd__law_pool_here.2) (s_int) (fun _ _ => rfl)) (s_nil) rfl)) (s_var (i := 1) rfl (.inl rfl) nd__law_many.1 nd__law_many.2)) rfl)
    (sts_cons (st_six a.hu (s_var (i := 0) rfl (.inl rfl) nd__law_pool_here.1 nd__law_pool_here.2) (s_int) (s_bin o_fdiv (by decide) (by decide) (s_ix a.hu (s_var (i := 0) rfl (.inl rfl) nd__law_pool_here.1 nd__law_pool_here.2) (s_int) (fun _ _ => rfl)) (s_var (i := 1) rfl (.inl rfl) nd__law_many.1 nd__law_many.2)) (fun _ => rfl) rfl rfl rfl)
    (sts_cons (st_ret (s_var (i := 2) rfl (.inl rfl) nd__law_found.1 nd__law_found.2))
    (sts_nil)))) (sts_nil))
    (sts_cons (st_six a.hu (s_var (i := 0) rfl (.inl rfl) nd__law_pool_here.1 nd__law_pool_here.2) (s_int) (s_bin o_mod (by decide) (by decide) (s_bi (fun _ h => pe_callTy b_int rfl (a.g.fre 1 _ rfl) bt_int h) (s_cons (s_bin o_add (by decide) (by decide) (s_bin o_mul (by decide) (by decide) (s_ix a.hu (s_var (i := 0) rfl (.inl rfl) nd__law_pool_here.1 nd__law_pool_here.2) (s_int) (fun _ _ => rfl)) (s_int)) (s_int)) (s_nil) rfl)) (s_int)) (fun _ => rfl) rfl rfl rfl)
    (sts_cons (st_ret (s_bin o_mod (by decide) (by decide) (s_bin o_fdiv (by decide) (by decide) (s_bin o_mod (by decide) (by decide) (s_bi (fun _ h => pe_callTy b_int rfl (a.g.fre 1 _ rfl) bt_int h) (s_cons (s_bin o_mul (by decide) (by decide) (s_ix a.hu (s_var (i := 0) rfl (.inl rfl) nd__law_pool_here.1 nd__law_pool_here.2) (s_int) (fun _ _ => rfl)) (s_ix a.hu (s_var (i := 0) rfl (.inl rfl) nd__law_pool_here.1 nd__law_pool_here.2) (s_int) (fun _ _ => rfl))) (s_nil) rfl)) (s_int)) (s_int)) (s_var (i := 1) rfl (.inl rfl) nd__law_many.1 nd__law_many.2)))
    (sts_nil)))
def st_17 : Stmt := (topS 40)
theorem sc_17 : FnScope ["_law_pool_here", "_law_some"] ["_law_pool_here", "_law_some"] (defScope st_17) := ⟨rfl, rfl, rfl, by decide +kernel, rfl, by decide +kernel, by decide +kernel⟩
/-- _law_one -/
theorem d_17 {k r : Nat} {fd : FuncData} (g : GF PySem.Challenge.pw_answersby_k88_bodies_written w K mg base (NZ K) PZ TZ consZ frsZ) (Fd : FunD K "_law_one" "_law_one" (defArgs st_17) (defBody st_17) (defScope st_17) [] [] ((NZ K).fn 17) fd) (ft : FT PySem.Challenge.pw_answersby_k88_bodies_written w K mg base (NZ K) PZ.fx TZ.fns.length (run PZ k) (r + 2)) (fm : FT PySem.Challenge.pw_answersby_k88_bodies_written w K mg base (NZ K) PZ.fx TZ.fns.length (run PZ (k - 1)) (r + 1)) :
    FnOk PySem.Challenge.pw_answersby_k88_bodies_written w K mg base (cxm PySem.Challenge.pw_answersby_k88_bodies_written w (mdZ 17)) (r + 3) ((NZ K).fn 17) fd ["_law_pool_here", "_law_some"] (spF K w (NZ K) PZ.fx (run PZ (k + 1) 17)) :=
  fn_go (f := 17) (F := F_17) (names := ["_law_pool_here", "_law_some"]) (ps := ["_law_pool_here", "_law_some"]) Fd sc_17 rfl rfl rfl g ft fm fun cdv A outer s0 H0 E0 a po poAt =>
  have S := sc_17
  sts_cons (st_ret (s_ix a.hu (s_var (i := 1) rfl (.inl rfl) nd__law_some.1 nd__law_some.2) (s_call a.b (by decide) (show mdZ 16 = true → mdZ 17 = true from by decide) rfl (a.g.fns 16 _ rfl) (s_cons (s_var (i := 0) rfl (.inl rfl) nd__law_pool_here.1 nd__law_pool_here.2) (s_cons (s_bi (fun _ h => pe_callB b_len rfl (a.g.fre 4 _ rfl) bt_len h) (s_cons (s_var (i := 1) rfl (.inl rfl) nd__law_some.1 nd__law_some.2) (s_nil) rfl)) (s_nil) rfl) rfl) nd__law_take.1 rfl rfl) (fun _ _ => rfl)))
    (sts_nil)
def st_18 : Stmt := (topS 41)
theorem sc_18 : FnScope ["_law_pool_here", "_law_method", "_law_at_tail", "_law_some"] ["_law_pool_here", "_law_method", "_law_at_tail"] (defScope st_18) := ⟨rfl, rfl, rfl, by decide +kernel, rfl, by decide +kernel, by decide +kernel⟩
/-- _law_leaf -/
theorem d_18 {k r : Nat} {fd : FuncData} (g : GF PySem.Challenge.pw_answersby_k88_bodies_written w K mg base (NZ K) PZ TZ consZ frsZ) (Fd : FunD K "_law_leaf" "_law_leaf" (defArgs st_18) (defBody st_18) (defScope st_18) [] [] ((NZ K).fn 18) fd) (ft : FT PySem.Challenge.pw_answersby_k88_bodies_written w K mg base (NZ K) PZ.fx TZ.fns.length (run PZ k) (r + 2)) (fm : FT PySem.Challenge.pw_answersby_k88_bodies_written w K mg base (NZ K) PZ.fx TZ.fns.length (run PZ (k - 1)) (r + 1)) :
    FnOk PySem.Challenge.pw_answersby_k88_bodies_written w K mg base (cxm PySem.Challenge.pw_answersby_k88_bodies_written w (mdZ 18)) (r + 3) ((NZ K).fn 18) fd ["_law_pool_here", "_law_method", "_law_at_tail"] (spF K w (NZ K) PZ.fx (run PZ (k + 1) 18)) :=
  fn_go (f := 18) (F := F_18) (names := ["_law_pool_here", "_law_method", "_law_at_tail", "_law_some"]) (ps := ["_law_pool_here", "_law_method", "_law_at_tail"]) Fd sc_18 rfl rfl rfl g ft fm fun cdv A outer s0 H0 E0 a po poAt =>
  have S := sc_18
  sts_cons (st_setN (i := 3) S.nd rfl (.inl rfl) (.inr rfl) (s_lst (show 4 ≤ 1000 from by decide) (s_cons (s_tup (show 1 ≤ 1000 from by decide) (s_cons (s_str (by decide +kernel)) (s_nil) rfl)) (s_cons (s_tup (show 1 ≤ 1000 from by decide) (s_cons (s_str (by decide +kernel)) (s_nil) rfl)) (s_cons (s_tup (show 2 ≤ 1000 from by decide) (s_cons (s_str (by decide +kernel)) (s_cons (s_call a.b (by decide) (show mdZ 16 = true → mdZ 18 = true from by decide) rfl (a.g.fns 16 _ rfl) (s_cons (s_var (i := 0) rfl (.inl rfl) nd__law_pool_here.1 nd__law_pool_here.2) (s_cons (s_int) (s_nil) rfl) rfl) nd__law_take.1 rfl rfl) (s_nil) rfl) rfl)) (s_cons (s_tup (show 1 ≤ 1000 from by decide) (s_cons (s_str (by decide +kernel)) (s_nil) rfl)) (s_nil) rfl) rfl) rfl) rfl)) rfl)
    (sts_cons (st_if (s_ptCmp (rCmp_op (by decide) (by decide) (o_in a.hu)) rfl (s_var (i := 1) rfl (.inl rfl) nd__law_method.1 nd__law_method.2) (s_lst (show 2 ≤ 1000 from by decide) (s_cons (s_str (by decide +kernel)) (s_cons (s_str (by decide +kernel)) (s_nil) rfl) rfl))) (sts_cons (st_setN (i := 3) S.nd rfl (.inl rfl) (.inr rfl) (s_lst (show 4 ≤ 1000 from by decide) (s_cons (s_tup (show 2 ≤ 1000 from by decide) (s_cons (s_str (by decide +kernel)) (s_cons (s_call a.b (by decide) (show mdZ 16 = true → mdZ 18 = true from by decide) rfl (a.g.fns 16 _ rfl) (s_cons (s_var (i := 0) rfl (.inl rfl) nd__law_pool_here.1 nd__law_pool_here.2) (s_cons (s_int) (s_nil) rfl) rfl) nd__law_take.1 rfl rfl) (s_nil) rfl) rfl)) (s_cons (s_tup (show 2 ≤ 1000 from by decide) (s_cons (s_str (by decide +kernel)) (s_cons (s_int) (s_nil) rfl) rfl)) (s_cons (s_tup (show 1 ≤ 1000 from by decide) (s_cons (s_str (by decide +kernel)) (s_nil) rfl)) (s_cons (s_tup (show 1 ≤ 1000 from by decide) (s_cons (s_str (by decide +kernel)) (s_nil) rfl)) (s_nil) rfl) rfl) rfl) rfl)) rfl)
    (sts_nil)) (sts_nil))
    (sts_cons (st_if (s_pt (fun _ => rfl) (s_var (i := 2) rfl (.inl rfl) nd__law_at_tail.1 nd__law_at_tail.2)) (sts_cons (st_setN (i := 3) S.nd rfl (.inl rfl) (.inr rfl) (s_bin o_add (by decide) (by decide) (s_var (i := 3) rfl (.inl rfl) nd__law_some.1 nd__law_some.2) (s_lst (show 2 ≤ 1000 from by decide) (s_cons (s_tup (show 1 ≤ 1000 from by decide) (s_cons (s_str (by decide +kernel)) (s_nil) rfl)) (s_cons (s_tup (show 1 ≤ 1000 from by decide) (s_cons (s_str (by decide +kernel)) (s_nil) rfl)) (s_nil) rfl) rfl))) rfl)
    (sts_nil)) (sts_nil))
    (sts_cons (st_if (s_ptBo (s_pwAnd (s_pt (fun _ => rfl) (s_var (i := 2) rfl (.inl rfl) nd__law_at_tail.1 nd__law_at_tail.2)) (s_pwAnd1 (s_ptCmp (rCmp_op (by decide) (by decide) (o_in a.hu)) rfl (s_var (i := 1) rfl (.inl rfl) nd__law_method.1 nd__law_method.2) (s_lst (show 4 ≤ 1000 from by decide) (s_cons (s_str (by decide +kernel)) (s_cons (s_str (by decide +kernel)) (s_cons (s_str (by decide +kernel)) (s_cons (s_str (by decide +kernel)) (s_nil) rfl) rfl) rfl) rfl)))))) (sts_cons (st_setN (i := 3) S.nd rfl (.inl rfl) (.inr rfl) (s_bin o_add (by decide) (by decide) (s_var (i := 3) rfl (.inl rfl) nd__law_some.1 nd__law_some.2) (s_lst (show 2 ≤ 1000 from by decide) (s_cons (s_tup (show 1 ≤ 1000 from by decide) (s_cons (s_str (by decide +kernel)) (s_nil) rfl)) (s_cons (s_tup (show 1 ≤ 1000 from by decide) (s_cons (s_str (by decide +kernel)) (s_nil) rfl)) (s_nil) rfl) rfl))) rfl)
    (sts_nil)) (sts_nil))
    (sts_cons (st_ret (s_call a.b (by decide) (show mdZ 17 = true → mdZ 18 = true from by decide) rfl (a.g.fns 17 _ rfl) (s_cons (s_var (i := 0) rfl (.inl rfl) nd__law_pool_here.1 nd__law_pool_here.2) (s_cons (s_var (i := 3) rfl (.inl rfl) nd__law_some.1 nd__law_some.2) (s_nil) rfl) rfl) nd__law_one.1 rfl rfl))
    (sts_nil)))))
def st_19 : Stmt := (topS 42)
theorem sc_19 : FnScope ["_law_pool_here", "_law_method", "_law_some", "_law_asked"] ["_law_pool_here", "_law_method"] (defScope st_19) := ⟨rfl, rfl, rfl, by decide +kernel, rfl, by decide +kernel, by decide +kernel⟩
/-- _law_asking -/
theorem d_19 {k r : Nat} {fd : FuncData} (g : GF PySem.Challenge.pw_answersby_k88_bodies_written w K mg base (NZ K) PZ TZ consZ frsZ) (Fd : FunD K "_law_asking" "_law_asking" (defArgs st_19) (defBody st_19) (defScope st_19) [] [] ((NZ K).fn 19) fd) (ft : FT PySem.Challenge.pw_answersby_k88_bodies_written w K mg base (NZ K) PZ.fx TZ.fns.length (run PZ k) (r + 2)) (fm : FT PySem.Challenge.pw_answersby_k88_bodies_written w K mg base (NZ K) PZ.fx TZ.fns.length (run PZ (k - 1)) (r + 1)) :
    FnOk PySem.Challenge.pw_answersby_k88_bodies_written w K mg base (cxm PySem.Challenge.pw_answersby_k88_bodies_written w (mdZ 19)) (r + 3) ((NZ K).fn 19) fd ["_law_pool_here", "_law_method"] (spF K w (NZ K) PZ.fx (run PZ (k + 1) 19)) :=
  fn_go (f := 19) (F := F_19) (names := ["_law_pool_here", "_law_method", "_law_some", "_law_asked"]) (ps := ["_law_pool_here", "_law_method"]) Fd sc_19 rfl rfl rfl g ft fm fun cdv A outer s0 H0 E0 a po poAt =>
  have S := sc_19
  sts_cons (st_if (s_ptCmp (rCmp_op (by decide) (by decide) (o_in a.hu)) rfl (s_var (i := 1) rfl (.inl rfl) nd__law_method.1 nd__law_method.2) (s_lst (show 3 ≤ 1000 from by decide) (s_cons (s_str (by decide +kernel)) (s_cons (s_str (by decide +kernel)) (s_cons (s_str (by decide +kernel)) (s_nil) rfl) rfl) rfl))) (sts_cons (st_ret (s_tup (show 3 ≤ 1000 from by decide) (s_cons (s_str (by decide +kernel)) (s_cons (s_call a.b (by decide) (show mdZ 17 = true → mdZ 19 = true from by decide) rfl (a.g.fns 17 _ rfl) (s_cons (s_var (i := 0) rfl (.inl rfl) nd__law_pool_here.1 nd__law_pool_here.2) (s_cons (s_lst (show 3 ≤ 1000 from by decide) (s_cons (s_str (by decide +kernel)) (s_cons (s_str (by decide +kernel)) (s_cons (s_str (by decide +kernel)) (s_nil) rfl) rfl) rfl)) (s_nil) rfl) rfl) nd__law_one.1 rfl rfl) (s_cons (s_str (by decide +kernel)) (s_nil) rfl) rfl) rfl)))
    (sts_nil)) (sts_nil))
    (sts_cons (st_if (s_ptCmp (o_eqOwn a.b a.mf mdM (by decide) a.pf a.ef) rfl (s_call a.b (by decide) (show mdZ 16 = true → mdZ 19 = true from by decide) rfl (a.g.fns 16 _ rfl) (s_cons (s_var (i := 0) rfl (.inl rfl) nd__law_pool_here.1 nd__law_pool_here.2) (s_cons (s_int) (s_nil) rfl) rfl) nd__law_take.1 rfl rfl) (s_int)) (sts_cons (st_setN (i := 2) S.nd rfl (.inl rfl) (.inr rfl) (s_lst (show 3 ≤ 1000 from by decide) (s_cons (s_str (by decide +kernel)) (s_cons (s_str (by decide +kernel)) (s_cons (s_str (by decide +kernel)) (s_nil) rfl) rfl) rfl)) rfl)
    (sts_cons (st_ret (s_tup (show 3 ≤ 1000 from by decide) (s_cons (s_str (by decide +kernel)) (s_cons (s_call a.b (by decide) (show mdZ 17 = true → mdZ 19 = true from by decide) rfl (a.g.fns 17 _ rfl) (s_cons (s_var (i := 0) rfl (.inl rfl) nd__law_pool_here.1 nd__law_pool_here.2) (s_cons (s_var (i := 2) rfl (.inl rfl) nd__law_some.1 nd__law_some.2) (s_nil) rfl) rfl) nd__law_one.1 rfl rfl) (s_cons (s_call a.b (by decide) (show mdZ 17 = true → mdZ 19 = true from by decide) rfl (a.g.fns 17 _ rfl) (s_cons (s_var (i := 0) rfl (.inl rfl) nd__law_pool_here.1 nd__law_pool_here.2) (s_cons (s_lst (show 2 ≤ 1000 from by decide) (s_cons (s_str (by decide +kernel)) (s_cons (s_str (by decide +kernel)) (s_nil) rfl) rfl)) (s_nil) rfl) rfl) nd__law_one.1 rfl rfl) (s_nil) rfl) rfl) rfl)))
    (sts_nil))) (sts_nil))
    (sts_cons (st_setN (i := 2) S.nd rfl (.inl rfl) (.inr rfl) (s_lst (show 7 ≤ 1000 from by decide) (s_cons (s_str (by decide +kernel)) (s_cons (s_str (by decide +kernel)) (s_cons (s_str (by decide +kernel)) (s_cons (s_str (by decide +kernel)) (s_cons (s_str (by decide +kernel)) (s_cons (s_str (by decide +kernel)) (s_cons (s_str (by decide +kernel)) (s_nil) rfl) rfl) rfl) rfl) rfl) rfl) rfl)) rfl)
    (sts_cons (st_setN (i := 3) S.nd rfl (.inl rfl) (.inr rfl) (s_call a.b (by decide) (show mdZ 17 = true → mdZ 19 = true from by decide) rfl (a.g.fns 17 _ rfl) (s_cons (s_var (i := 0) rfl (.inl rfl) nd__law_pool_here.1 nd__law_pool_here.2) (s_cons (s_var (i := 2) rfl (.inl rfl) nd__law_some.1 nd__law_some.2) (s_nil) rfl) rfl) nd__law_one.1 rfl rfl) rfl)
    (sts_cons (st_if (s_ptCmp (o_eqOwn a.b a.mf mdM (by decide) a.pf a.ef) rfl (s_call a.b (by decide) (show mdZ 16 = true → mdZ 19 = true from by decide) rfl (a.g.fns 16 _ rfl) (s_cons (s_var (i := 0) rfl (.inl rfl) nd__law_pool_here.1 nd__law_pool_here.2) (s_cons (s_int) (s_nil) rfl) rfl) nd__law_take.1 rfl rfl) (s_int)) (sts_cons (st_ret (s_tup (show 4 ≤ 1000 from by decide) (s_cons (s_str (by decide +kernel)) (s_cons (s_var (i := 3) rfl (.inl rfl) nd__law_asked.1 nd__law_asked.2) (s_cons (s_str (by decide +kernel)) (s_cons (s_str (by decide +kernel)) (s_nil) rfl) rfl) rfl) rfl)))
    (sts_nil)) (sts_nil))
    (sts_cons (st_ret (s_tup (show 4 ≤ 1000 from by decide) (s_cons (s_str (by decide +kernel)) (s_cons (s_var (i := 3) rfl (.inl rfl) nd__law_asked.1 nd__law_asked.2) (s_cons (s_str (by decide +kernel)) (s_cons (s_str (by decide +kernel)) (s_nil) rfl) rfl) rfl) rfl)))
    (sts_nil))))))
def st_20 : Stmt := (topS 43)
theorem sc_20 : FnScope ["_law_pool_here", "_law_method", "_law_deep_here", "_law_at_tail", "_law_way", "_law_asked", "_law_one_here"] ["_law_pool_here", "_law_method", "_law_deep_here", "_law_at_tail"] (defScope st_20) := ⟨rfl, rfl, rfl, by decide +kernel, rfl, by decide +kernel, by decide +kernel⟩
/-- _law_deep -/
theorem d_20 {k r : Nat} {fd : FuncData} (g : GF PySem.Challenge.pw_answersby_k88_bodies_written w K mg base (NZ K) PZ TZ consZ frsZ) (Fd : FunD K "_law_deep" "_law_deep" (defArgs st_20) (defBody st_20) (defScope st_20) [] [] ((NZ K).fn 20) fd) (ft : FT PySem.Challenge.pw_answersby_k88_bodies_written w K mg base (NZ K) PZ.fx TZ.fns.length (run PZ k) (r + 2)) (fm : FT PySem.Challenge.pw_answersby_k88_bodies_written w K mg base (NZ K) PZ.fx TZ.fns.length (run PZ (k - 1)) (r + 1)) :
    FnOk PySem.Challenge.pw_answersby_k88_bodies_written w K mg base (cxm PySem.Challenge.pw_answersby_k88_bodies_written w (mdZ 20)) (r + 3) ((NZ K).fn 20) fd ["_law_pool_here", "_law_method", "_law_deep_here", "_law_at_tail"] (spF K w (NZ K) PZ.fx (run PZ (k + 1) 20)) :=
  fn_go (f := 20) (F := F_20) (names := ["_law_pool_here", "_law_method", "_law_deep_here", "_law_at_tail", "_law_way", "_law_asked", "_law_one_here"]) (ps := ["_law_pool_here", "_law_method", "_law_deep_here", "_law_at_tail"]) Fd sc_20 rfl rfl rfl g ft fm fun cdv A outer s0 H0 E0 a po poAt =>
  have S := sc_20
  sts_cons (st_setN (i := 4) S.nd rfl (.inl rfl) (.inr rfl) (s_call a.b (by decide) (show mdZ 16 = true → mdZ 20 = true from by decide) rfl (a.g.fns 16 _ rfl) (s_cons (s_var (i := 0) rfl (.inl rfl) nd__law_pool_here.1 nd__law_pool_here.2) (s_cons (s_int) (s_nil) rfl) rfl) nd__law_take.1 rfl rfl) rfl)
    (sts_cons (st_if (s_ptBo (s_pwOr (s_ptCmp (rCmp_op (by decide) (by decide) o_lt) rfl (s_var (i := 4) rfl (.inl rfl) nd__law_way.1 nd__law_way.2) (s_int)) (s_pwOr1 (s_ptBo (s_pwAnd (s_ptCmp (o_eqOwn a.b a.mf mdM (by decide) a.pf a.ef) rfl (s_var (i := 2) rfl (.inl rfl) nd__law_deep_here.1 nd__law_deep_here.2) (s_int)) (s_pwAnd1 (s_ptCmp (rCmp_op (by decide) (by decide) o_lt) rfl (s_var (i := 4) rfl (.inl rfl) nd__law_way.1 nd__law_way.2) (s_int)))))))) (sts_cons (st_ret (s_call a.b (by decide) (show mdZ 18 = true → mdZ 20 = true from by decide) rfl (a.g.fns 18 _ rfl) (s_cons (s_var (i := 0) rfl (.inl rfl) nd__law_pool_here.1 nd__law_pool_here.2) (s_cons (s_var (i := 1) rfl (.inl rfl) nd__law_method.1 nd__law_method.2) (s_cons (s_var (i := 3) rfl (.inl rfl) nd__law_at_tail.1 nd__law_at_tail.2) (s_nil) rfl) rfl) rfl) nd__law_leaf.1 rfl rfl))
    (sts_nil)) (sts_nil))
    (sts_cons (st_if (s_ptBo (s_pwOr (s_ptCmp (rCmp_op (by decide) (by decide) o_lt) rfl (s_var (i := 4) rfl (.inl rfl) nd__law_way.1 nd__law_way.2) (s_int)) (s_pwOr1 (s_ptCmp (o_eqOwn a.b a.mf mdM (by decide) a.pf a.ef) rfl (s_var (i := 2) rfl (.inl rfl) nd__law_deep_here.1 nd__law_deep_here.2) (s_int))))) (sts_cons (st_ret (s_call a.b (by decide) (show mdZ 19 = true → mdZ 20 = true from by decide) rfl (a.g.fns 19 _ rfl) (s_cons (s_var (i := 0) rfl (.inl rfl) nd__law_pool_here.1 nd__law_pool_here.2) (s_cons (s_var (i := 1) rfl (.inl rfl) nd__law_method.1 nd__law_method.2) (s_nil) rfl) rfl) nd__law_asking.1 rfl rfl))
    (sts_nil)) (sts_nil))
    (sts_cons (st_if (s_ptCmp (o_eqOwn a.b a.mf mdM (by decide) a.pf a.ef) rfl (s_var (i := 4) rfl (.inl rfl) nd__law_way.1 nd__law_way.2) (s_int)) (sts_cons (st_ret (s_tup (show 2 ≤ 1000 from by decide) (s_cons (s_str (by decide +kernel)) (s_cons (s_call a.b (by decide) (show mdZ 20 = true → mdZ 20 = true from by decide) rfl (a.g.fns 20 _ rfl) (s_cons (s_var (i := 0) rfl (.inl rfl) nd__law_pool_here.1 nd__law_pool_here.2) (s_cons (s_var (i := 1) rfl (.inl rfl) nd__law_method.1 nd__law_method.2) (s_cons (s_bin o_sub (by decide) (by decide) (s_var (i := 2) rfl (.inl rfl) nd__law_deep_here.1 nd__law_deep_here.2) (s_int)) (s_cons (s_bl) (s_nil) rfl) rfl) rfl) rfl) nd__law_deep.1 rfl rfl) (s_nil) rfl) rfl)))
    (sts_nil)) (sts_nil))
    (sts_cons (st_par (i := 5) (j := 6) rfl S.nd rfl rfl (by decide) rfl rfl (s_cons (s_call a.b (by decide) (show mdZ 20 = true → mdZ 20 = true from by decide) rfl (a.g.fns 20 _ rfl) (s_cons (s_var (i := 0) rfl (.inl rfl) nd__law_pool_here.1 nd__law_pool_here.2) (s_cons (s_var (i := 1) rfl (.inl rfl) nd__law_method.1 nd__law_method.2) (s_cons (s_bin o_sub (by decide) (by decide) (s_var (i := 2) rfl (.inl rfl) nd__law_deep_here.1 nd__law_deep_here.2) (s_int)) (s_cons (s_bl) (s_nil) rfl) rfl) rfl) rfl) nd__law_deep.1 rfl rfl) (s_cons (s_call a.b (by decide) (show mdZ 20 = true → mdZ 20 = true from by decide) rfl (a.g.fns 20 _ rfl) (s_cons (s_var (i := 0) rfl (.inl rfl) nd__law_pool_here.1 nd__law_pool_here.2) (s_cons (s_var (i := 1) rfl (.inl rfl) nd__law_method.1 nd__law_method.2) (s_cons (s_bin o_sub (by decide) (by decide) (s_var (i := 2) rfl (.inl rfl) nd__law_deep_here.1 nd__law_deep_here.2) (s_int)) (s_cons (s_var (i := 3) rfl (.inl rfl) nd__law_at_tail.1 nd__law_at_tail.2) (s_nil) rfl) rfl) rfl) rfl) nd__law_deep.1 rfl rfl) (s_nil) rfl) rfl) rfl rfl)
    (sts_cons (st_ret (s_tup (show 4 ≤ 1000 from by decide) (s_cons (s_str (by decide +kernel)) (s_cons (s_var (i := 5) rfl (.inl rfl) nd__law_asked.1 nd__law_asked.2) (s_cons (s_var (i := 6) rfl (.inl rfl) nd__law_one_here.1 nd__law_one_here.2) (s_cons (s_call a.b (by decide) (show mdZ 20 = true → mdZ 20 = true from by decide) rfl (a.g.fns 20 _ rfl) (s_cons (s_var (i := 0) rfl (.inl rfl) nd__law_pool_here.1 nd__law_pool_here.2) (s_cons (s_var (i := 1) rfl (.inl rfl) nd__law_method.1 nd__law_method.2) (s_cons (s_bin o_sub (by decide) (by decide) (s_var (i := 2) rfl (.inl rfl) nd__law_deep_here.1 nd__law_deep_here.2) (s_int)) (s_cons (s_var (i := 3) rfl (.inl rfl) nd__law_at_tail.1 nd__law_at_tail.2) (s_nil) rfl) rfl) rfl) rfl) nd__law_deep.1 rfl rfl) (s_nil) rfl) rfl) rfl) rfl)))
    (sts_nil))))))
def st_21 : Stmt := (topS 44)
theorem sc_21 : FnScope ["_law_told", "_law_found", "_law_part"] ["_law_told"] (defScope st_21) := ⟨rfl, rfl, rfl, by decide +kernel, rfl, by decide +kernel, by decide +kernel⟩
/-- _law_flat -/
theorem d_21 {k r : Nat} {fd : FuncData} (g : GF PySem.Challenge.pw_answersby_k88_bodies_written w K mg base (NZ K) PZ TZ consZ frsZ) (Fd : FunD K "_law_flat" "_law_flat" (defArgs st_21) (defBody st_21) (defScope st_21) [] [] ((NZ K).fn 21) fd) (ft : FT PySem.Challenge.pw_answersby_k88_bodies_written w K mg base (NZ K) PZ.fx TZ.fns.length (run PZ k) (r + 2)) (fm : FT PySem.Challenge.pw_answersby_k88_bodies_written w K mg base (NZ K) PZ.fx TZ.fns.length (run PZ (k - 1)) (r + 1)) :
    FnOk PySem.Challenge.pw_answersby_k88_bodies_written w K mg base (cxm PySem.Challenge.pw_answersby_k88_bodies_written w (mdZ 21)) (r + 3) ((NZ K).fn 21) fd ["_law_told"] (spF K w (NZ K) PZ.fx (run PZ (k + 1) 21)) :=
  fn_go (f := 21) (F := F_21) (names := ["_law_told", "_law_found", "_law_part"]) (ps := ["_law_told"]) Fd sc_21 rfl rfl rfl g ft fm fun cdv A outer s0 H0 E0 a po poAt =>
  have S := sc_21
  sts_cons (st_setN (i := 1) S.nd rfl (.inl rfl) (.inr rfl) (s_lst (show 0 ≤ 1000 from by decide) (s_nil)) rfl)
    (sts_cons (st_for po rfl (s_sq (s_var (i := 0) rfl (.inl rfl) nd__law_told.1 nd__law_told.2)) (pg_name (i := 2) S.nd rfl (.inl rfl) (.inr rfl)) (sts_cons (st_if (s_pt (fun _ => rfl) (s_isi a.pf trivial rfl (a.g.fre 0 _ rfl) (s_var (i := 2) rfl (.inl rfl) nd__law_part.1 nd__law_part.2) (pe_bltn rfl (a.g.fre 5 _ rfl) bt_tuple rfl) rfl rfl rfl)) (sts_cons (st_setN (i := 1) S.nd rfl (.inl rfl) (.inr rfl) (s_cat (s_var (i := 1) rfl (.inl rfl) nd__law_found.1 nd__law_found.2) (s_call a.b (by decide) (show mdZ 21 = true → mdZ 21 = true from by decide) rfl (a.g.fns 21 _ rfl) (s_cons (s_var (i := 2) rfl (.inl rfl) nd__law_part.1 nd__law_part.2) (s_nil) rfl) nd__law_flat.1 rfl rfl)) rfl)
    (sts_nil)) (sts_cons (st_ex (s_bm (by decide) PySem.F.plainAttrs_list PySem.F.slot_list_append PySem.F.type_list_append m_append (s_var (i := 1) rfl (.inl rfl) nd__law_found.1 nd__law_found.2) (s_cons (s_bi (fun _ h => pe_callTy b_str rfl (a.g.fre 3 _ rfl) bt_str h) (s_cons (s_var (i := 2) rfl (.inl rfl) nd__law_part.1 nd__law_part.2) (s_nil) rfl)) (s_nil) rfl) rfl rfl rfl rfl rfl) rfl)
    (sts_nil)))
    (sts_nil)) (fun _ => rfl))
    (sts_cons (st_ret (s_var (i := 1) rfl (.inl rfl) nd__law_found.1 nd__law_found.2))
    (sts_nil)))
def st_22 : Stmt := (topS 45)
theorem sc_22 : FnScope ["_law_method", "_law_text", "e"] ["_law_method", "_law_text"] (defScope st_22) := ⟨rfl, rfl, rfl, by decide +kernel, rfl, by decide +kernel, by decide +kernel⟩
/-- _law_read -/
theorem d_22 {k r : Nat} {fd : FuncData} (g : GF PySem.Challenge.pw_answersby_k88_bodies_written w K mg base (NZ K) PZ TZ consZ frsZ) (Fd : FunD K "_law_read" "_law_read" (defArgs st_22) (defBody st_22) (defScope st_22) [] [] ((NZ K).fn 22) fd) (ft : FT PySem.Challenge.pw_answersby_k88_bodies_written w K mg base (NZ K) PZ.fx TZ.fns.length (run PZ k) (r + 2)) (fm : FT PySem.Challenge.pw_answersby_k88_bodies_written w K mg base (NZ K) PZ.fx TZ.fns.length (run PZ (k - 1)) (r + 1)) :
    FnOk PySem.Challenge.pw_answersby_k88_bodies_written w K mg base (cxm PySem.Challenge.pw_answersby_k88_bodies_written w (mdZ 22)) (r + 3) ((NZ K).fn 22) fd ["_law_method", "_law_text"] (spF K w (NZ K) PZ.fx (run PZ (k + 1) 22)) :=
  fn_go (f := 22) (F := F_22) (names := ["_law_method", "_law_text", "e"]) (ps := ["_law_method", "_law_text"]) Fd sc_22 rfl rfl rfl g ft fm fun cdv A outer s0 H0 E0 a po poAt =>
  have S := sc_22
  sts_cons (st_try a.xm rfl rfl S.nd a.b.tk (fun W pn xe tk po2 => sts_cons (st_ret (s_call (a.tr (m2 := true) tk).b (by decide) (show mdZ 14 = true → true = true from by decide) rfl ((a.tr (m2 := true) tk).g.fns 14 _ rfl) (s_cons (s_var (i := 0) rfl (.inl rfl) nd__law_method.1 nd__law_method.2) (s_cons (s_var (i := 1) rfl (.inl rfl) nd__law_text.1 nd__law_text.2) (s_nil) rfl) rfl) nd_read_body.1 rfl rfl))
    (sts_nil)) (HdA.as_ (i := 2) ⟨rfl, nd_NoNote.1, .inl (a.g.exc 3 _ rfl)⟩ rfl rfl (fun ea oe cls dd pn hz hf => pss_one (st_retX (show 4 ≤ 1000 from by decide) (xi_cons (xi_str (by decide +kernel)) (xi_cons (xi_fld a.xi hz hf rfl (.inl rfl) nd_e.1 nd_e.2 rfl) (xi_cons (xi_is a.xi a.xm hz hf rfl (.inl rfl) nd_e.1 nd_e.2 rfl (a.g.fre 0 _ rfl) (pe_glob rfl (a.g.exc 0 _ rfl) rfl nd_AnswerError.1) rfl rfl rfl) (xi_cons (xi_is a.xi a.xm hz hf rfl (.inl rfl) nd_e.1 nd_e.2 rfl (a.g.fre 0 _ rfl) (pe_glob rfl (a.g.exc 1 _ rfl) rfl nd_NoName.1) rfl rfl rfl) (xi_nil) rfl) rfl) rfl) rfl))) (HdA.as_ (i := 2) ⟨rfl, nd_NoName.1, .inl (a.g.exc 1 _ rfl)⟩ rfl rfl (fun ea oe cls dd pn hz hf => pss_one (st_retX (show 4 ≤ 1000 from by decide) (xi_cons (xi_str (by decide +kernel)) (xi_cons (xi_fld a.xi hz hf rfl (.inl rfl) nd_e.1 nd_e.2 rfl) (xi_cons (xi_is a.xi a.xm hz hf rfl (.inl rfl) nd_e.1 nd_e.2 rfl (a.g.fre 0 _ rfl) (pe_glob rfl (a.g.exc 0 _ rfl) rfl nd_AnswerError.1) rfl rfl rfl) (xi_cons (xi_is a.xi a.xm hz hf rfl (.inl rfl) nd_e.1 nd_e.2 rfl (a.g.fre 0 _ rfl) (pe_glob rfl (a.g.exc 3 _ rfl) rfl nd_NoNote.1) rfl rfl rfl) (xi_nil) rfl) rfl) rfl) rfl))) (HdA.nil))))
    (sts_nil)
def st_23 : Stmt := (topS 46)
theorem sc_23 : FnScope ["_law_method", "_law_told"] ["_law_method", "_law_told"] (defScope st_23) := ⟨rfl, rfl, rfl, by decide +kernel, rfl, by decide +kernel, by decide +kernel⟩
/-- _law_due -/
theorem d_23 {k r : Nat} {fd : FuncData} (g : GF PySem.Challenge.pw_answersby_k88_bodies_written w K mg base (NZ K) PZ TZ consZ frsZ) (Fd : FunD K "_law_due" "_law_due" (defArgs st_23) (defBody st_23) (defScope st_23) [] [] ((NZ K).fn 23) fd) (ft : FT PySem.Challenge.pw_answersby_k88_bodies_written w K mg base (NZ K) PZ.fx TZ.fns.length (run PZ k) (r + 2)) (fm : FT PySem.Challenge.pw_answersby_k88_bodies_written w K mg base (NZ K) PZ.fx TZ.fns.length (run PZ (k - 1)) (r + 1)) :
    FnOk PySem.Challenge.pw_answersby_k88_bodies_written w K mg base (cxm PySem.Challenge.pw_answersby_k88_bodies_written w (mdZ 23)) (r + 3) ((NZ K).fn 23) fd ["_law_method", "_law_told"] (spF K w (NZ K) PZ.fx (run PZ (k + 1) 23)) :=
  fn_go (f := 23) (F := F_23) (names := ["_law_method", "_law_told"]) (ps := ["_law_method", "_law_told"]) Fd sc_23 rfl rfl rfl g ft fm fun cdv A outer s0 H0 E0 a po poAt =>
  have S := sc_23
  sts_cons (st_try a.xm rfl rfl S.nd a.b.tk (fun W pn xe tk po2 => sts_cons (st_ret (s_mk (a.tr (m2 := true) tk).b ((a.tr (m2 := true) tk).mkf (c := 0) (by decide) rfl rfl (show mdZ 28 = true → true = true from by decide)) rfl ((a.tr (m2 := true) tk).g.cls 0 _ rfl) (s_cons (s_var (i := 0) rfl (.inl rfl) nd__law_method.1 nd__law_method.2) (s_cons (s_var (i := 1) rfl (.inl rfl) nd__law_told.1 nd__law_told.2) (s_nil) rfl) rfl) nd_Body.1 rfl rfl))
    (sts_nil)) (HdA.cons ⟨rfl, nd_NoBody.1, .inl (a.g.exc 2 _ rfl)⟩ (fun ea oe cls dd pn hz hf => sts_cons (st_ret (s_lst (show 4 ≤ 1000 from by decide) (s_cons (s_str (by decide +kernel)) (s_cons (s_non) (s_cons (s_bl) (s_cons (s_bl) (s_nil) rfl) rfl) rfl) rfl)))
    (sts_nil)) (HdA.nil)))
    (sts_nil)
def st_24 : Stmt := (topS 47)
theorem sc_24 : FnScope ["_law_pool_here", "_law_text", "_law_words", "_law_at", "_law_found"] ["_law_pool_here", "_law_text"] (defScope st_24) := ⟨rfl, rfl, rfl, by decide +kernel, rfl, by decide +kernel, by decide +kernel⟩
/-- _law_bent -/
theorem d_24 {k r : Nat} {fd : FuncData} (g : GF PySem.Challenge.pw_answersby_k88_bodies_written w K mg base (NZ K) PZ TZ consZ frsZ) (Fd : FunD K "_law_bent" "_law_bent" (defArgs st_24) (defBody st_24) (defScope st_24) [] [] ((NZ K).fn 24) fd) (ft : FT PySem.Challenge.pw_answersby_k88_bodies_written w K mg base (NZ K) PZ.fx TZ.fns.length (run PZ k) (r + 2)) (fm : FT PySem.Challenge.pw_answersby_k88_bodies_written w K mg base (NZ K) PZ.fx TZ.fns.length (run PZ (k - 1)) (r + 1)) :
    FnOk PySem.Challenge.pw_answersby_k88_bodies_written w K mg base (cxm PySem.Challenge.pw_answersby_k88_bodies_written w (mdZ 24)) (r + 3) ((NZ K).fn 24) fd ["_law_pool_here", "_law_text"] (spF K w (NZ K) PZ.fx (run PZ (k + 1) 24)) :=
  fn_go (f := 24) (F := F_24) (names := ["_law_pool_here", "_law_text", "_law_words", "_law_at", "_law_found"]) (ps := ["_law_pool_here", "_law_text"]) Fd sc_24 rfl rfl rfl g ft fm fun cdv A outer s0 H0 E0 a po poAt =>
  have S := sc_24
  sts_cons (st_setN (i := 2) S.nd rfl (.inl rfl) (.inr rfl) (s_bm (by decide) PySem.F.plainAttrs_str PySem.F.slot_str_split PySem.F.type_str_split m_split (s_var (i := 1) rfl (.inl rfl) nd__law_text.1 nd__law_text.2) (s_cons (s_str (by decide +kernel)) (s_nil) rfl) rfl rfl rfl rfl rfl) rfl)
    (sts_cons (st_setN (i := 3) S.nd rfl (.inl rfl) (.inr rfl) (s_call a.b (by decide) (show mdZ 16 = true → mdZ 24 = true from by decide) rfl (a.g.fns 16 _ rfl) (s_cons (s_var (i := 0) rfl (.inl rfl) nd__law_pool_here.1 nd__law_pool_here.2) (s_cons (s_bin o_add (by decide) (by decide) (s_bi (fun _ h => pe_callB b_len rfl (a.g.fre 4 _ rfl) bt_len h) (s_cons (s_var (i := 2) rfl (.inl rfl) nd__law_words.1 nd__law_words.2) (s_nil) rfl)) (s_int)) (s_nil) rfl) rfl) nd__law_take.1 rfl rfl) rfl)
    (sts_cons (st_setN (i := 4) S.nd rfl (.inl rfl) (.inr rfl) (s_lst (show 7 ≤ 1000 from by decide) (s_cons (s_bin o_add (by decide) (by decide) (s_var (i := 1) rfl (.inl rfl) nd__law_text.1 nd__law_text.2) (s_str (by decide +kernel))) (s_cons (s_bin o_add (by decide) (by decide) (s_str (by decide +kernel)) (s_var (i := 1) rfl (.inl rfl) nd__law_text.1 nd__law_text.2)) (s_cons (s_bin o_add (by decide) (by decide) (s_var (i := 1) rfl (.inl rfl) nd__law_text.1 nd__law_text.2) (s_str (by decide +kernel))) (s_cons (s_bin o_add (by decide) (by decide) (s_var (i := 1) rfl (.inl rfl) nd__law_text.1 nd__law_text.2) (s_str (by decide +kernel))) (s_cons (s_str (by decide +kernel)) (s_cons (s_bm (by decide) PySem.F.plainAttrs_str PySem.F.slot_str_join PySem.F.type_str_join m_join (s_str (by decide +kernel)) (s_cons (s_slc (s_var (i := 2) rfl (.inl rfl) nd__law_words.1 nd__law_words.2) (.inl ⟨rfl, rfl, rfl⟩) (.inr ⟨_, _, rfl, rfl, s_neg (s_int), rfl⟩)) (s_nil) rfl) rfl rfl rfl rfl rfl) (s_cons (s_bin o_add (by decide) (by decide) (s_var (i := 1) rfl (.inl rfl) nd__law_text.1 nd__law_text.2) (s_var (i := 1) rfl (.inl rfl) nd__law_text.1 nd__law_text.2)) (s_nil) rfl) rfl) rfl) rfl) rfl) rfl) rfl)) rfl)
    (sts_cons (st_ex (s_bm (by decide) PySem.F.plainAttrs_list PySem.F.slot_list_append PySem.F.type_list_append m_append (s_var (i := 4) rfl (.inl rfl) nd__law_found.1 nd__law_found.2) (s_cons (s_bin o_add (by decide) (by decide) (s_bin o_add (by decide) (by decide) (s_bm (by decide) PySem.F.plainAttrs_str PySem.F.slot_str_join PySem.F.type_str_join m_join (s_str (by decide +kernel)) (s_cons (s_slc (s_var (i := 2) rfl (.inl rfl) nd__law_words.1 nd__law_words.2) (.inl ⟨rfl, rfl, rfl⟩) (.inr ⟨_, _, rfl, rfl, s_var (i := 3) rfl (.inl rfl) nd__law_at.1 nd__law_at.2, rfl⟩)) (s_nil) rfl) rfl rfl rfl rfl rfl) (s_str (by decide +kernel))) (s_bm (by decide) PySem.F.plainAttrs_str PySem.F.slot_str_join PySem.F.type_str_join m_join (s_str (by decide +kernel)) (s_cons (s_slc (s_var (i := 2) rfl (.inl rfl) nd__law_words.1 nd__law_words.2) (.inr ⟨_, _, rfl, rfl, s_var (i := 3) rfl (.inl rfl) nd__law_at.1 nd__law_at.2, rfl⟩) (.inl ⟨rfl, rfl, rfl⟩)) (s_nil) rfl) rfl rfl rfl rfl rfl)) (s_nil) rfl) rfl rfl rfl rfl rfl) rfl)
    (sts_cons (st_setN (i := 4) S.nd rfl (.inl rfl) (.inr rfl) (s_cat (s_var (i := 4) rfl (.inl rfl) nd__law_found.1 nd__law_found.2) (s_lst (show 9 ≤ 1000 from by decide) (s_cons (s_str (by decide +kernel)) (s_cons (s_str (by decide +kernel)) (s_cons (s_str (by decide +kernel)) (s_cons (s_str (by decide +kernel)) (s_cons (s_str (by decide +kernel)) (s_cons (s_str (by decide +kernel)) (s_cons (s_str (by decide +kernel)) (s_cons (s_str (by decide +kernel)) (s_cons (s_str (by decide +kernel)) (s_nil) rfl) rfl) rfl) rfl) rfl) rfl) rfl) rfl) rfl))) rfl)
    (sts_cons (st_ex (s_bm (by decide) PySem.F.plainAttrs_list PySem.F.slot_list_append PySem.F.type_list_append m_append (s_var (i := 4) rfl (.inl rfl) nd__law_found.1 nd__law_found.2) (s_cons (s_bm (by decide) PySem.F.plainAttrs_str PySem.F.slot_str_join PySem.F.type_str_join m_join (s_str (by decide +kernel)) (s_cons (s_bin o_add (by decide) (by decide) (s_bin o_mul (by decide) (by decide) (s_lst (show 1 ≤ 1000 from by decide) (s_cons (s_str (by decide +kernel)) (s_nil) rfl)) (s_bin o_add (by decide) (by decide) (s_int) (s_call a.b (by decide) (show mdZ 16 = true → mdZ 24 = true from by decide) rfl (a.g.fns 16 _ rfl) (s_cons (s_var (i := 0) rfl (.inl rfl) nd__law_pool_here.1 nd__law_pool_here.2) (s_cons (s_int) (s_nil) rfl) rfl) nd__law_take.1 rfl rfl))) (s_lst (show 1 ≤ 1000 from by decide) (s_cons (s_str (by decide +kernel)) (s_nil) rfl))) (s_nil) rfl) rfl rfl rfl rfl rfl) (s_nil) rfl) rfl rfl rfl rfl rfl) rfl)
    (sts_cons (st_ret (s_bin o_add (by decide) (by decide) (s_var (i := 4) rfl (.inl rfl) nd__law_found.1 nd__law_found.2) (s_lst (show 3 ≤ 1000 from by decide) (s_cons (s_bm (by decide) PySem.F.plainAttrs_str PySem.F.slot_str_join PySem.F.type_str_join m_join (s_str (by decide +kernel)) (s_cons (s_bin o_add (by decide) (by decide) (s_bin o_mul (by decide) (by decide) (s_lst (show 1 ≤ 1000 from by decide) (s_cons (s_str (by decide +kernel)) (s_nil) rfl)) (s_int)) (s_lst (show 1 ≤ 1000 from by decide) (s_cons (s_str (by decide +kernel)) (s_nil) rfl))) (s_nil) rfl) rfl rfl rfl rfl rfl) (s_cons (s_str (by decide +kernel)) (s_cons (s_str (by decide +kernel)) (s_nil) rfl) rfl) rfl))))
    (sts_nil)))))))
def st_25 : Stmt := (topS 48)
theorem sc_25 : FnScope ["_law_pool_here", "_law_method", "_law_told", "_law_body", "_law_text", "_law_again", "_law_wrong", "_law_other"] ["_law_pool_here", "_law_method", "_law_told"] (defScope st_25) := ⟨rfl, rfl, rfl, by decide +kernel, rfl, by decide +kernel, by decide +kernel⟩
/-- _law_right -/
theorem d_25 {k r : Nat} {fd : FuncData} (g : GF PySem.Challenge.pw_answersby_k88_bodies_written w K mg base (NZ K) PZ TZ consZ frsZ) (Fd : FunD K "_law_right" "_law_right" (defArgs st_25) (defBody st_25) (defScope st_25) [] [] ((NZ K).fn 25) fd) (ft : FT PySem.Challenge.pw_answersby_k88_bodies_written w K mg base (NZ K) PZ.fx TZ.fns.length (run PZ k) (r + 2)) (fm : FT PySem.Challenge.pw_answersby_k88_bodies_written w K mg base (NZ K) PZ.fx TZ.fns.length (run PZ (k - 1)) (r + 1)) :
    FnOk PySem.Challenge.pw_answersby_k88_bodies_written w K mg base (cxm PySem.Challenge.pw_answersby_k88_bodies_written w (mdZ 25)) (r + 3) ((NZ K).fn 25) fd ["_law_pool_here", "_law_method", "_law_told"] (spF K w (NZ K) PZ.fx (run PZ (k + 1) 25)) :=
  fn_go (f := 25) (F := F_25) (names := ["_law_pool_here", "_law_method", "_law_told", "_law_body", "_law_text", "_law_again", "_law_wrong", "_law_other"]) (ps := ["_law_pool_here", "_law_method", "_law_told"]) Fd sc_25 rfl rfl rfl g ft fm fun cdv A outer s0 H0 E0 a po poAt =>
  have S := sc_25
  sts_cons (st_setN (i := 3) S.nd rfl (.inl rfl) (.inr rfl) (s_mk a.b (a.mkf (c := 0) (by decide) rfl rfl (show mdZ 28 = true → mdZ 25 = true from by decide)) rfl (a.g.cls 0 _ rfl) (s_cons (s_var (i := 1) rfl (.inl rfl) nd__law_method.1 nd__law_method.2) (s_cons (s_var (i := 2) rfl (.inl rfl) nd__law_told.1 nd__law_told.2) (s_nil) rfl) rfl) nd_Body.1 rfl rfl) rfl)
    (sts_cons (st_setN (i := 4) S.nd rfl (.inl rfl) (.inr rfl) (s_call a.b (by decide) (show mdZ 11 = true → mdZ 25 = true from by decide) rfl (a.g.fns 11 _ rfl) (s_cons (s_var (i := 3) rfl (.inl rfl) nd__law_body.1 nd__law_body.2) (s_nil) rfl) nd_write_body.1 rfl rfl) rfl)
    (sts_cons (st_if (s_ptBo (s_pwOr (s_ptNot (s_pt (fun _ => rfl) (s_isi a.pf trivial rfl (a.g.fre 0 _ rfl) (s_var (i := 4) rfl (.inl rfl) nd__law_text.1 nd__law_text.2) (pe_bltn rfl (a.g.fre 3 _ rfl) bt_str rfl) rfl rfl rfl))) (s_pwOr1 (s_ptCmp (o_neOwn a.b a.mf mdM (by decide) a.pf a.ef) rfl (s_var (i := 4) rfl (.inl rfl) nd__law_text.1 nd__law_text.2) (s_bm (by decide) PySem.F.plainAttrs_str PySem.F.slot_str_join PySem.F.type_str_join m_join (s_str (by decide +kernel)) (s_cons (s_call a.b (by decide) (show mdZ 21 = true → mdZ 25 = true from by decide) rfl (a.g.fns 21 _ rfl) (s_cons (s_var (i := 2) rfl (.inl rfl) nd__law_told.1 nd__law_told.2) (s_nil) rfl) nd__law_flat.1 rfl rfl) (s_nil) rfl) rfl rfl rfl rfl rfl))))) (sts_cons (st_ret (s_bl))
    (sts_nil)) (sts_nil))
    (sts_cons (st_setN (i := 5) S.nd rfl (.inl rfl) (.inr rfl) (s_call a.b (by decide) (show mdZ 22 = true → mdZ 25 = true from by decide) rfl (a.g.fns 22 _ rfl) (s_cons (s_var (i := 1) rfl (.inl rfl) nd__law_method.1 nd__law_method.2) (s_cons (s_var (i := 4) rfl (.inl rfl) nd__law_text.1 nd__law_text.2) (s_nil) rfl) rfl) nd__law_read.1 rfl rfl) rfl)
    (sts_cons (st_if (s_ptBo (s_pwOr (s_ptNot (s_pt (fun _ => rfl) (s_isi a.pf (show 0 < _ from by decide) rfl (a.g.fre 0 _ rfl) (s_var (i := 5) rfl (.inl rfl) nd__law_again.1 nd__law_again.2) (pe_glob rfl (a.g.cls 0 _ rfl) rfl nd_Body.1) rfl rfl rfl))) (s_pwOr (s_ptCmp (o_neOwn a.b a.mf mdM (by decide) a.pf a.ef) rfl (s_var (i := 5) rfl (.inl rfl) nd__law_again.1 nd__law_again.2) (s_var (i := 3) rfl (.inl rfl) nd__law_body.1 nd__law_body.2)) (s_pwOr (s_ptCmp (o_neOwn a.b a.mf mdM (by decide) a.pf a.ef) rfl (s_at a.pf (by decide) rfl (s_var (i := 5) rfl (.inl rfl) nd__law_again.1 nd__law_again.2) rfl) (s_var (i := 2) rfl (.inl rfl) nd__law_told.1 nd__law_told.2)) (s_pwOr1 (s_ptCmp (o_neOwn a.b a.mf mdM (by decide) a.pf a.ef) rfl (s_at a.pf (by decide) rfl (s_var (i := 5) rfl (.inl rfl) nd__law_again.1 nd__law_again.2) rfl) (s_var (i := 1) rfl (.inl rfl) nd__law_method.1 nd__law_method.2))))))) (sts_cons (st_ret (s_bl))
    (sts_nil)) (sts_nil))
    (sts_cons (st_for po rfl (s_sq (s_bin o_add (by decide) (by decide) (s_call a.b (by decide) (show mdZ 24 = true → mdZ 25 = true from by decide) rfl (a.g.fns 24 _ rfl) (s_cons (s_var (i := 0) rfl (.inl rfl) nd__law_pool_here.1 nd__law_pool_here.2) (s_cons (s_var (i := 4) rfl (.inl rfl) nd__law_text.1 nd__law_text.2) (s_nil) rfl) rfl) nd__law_bent.1 rfl rfl) (s_lst (show 5 ≤ 1000 from by decide) (s_cons (s_non) (s_cons (s_int) (s_cons (s_lst (show 1 ≤ 1000 from by decide) (s_cons (s_str (by decide +kernel)) (s_nil) rfl)) (s_cons (s_tup (show 1 ≤ 1000 from by decide) (s_cons (s_str (by decide +kernel)) (s_nil) rfl)) (s_cons (s_bl) (s_nil) rfl) rfl) rfl) rfl) rfl)))) (pg_name (i := 6) S.nd rfl (.inl rfl) (.inr rfl)) (sts_cons (st_if (s_ptCmp (o_neOwn a.b a.mf mdM (by decide) a.pf a.ef) rfl (s_call a.b (by decide) (show mdZ 22 = true → mdZ 25 = true from by decide) rfl (a.g.fns 22 _ rfl) (s_cons (s_var (i := 1) rfl (.inl rfl) nd__law_method.1 nd__law_method.2) (s_cons (s_var (i := 6) rfl (.inl rfl) nd__law_wrong.1 nd__law_wrong.2) (s_nil) rfl) rfl) nd__law_read.1 rfl rfl) (s_lst (show 4 ≤ 1000 from by decide) (s_cons (s_str (by decide +kernel)) (s_cons (s_non) (s_cons (s_bl) (s_cons (s_bl) (s_nil) rfl) rfl) rfl) rfl))) (sts_cons (st_ret (s_bl))
    (sts_nil)) (sts_nil))
    (sts_nil)) (fun _ => rfl))
    (sts_cons (st_for po rfl (s_sq (s_lst (show 6 ≤ 1000 from by decide) (s_cons (s_str (by decide +kernel)) (s_cons (s_str (by decide +kernel)) (s_cons (s_str (by decide +kernel)) (s_cons (s_str (by decide +kernel)) (s_cons (s_str (by decide +kernel)) (s_cons (s_str (by decide +kernel)) (s_nil) rfl) rfl) rfl) rfl) rfl) rfl))) (pg_name (i := 7) S.nd rfl (.inl rfl) (.inr rfl)) (sts_cons (st_if (s_ptCmp (o_neOwn a.b a.mf mdM (by decide) a.pf a.ef) rfl (s_call a.b (by decide) (show mdZ 22 = true → mdZ 25 = true from by decide) rfl (a.g.fns 22 _ rfl) (s_cons (s_var (i := 7) rfl (.inl rfl) nd__law_other.1 nd__law_other.2) (s_cons (s_var (i := 4) rfl (.inl rfl) nd__law_text.1 nd__law_text.2) (s_nil) rfl) rfl) nd__law_read.1 rfl rfl) (s_call a.b (by decide) (show mdZ 23 = true → mdZ 25 = true from by decide) rfl (a.g.fns 23 _ rfl) (s_cons (s_var (i := 7) rfl (.inl rfl) nd__law_other.1 nd__law_other.2) (s_cons (s_var (i := 2) rfl (.inl rfl) nd__law_told.1 nd__law_told.2) (s_nil) rfl) rfl) nd__law_due.1 rfl rfl)) (sts_cons (st_ret (s_bl))
    (sts_nil)) (sts_nil))
    (sts_nil)) (fun _ => rfl))
    (sts_cons (st_for po rfl (s_sq (s_lst (show 9 ≤ 1000 from by decide) (s_cons (s_non) (s_cons (s_str (by decide +kernel)) (s_cons (s_str (by decide +kernel)) (s_cons (s_str (by decide +kernel)) (s_cons (s_str (by decide +kernel)) (s_cons (s_str (by decide +kernel)) (s_cons (s_int) (s_cons (s_lst (show 0 ≤ 1000 from by decide) (s_nil)) (s_cons (s_str (by decide +kernel)) (s_nil) rfl) rfl) rfl) rfl) rfl) rfl) rfl) rfl) rfl))) (pg_name (i := 6) S.nd rfl (.inl rfl) (.inr rfl)) (sts_cons (st_if (s_ptBo (s_pwOr (s_ptCmp (o_neOwn a.b a.mf mdM (by decide) a.pf a.ef) rfl (s_call a.b (by decide) (show mdZ 22 = true → mdZ 25 = true from by decide) rfl (a.g.fns 22 _ rfl) (s_cons (s_var (i := 6) rfl (.inl rfl) nd__law_wrong.1 nd__law_wrong.2) (s_cons (s_var (i := 4) rfl (.inl rfl) nd__law_text.1 nd__law_text.2) (s_nil) rfl) rfl) nd__law_read.1 rfl rfl) (s_lst (show 4 ≤ 1000 from by decide) (s_cons (s_str (by decide +kernel)) (s_cons (s_var (i := 6) rfl (.inl rfl) nd__law_wrong.1 nd__law_wrong.2) (s_cons (s_bl) (s_cons (s_bl) (s_nil) rfl) rfl) rfl) rfl))) (s_pwOr1 (s_ptCmp (o_neOwn a.b a.mf mdM (by decide) a.pf a.ef) rfl (s_ix a.hu (s_call a.b (by decide) (show mdZ 22 = true → mdZ 25 = true from by decide) rfl (a.g.fns 22 _ rfl) (s_cons (s_var (i := 6) rfl (.inl rfl) nd__law_wrong.1 nd__law_wrong.2) (s_cons (s_int) (s_nil) rfl) rfl) nd__law_read.1 rfl rfl) (s_int) (fun _ _ => rfl)) (s_str (by decide +kernel)))))) (sts_cons (st_ret (s_bl))
    (sts_nil)) (sts_nil))
    (sts_nil)) (fun _ => rfl))
    (sts_cons (st_ret (s_bl))
    (sts_nil)))))))))
def st_26 : Stmt := (topS 49)
theorem sc_26 : FnScope ["_law_asked", "_law_found", "_law_turn"] [] (defScope st_26) := ⟨rfl, rfl, rfl, by decide +kernel, rfl, by decide +kernel, by decide +kernel⟩
/-- _law_greatest -/
theorem d_26 {k r : Nat} {fd : FuncData} (g : GF PySem.Challenge.pw_answersby_k88_bodies_written w K mg base (NZ K) PZ TZ consZ frsZ) (Fd : FunD K "_law_greatest" "_law_greatest" (defArgs st_26) (defBody st_26) (defScope st_26) [] [] ((NZ K).fn 26) fd) (ft : FT PySem.Challenge.pw_answersby_k88_bodies_written w K mg base (NZ K) PZ.fx TZ.fns.length (run PZ k) (r + 2)) (fm : FT PySem.Challenge.pw_answersby_k88_bodies_written w K mg base (NZ K) PZ.fx TZ.fns.length (run PZ (k - 1)) (r + 1)) :
    FnOk PySem.Challenge.pw_answersby_k88_bodies_written w K mg base (cxm PySem.Challenge.pw_answersby_k88_bodies_written w (mdZ 26)) (r + 3) ((NZ K).fn 26) fd [] (spF K w (NZ K) PZ.fx (run PZ (k + 1) 26)) :=
  fn_go (f := 26) (F := F_26) (names := ["_law_asked", "_law_found", "_law_turn"]) (ps := []) Fd sc_26 rfl rfl rfl g ft fm fun cdv A outer s0 H0 E0 a po poAt =>
  have S := sc_26
  sts_cons (st_setN (i := 0) S.nd rfl (.inl rfl) (.inr rfl) (s_tup (show 4 ≤ 1000 from by decide) (s_cons (s_str (by decide +kernel)) (s_cons (s_str (by decide +kernel)) (s_cons (s_str (by decide +kernel)) (s_cons (s_str (by decide +kernel)) (s_nil) rfl) rfl) rfl) rfl)) rfl)
    (sts_cons (st_setN (i := 1) S.nd rfl (.inl rfl) (.inr rfl) (s_tup (show 4 ≤ 1000 from by decide) (s_cons (s_str (by decide +kernel)) (s_cons (s_var (i := 0) rfl (.inl rfl) nd__law_asked.1 nd__law_asked.2) (s_cons (s_var (i := 0) rfl (.inl rfl) nd__law_asked.1 nd__law_asked.2) (s_cons (s_var (i := 0) rfl (.inl rfl) nd__law_asked.1 nd__law_asked.2) (s_nil) rfl) rfl) rfl) rfl)) rfl)
    (sts_cons (st_for po rfl (s_rg rfl (a.g.fre 7 _ rfl) (s_cons (s_int) (s_nil) rfl) rfl) (pg_name (i := 2) S.nd rfl (.inl rfl) (.inr rfl)) (sts_cons (st_setN (i := 1) S.nd rfl (.inl rfl) (.inr rfl) (s_tup (show 4 ≤ 1000 from by decide) (s_cons (s_str (by decide +kernel)) (s_cons (s_var (i := 0) rfl (.inl rfl) nd__law_asked.1 nd__law_asked.2) (s_cons (s_var (i := 0) rfl (.inl rfl) nd__law_asked.1 nd__law_asked.2) (s_cons (s_var (i := 1) rfl (.inl rfl) nd__law_found.1 nd__law_found.2) (s_nil) rfl) rfl) rfl) rfl)) rfl)
    (sts_nil)) (fun _ => rfl))
    (sts_cons (st_ret (s_var (i := 1) rfl (.inl rfl) nd__law_found.1 nd__law_found.2))
    (sts_nil))))
def st_27 : Stmt := (topS 50)
theorem sc_27 : FnScope ["_law_script", "_law_k", "_law_pool_here", "_law_some", "_law_method"] ["_law_script"] (defScope st_27) := ⟨rfl, rfl, rfl, by decide +kernel, rfl, by decide +kernel, by decide +kernel⟩
/-- law -/
theorem d_27 {k r : Nat} {fd : FuncData} (g : GF PySem.Challenge.pw_answersby_k88_bodies_written w K mg base (NZ K) PZ TZ consZ frsZ) (Fd : FunD K "law" "law" (defArgs st_27) (defBody st_27) (defScope st_27) [] [] ((NZ K).fn 27) fd) (ft : FT PySem.Challenge.pw_answersby_k88_bodies_written w K mg base (NZ K) PZ.fx TZ.fns.length (run PZ k) (r + 2)) (fm : FT PySem.Challenge.pw_answersby_k88_bodies_written w K mg base (NZ K) PZ.fx TZ.fns.length (run PZ (k - 1)) (r + 1)) :
    FnOk PySem.Challenge.pw_answersby_k88_bodies_written w K mg base (cxm PySem.Challenge.pw_answersby_k88_bodies_written w (mdZ 27)) (r + 3) ((NZ K).fn 27) fd ["_law_script"] (spF K w (NZ K) PZ.fx (run PZ (k + 1) 27)) :=
  fn_go (f := 27) (F := F_27) (names := ["_law_script", "_law_k", "_law_pool_here", "_law_some", "_law_method"]) (ps := ["_law_script"]) Fd sc_27 rfl rfl rfl g ft fm fun cdv A outer s0 H0 E0 a po poAt =>
  have S := sc_27
  sts_cons (st_if (s_ptCmp (o_neOwn a.b a.mf mdM (by decide) a.pf a.ef) rfl (s_bi (fun _ h => pe_callB b_len rfl (a.g.fre 4 _ rfl) bt_len h) (s_cons (s_call a.b (by decide) (show mdZ 21 = true → mdZ 27 = true from by decide) rfl (a.g.fns 21 _ rfl) (s_cons (s_call0 a.b (by decide) (show mdZ 26 = true → mdZ 27 = true from by decide) rfl (a.g.fns 26 _ rfl) nd__law_greatest.1) (s_nil) rfl) nd__law_flat.1 rfl rfl) (s_nil) rfl)) (s_int)) (sts_cons (st_ret (s_bl))
    (sts_nil)) (sts_nil))
    (sts_cons (st_if (s_ptNot (s_pt (fun _ => rfl) (s_call a.b (by decide) (show mdZ 25 = true → mdZ 27 = true from by decide) rfl (a.g.fns 25 _ rfl) (s_cons (s_call a.b (by decide) (show mdZ 15 = true → mdZ 27 = true from by decide) rfl (a.g.fns 15 _ rfl) (s_cons (s_var (i := 0) rfl (.inl rfl) nd__law_script.1 nd__law_script.2) (s_cons (s_int) (s_nil) rfl) rfl) nd__law_pool.1 rfl rfl) (s_cons (s_str (by decide +kernel)) (s_cons (s_call0 a.b (by decide) (show mdZ 26 = true → mdZ 27 = true from by decide) rfl (a.g.fns 26 _ rfl) nd__law_greatest.1) (s_nil) rfl) rfl) rfl) nd__law_right.1 rfl rfl))) (sts_cons (st_ret (s_bl))
    (sts_nil)) (sts_nil))
    (sts_cons (st_for po rfl (s_rg rfl (a.g.fre 7 _ rfl) (s_cons (s_bi (fun _ h => pe_callB (b_max rfl) rfl (a.g.fre 8 _ rfl) bt_max h) (s_cons (s_int) (s_cons (s_bi (fun _ h => pe_callB (b_min rfl) rfl (a.g.fre 9 _ rfl) bt_min h) (s_cons (s_int) (s_cons (s_bi (fun _ h => pe_callB b_len rfl (a.g.fre 4 _ rfl) bt_len h) (s_cons (s_var (i := 0) rfl (.inl rfl) nd__law_script.1 nd__law_script.2) (s_nil) rfl)) (s_nil) rfl) rfl)) (s_nil) rfl) rfl)) (s_nil) rfl) rfl) (pg_name (i := 1) S.nd rfl (.inl rfl) (.inr rfl)) (sts_cons (st_setN (i := 2) S.nd rfl (.inl rfl) (.inr rfl) (s_call a.b (by decide) (show mdZ 15 = true → mdZ 27 = true from by decide) rfl (a.g.fns 15 _ rfl) (s_cons (s_var (i := 0) rfl (.inl rfl) nd__law_script.1 nd__law_script.2) (s_cons (s_var (i := 1) rfl (.inl rfl) nd__law_k.1 nd__law_k.2) (s_nil) rfl) rfl) nd__law_pool.1 rfl rfl) rfl)
    (sts_cons (st_setN (i := 3) S.nd rfl (.inl rfl) (.inr rfl) (s_lst (show 8 ≤ 1000 from by decide) (s_cons (s_str (by decide +kernel)) (s_cons (s_str (by decide +kernel)) (s_cons (s_str (by decide +kernel)) (s_cons (s_str (by decide +kernel)) (s_cons (s_str (by decide +kernel)) (s_cons (s_str (by decide +kernel)) (s_cons (s_str (by decide +kernel)) (s_cons (s_str (by decide +kernel)) (s_nil) rfl) rfl) rfl) rfl) rfl) rfl) rfl) rfl)) rfl)
    (sts_cons (st_setN (i := 4) S.nd rfl (.inl rfl) (.inr rfl) (s_call a.b (by decide) (show mdZ 17 = true → mdZ 27 = true from by decide) rfl (a.g.fns 17 _ rfl) (s_cons (s_var (i := 2) rfl (.inl rfl) nd__law_pool_here.1 nd__law_pool_here.2) (s_cons (s_var (i := 3) rfl (.inl rfl) nd__law_some.1 nd__law_some.2) (s_nil) rfl) rfl) nd__law_one.1 rfl rfl) rfl)
    (sts_cons (st_if (s_ptNot (s_pt (fun _ => rfl) (s_call a.b (by decide) (show mdZ 25 = true → mdZ 27 = true from by decide) rfl (a.g.fns 25 _ rfl) (s_cons (s_var (i := 2) rfl (.inl rfl) nd__law_pool_here.1 nd__law_pool_here.2) (s_cons (s_var (i := 4) rfl (.inl rfl) nd__law_method.1 nd__law_method.2) (s_cons (s_call a.b (by decide) (show mdZ 20 = true → mdZ 27 = true from by decide) rfl (a.g.fns 20 _ rfl) (s_cons (s_var (i := 2) rfl (.inl rfl) nd__law_pool_here.1 nd__law_pool_here.2) (s_cons (s_var (i := 4) rfl (.inl rfl) nd__law_method.1 nd__law_method.2) (s_cons (s_int) (s_cons (s_bl) (s_nil) rfl) rfl) rfl) rfl) nd__law_deep.1 rfl rfl) (s_nil) rfl) rfl) rfl) nd__law_right.1 rfl rfl))) (sts_cons (st_ret (s_bl))
    (sts_nil)) (sts_nil))
    (sts_nil))))) (fun _ => rfl))
    (sts_cons (st_ret (s_bl))
    (sts_nil))))
def st_28 : Stmt := (inS (topS 27) 0)
theorem sc_28 : FnScope ["self", "method", "expression", "found"] ["self", "method", "expression"] (defScope st_28) := ⟨rfl, rfl, rfl, by decide +kernel, rfl, by decide +kernel, by decide +kernel⟩
/-- Body.__init__ -/
theorem d_28 {k r : Nat} {fd : FuncData} (g : GF PySem.Challenge.pw_answersby_k88_bodies_written w K mg base (NZ K) PZ TZ consZ frsZ) (Fd : FunD K "__init__" "Body.__init__" (defArgs st_28) (defBody st_28) (defScope st_28) [] [] ((NZ K).fn 28) fd) (ft : FT PySem.Challenge.pw_answersby_k88_bodies_written w K mg base (NZ K) PZ.fx TZ.fns.length (run PZ k) (r + 2)) (fm : FT PySem.Challenge.pw_answersby_k88_bodies_written w K mg base (NZ K) PZ.fx TZ.fns.length (run PZ (k - 1)) (r + 1)) :
    FnOk PySem.Challenge.pw_answersby_k88_bodies_written w K mg base (cxm PySem.Challenge.pw_answersby_k88_bodies_written w (mdZ 28)) (r + 3) ((NZ K).fn 28) fd ["self", "method", "expression"] (spF K w (NZ K) PZ.fx (run PZ (k + 1) 28)) :=
  fn_go (f := 28) (F := F_28) (names := ["self", "method", "expression", "found"]) (ps := ["self", "method", "expression"]) Fd sc_28 rfl rfl rfl g ft fm fun cdv A outer s0 H0 E0 a po poAt =>
  have S := sc_28
  sts_cons (st_if (s_ptBo (s_pwOr (s_ptNot (s_pt (fun _ => rfl) (s_call a.b (by decide) (show mdZ 1 = true → mdZ 28 = true from by decide) rfl (a.g.fns 1 _ rfl) (s_cons (s_var (i := 1) rfl (.inl rfl) nd_method.1 nd_method.2) (s_nil) rfl) nd_is_method.1 rfl rfl))) (s_pwOr1 (s_ptCmp (rCmp_op (by decide) (by decide) (o_notin a.hu)) rfl (s_call a.b (by decide) (show mdZ 3 = true → mdZ 28 = true from by decide) rfl (a.g.fns 3 _ rfl) (s_cons (s_var (i := 1) rfl (.inl rfl) nd_method.1 nd_method.2) (s_nil) rfl) nd_kind_of.1 rfl rfl) (s_tup (show 2 ≤ 1000 from by decide) (s_cons (s_str (by decide +kernel)) (s_cons (s_str (by decide +kernel)) (s_nil) rfl) rfl)))))) (sts_cons (st_rai rfl a.b a.xf rfl rfl (a.g.exc 1 _ rfl) (s_cons (s_var (i := 1) rfl (.inl rfl) nd_method.1 nd_method.2) (s_nil) rfl) nd_NoName.1 rfl rfl)
    (sts_nil)) (sts_nil))
    (sts_cons (st_setN (i := 3) S.nd rfl (.inl rfl) (.inr rfl) (s_lst (show 0 ≤ 1000 from by decide) (s_nil)) rfl)
    (sts_cons (st_ex (s_call a.b (by decide) (show mdZ 9 = true → mdZ 28 = true from by decide) rfl (a.g.fns 9 _ rfl) (s_cons (s_var (i := 1) rfl (.inl rfl) nd_method.1 nd_method.2) (s_cons (s_var (i := 2) rfl (.inl rfl) nd_expression.1 nd_expression.2) (s_cons (s_int) (s_cons (s_bl) (s_cons (s_var (i := 3) rfl (.inl rfl) nd_found.1 nd_found.2) (s_nil) rfl) rfl) rfl) rfl) rfl) nd_lay_node.1 rfl rfl) rfl)
    (sts_cons (st_sat a.pf (by decide) rfl (s_var (i := 0) rfl (.inl rfl) nd_self.1 nd_self.2) (s_var (i := 1) rfl (.inl rfl) nd_method.1 nd_method.2) rfl)
    (sts_cons (st_sat a.pf (by decide) rfl (s_var (i := 0) rfl (.inl rfl) nd_self.1 nd_self.2) (s_var (i := 2) rfl (.inl rfl) nd_expression.1 nd_expression.2) rfl)
    (sts_cons (st_sat a.pf (by decide) rfl (s_var (i := 0) rfl (.inl rfl) nd_self.1 nd_self.2) (s_bi (fun _ h => pe_callTy b_tuple rfl (a.g.fre 5 _ rfl) bt_tuple h) (s_cons (s_var (i := 3) rfl (.inl rfl) nd_found.1 nd_found.2) (s_nil) rfl)) rfl)
    (sts_nil))))))
def st_29 : Stmt := (inS (topS 27) 1)
theorem sc_29 : FnScope ["self"] ["self"] (defScope st_29) := ⟨rfl, rfl, rfl, by decide +kernel, rfl, by decide +kernel, by decide +kernel⟩
/-- Body.nodes -/
theorem d_29 {k r : Nat} {fd : FuncData} (g : GF PySem.Challenge.pw_answersby_k88_bodies_written w K mg base (NZ K) PZ TZ consZ frsZ) (Fd : FunD K "nodes" "Body.nodes" (defArgs st_29) (defBody st_29) (defScope st_29) [] [] ((NZ K).fn 29) fd) (ft : FT PySem.Challenge.pw_answersby_k88_bodies_written w K mg base (NZ K) PZ.fx TZ.fns.length (run PZ k) (r + 2)) (fm : FT PySem.Challenge.pw_answersby_k88_bodies_written w K mg base (NZ K) PZ.fx TZ.fns.length (run PZ (k - 1)) (r + 1)) :
    FnOk PySem.Challenge.pw_answersby_k88_bodies_written w K mg base (cxm PySem.Challenge.pw_answersby_k88_bodies_written w (mdZ 29)) (r + 3) ((NZ K).fn 29) fd ["self"] (spF K w (NZ K) PZ.fx (run PZ (k + 1) 29)) :=
  fn_go (f := 29) (F := F_29) (names := ["self"]) (ps := ["self"]) Fd sc_29 rfl rfl rfl g ft fm fun cdv A outer s0 H0 E0 a po poAt =>
  have S := sc_29
  sts_cons (st_ret (s_bi (fun _ h => pe_callTy b_list rfl (a.g.fre 10 _ rfl) bt_list h) (s_cons (s_at a.pf (by decide) rfl (s_var (i := 0) rfl (.inl rfl) nd_self.1 nd_self.2) rfl) (s_nil) rfl)))
    (sts_nil)
def st_30 : Stmt := (inS (topS 27) 2)
theorem sc_30 : FnScope ["self", "other"] ["self", "other"] (defScope st_30) := ⟨rfl, rfl, rfl, by decide +kernel, rfl, by decide +kernel, by decide +kernel⟩
/-- Body.__eq__ -/
theorem d_30 {k r : Nat} {fd : FuncData} (g : GF PySem.Challenge.pw_answersby_k88_bodies_written w K mg base (NZ K) PZ TZ consZ frsZ) (Fd : FunD K "__eq__" "Body.__eq__" (defArgs st_30) (defBody st_30) (defScope st_30) [] [] ((NZ K).fn 30) fd) (ft : FT PySem.Challenge.pw_answersby_k88_bodies_written w K mg base (NZ K) PZ.fx TZ.fns.length (run PZ k) (r + 2)) (fm : FT PySem.Challenge.pw_answersby_k88_bodies_written w K mg base (NZ K) PZ.fx TZ.fns.length (run PZ (k - 1)) (r + 1)) :
    FnOk PySem.Challenge.pw_answersby_k88_bodies_written w K mg base (cxm PySem.Challenge.pw_answersby_k88_bodies_written w (mdZ 30)) (r + 3) ((NZ K).fn 30) fd ["self", "other"] (spF K w (NZ K) PZ.fx (run PZ (k + 1) 30)) :=
  fn_go (f := 30) (F := F_30) (names := ["self", "other"]) (ps := ["self", "other"]) Fd sc_30 rfl rfl rfl g ft fm fun cdv A outer s0 H0 E0 a po poAt =>
  have S := sc_30
  sts_cons (st_ret (s_and (s_isi a.pf (show 0 < _ from by decide) rfl (a.g.fre 0 _ rfl) (s_var (i := 1) rfl (.inl rfl) nd_other.1 nd_other.2) (pe_glob rfl (a.g.cls 0 _ rfl) rfl nd_Body.1) rfl rfl rfl) (s_and (s_cmp (o_eqOwn a.b a.mf mdM (by decide) a.pf a.ef) rfl (s_at a.pf (by decide) rfl (s_var (i := 0) rfl (.inl rfl) nd_self.1 nd_self.2) rfl) (s_at a.pf (by decide) rfl (s_var (i := 1) rfl (.inl rfl) nd_other.1 nd_other.2) rfl)) (s_bo1 (s_cmp (o_eqOwn a.b a.mf mdM (by decide) a.pf a.ef) rfl (s_at a.pf (by decide) rfl (s_var (i := 0) rfl (.inl rfl) nd_self.1 nd_self.2) rfl) (s_at a.pf (by decide) rfl (s_var (i := 1) rfl (.inl rfl) nd_other.1 nd_other.2) rfl))))))
    (sts_nil)
end
end B

set_option Elab.async false
set_option linter.all false
set_option maxRecDepth 100000
set_option maxHeartbeats 0
/-! law_k88_bodies_written: the head: printed by gen.py. Own work. -/
namespace B
open PySem PySem.Spec PyProof.Rows L2
def xst_NoName : Stmt := inS (topS 2) 0
def xst_NoBody : Stmt := inS (topS 3) 0
def xst_NoNote : Stmt := inS (topS 4) 0
def defsZ : List He.DefD := [⟨("is_number", none), "is_number", "is_number", defArgs st_0, defBody st_0, defScope st_0, [], []⟩,
  ⟨("is_method", none), "is_method", "is_method", defArgs st_1, defBody st_1, defScope st_1, [], []⟩,
  ⟨("look_at_method", none), "look_at_method", "look_at_method", defArgs st_2, defBody st_2, defScope st_2, [], []⟩,
  ⟨("kind_of", none), "kind_of", "kind_of", defArgs st_3, defBody st_3, defScope st_3, [], []⟩,
  ⟨("takes_other", none), "takes_other", "takes_other", defArgs st_4, defBody st_4, defScope st_4, [], []⟩,
  ⟨("may_decline", none), "may_decline", "may_decline", defArgs st_5, defBody st_5, defScope st_5, [], []⟩,
  ⟨("is_role", none), "is_role", "is_role", defArgs st_6, defBody st_6, defScope st_6, [], []⟩,
  ⟨("is_ask", none), "is_ask", "is_ask", defArgs st_7, defBody st_7, defScope st_7, [], []⟩,
  ⟨("is_node", none), "is_node", "is_node", defArgs st_8, defBody st_8, defScope st_8, [], []⟩,
  ⟨("lay_node", none), "lay_node", "lay_node", defArgs st_9, defBody st_9, defScope st_9, [], []⟩,
  ⟨("words_of", none), "words_of", "words_of", defArgs st_10, defBody st_10, defScope st_10, [], []⟩,
  ⟨("write_body", none), "write_body", "write_body", defArgs st_11, defBody st_11, defScope st_11, [], []⟩,
  ⟨("read_parts", none), "read_parts", "read_parts", defArgs st_12, defBody st_12, defScope st_12, [], []⟩,
  ⟨("read_words", none), "read_words", "read_words", defArgs st_13, defBody st_13, defScope st_13, [], []⟩,
  ⟨("read_body", none), "read_body", "read_body", defArgs st_14, defBody st_14, defScope st_14, [], []⟩,
  ⟨("_law_pool", none), "_law_pool", "_law_pool", defArgs st_15, defBody st_15, defScope st_15, [], []⟩,
  ⟨("_law_take", none), "_law_take", "_law_take", defArgs st_16, defBody st_16, defScope st_16, [], []⟩,
  ⟨("_law_one", none), "_law_one", "_law_one", defArgs st_17, defBody st_17, defScope st_17, [], []⟩,
  ⟨("_law_leaf", none), "_law_leaf", "_law_leaf", defArgs st_18, defBody st_18, defScope st_18, [], []⟩,
  ⟨("_law_asking", none), "_law_asking", "_law_asking", defArgs st_19, defBody st_19, defScope st_19, [], []⟩,
  ⟨("_law_deep", none), "_law_deep", "_law_deep", defArgs st_20, defBody st_20, defScope st_20, [], []⟩,
  ⟨("_law_flat", none), "_law_flat", "_law_flat", defArgs st_21, defBody st_21, defScope st_21, [], []⟩,
  ⟨("_law_read", none), "_law_read", "_law_read", defArgs st_22, defBody st_22, defScope st_22, [], []⟩,
  ⟨("_law_due", none), "_law_due", "_law_due", defArgs st_23, defBody st_23, defScope st_23, [], []⟩,
  ⟨("_law_bent", none), "_law_bent", "_law_bent", defArgs st_24, defBody st_24, defScope st_24, [], []⟩,
  ⟨("_law_right", none), "_law_right", "_law_right", defArgs st_25, defBody st_25, defScope st_25, [], []⟩,
  ⟨("_law_greatest", none), "_law_greatest", "_law_greatest", defArgs st_26, defBody st_26, defScope st_26, [], []⟩,
  ⟨("law", none), "law", "law", defArgs st_27, defBody st_27, defScope st_27, [], []⟩,
  ⟨("Body", some "__init__"), "__init__", "Body.__init__", defArgs st_28, defBody st_28, defScope st_28, [], []⟩,
  ⟨("Body", some "nodes"), "nodes", "Body.nodes", defArgs st_29, defBody st_29, defScope st_29, [], []⟩,
  ⟨("Body", some "__eq__"), "__eq__", "Body.__eq__", defArgs st_30, defBody st_30, defScope st_30, [], []⟩,
  ⟨("NoName", some "__init__"), "__init__", "NoName.__init__", defArgs xst_NoName, defBody xst_NoName, defScope xst_NoName, [], []⟩,
  ⟨("NoBody", some "__init__"), "__init__", "NoBody.__init__", defArgs xst_NoBody, defBody xst_NoBody, defScope xst_NoBody, [], []⟩,
  ⟨("NoNote", some "__init__"), "__init__", "NoNote.__init__", defArgs xst_NoNote, defBody xst_NoNote, defScope xst_NoNote, [], []⟩]
def exZ (K : PySem.W.Frag) : Bool := chk TZ (NZ K) PZ consZ frsZ K
abbrev rowZ : PySem.W.OpenRow := PySem.W.OpenLaw.row PySem.Challenge.rw_answersby_k88_bodies_written
abbrev hkZ : PySem.W.Hook := He.hookX 5 [] defsZ (tabsOf consZ) [] exZ
def obZ (s : PySem.W.SharedT) : He.AlX := He.obsX 5 [] defsZ (tabsOf consZ) [] exZ (HandSHeadRun.getT s)
theorem ob_eqZ (s : PySem.W.SharedT) : obZ s = hkZ.obs s.abs := He.obsX_eq (HandSHeadRun.getT_eq s)
def looseZ_0 : List Str := ["AnswerError", "NoName", "NoBody", "NoNote", "METHODS", "MOST_COUNT", "KINDS", "TAKING", "DECLINING", "is_number", "is_method", "look_at_method", "kind_of", "takes_other", "may_decline", "MOST_DEEP", "MOST_NODES", "SIZES", "ASKED_OF_ONE", "ASKED_OF_TWO", "is_role", "is_ask", "is_node", "lay_node", "Body", "DIGITS", "SINGLE", "MOST_WORDS"]
def looseZ_1 : List Str := ["words_of", "write_body", "read_parts", "read_words", "read_body", "_law_pool", "_law_take", "_law_one", "_law_leaf", "_law_asking", "_law_deep", "_law_flat", "_law_read", "_law_due", "_law_bent", "_law_right", "_law_greatest"]
def looseZ : List Str := looseZ_0 ++ looseZ_1
theorem runZf (w : World) : HandSHeadRun.RunEq rowZ (PySem.W.view rowZ.prog [50]) hkZ obZ 6000 looseZ (w.withFollow "special-get-raises" false) := by
  intro os
  kernel_rfl
theorem runZt (w : World) : HandSHeadRun.RunEq rowZ (PySem.W.view rowZ.prog [50]) hkZ obZ 6000 looseZ (w.withFollow "special-get-raises" true) := by
  intro os
  kernel_rfl
theorem runZ (w : World) : HandSHeadRun.RunEq rowZ (PySem.W.view rowZ.prog [50]) hkZ obZ 6000 looseZ w :=
  PySem.W.byRow2 "special-get-raises" (P := fun w => HandSHeadRun.RunEq rowZ (PySem.W.view rowZ.prog [50]) hkZ obZ 6000 looseZ w) runZf runZt w
end B

set_option Elab.async false
set_option linter.all false
set_option maxRecDepth 100000
set_option maxHeartbeats 0
/-! law_k88_bodies_written: the end: printed by gen.py. Own work. -/
namespace B
open PySem PySem.Spec PyProof.Rows L2
section
variable {w : World} {K : PySem.W.Frag} {mg : Str → Option Value} {base h : Heap}
theorem xsc_NoName : FnScope ["self", "value"] ["self", "value"] (defScope xst_NoName) := ⟨rfl, rfl, rfl, by decide +kernel, rfl, by decide +kernel, by decide +kernel⟩
theorem xok_NoName {fd : FuncData} {fI : Addr} (F : FunD K "__init__" "NoName.__init__" (defArgs xst_NoName) (defBody xst_NoName) (defScope xst_NoName) [] [] fI fd) : ∃ (fd : FuncData) (ps : List Str), FnOk PySem.Challenge.pw_answersby_k88_bodies_written w K mg base (L2N.CX PySem.Challenge.pw_answersby_k88_bodies_written w) 1 fI fd ps (spI K "value") ∧ L2H.FnH PySem.Challenge.pw_answersby_k88_bodies_written w K mg base (L2N.CX PySem.Challenge.pw_answersby_k88_bodies_written w) 1 fI fd ps (spI K "value") ∧ Binds K fd ps [] :=
  ⟨fd, _, init_ok F xsc_NoName rfl rfl (by decide) (by decide) (by decide) (by decide), init_okH F xsc_NoName rfl rfl (by decide) (by decide) (by decide) (by decide), F.bindsN fun _ _ _ _ _ _ us hl => match us, hl with | [_, _], _ => rfl⟩
theorem xsc_NoBody : FnScope ["self", "place"] ["self", "place"] (defScope xst_NoBody) := ⟨rfl, rfl, rfl, by decide +kernel, rfl, by decide +kernel, by decide +kernel⟩
theorem xok_NoBody {fd : FuncData} {fI : Addr} (F : FunD K "__init__" "NoBody.__init__" (defArgs xst_NoBody) (defBody xst_NoBody) (defScope xst_NoBody) [] [] fI fd) : ∃ (fd : FuncData) (ps : List Str), FnOk PySem.Challenge.pw_answersby_k88_bodies_written w K mg base (L2N.CX PySem.Challenge.pw_answersby_k88_bodies_written w) 1 fI fd ps (spI K "place") ∧ L2H.FnH PySem.Challenge.pw_answersby_k88_bodies_written w K mg base (L2N.CX PySem.Challenge.pw_answersby_k88_bodies_written w) 1 fI fd ps (spI K "place") ∧ Binds K fd ps [] :=
  ⟨fd, _, init_ok F xsc_NoBody rfl rfl (by decide) (by decide) (by decide) (by decide), init_okH F xsc_NoBody rfl rfl (by decide) (by decide) (by decide) (by decide), F.bindsN fun _ _ _ _ _ _ us hl => match us, hl with | [_, _], _ => rfl⟩
theorem xsc_NoNote : FnScope ["self", "line"] ["self", "line"] (defScope xst_NoNote) := ⟨rfl, rfl, rfl, by decide +kernel, rfl, by decide +kernel, by decide +kernel⟩
theorem xok_NoNote {fd : FuncData} {fI : Addr} (F : FunD K "__init__" "NoNote.__init__" (defArgs xst_NoNote) (defBody xst_NoNote) (defScope xst_NoNote) [] [] fI fd) : ∃ (fd : FuncData) (ps : List Str), FnOk PySem.Challenge.pw_answersby_k88_bodies_written w K mg base (L2N.CX PySem.Challenge.pw_answersby_k88_bodies_written w) 1 fI fd ps (spI K "line") ∧ L2H.FnH PySem.Challenge.pw_answersby_k88_bodies_written w K mg base (L2N.CX PySem.Challenge.pw_answersby_k88_bodies_written w) 1 fI fd ps (spI K "line") ∧ Binds K fd ps [] :=
  ⟨fd, _, init_ok F xsc_NoNote rfl rfl (by decide) (by decide) (by decide) (by decide), init_okH F xsc_NoNote rfl rfl (by decide) (by decide) (by decide) (by decide), F.bindsN fun _ _ _ _ _ _ us hl => match us, hl with | [_, _], _ => rfl⟩
theorem iniZ (c : He.SaysD [] defsZ K) (x : Nat) (hx : TZ.ra x = true) : ∃ (fd : FuncData) (ps : List Str), FnOk PySem.Challenge.pw_answersby_k88_bodies_written w K mg base (L2N.CX PySem.Challenge.pw_answersby_k88_bodies_written w) 1 (He.ma K ((NZ K).exc x) "__init__") fd ps (spI K (PZ.fx x)) ∧ L2H.FnH PySem.Challenge.pw_answersby_k88_bodies_written w K mg base (L2N.CX PySem.Challenge.pw_answersby_k88_bodies_written w) 1 (He.ma K ((NZ K).exc x) "__init__") fd ps (spI K (PZ.fx x)) ∧ Binds K fd ps [] := by
  match x, hx with
  | 0, h => exact nomatch h
  | 1, _ => obtain ⟨fd, F⟩ := c.def_ 31 rfl; exact xok_NoName F
  | 2, _ => obtain ⟨fd, F⟩ := c.def_ 32 rfl; exact xok_NoBody F
  | 3, _ => obtain ⟨fd, F⟩ := c.def_ 33 rfl; exact xok_NoNote F
  | n + 4, h => exact nomatch h
theorem xs_ltZ {x c : Nat} {b : Bool} (h : PZ.xs x c = some b) : x < 4 ∧ c < 4 := by
  have h2 : (match xsTZ[x]? with
    | some l => (match l[c]? with
      | some o => o
      | none => none)
    | none => none) = some b := h
  cases e : xsTZ[x]? with
  | none => rw [e] at h2; cases h2
  | some l =>
    rw [e] at h2
    have hx : x < 4 := (List.getElem?_eq_some_iff.mp e).1
    refine ⟨hx, ?_⟩
    have hl : l.length = 4 := by
      have : ∀ l ∈ xsTZ, l.length = 4 := by decide
      exact this l (List.mem_of_getElem? e)
    cases e2 : l[c]? with
    | none =>
      have h3 : (match l[c]? with
        | some o => o
        | none => none) = some b := h2
      rw [e2] at h3
      cases h3
    | some o => rw [← hl]; exact (List.getElem?_eq_some_iff.mp e2).1
theorem ra_ltZ (x : Nat) (h : TZ.ra x = true) : x < 4 := by
  have h2 : (match TZ.rz[x]? with
    | some b => b
    | none => false) = true := h
  cases e : TZ.rz[x]? with
  | none => rw [e] at h2; cases h2
  | some b => exact (List.getElem?_eq_some_iff.mp e).1
theorem ftZ (c : He.SaysD [] defsZ K) (g : GF PySem.Challenge.pw_answersby_k88_bodies_written w K mg base (NZ K) PZ TZ consZ frsZ) (kp : ∀ f, f < TZ.fns.length → PySem.W.keepIn K (.ref ((NZ K).fn f)) = true) : ∀ k, FT PySem.Challenge.pw_answersby_k88_bodies_written w K mg base (NZ K) PZ.fx TZ.fns.length (run PZ k) (k + 2) ∧ FT PySem.Challenge.pw_answersby_k88_bodies_written w K mg base (NZ K) PZ.fx TZ.fns.length (run PZ (k - 1)) (k + 1) :=
  ft_all kp fun k r f hf hn ft fm => by
    match f, hf, hn with
    | 0, _, _ => obtain ⟨fd, F⟩ := c.def_ 0 rfl; exact fn_raw F (fun _ _ _ _ _ _ us hl => match us, hl with | [_, _, _], _ => rfl) (d_0 g F ft fm)
    | 1, _, _ => obtain ⟨fd, F⟩ := c.def_ 1 rfl; exact fn_raw F (fun _ _ _ _ _ _ us hl => match us, hl with | [_], _ => rfl) (d_1 g F ft fm)
    | 2, _, _ => obtain ⟨fd, F⟩ := c.def_ 2 rfl; exact fn_raw F (fun _ _ _ _ _ _ us hl => match us, hl with | [_], _ => rfl) (d_2 g F ft fm)
    | 3, _, _ => obtain ⟨fd, F⟩ := c.def_ 3 rfl; exact fn_raw F (fun _ _ _ _ _ _ us hl => match us, hl with | [_], _ => rfl) (d_3 g F ft fm)
    | 4, _, _ => obtain ⟨fd, F⟩ := c.def_ 4 rfl; exact fn_raw F (fun _ _ _ _ _ _ us hl => match us, hl with | [_], _ => rfl) (d_4 g F ft fm)
    | 5, _, _ => obtain ⟨fd, F⟩ := c.def_ 5 rfl; exact fn_raw F (fun _ _ _ _ _ _ us hl => match us, hl with | [_], _ => rfl) (d_5 g F ft fm)
    | 6, _, _ => obtain ⟨fd, F⟩ := c.def_ 6 rfl; exact fn_raw F (fun _ _ _ _ _ _ us hl => match us, hl with | [_, _], _ => rfl) (d_6 g F ft fm)
    | 7, _, _ => obtain ⟨fd, F⟩ := c.def_ 7 rfl; exact fn_raw F (fun _ _ _ _ _ _ us hl => match us, hl with | [_, _], _ => rfl) (d_7 g F ft fm)
    | 8, _, _ => obtain ⟨fd, F⟩ := c.def_ 8 rfl; exact fn_raw F (fun _ _ _ _ _ _ us hl => match us, hl with | [_, _, _], _ => rfl) (d_8 g F ft fm)
    | 9, _, _ => obtain ⟨fd, F⟩ := c.def_ 9 rfl; exact fn_raw F (fun _ _ _ _ _ _ us hl => match us, hl with | [_, _, _, _, _], _ => rfl) (d_9 g F ft fm)
    | 10, _, _ => obtain ⟨fd, F⟩ := c.def_ 10 rfl; exact fn_raw F (fun _ _ _ _ _ _ us hl => match us, hl with | [_], _ => rfl) (d_10 g F ft fm)
    | 11, _, _ => obtain ⟨fd, F⟩ := c.def_ 11 rfl; exact fn_raw F (fun _ _ _ _ _ _ us hl => match us, hl with | [_], _ => rfl) (d_11 g F ft fm)
    | 12, _, _ => obtain ⟨fd, F⟩ := c.def_ 12 rfl; exact fn_raw F (fun _ _ _ _ _ _ us hl => match us, hl with | [_, _, _], _ => rfl) (d_12 g F ft fm)
    | 13, _, _ => obtain ⟨fd, F⟩ := c.def_ 13 rfl; exact fn_raw F (fun _ _ _ _ _ _ us hl => match us, hl with | [_, _], _ => rfl) (d_13 g F ft fm)
    | 14, _, _ => obtain ⟨fd, F⟩ := c.def_ 14 rfl; exact fn_raw F (fun _ _ _ _ _ _ us hl => match us, hl with | [_, _], _ => rfl) (d_14 g F ft fm)
    | 15, _, _ => obtain ⟨fd, F⟩ := c.def_ 15 rfl; exact fn_raw F (fun _ _ _ _ _ _ us hl => match us, hl with | [_, _], _ => rfl) (d_15 g F ft fm)
    | 16, _, _ => obtain ⟨fd, F⟩ := c.def_ 16 rfl; exact fn_raw F (fun _ _ _ _ _ _ us hl => match us, hl with | [_, _], _ => rfl) (d_16 g F ft fm)
    | 17, _, _ => obtain ⟨fd, F⟩ := c.def_ 17 rfl; exact fn_raw F (fun _ _ _ _ _ _ us hl => match us, hl with | [_, _], _ => rfl) (d_17 g F ft fm)
    | 18, _, _ => obtain ⟨fd, F⟩ := c.def_ 18 rfl; exact fn_raw F (fun _ _ _ _ _ _ us hl => match us, hl with | [_, _, _], _ => rfl) (d_18 g F ft fm)
    | 19, _, _ => obtain ⟨fd, F⟩ := c.def_ 19 rfl; exact fn_raw F (fun _ _ _ _ _ _ us hl => match us, hl with | [_, _], _ => rfl) (d_19 g F ft fm)
    | 20, _, _ => obtain ⟨fd, F⟩ := c.def_ 20 rfl; exact fn_raw F (fun _ _ _ _ _ _ us hl => match us, hl with | [_, _, _, _], _ => rfl) (d_20 g F ft fm)
    | 21, _, _ => obtain ⟨fd, F⟩ := c.def_ 21 rfl; exact fn_raw F (fun _ _ _ _ _ _ us hl => match us, hl with | [_], _ => rfl) (d_21 g F ft fm)
    | 22, _, _ => obtain ⟨fd, F⟩ := c.def_ 22 rfl; exact fn_raw F (fun _ _ _ _ _ _ us hl => match us, hl with | [_, _], _ => rfl) (d_22 g F ft fm)
    | 23, _, _ => obtain ⟨fd, F⟩ := c.def_ 23 rfl; exact fn_raw F (fun _ _ _ _ _ _ us hl => match us, hl with | [_, _], _ => rfl) (d_23 g F ft fm)
    | 24, _, _ => obtain ⟨fd, F⟩ := c.def_ 24 rfl; exact fn_raw F (fun _ _ _ _ _ _ us hl => match us, hl with | [_, _], _ => rfl) (d_24 g F ft fm)
    | 25, _, _ => obtain ⟨fd, F⟩ := c.def_ 25 rfl; exact fn_raw F (fun _ _ _ _ _ _ us hl => match us, hl with | [_, _, _], _ => rfl) (d_25 g F ft fm)
    | 26, _, _ => obtain ⟨fd, F⟩ := c.def_ 26 rfl; exact fn_raw F (fun _ _ _ _ _ _ us hl => match us, hl with | [], _ => rfl) (d_26 g F ft fm)
    | 27, _, _ => obtain ⟨fd, F⟩ := c.def_ 27 rfl; exact fn_raw F (fun _ _ _ _ _ _ us hl => match us, hl with | [_], _ => rfl) (d_27 g F ft fm)
    | 28, _, _ => obtain ⟨fd, F⟩ := c.def_ 28 rfl; exact fn_raw F (fun _ _ _ _ _ _ us hl => match us, hl with | [_, _, _], _ => rfl) (d_28 g F ft fm)
    | 29, _, _ => obtain ⟨fd, F⟩ := c.def_ 29 rfl; exact fn_raw F (fun _ _ _ _ _ _ us hl => match us, hl with | [_], _ => rfl) (d_29 g F ft fm)
    | 30, _, _ => obtain ⟨fd, F⟩ := c.def_ 30 rfl; exact fn_raw F (fun _ _ _ _ _ _ us hl => match us, hl with | [_, _], _ => rfl) (d_30 g F ft fm)
    | n + 31, hf, _ => exact absurd hf (by show ¬ n + 31 < 31; omega)
theorem endZ (hlaw : ∀ ns : List Int, ns.length ≤ 63 → run PZ 221 27 [.c (.scr (ns.map D.int))] [] = .ok (.c (.bl true)) []) (X : K.In h) (G : h.Ns mainGlobals mg) (c : He.SaysX [] defsZ (tabsOf consZ) [] exZ w h K) {f : Addr} (hf : mg ("law" : Str) = some (.ref f)) :
    ∃ (fd : FuncData) (sp : Sp), (∀ (s : Shared) (u : Value), BindsTo s fd ⟨[u], []⟩ [("_law_script", u)]) ∧ (∀ (H : Hp) (a : Addr) (ns : List Int), ns.length ≤ 63 → Only H → SqL K H a (ns.map V.int) → sp [.ref a] H (fun v _ => v = .bl true) fun _ _ _ => False) ∧
      ∀ base : Heap, K.In base → base.Ns mainGlobals mg → FnOk PySem.Challenge.pw_answersby_k88_bodies_written w K mg base (CXw PySem.Challenge.pw_answersby_k88_bodies_written) 223 f fd ["_law_script"] sp := by
  have key : ∀ base : Heap, _ := fun base => gf_of (P := PySem.Challenge.pw_answersby_k88_bodies_written) (w := w) (base := base) (T := TZ) (md := mdZ) (g := goodZ) (Q := PZ) (cons := consZ) (frs := frsZ) X G c.more (fun _ _ => cl_lt) (fun _ _ _ => xs_ltZ) (fun t ht => SaysT.tabW c.t ht) (fun x hx => iniZ c.t.d x hx) ra_ltZ
  obtain ⟨fd, F⟩ := c.t.d.def_ 27 rfl
  have e : (NZ K).fn 27 = f := by
    have h1 := (key default).1.fns 27 "law" rfl
    rw [hf] at h1
    cases h1; rfl
  refine ⟨fd, spF K w (NZ K) PZ.fx (run PZ 221 27), ?_, fun H a ns hl _ S => spF_script hlaw hl S, fun base _ _ => ?_⟩
  · intro s u
    exact FunD.bindsA (ps := ["_law_script"]) F (fun _ _ _ _ _ _ us hl => match us, hl with | [_], _ => rfl) s [u] rfl
  · have ff := ftZ c.t.d (key base).1 (key base).2 220
    have r := d_27 (k := 220) (r := 220) (key base).1 F ff.1 ff.2
    rw [e] at r
    exact fnOk_w r
end
end B

open PySem PySem.W PySem.Calls PyProof.Rows
theorem B.holdsZ (hlaw : ∀ ns : List Int, ns.length ≤ 63 → B.run B.PZ 221 27 [.c (.scr (ns.map B.D.int))] [] = .ok (.c (.bl true)) []) : PySem.Challenge.rw_answersby_k88_bodies_written.Holds := by
  w_on; o_law
  refine HandSHeadRun.head_any (r := OpenLaw.row PySem.Challenge.rw_answersby_k88_bodies_written) (q := view (OpenLaw.row PySem.Challenge.rw_answersby_k88_bodies_written).prog [50]) (H := B.hkZ) (ob := B.obZ) (M := 6000) (loose := B.looseZ) (d := HandSHeadRun.topDef (OpenLaw.row PySem.Challenge.rw_answersby_k88_bodies_written).prog 50) (kwd := []) B.ob_eqZ
    (by kernel_rfl) (fun s => by kernel_rfl) B.runZ (by kernel_rfl) (by kernel_rfl) (by kernel_rfl) (by rfl) (by first | assumption | decide +kernel) (by decide +kernel) ⟨rfl, rfl, rfl, rfl, rfl, by decide +kernel⟩ ?hw ?hc
  case hw => w_witness2
  case hc =>
    refine L2.walk_ofE (l := PySem.Challenge.rw_answersby_k88_bodies_written) (n := 63) (k := 223) (x := "_law_script") (CX := B.CXw PySem.Challenge.pw_answersby_k88_bodies_written) rfl (by decide) (by kernel_rfl) ⟨rfl, by decide, by decide⟩ ?F ?C
    case F =>
      intro w mg fa h Y G hmg0
      obtain ⟨K, KX, c⟩ := Y
      have hmg : mg ("law" : PySem.Str) = some (.ref fa) := by
        have e : (HandSHeadRun.topDef (OpenLaw.row PySem.Challenge.rw_answersby_k88_bodies_written).prog 50).name = ("law" : PySem.Str) := by kernel_rfl
        rw [← e]
        exact hmg0
      obtain ⟨fd, sp, hb, hsp, hF⟩ := B.endZ hlaw KX G c hmg
      exact ⟨K, fd, sp, KX, hb, hsp, hF⟩
    case C =>
      intro H s e s' hx
      obtain ⟨_, _, _, _, _, _, _, _, _, _, _, _, _, z⟩ := hx
      exact z

set_option linter.all false
set_option maxRecDepth 100000
/-! The evaluator's equations, for simp. Own work. -/
namespace B
open PySem (Str)
section
variable {α β : Type} {G : Gx} {σ : Env} {h : A} {P : Pr} {k : Nat}
@[simp] theorem z_bind_ok (a : α) (h : A) (f : α → A → Res β) : (Res.ok a h).bind f = f a h := rfl
@[simp] theorem z_bind_err (x : Nat) (d : D) (h : A) (f : α → A → Res β) : (Res.err x d h : Res α).bind f = .err x d h := rfl
@[simp] theorem z_bind_stuck (f : α → A → Res β) : (Res.stuck : Res α).bind f = .stuck := rfl
@[simp] theorem z_then_ok (a : α) (h : A) (σ : Env) (f : α → A → SRes) : (Res.ok a h).then σ f = f a h := rfl
@[simp] theorem z_then_err (x : Nat) (d : D) (h : A) (σ : Env) (f : α → A → SRes) : (Res.err x d h : Res α).then σ f = .er x d σ h := rfl
@[simp] theorem z_ofOpt_some (a : α) (f : α → Res β) : ofOpt (some a) f = f a := rfl
@[simp] theorem z_ofOpt_none (f : α → Res β) : ofOpt none f = .stuck := rfl
@[simp] theorem z_ofOptS_some (a : α) (f : α → SRes) : ofOptS (some a) f = f a := rfl
@[simp] theorem z_ofOptS_none (f : α → SRes) : ofOptS none f = .stuck := rfl
@[simp] theorem z_must_t (r : Res α) : must true r = r := rfl
@[simp] theorem z_must_f (r : Res α) : must false r = .stuck := rfl
@[simp] theorem z_mustS_t (r : SRes) : mustS true r = r := rfl
@[simp] theorem z_boolOf (b : Bool) (f : Bool → Res α) : boolOf (.c (.bl b)) f = f b := rfl
@[simp] theorem z_boolS (b : Bool) (f : Bool → SRes) : boolS (.c (.bl b)) f = f b := rfl
@[simp] theorem z_noErr_ok (a : α) (h : A) : noErr (.ok a h) = .ok a h := rfl
@[simp] theorem z_R : (gxOf P k).R = run P k := rfl
@[simp] theorem z_Rm : (gxOf P k).Rm = run P (k - 1) := rfl
@[simp] theorem z_C : (gxOf P k).C = P.cl := rfl
@[simp] theorem z_xs : (gxOf P k).xs = P.xs := rfl
@[simp] theorem z_fx : (gxOf P k).fx = P.fx := rfl
/-! expressions -/
@[simp] theorem z_var (i : Nat) : ev G (.var i) σ h = ofOpt ((σ[i]?).bind id) fun w => .ok w h := rfl
@[simp] theorem z_k (d : D) : ev G (.k d) σ h = .ok (.c d) h := rfl
@[simp] theorem z_op (o : Op) (a b : E) : ev G (.op o a b) σ h = (ev G a σ h).bind fun x h1 => (ev G b σ h1).bind fun y h2 => cmpW G o x y h2 := rfl
@[simp] theorem z_cat (a b : E) : ev G (.cat a b) σ h = (ev G a σ h).bind fun x h1 => (ev G b σ h1).bind fun y h2 => catW x y h2 := rfl
@[simp] theorem z_ch (o p : Op) (a b c : E) : ev G (.ch o p a b c) σ h = (ev G a σ h).bind fun x h1 => (ev G b σ h1).bind fun y h2 => (opW o x y h2).bind fun r h3 => boolOf r fun t => match t with
    | true => (ev G c σ h3).bind fun z h4 => opW p y z h4
    | false => .ok (.c (.bl false)) h3 := rfl
@[simp] theorem z_bo (b : Bool) (es : List E) : ev G (.bo b es) σ h = evb G b es σ h := rfl
@[simp] theorem z_not (a : E) : ev G (.not_ a) σ h = (ev G a σ h).bind fun x h1 => boolOf x fun b => .ok (.c (.bl (!b))) h1 := rfl
@[simp] theorem z_neg (a : E) : ev G (.neg a) σ h = (ev G a σ h).bind fun x h1 => match x with
    | .c (.int i) => .ok (.c (.int (-i))) h1
    | _ => .stuck := rfl
@[simp] theorem z_ife (c a b : E) : ev G (.ife c a b) σ h = (ev G c σ h).bind fun x h1 => boolOf x fun t => match t with
    | true => ev G a σ h1
    | false => ev G b σ h1 := rfl
@[simp] theorem z_tup (es : List E) : ev G (.tup es) σ h = (evs G es σ h).bind fun ws h1 => (freezes h1 ws).bind fun ds h2 => .ok (.c (.tup ds)) h2 := rfl
@[simp] theorem z_lst (m : Bool) (es : List E) : ev G (.lst m es) σ h = (evs G es σ h).bind fun ws h1 => (freezes h1 ws).bind fun ds h2 => born m (.lst ds) h2 := rfl
@[simp] theorem z_dic (m : Bool) (t : Kd) (kvs : List (E × E)) : ev G (.dic m t kvs) σ h = (evd G kvs σ h).bind fun ps h1 => ofOpt (puts t [] ps) fun kvs' => born m (.dct t kvs') h1 := rfl
@[simp] theorem z_at (o : E) (f : Nat) : ev G (.at_ o f) σ h = (ev G o σ h).bind fun x h1 => ofOpt (field h1 x f) fun w => .ok w h1 := rfl
@[simp] theorem z_ix (o i : E) : ev G (.ix o i) σ h = (ev G o σ h).bind fun x h1 => (ev G i σ h1).bind fun y h2 => ixW x y h2 := rfl
@[simp] theorem z_slc (o : E) (lo hi : Option E) : ev G (.slc o lo hi) σ h = (ev G o σ h).bind fun x h1 => (evo G lo σ h1).bind fun a h2 => ofOpt (intO a) fun i => (evo G hi σ h2).bind fun b h3 => ofOpt (intO b) fun j =>
      ofOpt (look h3 x) fun d => ofOpt (cutD i j d) fun r => .ok (.c r) h3 := rfl
@[simp] theorem z_rev (o : E) : ev G (.rev o) σ h = (ev G o σ h).bind fun x h1 => ofOpt (look h1 x) fun d => ofOpt (revD d) fun r => .ok (.c r) h1 := rfl
@[simp] theorem z_call (f : Nat) (es : List E) : ev G (.call f es) σ h = (evs G es σ h).bind fun ws h1 => callF G.R f ws h1 := rfl
@[simp] theorem z_mk (c : Nat) (es : List E) : ev G (.mk c es) σ h = (evs G es σ h).bind fun ws h1 => make G c ws h1 := rfl
@[simp] theorem z_mt (m : Nat) (o : E) (es : List E) : ev G (.mt m o es) σ h = (ev G o σ h).bind fun x h1 => ofOpt (methOf G m x h1) fun f => (evs G es σ h1).bind fun ws h2 => callF G.R f (x :: ws) h2 := rfl
@[simp] theorem z_bi (m : Bool) (b : Bi) (es : List E) : ev G (.bi m b es) σ h = (evs G es σ h).bind fun ws h1 => ofOpt (looks h1 ws) fun ds => ofOpt (bi b ds) fun d => born m d h1 := rfl
@[simp] theorem z_bm (m : Bool) (b : Bm) (o : E) (es : List E) : ev G (.bm m b o es) σ h = (ev G o σ h).bind fun x h1 => must (recv b x h1) ((evs G es σ h1).bind fun ws h2 => bmGo m b x ws h2) := rfl
@[simp] theorem z_isi (e : E) (t : Ty) : ev G (.isi e t) σ h = (ev G e σ h).bind fun x h1 => ofOpt (shape h1 x) fun d => must (known G d) (.ok (.c (.bl (isTy G.C d t))) h1) := rfl
/-- what a comprehension does at one item -/
def lcStep (G : Gx) (own : List Nat) (e : E) (t : Tg) (c : Option E) (σ : Env) (d : D) (h2 : A) : Res (Option D) := ofOpt (bindTg t (.c d) (wipeE σ own)) fun σ2 => (evc G c σ2 h2).bind fun b h3 => match b with
      | true => (ev G e σ2 h3).bind fun w h4 => (freeze h4 w).bind fun r h5 => .ok (some r) h5
      | false => .ok none h3
@[simp] theorem z_lc (m : Bool) (own : List Nat) (e : E) (t : Tg) (s : Src) (c : Option E) : ev G (.lc m own e t s c) σ h = (evi G s σ h).bind fun it h1 => (noErr (lcIt (lcStep G own e t c σ) it h1)).bind fun ds h6 => born m (.lst ds) h6 := rfl
@[simp] theorem z_evs_nil : evs G [] σ h = .ok [] h := rfl
@[simp] theorem z_evs_cons (e : E) (r : List E) : evs G (e :: r) σ h = (ev G e σ h).bind fun w h1 => (evs G r σ h1).bind fun ws h2 => .ok (w :: ws) h2 := rfl
@[simp] theorem z_evb1 (b : Bool) (e : E) : evb G b [e] σ h = ev G e σ h := rfl
@[simp] theorem z_evb (b : Bool) (e e2 : E) (r : List E) : evb G b (e :: e2 :: r) σ h = (ev G e σ h).bind fun x h1 => boolOf x fun c => match c == b with
      | true => evb G b (e2 :: r) σ h1
      | false => .ok (.c (.bl c)) h1 := rfl
@[simp] theorem z_evo_n : evo G none σ h = .ok none h := rfl
@[simp] theorem z_evo_s (e : E) : evo G (some e) σ h = (ev G e σ h).bind fun w h1 => .ok (some w) h1 := rfl
@[simp] theorem z_evc_n : evc G none σ h = .ok true h := rfl
@[simp] theorem z_evc_s (e : E) : evc G (some e) σ h = (ev G e σ h).bind fun w h1 => boolOf w fun b => .ok b h1 := rfl
@[simp] theorem z_sq (e : E) : evi G (.sq e) σ h = (ev G e σ h).bind fun w h1 => ofOpt (itOf w h1) fun it => .ok it h1 := rfl
@[simp] theorem z_rg (e : E) : evi G (.rg e) σ h = (ev G e σ h).bind fun w h1 => match w with
    | .c (.int i) => must (inRange i) (.ok (.cl (intsN 0 i.toNat)) h1)
    | _ => .stuck := rfl
@[simp] theorem z_rg2 (a b : E) : evi G (.rg2 a b) σ h = (ev G a σ h).bind fun w h1 => (ev G b σ h1).bind fun u h2 => match w, u with
    | .c (.int i), .c (.int j) => must (inRange i && inRange j) (.ok (.cl (intsN i (j - i).toNat)) h2)
    | _, _ => .stuck := rfl
@[simp] theorem z_en (e : E) : evi G (.en e) σ h = (ev G e σ h).bind fun w h1 => match w with
    | .c d => ofOpt (seqOf d) fun xs => .ok (.cl (enums xs 0)) h1
    | _ => .stuck := rfl
/-! statements -/
@[simp] theorem z_exs_nil : exs G [] σ h = .nx σ h := rfl
/-- what follows a statement -/
def andThen (r : SRes) (f : Env → A → SRes) : SRes := match r with
  | .nx σ1 h1 => f σ1 h1
  | x => x
@[simp] theorem z_at_nx (f : Env → A → SRes) : andThen (.nx σ h) f = f σ h := rfl
@[simp] theorem z_at_rt (w : W) (f : Env → A → SRes) : andThen (.rt w h) f = .rt w h := rfl
@[simp] theorem z_at_bk (f : Env → A → SRes) : andThen (.bk σ h) f = .bk σ h := rfl
@[simp] theorem z_at_ct (f : Env → A → SRes) : andThen (.ct σ h) f = .ct σ h := rfl
@[simp] theorem z_at_er (x : Nat) (d : D) (f : Env → A → SRes) : andThen (.er x d σ h) f = .er x d σ h := rfl
@[simp] theorem z_at_stuck (f : Env → A → SRes) : andThen .stuck f = .stuck := rfl
@[simp] theorem z_exs (s : S) (r : List S) : exs G (s :: r) σ h = andThen (ex G s σ h) (exs G r) := by
  show (match ex G s σ h with
    | .nx σ1 h1 => exs G r σ1 h1
    | x => x) = _
  unfold andThen
  cases ex G s σ h <;> rfl
@[simp] theorem z_sex (e : E) : ex G (.ex e) σ h = (ev G e σ h).then σ fun _ h1 => .nx σ h1 := rfl
@[simp] theorem z_set (t : Tg) (e : E) : ex G (.set t e) σ h = (ev G e σ h).then σ fun w h1 => ofOptS (bindTg t w σ) fun σ1 => .nx σ1 h1 := rfl
@[simp] theorem z_par (i j : Nat) (a b : E) : ex G (.par i j a b) σ h = (ev G a σ h).then σ fun x h1 => (ev G b σ h1).then σ fun y h2 => .nx ((σ.set i (some x)).set j (some y)) h2 := rfl
@[simp] theorem z_sat (o : E) (f : Nat) (e : E) : ex G (.sat o f e) σ h = (ev G e σ h).then σ fun w h1 => (ev G o σ h1).then σ fun x h2 => (setField G x w f h2).then σ fun _ h3 => .nx σ h3 := rfl
@[simp] theorem z_six (o i e : E) : ex G (.six o i e) σ h = (ev G e σ h).then σ fun w h1 => (ev G o σ h1).then σ fun x h2 => (ev G i σ h2).then σ fun y h3 => (setItem x y w h3).then σ fun _ h4 => .nx σ h4 := rfl
@[simp] theorem z_ret (e : E) : ex G (.ret e) σ h = (ev G e σ h).then σ fun w h1 => .rt w h1 := rfl
@[simp] theorem z_retN : ex G .retN σ h = .rt (.c .non) h := rfl
@[simp] theorem z_if (c : E) (a b : List S) : ex G (.ife c a b) σ h = (ev G c σ h).then σ fun w h1 => boolS w fun t => match t with
    | true => exs G a σ h1
    | false => exs G b σ h1 := rfl
@[simp] theorem z_for (t : Tg) (s : Src) (b : List S) : ex G (.for_ t s b) σ h = (evi G s σ h).then σ fun it h1 => forIt (forB t (exs G b)) it σ h1 := rfl
@[simp] theorem z_rai (x : Nat) (e : E) : ex G (.rai x e) σ h = (ev G e σ h).then σ fun w h1 => (freeze h1 w).then σ fun d h2 => .er x d σ h2 := rfl
@[simp] theorem z_try (b : List S) (hs : List (Nat × Option Nat × List S × Option (List XI))) : ex G (.try_ b hs) σ h = match exs G b σ h with
    | .er x d σ1 h1 => exh G hs x d σ1 h1
    | r => r := rfl
@[simp] theorem z_tryr (b : List S) (c x : Nat) (d : D) : ex G (.tryr b c x d) σ h = match exs G b σ h with
    | .er y e σ1 h1 => match G.xs y c with
      | some true => .er x d σ1 h1
      | some false => .er y e σ1 h1
      | none => .stuck
    | r => r := rfl
@[simp] theorem z_pass : ex G .pass σ h = .nx σ h := rfl
@[simp] theorem z_brk : ex G .brk σ h = .bk σ h := rfl
@[simp] theorem z_cnt : ex G .cnt σ h = .ct σ h := rfl
/-! values -/
@[simp] theorem z_look (d : D) : look h (.c d) = some d := rfl
@[simp] theorem z_looks_nil : looks h [] = some [] := rfl
@[simp] theorem z_looks (d : D) (r : List W) : looks h (.c d :: r) = (looks h r).map (d :: ·) := by
  show (match looks h r with
    | some ds => some (d :: ds)
    | none => none) = _
  cases looks h r <;> rfl
@[simp] theorem z_freeze (d : D) : freeze h (.c d) = .ok d h := rfl
@[simp] theorem z_freezes_nil : freezes h [] = .ok [] h := rfl
@[simp] theorem z_freezes (d : D) (r : List W) : freezes h (.c d :: r) = (freezes h r).bind fun ds h2 => .ok (d :: ds) h2 := rfl
@[simp] theorem z_born_f (d : D) : born false d h = .ok (.c d) h := rfl
@[simp] theorem z_born_lst (ds : List D) : born true (.lst ds) h = .ok (.l h.length) (h ++ [.lst ds]) := rfl
@[simp] theorem z_born_dct (t : Kd) (ds : List (D × D)) : born true (.dct t ds) h = .ok (.l h.length) (h ++ [.dct t ds]) := rfl
@[simp] theorem z_nm (i : Nat) (w : W) : bindTg (.nm i) w σ = some (σ.set i (some w)) := rfl
@[simp] theorem z_forIt_cl (f : D → Env → A → SRes) (xs : List D) : forIt f (.cl xs) σ h = forGo f xs σ h := rfl
@[simp] theorem z_lcIt_cl (f : D → A → Res (Option D)) (xs : List D) : lcIt f (.cl xs) h = lcGo f xs [] h := rfl
@[simp] theorem z_itOf_tup (xs : List D) : itOf (.c (.tup xs)) h = some (.cl xs) := rfl
@[simp] theorem z_itOf_lst (xs : List D) : itOf (.c (.lst xs)) h = some (.cl xs) := rfl
@[simp] theorem z_itOf_str (s : Str) : itOf (.c (.str s)) h = some (.cl (signs s)) := rfl
end
/-- a def's body, started -/
theorem run_body {P : Pr} {k f : Nat} {F : Fn} (hk : 1 ≤ k) (e : P.fn f = some F) (ws : List W) (h : A) (hl : ws.length = F.ar) : run P k f ws h = retOf F h.length (exs (gxOf P (k - 1)) F.body (ws.map some ++ List.replicate (F.sl - F.ar) none) h) := by
  obtain ⟨k, rfl⟩ : ∃ j, k = j + 1 := ⟨k - 1, by omega⟩
  rw [run_succ, e]
  show must (decide (ws.length = F.ar)) _ = _
  rw [decide_eq_true hl]
  rfl
/-! ### calls with closed arguments alone -/
def closed : List W → Bool
  | [] => true
  | .c _ :: r => closed r
  | .l _ :: _ => false
theorem locs_closed : ∀ {ws : List W}, closed ws = true → locs ws = []
  | [], _ => rfl
  | .c _ :: r, h => locs_closed (ws := r) h
theorem renWs_closed {L : List Nat} : ∀ {ws : List W}, closed ws = true → renWs L ws = some ws
  | [], _ => rfl
  | .c d :: r, h => by
    show (match renWs L r with
      | some r' => some (W.c d :: r')
      | none => none) = _
    rw [renWs_closed (ws := r) h]
theorem reach_nil (n : Nat) (h : A) (acc : List Nat) : reach (n + 1) h [] acc = acc := by
  unfold reach; rfl
theorem callF_closed {R : Nat → List W → A → Res W} {f : Nat} {ws : List W} {h : A} (hc : closed ws = true) : callF R f ws h = match R f ws [] with
    | .ok w b' => .ok (bakW [] h.length w) (back [] h b')
    | .err x d b' => .err x d (back [] h b')
    | .stuck => .stuck := by
  unfold callF
  have e : reach reachK h (locs ws) [] = [] := by rw [locs_closed hc]; exact reach_nil 199 h []
  simp only [e]
  show (ofOpt (renWs [] ws) fun us => _) = _
  rw [renWs_closed hc]
  rfl
theorem back_nil (h : A) : back [] h [] = h := by unfold back; simp [putL]
theorem callF_pure {R : Nat → List W → A → Res W} {f : Nat} {ws : List W} {h : A} {d : D} (hc : closed ws = true) (e : R f ws [] = .ok (.c d) []) : callF R f ws h = .ok (.c d) h := by
  rw [callF_closed hc, e]
  show Res.ok (W.c d) (back [] h []) = _
  rw [back_nil]
theorem callF_err {R : Nat → List W → A → Res W} {f : Nat} {ws : List W} {h : A} {x : Nat} {d : D} (hc : closed ws = true) (e : R f ws [] = .err x d []) : callF R f ws h = .err x d h := by
  rw [callF_closed hc, e]
  show Res.err x d (back [] h []) = _
  rw [back_nil]
/-! ### the end of a body -/
def retB (fz : Bool) (m : Nat) (r : SRes) : Res W := retOf ⟨0, 0, fz, []⟩ m r
theorem run_go {P : Pr} {k f : Nat} {F : Fn} (hk : 1 ≤ k) (e : P.fn f = some F) (ws : List W) (h : A) (hl : ws.length = F.ar) : run P k f ws h = retB F.fz h.length (exs (gxOf P (k - 1)) F.body (ws.map some ++ List.replicate (F.sl - F.ar) none) h) := by
  rw [run_body hk e ws h hl]
  obtain ⟨a, b, c, d⟩ := F
  rfl
@[simp] theorem gc_nil (d : D) : gc 0 (.c d) [] = .ok (.c d) [] := rfl
/-! ### objects without places -/
theorem renF_no {L : List Nat} : ∀ {fs : List (Nat × W)}, locF fs = [] → renF L fs = some fs
  | [], _ => rfl
  | (a, .c d) :: r, h => by
    have h2 : locF r = [] := h
    show (match renF L r with
      | some r' => some ((a, W.c d) :: r')
      | none => none) = _
    rw [renF_no h2]
  | (a, .l n) :: r, h => by cases h
theorem renO_no {L : List Nat} {o : O} (h : locO o = []) : renO L o = some o := by
  cases o <;> first | rfl | skip
  rename_i c fs
  show (match renF L fs with
    | some fs' => some (O.ins c fs')
    | none => none) = _
  rw [renF_no (show locF fs = [] from h)]
theorem bakF_no {L : List Nat} {n : Nat} : ∀ {fs : List (Nat × W)}, locF fs = [] → bakF L n fs = fs
  | [], _ => rfl
  | (a, .c d) :: r, h => by
    show (a, W.c d) :: bakF L n r = _
    rw [bakF_no (show locF r = [] from h)]
  | (a, .l n) :: r, h => by cases h
theorem bakO_no {L : List Nat} {n : Nat} {o : O} (h : locO o = []) : bakO L n o = o := by
  cases o <;> first | rfl | skip
  rename_i c fs
  show O.ins c (bakF L n fs) = _
  rw [bakF_no (show locF fs = [] from h)]
theorem reach_one {h : A} {n : Nat} {o : O} (ho : h[n]? = some o) (hz : locO o = []) : reach reachK h [n] [] = [n] := by
  show (match ([] : List Nat).contains n with
    | true => reach 199 h [] []
    | false => match h[n]? with
      | some o => reach 199 h (locO o ++ []) ([] ++ [n])
      | none => reach 199 h [] []) = _
  rw [ho]
  show reach 199 h (locO o ++ []) [n] = _
  rw [hz]
  exact reach_nil 198 h [n]
theorem sub_one {h : A} {n : Nat} {o : O} (ho : h[n]? = some o) (hz : locO o = []) : sub h [n] [n] = some [o] := by
  show (match h[n]? with
    | some o => match renO [n] o with
      | some o' => match sub h [n] [] with
        | some r' => some (o' :: r')
        | none => none
      | none => none
    | none => none) = _
  rw [ho]
  show (match renO [n] o with
      | some o' => match sub h [n] [] with
        | some r' => some (o' :: r')
        | none => none
      | none => none) = _
  rw [renO_no hz]
  rfl
theorem back_one {h : A} {n : Nat} {o : O} (hz : locO o = []) : back [n] h [o] = h.set n o := by
  unfold back
  simp [putL, bakO_no hz]
section
variable {R : Nat → List W → A → Res W} {f n : Nat} {ws us : List W} {h : A} {o o' : O} {d : D}
/-- a call with one place among its arguments, of an object without places -/
theorem callF_loc (hl : locs ws = [n]) (ho : h[n]? = some o) (hz : locO o = []) (hr : renWs [n] ws = some us) (e : R f us [o] = .ok (.c d) [o']) (hz' : locO o' = []) : callF R f ws h = .ok (.c d) (h.set n o') := by
  unfold callF
  simp only [hl, reach_one ho hz, sub_one ho hz, hr, z_ofOpt_some, e]
  show Res.ok (W.c d) (back [n] h [o']) = _
  rw [back_one hz']
theorem callF_locE {x : Nat} (hl : locs ws = [n]) (ho : h[n]? = some o) (hz : locO o = []) (hr : renWs [n] ws = some us) (e : R f us [o] = .err x d [o']) (hz' : locO o' = []) : callF R f ws h = .err x d (h.set n o') := by
  unfold callF
  simp only [hl, reach_one ho hz, sub_one ho hz, hr, z_ofOpt_some, e]
  show Res.err x d (back [n] h [o']) = _
  rw [back_one hz']
end
/-! ### gc where the old objects have no places -/
theorem upto_len : ∀ m, (upto m).length = m
  | 0 => rfl
  | m + 1 => by show (upto m ++ [m]).length = _; simp [upto_len m]
theorem sub_app {h : A} {L : List Nat} : ∀ {a b : List Nat} {x y : A}, sub h L a = some x → sub h L b = some y → sub h L (a ++ b) = some (x ++ y)
  | [], b, x, y, e1, e2 => by cases e1; exact e2
  | n :: r, b, x, y, e1, e2 => by
    have e1' : (match h[n]? with
      | some o => match renO L o with
        | some o' => match sub h L r with
          | some r' => some (o' :: r')
          | none => none
        | none => none
      | none => none) = some x := e1
    show (match h[n]? with
      | some o => match renO L o with
        | some o' => match sub h L (r ++ b) with
          | some r' => some (o' :: r')
          | none => none
        | none => none
      | none => none) = some (x ++ y)
    cases q1 : h[n]? with
    | none => rw [q1] at e1'; cases e1'
    | some o =>
      rw [q1] at e1'
      have e3 : (match renO L o with
        | some o' => match sub h L r with
          | some r' => some (o' :: r')
          | none => none
        | none => none) = some x := e1'
      show (match renO L o with
        | some o' => match sub h L (r ++ b) with
          | some r' => some (o' :: r')
          | none => none
        | none => none) = some (x ++ y)
      cases q2 : renO L o with
      | none => rw [q2] at e3; cases e3
      | some o' =>
        rw [q2] at e3
        have e4 : (match sub h L r with
          | some r' => some (o' :: r')
          | none => none) = some x := e3
        show (match sub h L (r ++ b) with
          | some r' => some (o' :: r')
          | none => none) = some (x ++ y)
        cases q3 : sub h L r with
        | none => rw [q3] at e4; cases e4
        | some r' =>
          rw [q3] at e4
          cases e4
          rw [sub_app q3 e2]
          rfl
theorem sub_upto {h : A} {L : List Nat} : ∀ {m : Nat}, m ≤ h.length → (∀ o ∈ h.take m, locO o = []) → sub h L (upto m) = some (h.take m)
  | 0, _, _ => by simp [upto, sub]
  | m + 1, hm, hz => by
    have hlt : m < List.length h := hm
    have e : h.take (m + 1) = h.take m ++ [h[m]] := by rw [List.take_append_getElem hlt]
    have ih := sub_upto (L := L) (m := m) (Nat.le_of_succ_le hm) (fun o ho => hz o (by rw [e]; exact List.mem_append_left _ ho))
    have hz1 : locO h[m] = [] := hz _ (by rw [e]; exact List.mem_append_right _ (List.mem_cons_self ..))
    rw [e]
    refine sub_app ih ?_
    show (match h[m]? with
      | some o => match renO L o with
        | some o' => match sub h L [] with
          | some r' => some (o' :: r')
          | none => none
        | none => none
      | none => none) = _
    rw [List.getElem?_eq_getElem hlt]
    show (match renO L h[m] with
        | some o' => match sub h L [] with
          | some r' => some (o' :: r')
          | none => none
        | none => none) = _
    rw [renO_no hz1]
    rfl
theorem locA_no : ∀ {h : A}, (∀ o ∈ h, locO o = []) → locA h = []
  | [], _ => rfl
  | o :: r, hz => by
    show locO o ++ locA r = []
    rw [hz o (List.mem_cons_self ..), locA_no fun o ho => hz o (List.mem_cons_of_mem _ ho)]
    rfl
theorem gc_no {m : Nat} {d : D} {h : A} (hm : m ≤ h.length) (hz : ∀ o ∈ h.take m, locO o = []) : gc m (.c d) h = .ok (.c d) (h.take m) := by
  unfold gc
  have e : reach reachK h (locA (h.take m) ++ locW (.c d)) (upto m) = upto m := by
    rw [locA_no hz]
    exact reach_nil 199 h (upto m)
  simp only [e, sub_upto hm hz, z_ofOpt_some]
  rfl
/-- one old object without places -/
theorem gc_one {d : D} {o : O} {r : A} (hz : locO o = []) : gc 1 (.c d) (o :: r) = .ok (.c d) [o] := gc_no (m := 1) (h := o :: r) (by simp) (by simpa using hz)
@[simp] theorem gc_lst {d : D} {xs : List D} {r : A} : gc 1 (.c d) (.lst xs :: r) = .ok (.c d) [.lst xs] := gc_one rfl
@[simp] theorem gc_dct {d : D} {t : Kd} {xs : List (D × D)} {r : A} : gc 1 (.c d) (.dct t xs :: r) = .ok (.c d) [.dct t xs] := gc_one rfl
@[simp] theorem gc_zero {d : D} {r : A} : gc 0 (.c d) r = .ok (.c d) [] := gc_no (m := 0) (by simp) (by simp)
@[simp] theorem ret1_c {fz : Bool} {d : D} {xs : List D} {r : A} : retB fz 1 (.rt (.c d) (.lst xs :: r)) = .ok (.c d) [.lst xs] := by
  cases fz
  · exact gc_lst (r := r)
  · show ((freeze (.lst xs :: r) (.c d)).bind fun d h1 => gc 1 (.c d) h1) = _
    exact gc_lst (r := r)
@[simp] theorem ret1_nx {fz : Bool} {σ : Env} {xs : List D} {r : A} : retB fz 1 (.nx σ (.lst xs :: r)) = .ok (.c .non) [.lst xs] := gc_lst (r := r)
@[simp] theorem ret1_er {fz : Bool} {σ : Env} {x : Nat} {d : D} {xs : List D} {r : A} : retB fz 1 (.er x d σ (.lst xs :: r)) = .err x d [.lst xs] := by
  show (gc 1 (.c .non) (.lst xs :: r)).bind (fun _ h1 => Res.err x d h1) = _
  rw [gc_lst]; rfl
@[simp] theorem ret0_c {fz : Bool} {d : D} {r : A} : retB fz 0 (.rt (.c d) r) = .ok (.c d) [] := by
  cases fz
  · exact gc_zero (r := r)
  · show ((freeze r (.c d)).bind fun d h1 => gc 0 (.c d) h1) = _
    exact gc_zero (r := r)
@[simp] theorem ret0_nx {fz : Bool} {σ : Env} {r : A} : retB fz 0 (.nx σ r) = .ok (.c .non) [] := gc_zero (r := r)
@[simp] theorem ret0_er {fz : Bool} {σ : Env} {x : Nat} {d : D} {r : A} : retB fz 0 (.er x d σ r) = .err x d [] := by
  show (gc 0 (.c .non) r).bind (fun _ h1 => Res.err x d h1) = _
  rw [gc_zero]; rfl
/-! ### loops -/
/-- what follows a turn -/
def loopN (r : SRes) (f : Env → A → SRes) : SRes := match r with
  | .nx σ1 h1 => f σ1 h1
  | .ct σ1 h1 => f σ1 h1
  | .bk σ1 h1 => .nx σ1 h1
  | x => x
section
variable {σ : Env} {h : A}
@[simp] theorem z_ln_nx (f : Env → A → SRes) : loopN (.nx σ h) f = f σ h := rfl
@[simp] theorem z_ln_ct (f : Env → A → SRes) : loopN (.ct σ h) f = f σ h := rfl
@[simp] theorem z_ln_bk (f : Env → A → SRes) : loopN (.bk σ h) f = .nx σ h := rfl
@[simp] theorem z_ln_rt (w : W) (f : Env → A → SRes) : loopN (.rt w h) f = .rt w h := rfl
@[simp] theorem z_ln_er (x : Nat) (d : D) (f : Env → A → SRes) : loopN (.er x d σ h) f = .er x d σ h := rfl
@[simp] theorem z_forGo_nil (f : D → Env → A → SRes) : forGo f [] σ h = .nx σ h := rfl
@[simp] theorem z_forGo (f : D → Env → A → SRes) (d : D) (r : List D) : forGo f (d :: r) σ h = loopN (f d σ h) (forGo f r) := by
  show (match f d σ h with
    | .nx σ1 h1 => forGo f r σ1 h1
    | .ct σ1 h1 => forGo f r σ1 h1
    | .bk σ1 h1 => .nx σ1 h1
    | x => x) = _
  unfold loopN
  cases f d σ h <;> rfl
@[simp] theorem z_forB (t : Tg) (f : Env → A → SRes) (d : D) : forB t f d σ h = ofOptS (bindTg t (.c d) σ) fun σ1 => f σ1 h := rfl
end
/-- a comprehension whose turns leave the heap as it is -/
theorem lcGo_pure {f : D → A → Res (Option D)} {h : A} {g : D → Option D} : ∀ {xs acc : List D}, (∀ d ∈ xs, f d h = .ok (g d) h) → acc.length + xs.length ≤ sizeMax → lcGo f xs acc h = .ok (acc ++ xs.filterMap g) h
  | [], acc, _, _ => by simp [lcGo]
  | d :: r, acc, hf, hl => by
    show ((f d h).bind fun o h1 => match o with
      | some y => must (decide (acc.length < sizeMax)) (lcGo f r (acc ++ [y]) h1)
      | none => lcGo f r acc h1) = _
    rw [hf d (List.mem_cons_self ..)]
    have hl' : acc.length + (r.length + 1) ≤ sizeMax := hl
    cases q : g d with
    | none =>
      show lcGo f r acc h = _
      rw [lcGo_pure (fun d hd => hf d (List.mem_cons_of_mem _ hd)) (by omega), List.filterMap_cons, q]
    | some y =>
      show must (decide (acc.length < sizeMax)) (lcGo f r (acc ++ [y]) h) = _
      rw [decide_eq_true (show acc.length < sizeMax by omega)]
      show lcGo f r (acc ++ [y]) h = _
      rw [lcGo_pure (fun d hd => hf d (List.mem_cons_of_mem _ hd)) (by simp; omega), List.filterMap_cons, q]
      simp
theorem eqD_nil {xs : List D} (h : D.pyoks xs = true) : eqD (.lst xs) (.lst []) = some xs.isEmpty := by
  have h1 : D.pyok (.lst xs) = true := by rw [D.pyok]; exact h
  have h2 : min (D.depth (.lst xs)) (D.depth (.lst [])) ≤ 64 := by
    have : D.depth (.lst []) = 1 := rfl
    omega
  unfold eqD
  rw [h1, show D.pyok (.lst []) = true from rfl, decide_eq_true h2]
  show D.eqb (.lst xs) (.lst []) = _
  cases xs <;> rfl
theorem pyoks_strs : ∀ l : List Str, D.pyoks (l.map D.str) = true
  | [] => rfl
  | s :: r => by
    show (D.pyok (.str s) && D.pyoks (r.map D.str)) = true
    rw [pyoks_strs r]
    rfl
@[simp] theorem cut_one {α : Type} (x : α) (r : List α) : cut (x :: r) (some 1) none = r := by
  simp [cut, clip]
theorem filterMap_not {α : Type} (f : α → D) (p : α → Bool) (g : D → Option D) (hg : ∀ a, g (f a) = if p a then none else some (f a)) : ∀ l : List α, (l.map f).filterMap g = (l.filter fun a => !p a).map f
  | [] => rfl
  | a :: r => by
    rw [List.map_cons, List.filterMap_cons, hg a, filterMap_not f p g hg r]
    cases h : p a <;> simp [h]
theorem filter_isEmpty {α : Type} (p : α → Bool) : ∀ l : List α, (l.filter fun a => !p a).isEmpty = l.all p
  | [] => rfl
  | a :: r => by
    cases h : p a <;> simp [h, filter_isEmpty p r]
theorem ret1n {fz : Bool} {σ : Env} {o : O} {r : A} (hz : locO o = []) : retB fz 1 (.nx σ (o :: r)) = .ok (.c .non) [o] := gc_one hz
theorem ret1c {fz : Bool} {d : D} {o : O} {r : A} (hz : locO o = []) : retB fz 1 (.rt (.c d) (o :: r)) = .ok (.c d) [o] := by
  cases fz
  · exact gc_one hz
  · show ((freeze (o :: r) (.c d)).bind fun d h1 => gc 1 (.c d) h1) = _
    exact gc_one hz
theorem ret1e {fz : Bool} {σ : Env} {x : Nat} {d : D} {o : O} {r : A} (hz : locO o = []) : retB fz 1 (.er x d σ (o :: r)) = .err x d [o] := by
  show (gc 1 (.c .non) (o :: r)).bind (fun _ h1 => Res.err x d h1) = _
  rw [gc_one hz]; rfl
/-! ### new instances -/
def cloF (fs : List (Nat × D)) : List (Nat × W) := fs.map fun p => (p.1, .c p.2)
theorem locF_clo : ∀ fs : List (Nat × D), locF (cloF fs) = []
  | [] => rfl
  | (a, d) :: r => locF_clo r
theorem fzF_clo {k : Nat} {h : A} : ∀ fs : List (Nat × D), fzF (fzW k h) (cloF fs) = some fs
  | [] => rfl
  | (a, d) :: r => by
    show (match fzW k h (.c d) with
      | some d => match fzF (fzW k h) (cloF r) with
        | some ds => some ((a, d) :: ds)
        | none => none
      | none => none) = _
    rw [fzF_clo r]
    cases k <;> rfl
theorem fzLF_clo {k : Nat} {h : A} : ∀ fs : List (Nat × D), fzLF (fzL k h) (cloF fs) = []
  | [] => rfl
  | (a, d) :: r => by
    show fzL k h (.c d) ++ fzLF (fzL k h) (cloF r) = []
    rw [fzLF_clo r]
    cases k <;> rfl
theorem freeze_ins {h : A} {n c : Nat} {fs : List (Nat × D)} (e : h[n]? = some (.ins c (cloF fs))) : freeze h (.l n) = .ok (.ins c fs) (h.set n .dead) := by
  have e1 : fzW 8 h (.l n) = some (.ins c fs) := by
    show (match h[n]? with
      | some (.lst xs) => some (D.lst xs)
      | some (.dct t kvs) => some (.dct t kvs)
      | some (.ins c fs) => match fzF (fzW 7 h) fs with
        | some gs => some (.ins c gs)
        | none => none
      | _ => none) = _
    rw [e]
    show (match fzF (fzW 7 h) (cloF fs) with
        | some gs => some (D.ins c gs)
        | none => none) = _
    rw [fzF_clo]
  have e2 : fzL 8 h (.l n) = [n] := by
    show n :: (match h[n]? with
      | some (.ins _ fs) => fzLF (fzL 7 h) fs
      | _ => []) = [n]
    rw [e]
    show n :: fzLF (fzL 7 h) (cloF fs) = [n]
    rw [fzLF_clo]
  show (match fzW 8 h (.l n) with
    | some d => (Res.ok d (kill h (fzL 8 h (.l n))) : Res D)
    | none => .stuck) = _
  rw [e1, e2]
  rfl
theorem locs_l {n : Nat} {ws : List W} (hc : closed ws = true) : locs (.l n :: ws) = [n] := by
  show [n] ++ locs ws = [n]
  rw [locs_closed hc]
  rfl
theorem renWs_l {n : Nat} {ws : List W} (hc : closed ws = true) : renWs [n] (.l n :: ws) = some (.l 0 :: ws) := by
  show (match renW [n] (.l n) with
    | some w' => match renWs [n] ws with
      | some r' => some (w' :: r')
      | none => none
    | none => none) = _
  have : renW [n] (.l n) = some (.l 0) := by
    show (match ixN [n] n with
      | some i => some (W.l i)
      | none => none) = _
    have : ixN [n] n = some 0 := by
      show (match decide (n = n) with
        | true => some 0
        | false => _) = _
      rw [decide_eq_true rfl]
    rw [this]
  rw [this, renWs_closed hc]
section
variable {G : Gx} {c f : Nat} {cl : Cl} {ws : List W} {h : A}
theorem make_ok {fs : List (Nat × D)} (hc : G.C c = some cl) (hi : cl.init = some f) (hf : cl.fz = true) (hw : closed ws = true) (e : G.Rm f (.l 0 :: ws) [.ins c []] = .ok (.c .non) [.ins c (cloF fs)]) : make G c ws h = .ok (.c (.ins c fs)) (h ++ [.dead]) := by
  have hn : (h ++ [O.ins c []])[h.length]? = some (.ins c []) := by simp
  have e1 := callF_loc (R := G.Rm) (f := f) (h := h ++ [.ins c []]) (locs_l hw) hn rfl (renWs_l hw) e (locF_clo fs)
  unfold make
  simp only [hc, hi, z_ofOpt_some, e1, z_bind_ok, hf]
  have e2 : (h ++ [O.ins c []]).set h.length (.ins c (cloF fs)) = h ++ [.ins c (cloF fs)] := by simp
  have e3 : freeze (h ++ [O.ins c (cloF fs)]) (.l h.length) = .ok (.ins c fs) ((h ++ [O.ins c (cloF fs)]).set h.length .dead) := freeze_ins (by simp)
  rw [e2, e3]
  show Res.ok (W.c (.ins c fs)) ((h ++ [O.ins c (cloF fs)]).set h.length .dead) = _
  simp
theorem make_err {x : Nat} {d : D} {o' : O} (hc : G.C c = some cl) (hi : cl.init = some f) (hw : closed ws = true) (e : G.Rm f (.l 0 :: ws) [.ins c []] = .err x d [o']) (hz : locO o' = []) : make G c ws h = .err x d (h ++ [o']) := by
  have hn : (h ++ [O.ins c []])[h.length]? = some (.ins c []) := by simp
  have e1 := callF_locE (R := G.Rm) (f := f) (h := h ++ [.ins c []]) (locs_l hw) hn rfl (renWs_l hw) e hz
  unfold make
  simp only [hc, hi, z_ofOpt_some, e1, z_bind_err]
  simp
end
end B

set_option linter.all false
set_option maxRecDepth 100000
/-! What is done with values, for simp. Own work. -/
namespace B
open PySem (Str)
@[simp] theorem ofString_eq (a b : String) : (Str.ofString a = Str.ofString b) ↔ a = b := by
  constructor
  · intro h
    rw [PySem.Str.ofString_eq_toList, PySem.Str.ofString_eq_toList] at h
    have h1 : (a.toList.map Char.toNat) = (b.toList.map Char.toNat) := by
      have := congrArg (fun s : Str => s.cps.toList) h
      simpa using this
    have h2 : a.toList = b.toList := by
      have inj : ∀ (l r : List Char), l.map Char.toNat = r.map Char.toNat → l = r := by
        intro l
        induction l with
        | nil => intro r e; cases r with
          | nil => rfl
          | cons _ _ => simp at e
        | cons c l ih =>
          intro r e
          cases r with
          | nil => simp at e
          | cons d r =>
            simp only [List.map_cons, List.cons.injEq] at e
            rw [ih r e.2]
            have : c = d := by
              have h3 := e.1
              exact Char.ext (UInt32.toNat_inj.mp h3)
            rw [this]
      exact inj _ _ h1
    exact String.toList_inj.mp h2
  · rintro rfl; rfl
section
variable {G : Gx} {σ : Env} {h : A} {P : Pr} {k : Nat}

@[simp] theorem z_cls_non : clsOf h (.c .non) = none := rfl
@[simp] theorem z_shape_non : shape h (.c .non) = some .non := rfl
@[simp] theorem z_known_non : known G .non = true := rfl
@[simp] theorem z_cls_bl (b : Bool) : clsOf h (.c (.bl b)) = none := rfl
@[simp] theorem z_shape_bl (b : Bool) : shape h (.c (.bl b)) = some (.bl b) := rfl
@[simp] theorem z_known_bl (b : Bool) : known G (.bl b) = true := rfl
@[simp] theorem z_cls_int (i : Int) : clsOf h (.c (.int i)) = none := rfl
@[simp] theorem z_shape_int (i : Int) : shape h (.c (.int i)) = some (.int i) := rfl
@[simp] theorem z_known_int (i : Int) : known G (.int i) = true := rfl
@[simp] theorem z_cls_str (s : Str) : clsOf h (.c (.str s)) = none := rfl
@[simp] theorem z_shape_str (s : Str) : shape h (.c (.str s)) = some (.str s) := rfl
@[simp] theorem z_known_str (s : Str) : known G (.str s) = true := rfl
@[simp] theorem z_cls_tup (xs : List D) : clsOf h (.c (.tup xs)) = none := rfl
@[simp] theorem z_shape_tup (xs : List D) : shape h (.c (.tup xs)) = some (.tup xs) := rfl
@[simp] theorem z_known_tup (xs : List D) : known G (.tup xs) = true := rfl
@[simp] theorem z_cls_lst (xs : List D) : clsOf h (.c (.lst xs)) = none := rfl
@[simp] theorem z_shape_lst (xs : List D) : shape h (.c (.lst xs)) = some (.lst xs) := rfl
@[simp] theorem z_known_lst (xs : List D) : known G (.lst xs) = true := rfl
@[simp] theorem z_cls_dct (t : Kd) (kvs : List (D × D)) : clsOf h (.c (.dct t kvs)) = none := rfl
@[simp] theorem z_shape_dct (t : Kd) (kvs : List (D × D)) : shape h (.c (.dct t kvs)) = some (.dct t kvs) := rfl
@[simp] theorem z_known_dct (t : Kd) (kvs : List (D × D)) : known G (.dct t kvs) = true := rfl
@[simp] theorem z_cls_ins (c : Nat) (fs : List (Nat × D)) : clsOf h (.c (.ins c fs)) = some c := rfl
@[simp] theorem z_shape_ins (c : Nat) (fs : List (Nat × D)) : shape h (.c (.ins c fs)) = some (.ins c fs) := rfl
@[simp] theorem z_known_ins (c : Nat) (fs : List (Nat × D)) : known G (.ins c fs) = (G.C c).isSome := rfl
theorem z_cmp {o : Op} {x y : W} (e : clsOf h x = none) : cmpW G o x y h = opW o x y h := by
  unfold cmpW
  rw [e]
  cases o <;> rfl

@[simp] theorem z_cmp_non (o : Op) (y : W) : cmpW G o (.c .non) y h = opW o (.c .non) y h := z_cmp rfl
@[simp] theorem z_cmp_bl (b : Bool) (o : Op) (y : W) : cmpW G o (.c (.bl b)) y h = opW o (.c (.bl b)) y h := z_cmp rfl
@[simp] theorem z_cmp_int (i : Int) (o : Op) (y : W) : cmpW G o (.c (.int i)) y h = opW o (.c (.int i)) y h := z_cmp rfl
@[simp] theorem z_cmp_str (s : Str) (o : Op) (y : W) : cmpW G o (.c (.str s)) y h = opW o (.c (.str s)) y h := z_cmp rfl
@[simp] theorem z_cmp_tup (xs : List D) (o : Op) (y : W) : cmpW G o (.c (.tup xs)) y h = opW o (.c (.tup xs)) y h := z_cmp rfl
@[simp] theorem z_cmp_lst (xs : List D) (o : Op) (y : W) : cmpW G o (.c (.lst xs)) y h = opW o (.c (.lst xs)) y h := z_cmp rfl
@[simp] theorem z_cmp_dct (t : Kd) (kvs : List (D × D)) (o : Op) (y : W) : cmpW G o (.c (.dct t kvs)) y h = opW o (.c (.dct t kvs)) y h := z_cmp rfl
@[simp] theorem z_cmp_eq_ins (c : Nat) (fs : List (Nat × D)) (y : W) : cmpW G .eq (.c (.ins c fs)) y h = (ownEq G (.c (.ins c fs)) y h).bind fun b h1 => .ok (.c (.bl b)) h1 := rfl
@[simp] theorem z_cmp_ne_ins (c : Nat) (fs : List (Nat × D)) (y : W) : cmpW G .ne (.c (.ins c fs)) y h = (ownEq G (.c (.ins c fs)) y h).bind fun b h1 => .ok (.c (.bl (!b))) h1 := rfl
@[simp] theorem z_cmp_is (x y : W) : cmpW G .is_ x y h = opW .is_ x y h := by unfold cmpW; cases clsOf h x <;> rfl
@[simp] theorem z_cmp_isnot (x y : W) : cmpW G .isnot x y h = opW .isnot x y h := by unfold cmpW; cases clsOf h x <;> rfl
@[simp] theorem z_op_is (x : W) : opW .is_ x (.c .non) h = .ok (.c (.bl (isNon x))) h := rfl
@[simp] theorem z_op_isnot (x : W) : opW .isnot x (.c .non) h = .ok (.c (.bl (!isNon x))) h := rfl
@[simp] theorem z_isNon_l (n : Nat) : isNon (.l n) = false := rfl
@[simp] theorem z_isNon_non : isNon (.c .non) = true := rfl

@[simp] theorem z_isNon_bl (b : Bool) : isNon (.c (.bl b)) = false := rfl
@[simp] theorem z_isNon_int (i : Int) : isNon (.c (.int i)) = false := rfl
@[simp] theorem z_isNon_str (s : Str) : isNon (.c (.str s)) = false := rfl
@[simp] theorem z_isNon_tup (xs : List D) : isNon (.c (.tup xs)) = false := rfl
@[simp] theorem z_isNon_lst (xs : List D) : isNon (.c (.lst xs)) = false := rfl
@[simp] theorem z_isNon_dct (t : Kd) (kvs : List (D × D)) : isNon (.c (.dct t kvs)) = false := rfl
@[simp] theorem z_isNon_ins (c : Nat) (fs : List (Nat × D)) : isNon (.c (.ins c fs)) = false := rfl
@[simp] theorem z_opW_add (a b : D) : opW .add (.c a) (.c b) h = ofOpt (bin .add a b) fun d => .ok (.c d) h := rfl
@[simp] theorem z_opW_sub (a b : D) : opW .sub (.c a) (.c b) h = ofOpt (bin .sub a b) fun d => .ok (.c d) h := rfl
@[simp] theorem z_opW_mul (a b : D) : opW .mul (.c a) (.c b) h = ofOpt (bin .mul a b) fun d => .ok (.c d) h := rfl
@[simp] theorem z_opW_mod (a b : D) : opW .mod (.c a) (.c b) h = ofOpt (bin .mod a b) fun d => .ok (.c d) h := rfl
@[simp] theorem z_opW_fdiv (a b : D) : opW .fdiv (.c a) (.c b) h = ofOpt (bin .fdiv a b) fun d => .ok (.c d) h := rfl
@[simp] theorem z_opW_pow (a b : D) : opW .pow (.c a) (.c b) h = ofOpt (bin .pow a b) fun d => .ok (.c d) h := rfl
@[simp] theorem z_opW_eq (a b : D) : opW .eq (.c a) (.c b) h = ofOpt (bin .eq a b) fun d => .ok (.c d) h := rfl
@[simp] theorem z_opW_ne (a b : D) : opW .ne (.c a) (.c b) h = ofOpt (bin .ne a b) fun d => .ok (.c d) h := rfl
@[simp] theorem z_opW_lt (a b : D) : opW .lt (.c a) (.c b) h = ofOpt (bin .lt a b) fun d => .ok (.c d) h := rfl
@[simp] theorem z_opW_le (a b : D) : opW .le (.c a) (.c b) h = ofOpt (bin .le a b) fun d => .ok (.c d) h := rfl
@[simp] theorem z_opW_gt (a b : D) : opW .gt (.c a) (.c b) h = ofOpt (bin .gt a b) fun d => .ok (.c d) h := rfl
@[simp] theorem z_opW_ge (a b : D) : opW .ge (.c a) (.c b) h = ofOpt (bin .ge a b) fun d => .ok (.c d) h := rfl
@[simp] theorem z_opW_in_ (a b : D) : opW .in_ (.c a) (.c b) h = ofOpt (bin .in_ a b) fun d => .ok (.c d) h := rfl
@[simp] theorem z_opW_notin (a b : D) : opW .notin (.c a) (.c b) h = ofOpt (bin .notin a b) fun d => .ok (.c d) h := rfl
@[simp] theorem z_bin_eq (a b : D) : bin .eq a b = (eqD a b).map .bl := by cases a <;> cases b <;> rfl
@[simp] theorem z_bin_ne (a b : D) : bin .ne a b = (eqD a b).map fun r => .bl (!r) := by cases a <;> cases b <;> rfl
@[simp] theorem z_bin_add (i j : Int) : bin .add (.int i) (.int j) = some (.int (i + j)) := rfl
@[simp] theorem z_bin_sub (i j : Int) : bin .sub (.int i) (.int j) = some (.int (i - j)) := rfl
theorem z_bin_mul (i j : Int) (hs : small i = true ∨ small j = true) : bin .mul (.int i) (.int j) = some (.int (i * j)) := by
  show (match small i || small j with
    | true => some (D.int (i * j))
    | false => none) = _
  rw [show (small i || small j) = true by simpa using hs]
theorem z_bin_mod (i j : Int) (hj : 0 < j) : bin .mod (.int i) (.int j) = some (.int (i % j)) := by
  show (match decide (0 < j) with
    | true => some (D.int (i % j))
    | false => none) = _
  rw [decide_eq_true hj]
theorem z_bin_fdiv (i j : Int) (hj : 0 < j) (hj2 : j < 1073741824) : bin .fdiv (.int i) (.int j) = some (.int (i / j)) := by
  show (match decide (0 < j ∧ j < 1073741824) with
    | true => some (D.int (i / j))
    | false => none) = _
  rw [decide_eq_true ⟨hj, hj2⟩]
@[simp] theorem z_bin_lt (i j : Int) : bin .lt (.int i) (.int j) = some (.bl (decide (i < j))) := rfl
@[simp] theorem z_bin_le (i j : Int) : bin .le (.int i) (.int j) = some (.bl (decide (i ≤ j))) := rfl
@[simp] theorem z_bin_gt (i j : Int) : bin .gt (.int i) (.int j) = some (.bl (decide (j < i))) := rfl
@[simp] theorem z_bin_ge (i j : Int) : bin .ge (.int i) (.int j) = some (.bl (decide (j ≤ i))) := rfl
theorem z_bin_addS (x y : Str) (hl : x.length + y.length ≤ sizeMax) : bin .add (.str x) (.str y) = some (.str (x ++ y)) := by
  show (match decide (x.length + y.length ≤ sizeMax) with
    | true => some (D.str (x ++ y))
    | false => none) = _
  rw [decide_eq_true hl]
theorem z_bin_addT (xs ys : List D) (hl : xs.length + ys.length ≤ sizeMax) : bin .add (.tup xs) (.tup ys) = some (.tup (xs ++ ys)) := by
  show (match decide (xs.length + ys.length ≤ sizeMax) with
    | true => some (D.tup (xs ++ ys))
    | false => none) = _
  rw [decide_eq_true hl]
theorem z_bin_addL (xs ys : List D) (hl : xs.length + ys.length ≤ sizeMax) : bin .add (.lst xs) (.lst ys) = some (.lst (xs ++ ys)) := by
  show (match decide (xs.length ≤ sizeMax ∧ ys.length ≤ sizeMax ∧ xs.length + ys.length ≤ sizeMax) with
    | true => some (D.lst (xs ++ ys))
    | false => none) = _
  rw [decide_eq_true ⟨by omega, by omega, hl⟩]
@[simp] theorem z_bin_inT (x : D) (ys : List D) : bin .in_ x (.tup ys) = (inL ys x).map .bl := by cases x <;> rfl
@[simp] theorem z_bin_inL (x : D) (ys : List D) : bin .in_ x (.lst ys) = (inL ys x).map .bl := by cases x <;> rfl
@[simp] theorem z_bin_ninT (x : D) (ys : List D) : bin .notin x (.tup ys) = (inL ys x).map fun r => .bl (!r) := by cases x <;> rfl
@[simp] theorem z_bin_ninL (x : D) (ys : List D) : bin .notin x (.lst ys) = (inL ys x).map fun r => .bl (!r) := by cases x <;> rfl
@[simp] theorem z_bin_inD (x : D) (t : Kd) (kvs : List (D × D)) : bin .in_ x (.dct t kvs) = (dGet t kvs x).map fun r => .bl r.isSome := by cases x <;> rfl
@[simp] theorem z_bin_ninD (x : D) (t : Kd) (kvs : List (D × D)) : bin .notin x (.dct t kvs) = (dGet t kvs x).map fun r => .bl (!r.isSome) := by cases x <;> rfl
@[simp] theorem z_eq_int (i j : Int) : eqD (.int i) (.int j) = some (decide (i = j)) := rfl
@[simp] theorem z_eq_str (i j : Str) : eqD (.str i) (.str j) = some (decide (i = j)) := rfl
@[simp] theorem z_eq_bl (i j : Bool) : eqD (.bl i) (.bl j) = some (i == j) := rfl
@[simp] theorem z_eq_lnil : eqD (.lst []) (.lst []) = some true := rfl
@[simp] theorem z_eq_tnil : eqD (.tup []) (.tup []) = some true := rfl
@[simp] theorem z_eq_non : eqD .non .non = some true := rfl
@[simp] theorem z_eq_ss (i : Str) : eqD (.str i) .non = some false := rfl
@[simp] theorem z_eq_ni (i : Str) : eqD .non (.str i) = some false := rfl
theorem sz_le {n : Nat} (h : n ≤ 1000) : n ≤ sizeMax := Nat.le_trans h (by decide)
@[simp] theorem sz_le' {n : Nat} (h : n ≤ 1000) : (n ≤ sizeMax) = True := eq_true (sz_le h)
@[simp] theorem sz_lt' {n : Nat} (h : n ≤ 1000) : (n < sizeMax) = True := eq_true (Nat.lt_of_le_of_lt h (by decide))
/-! isinstance -/

@[simp] theorem z_ty_non_int (C : Nat → Option Cl) : isTy C .non .int = false := rfl
@[simp] theorem z_ty_non_bool (C : Nat → Option Cl) : isTy C .non .bool = false := rfl
@[simp] theorem z_ty_non_str (C : Nat → Option Cl) : isTy C .non .str = false := rfl
@[simp] theorem z_ty_non_tup (C : Nat → Option Cl) : isTy C .non .tup = false := rfl
@[simp] theorem z_ty_non_lst (C : Nat → Option Cl) : isTy C .non .lst = false := rfl
@[simp] theorem z_ty_non_dct (C : Nat → Option Cl) : isTy C .non .dct = false := rfl
@[simp] theorem z_ty_non_own (C : Nat → Option Cl) (c : Nat) : isTy C .non (.own c) = false := rfl
@[simp] theorem z_ty_bl_int (b : Bool) (C : Nat → Option Cl) : isTy C (.bl b) .int = true := rfl
@[simp] theorem z_ty_bl_bool (b : Bool) (C : Nat → Option Cl) : isTy C (.bl b) .bool = true := rfl
@[simp] theorem z_ty_bl_str (b : Bool) (C : Nat → Option Cl) : isTy C (.bl b) .str = false := rfl
@[simp] theorem z_ty_bl_tup (b : Bool) (C : Nat → Option Cl) : isTy C (.bl b) .tup = false := rfl
@[simp] theorem z_ty_bl_lst (b : Bool) (C : Nat → Option Cl) : isTy C (.bl b) .lst = false := rfl
@[simp] theorem z_ty_bl_dct (b : Bool) (C : Nat → Option Cl) : isTy C (.bl b) .dct = false := rfl
@[simp] theorem z_ty_bl_own (b : Bool) (C : Nat → Option Cl) (c : Nat) : isTy C (.bl b) (.own c) = false := rfl
@[simp] theorem z_ty_int_int (i : Int) (C : Nat → Option Cl) : isTy C (.int i) .int = true := rfl
@[simp] theorem z_ty_int_bool (i : Int) (C : Nat → Option Cl) : isTy C (.int i) .bool = false := rfl
@[simp] theorem z_ty_int_str (i : Int) (C : Nat → Option Cl) : isTy C (.int i) .str = false := rfl
@[simp] theorem z_ty_int_tup (i : Int) (C : Nat → Option Cl) : isTy C (.int i) .tup = false := rfl
@[simp] theorem z_ty_int_lst (i : Int) (C : Nat → Option Cl) : isTy C (.int i) .lst = false := rfl
@[simp] theorem z_ty_int_dct (i : Int) (C : Nat → Option Cl) : isTy C (.int i) .dct = false := rfl
@[simp] theorem z_ty_int_own (i : Int) (C : Nat → Option Cl) (c : Nat) : isTy C (.int i) (.own c) = false := rfl
@[simp] theorem z_ty_str_int (s : Str) (C : Nat → Option Cl) : isTy C (.str s) .int = false := rfl
@[simp] theorem z_ty_str_bool (s : Str) (C : Nat → Option Cl) : isTy C (.str s) .bool = false := rfl
@[simp] theorem z_ty_str_str (s : Str) (C : Nat → Option Cl) : isTy C (.str s) .str = true := rfl
@[simp] theorem z_ty_str_tup (s : Str) (C : Nat → Option Cl) : isTy C (.str s) .tup = false := rfl
@[simp] theorem z_ty_str_lst (s : Str) (C : Nat → Option Cl) : isTy C (.str s) .lst = false := rfl
@[simp] theorem z_ty_str_dct (s : Str) (C : Nat → Option Cl) : isTy C (.str s) .dct = false := rfl
@[simp] theorem z_ty_str_own (s : Str) (C : Nat → Option Cl) (c : Nat) : isTy C (.str s) (.own c) = false := rfl
@[simp] theorem z_ty_tup_int (xs : List D) (C : Nat → Option Cl) : isTy C (.tup xs) .int = false := rfl
@[simp] theorem z_ty_tup_bool (xs : List D) (C : Nat → Option Cl) : isTy C (.tup xs) .bool = false := rfl
@[simp] theorem z_ty_tup_str (xs : List D) (C : Nat → Option Cl) : isTy C (.tup xs) .str = false := rfl
@[simp] theorem z_ty_tup_tup (xs : List D) (C : Nat → Option Cl) : isTy C (.tup xs) .tup = true := rfl
@[simp] theorem z_ty_tup_lst (xs : List D) (C : Nat → Option Cl) : isTy C (.tup xs) .lst = false := rfl
@[simp] theorem z_ty_tup_dct (xs : List D) (C : Nat → Option Cl) : isTy C (.tup xs) .dct = false := rfl
@[simp] theorem z_ty_tup_own (xs : List D) (C : Nat → Option Cl) (c : Nat) : isTy C (.tup xs) (.own c) = false := rfl
@[simp] theorem z_ty_lst_int (xs : List D) (C : Nat → Option Cl) : isTy C (.lst xs) .int = false := rfl
@[simp] theorem z_ty_lst_bool (xs : List D) (C : Nat → Option Cl) : isTy C (.lst xs) .bool = false := rfl
@[simp] theorem z_ty_lst_str (xs : List D) (C : Nat → Option Cl) : isTy C (.lst xs) .str = false := rfl
@[simp] theorem z_ty_lst_tup (xs : List D) (C : Nat → Option Cl) : isTy C (.lst xs) .tup = false := rfl
@[simp] theorem z_ty_lst_lst (xs : List D) (C : Nat → Option Cl) : isTy C (.lst xs) .lst = true := rfl
@[simp] theorem z_ty_lst_dct (xs : List D) (C : Nat → Option Cl) : isTy C (.lst xs) .dct = false := rfl
@[simp] theorem z_ty_lst_own (xs : List D) (C : Nat → Option Cl) (c : Nat) : isTy C (.lst xs) (.own c) = false := rfl
@[simp] theorem z_ty_dct_int (t : Kd) (kvs : List (D × D)) (C : Nat → Option Cl) : isTy C (.dct t kvs) .int = false := rfl
@[simp] theorem z_ty_dct_bool (t : Kd) (kvs : List (D × D)) (C : Nat → Option Cl) : isTy C (.dct t kvs) .bool = false := rfl
@[simp] theorem z_ty_dct_str (t : Kd) (kvs : List (D × D)) (C : Nat → Option Cl) : isTy C (.dct t kvs) .str = false := rfl
@[simp] theorem z_ty_dct_tup (t : Kd) (kvs : List (D × D)) (C : Nat → Option Cl) : isTy C (.dct t kvs) .tup = false := rfl
@[simp] theorem z_ty_dct_lst (t : Kd) (kvs : List (D × D)) (C : Nat → Option Cl) : isTy C (.dct t kvs) .lst = false := rfl
@[simp] theorem z_ty_dct_dct (t : Kd) (kvs : List (D × D)) (C : Nat → Option Cl) : isTy C (.dct t kvs) .dct = true := rfl
@[simp] theorem z_ty_dct_own (t : Kd) (kvs : List (D × D)) (C : Nat → Option Cl) (c : Nat) : isTy C (.dct t kvs) (.own c) = false := rfl
@[simp] theorem z_ty_ins_int (c : Nat) (fs : List (Nat × D)) (C : Nat → Option Cl) : isTy C (.ins c fs) .int = false := rfl
@[simp] theorem z_ty_ins_bool (c : Nat) (fs : List (Nat × D)) (C : Nat → Option Cl) : isTy C (.ins c fs) .bool = false := rfl
@[simp] theorem z_ty_ins_str (c : Nat) (fs : List (Nat × D)) (C : Nat → Option Cl) : isTy C (.ins c fs) .str = false := rfl
@[simp] theorem z_ty_ins_tup (c : Nat) (fs : List (Nat × D)) (C : Nat → Option Cl) : isTy C (.ins c fs) .tup = false := rfl
@[simp] theorem z_ty_ins_lst (c : Nat) (fs : List (Nat × D)) (C : Nat → Option Cl) : isTy C (.ins c fs) .lst = false := rfl
@[simp] theorem z_ty_ins_dct (c : Nat) (fs : List (Nat × D)) (C : Nat → Option Cl) : isTy C (.ins c fs) .dct = false := rfl
@[simp] theorem z_ty_ins_own (c d : Nat) (fs : List (Nat × D)) (C : Nat → Option Cl) : isTy C (.ins c fs) (.own d) = (match C c with
    | some cl => cl.sup.contains d
    | none => false) := rfl
/-! items, slices, built-ins -/
@[simp] theorem z_ixW (a b : D) : ixW (.c a) (.c b) h = ofOpt (getI a b) fun d => .ok (.c d) h := rfl
theorem ixI_nat {n i : Nat} (hi : i < n) : ixI n ((i : Nat) : Int) = some i := by
  unfold ixI
  rw [if_pos (by omega), if_pos (by omega)]
  rfl
@[simp] theorem z_get_t0 (x : D) (r : List D) : getI (.tup (x :: r)) (.int 0) = some x := by simp [getI, ixI]
@[simp] theorem z_get_t1 (x y : D) (r : List D) : getI (.tup (x :: y :: r)) (.int 1) = some y := by
  have h1 : ixI (x :: y :: r).length ((1 : Nat) : Int) = some 1 := ixI_nat (by simp)
  show (ixI (x :: y :: r).length ((1 : Nat) : Int)).bind (fun j => (x :: y :: r)[j]?) = _
  rw [h1]
  rfl
@[simp] theorem z_get_t2 (x y z : D) (r : List D) : getI (.tup (x :: y :: z :: r)) (.int 2) = some z := by
  have h1 : ixI (x :: y :: z :: r).length ((2 : Nat) : Int) = some 2 := ixI_nat (by simp)
  show (ixI (x :: y :: z :: r).length ((2 : Nat) : Int)).bind (fun j => (x :: y :: z :: r)[j]?) = _
  rw [h1]
  rfl
@[simp] theorem z_get_l0 (x : D) (r : List D) : getI (.lst (x :: r)) (.int 0) = some x := by simp [getI, ixI]
@[simp] theorem z_get_l1 (x y : D) (r : List D) : getI (.lst (x :: y :: r)) (.int 1) = some y := by
  have h1 : ixI (x :: y :: r).length ((1 : Nat) : Int) = some 1 := ixI_nat (by simp)
  show (ixI (x :: y :: r).length ((1 : Nat) : Int)).bind (fun j => (x :: y :: r)[j]?) = _
  rw [h1]
  rfl
theorem z_get_tn (xs : List D) (i : Nat) (x : D) (e : xs[i]? = some x) : getI (.tup xs) (.int ((i : Nat) : Int)) = some x := by
  have hi : i < xs.length := (List.getElem?_eq_some_iff.mp e).1
  simp [getI, ixI_nat hi, e]
theorem z_get_ln (xs : List D) (i : Nat) (x : D) (e : xs[i]? = some x) : getI (.lst xs) (.int ((i : Nat) : Int)) = some x := by
  have hi : i < xs.length := (List.getElem?_eq_some_iff.mp e).1
  simp [getI, ixI_nat hi, e]
@[simp] theorem z_get_d (t : Kd) (kvs : List (D × D)) (x : D) : getI (.dct t kvs) x = (dGet t kvs x).bind id := by cases x <;> rfl
@[simp] theorem z_dGet_s (kvs : List (D × D)) (s : Str) : dGet .s kvs (.str s) = some (getK kvs (.str s)) := rfl
@[simp] theorem z_intO_n : intO none = some none := rfl
@[simp] theorem z_intO_i (i : Int) : intO (some (.c (.int i))) = some (some i) := rfl
@[simp] theorem z_cut_t (lo hi : Option Int) (xs : List D) : cutD lo hi (.tup xs) = some (.tup (cut xs lo hi)) := rfl
@[simp] theorem z_cut_l (lo hi : Option Int) (xs : List D) : cutD lo hi (.lst xs) = some (.lst (cut xs lo hi)) := rfl
@[simp] theorem z_bi1 (b : Bi) (x : D) : bi b [x] = bi1 b x := rfl
@[simp] theorem z_bi2 (b : Bi) (x y : D) : bi b [x, y] = bi2 b x y := rfl
@[simp] theorem z_len_t (xs : List D) : bi1 .len (.tup xs) = some (.int xs.length) := rfl
@[simp] theorem z_len_l (xs : List D) : bi1 .len (.lst xs) = some (.int xs.length) := rfl
@[simp] theorem z_len_c (xs : List D) : bi1 .len (.scr xs) = some (.int xs.length) := rfl
@[simp] theorem z_int_i (i : Int) : bi1 .int (.int i) = some (.int i) := rfl
@[simp] theorem z_int_b (b : Bool) : bi1 .int (.bl b) = some (.int (if b then 1 else 0)) := rfl
@[simp] theorem z_str_s (s : Str) : bi1 .str (.str s) = some (.str s) := rfl
@[simp] theorem z_list_t (xs : List D) : bi1 .list (.tup xs) = some (.lst xs) := rfl
@[simp] theorem z_list_l (xs : List D) : bi1 .list (.lst xs) = some (.lst xs) := rfl
@[simp] theorem z_tuple_t (xs : List D) : bi1 .tuple (.tup xs) = some (.tup xs) := rfl
@[simp] theorem z_tuple_l (xs : List D) : bi1 .tuple (.lst xs) = some (.tup xs) := rfl
@[simp] theorem z_max (i j : Int) : bi2 .max2 (.int i) (.int j) = some (.int (if j > i then j else i)) := rfl
@[simp] theorem z_min (i j : Int) : bi2 .min2 (.int i) (.int j) = some (.int (if j < i then j else i)) := rfl
@[simp] theorem z_seqOf_t (xs : List D) : seqOf (.tup xs) = some xs := rfl
@[simp] theorem z_seqOf_l (xs : List D) : seqOf (.lst xs) = some xs := rfl
/-! methods of built-in types -/
@[simp] theorem z_recv_get (t : Kd) (kvs : List (D × D)) : recv .get2 (.c (.dct t kvs)) h = true := rfl
@[simp] theorem z_recv_join (s : Str) : recv .join (.c (.str s)) h = true := rfl
@[simp] theorem z_recv_split (s : Str) : recv .split (.c (.str s)) h = true := rfl
@[simp] theorem z_go_get (m : Bool) (t : Kd) (kvs : List (D × D)) (a b : D) : bmGo m .get2 (.c (.dct t kvs)) [.c a, .c b] h = ofOpt ((dGet t kvs a).map fun r => r.getD b) fun r => .ok (.c r) h := rfl
@[simp] theorem z_go_join (m : Bool) (s : Str) (a : D) : bmGo m .join (.c (.str s)) [.c a] h = ofOpt (bmR .join (.str s) [a]) fun r => born m r h := rfl
@[simp] theorem z_go_split (m : Bool) (s : Str) (a : D) : bmGo m .split (.c (.str s)) [.c a] h = ofOpt (bmR .split (.str s) [a]) fun r => born m r h := rfl
theorem z_recv_app {n : Nat} {xs : List D} (e : h[n]? = some (.lst xs)) : recv .append (.l n) h = true := by
  unfold recv look
  simp only [e]
theorem z_recv_ext {n : Nat} {xs : List D} (e : h[n]? = some (.lst xs)) : recv .extend (.l n) h = true := by
  unfold recv look
  simp only [e]
theorem z_go_app {m : Bool} {n : Nat} {xs : List D} {d : D} (e : h[n]? = some (.lst xs)) (hl : xs.length < sizeMax) : bmGo m .append (.l n) [.c d] h = .ok (.c .non) (h.set n (.lst (xs ++ [d]))) := by
  show (freezes h [.c d]).bind (fun ds h3 => bmW .append n ds h3) = _
  simp only [z_freezes, z_freezes_nil, z_bind_ok]
  unfold bmW
  simp only [e, decide_eq_true hl]
  rfl
theorem z_go_ext {m : Bool} {n : Nat} {xs ys : List D} (e : h[n]? = some (.lst xs)) (hl : xs.length + ys.length ≤ sizeMax) : bmGo m .extend (.l n) [.c (.lst ys)] h = .ok (.c .non) (h.set n (.lst (xs ++ ys))) := by
  show (ofOpt (looks h [.c (.lst ys)]) fun ds => bmW .extend n ds h) = _
  simp only [z_looks, z_looks_nil, Option.map, z_ofOpt_some]
  unfold bmW
  simp only [e, decide_eq_true hl]
  rfl
theorem z_look_l {n : Nat} {xs : List D} (e : h[n]? = some (.lst xs)) : look h (.l n) = some (.lst xs) := by
  unfold look
  simp only [e]
theorem z_setItem {n i : Nat} {xs : List D} {d : D} (e : h[n]? = some (.lst xs)) (hi : i < xs.length) : setItem (.l n) (.c (.int ((i : Nat) : Int))) (.c d) h = .ok () (h.set n (.lst (xs.set i d))) := by
  show ((freeze h (.c d)).bind fun v h1 => ofOpt (look h1 (.c (.int ((i : Nat) : Int)))) fun x => match h1[n]? with
    | some (.lst xs) => match x with
      | .int j => ofOpt (ixI xs.length j) fun k => .ok () (h1.set n (.lst (xs.set k v)))
      | _ => .stuck
    | some (.dct t kvs) => must (decide (kvs.length < sizeMax)) (ofOpt (dPut t kvs x v) fun kvs' => .ok () (h1.set n (.dct t kvs')))
    | _ => .stuck) = _
  simp only [z_freeze, z_bind_ok, z_look, z_ofOpt_some, e, ixI_nat hi]
theorem z_str_i (i : Int) (hs : small i = true) : bi1 .str (.int i) = some (.str (Str.ofString (toString i))) := by
  show (match small i with
    | true => some (D.str (Str.ofString (toString i)))
    | false => none) = _
  rw [hs]
end
end B

set_option linter.all false
set_option maxRecDepth 100000
/-! Small heaps, for simp. Own work. -/
namespace B
open PySem (Str)
section
variable {G : Gx} {σ : Env}

@[simp] theorem y_look0 (xs : List D) (r : A) : look (.lst xs :: r) (.l 0) = some (.lst xs) := rfl
@[simp] theorem y_shape0 (xs : List D) (r : A) : shape (.lst xs :: r) (.l 0) = some (.lst xs) := rfl
@[simp] theorem y_cls0 (xs : List D) (r : A) : clsOf (.lst xs :: r) (.l 0) = none := rfl
@[simp] theorem y_itOf0 (xs : List D) (r : A) : itOf (.l 0) (.lst xs :: r) = some (.lo 0) := rfl
@[simp] theorem y_recv_append0 (xs : List D) (r : A) : recv .append (.l 0) (.lst xs :: r) = true := rfl
@[simp] theorem y_recv_extend0 (xs : List D) (r : A) : recv .extend (.l 0) (.lst xs :: r) = true := rfl
@[simp] theorem y_recv_insert0 (xs : List D) (r : A) : recv .insert (.l 0) (.lst xs :: r) = true := rfl
@[simp] theorem y_recv_popl0 (xs : List D) (r : A) : recv .popl (.l 0) (.lst xs :: r) = true := rfl
@[simp] theorem y_recv_index0 (xs : List D) (r : A) : recv .index (.l 0) (.lst xs :: r) = true := rfl
@[simp] theorem y_app0 (xs : List D) (r : A) (d : D) (m : Bool) : bmGo m .append (.l 0) [.c d] (.lst xs :: r) = must (decide (xs.length < sizeMax)) (.ok (.c .non) (.lst (xs ++ [d]) :: r)) := rfl
@[simp] theorem y_ext0 (xs ys : List D) (r : A) (m : Bool) : bmGo m .extend (.l 0) [.c (.lst ys)] (.lst xs :: r) = must (decide (xs.length + ys.length ≤ sizeMax)) (.ok (.c .non) (.lst (xs ++ ys) :: r)) := rfl
@[simp] theorem y_set0 (xs : List D) (r : A) (d : D) (i : Int) : setItem (.l 0) (.c (.int i)) (.c d) (.lst xs :: r) = ofOpt (ixI xs.length i) fun k => .ok () (.lst (xs.set k d) :: r) := rfl
@[simp] theorem y_fz0 (xs : List D) (r : A) : freeze (.lst xs :: r) (.l 0) = .ok (.lst xs) (.dead :: r) := rfl
@[simp] theorem y_look1 (o0 : O) (xs : List D) (r : A) : look (o0 :: .lst xs :: r) (.l 1) = some (.lst xs) := rfl
@[simp] theorem y_shape1 (o0 : O) (xs : List D) (r : A) : shape (o0 :: .lst xs :: r) (.l 1) = some (.lst xs) := rfl
@[simp] theorem y_cls1 (o0 : O) (xs : List D) (r : A) : clsOf (o0 :: .lst xs :: r) (.l 1) = none := rfl
@[simp] theorem y_itOf1 (o0 : O) (xs : List D) (r : A) : itOf (.l 1) (o0 :: .lst xs :: r) = some (.lo 1) := rfl
@[simp] theorem y_recv_append1 (o0 : O) (xs : List D) (r : A) : recv .append (.l 1) (o0 :: .lst xs :: r) = true := rfl
@[simp] theorem y_recv_extend1 (o0 : O) (xs : List D) (r : A) : recv .extend (.l 1) (o0 :: .lst xs :: r) = true := rfl
@[simp] theorem y_recv_insert1 (o0 : O) (xs : List D) (r : A) : recv .insert (.l 1) (o0 :: .lst xs :: r) = true := rfl
@[simp] theorem y_recv_popl1 (o0 : O) (xs : List D) (r : A) : recv .popl (.l 1) (o0 :: .lst xs :: r) = true := rfl
@[simp] theorem y_recv_index1 (o0 : O) (xs : List D) (r : A) : recv .index (.l 1) (o0 :: .lst xs :: r) = true := rfl
@[simp] theorem y_app1 (o0 : O) (xs : List D) (r : A) (d : D) (m : Bool) : bmGo m .append (.l 1) [.c d] (o0 :: .lst xs :: r) = must (decide (xs.length < sizeMax)) (.ok (.c .non) (o0 :: .lst (xs ++ [d]) :: r)) := rfl
@[simp] theorem y_ext1 (o0 : O) (xs ys : List D) (r : A) (m : Bool) : bmGo m .extend (.l 1) [.c (.lst ys)] (o0 :: .lst xs :: r) = must (decide (xs.length + ys.length ≤ sizeMax)) (.ok (.c .non) (o0 :: .lst (xs ++ ys) :: r)) := rfl
@[simp] theorem y_set1 (o0 : O) (xs : List D) (r : A) (d : D) (i : Int) : setItem (.l 1) (.c (.int i)) (.c d) (o0 :: .lst xs :: r) = ofOpt (ixI xs.length i) fun k => .ok () (o0 :: .lst (xs.set k d) :: r) := rfl
@[simp] theorem y_fz1 (o0 : O) (xs : List D) (r : A) : freeze (o0 :: .lst xs :: r) (.l 1) = .ok (.lst xs) (o0 :: .dead :: r) := rfl
@[simp] theorem y_look2 (o0 : O) (o1 : O) (xs : List D) (r : A) : look (o0 :: o1 :: .lst xs :: r) (.l 2) = some (.lst xs) := rfl
@[simp] theorem y_shape2 (o0 : O) (o1 : O) (xs : List D) (r : A) : shape (o0 :: o1 :: .lst xs :: r) (.l 2) = some (.lst xs) := rfl
@[simp] theorem y_cls2 (o0 : O) (o1 : O) (xs : List D) (r : A) : clsOf (o0 :: o1 :: .lst xs :: r) (.l 2) = none := rfl
@[simp] theorem y_itOf2 (o0 : O) (o1 : O) (xs : List D) (r : A) : itOf (.l 2) (o0 :: o1 :: .lst xs :: r) = some (.lo 2) := rfl
@[simp] theorem y_recv_append2 (o0 : O) (o1 : O) (xs : List D) (r : A) : recv .append (.l 2) (o0 :: o1 :: .lst xs :: r) = true := rfl
@[simp] theorem y_recv_extend2 (o0 : O) (o1 : O) (xs : List D) (r : A) : recv .extend (.l 2) (o0 :: o1 :: .lst xs :: r) = true := rfl
@[simp] theorem y_recv_insert2 (o0 : O) (o1 : O) (xs : List D) (r : A) : recv .insert (.l 2) (o0 :: o1 :: .lst xs :: r) = true := rfl
@[simp] theorem y_recv_popl2 (o0 : O) (o1 : O) (xs : List D) (r : A) : recv .popl (.l 2) (o0 :: o1 :: .lst xs :: r) = true := rfl
@[simp] theorem y_recv_index2 (o0 : O) (o1 : O) (xs : List D) (r : A) : recv .index (.l 2) (o0 :: o1 :: .lst xs :: r) = true := rfl
@[simp] theorem y_app2 (o0 : O) (o1 : O) (xs : List D) (r : A) (d : D) (m : Bool) : bmGo m .append (.l 2) [.c d] (o0 :: o1 :: .lst xs :: r) = must (decide (xs.length < sizeMax)) (.ok (.c .non) (o0 :: o1 :: .lst (xs ++ [d]) :: r)) := rfl
@[simp] theorem y_ext2 (o0 : O) (o1 : O) (xs ys : List D) (r : A) (m : Bool) : bmGo m .extend (.l 2) [.c (.lst ys)] (o0 :: o1 :: .lst xs :: r) = must (decide (xs.length + ys.length ≤ sizeMax)) (.ok (.c .non) (o0 :: o1 :: .lst (xs ++ ys) :: r)) := rfl
@[simp] theorem y_set2 (o0 : O) (o1 : O) (xs : List D) (r : A) (d : D) (i : Int) : setItem (.l 2) (.c (.int i)) (.c d) (o0 :: o1 :: .lst xs :: r) = ofOpt (ixI xs.length i) fun k => .ok () (o0 :: o1 :: .lst (xs.set k d) :: r) := rfl
@[simp] theorem y_fz2 (o0 : O) (o1 : O) (xs : List D) (r : A) : freeze (o0 :: o1 :: .lst xs :: r) (.l 2) = .ok (.lst xs) (o0 :: o1 :: .dead :: r) := rfl
@[simp] theorem y_look3 (o0 : O) (o1 : O) (o2 : O) (xs : List D) (r : A) : look (o0 :: o1 :: o2 :: .lst xs :: r) (.l 3) = some (.lst xs) := rfl
@[simp] theorem y_shape3 (o0 : O) (o1 : O) (o2 : O) (xs : List D) (r : A) : shape (o0 :: o1 :: o2 :: .lst xs :: r) (.l 3) = some (.lst xs) := rfl
@[simp] theorem y_cls3 (o0 : O) (o1 : O) (o2 : O) (xs : List D) (r : A) : clsOf (o0 :: o1 :: o2 :: .lst xs :: r) (.l 3) = none := rfl
@[simp] theorem y_itOf3 (o0 : O) (o1 : O) (o2 : O) (xs : List D) (r : A) : itOf (.l 3) (o0 :: o1 :: o2 :: .lst xs :: r) = some (.lo 3) := rfl
@[simp] theorem y_recv_append3 (o0 : O) (o1 : O) (o2 : O) (xs : List D) (r : A) : recv .append (.l 3) (o0 :: o1 :: o2 :: .lst xs :: r) = true := rfl
@[simp] theorem y_recv_extend3 (o0 : O) (o1 : O) (o2 : O) (xs : List D) (r : A) : recv .extend (.l 3) (o0 :: o1 :: o2 :: .lst xs :: r) = true := rfl
@[simp] theorem y_recv_insert3 (o0 : O) (o1 : O) (o2 : O) (xs : List D) (r : A) : recv .insert (.l 3) (o0 :: o1 :: o2 :: .lst xs :: r) = true := rfl
@[simp] theorem y_recv_popl3 (o0 : O) (o1 : O) (o2 : O) (xs : List D) (r : A) : recv .popl (.l 3) (o0 :: o1 :: o2 :: .lst xs :: r) = true := rfl
@[simp] theorem y_recv_index3 (o0 : O) (o1 : O) (o2 : O) (xs : List D) (r : A) : recv .index (.l 3) (o0 :: o1 :: o2 :: .lst xs :: r) = true := rfl
@[simp] theorem y_app3 (o0 : O) (o1 : O) (o2 : O) (xs : List D) (r : A) (d : D) (m : Bool) : bmGo m .append (.l 3) [.c d] (o0 :: o1 :: o2 :: .lst xs :: r) = must (decide (xs.length < sizeMax)) (.ok (.c .non) (o0 :: o1 :: o2 :: .lst (xs ++ [d]) :: r)) := rfl
@[simp] theorem y_ext3 (o0 : O) (o1 : O) (o2 : O) (xs ys : List D) (r : A) (m : Bool) : bmGo m .extend (.l 3) [.c (.lst ys)] (o0 :: o1 :: o2 :: .lst xs :: r) = must (decide (xs.length + ys.length ≤ sizeMax)) (.ok (.c .non) (o0 :: o1 :: o2 :: .lst (xs ++ ys) :: r)) := rfl
@[simp] theorem y_set3 (o0 : O) (o1 : O) (o2 : O) (xs : List D) (r : A) (d : D) (i : Int) : setItem (.l 3) (.c (.int i)) (.c d) (o0 :: o1 :: o2 :: .lst xs :: r) = ofOpt (ixI xs.length i) fun k => .ok () (o0 :: o1 :: o2 :: .lst (xs.set k d) :: r) := rfl
@[simp] theorem y_fz3 (o0 : O) (o1 : O) (o2 : O) (xs : List D) (r : A) : freeze (o0 :: o1 :: o2 :: .lst xs :: r) (.l 3) = .ok (.lst xs) (o0 :: o1 :: o2 :: .dead :: r) := rfl
@[simp] theorem y_looks_l {h : A} (n : Nat) (r : List W) : looks h (.l n :: r) = (look h (.l n)).bind fun d => (looks h r).map (d :: ·) := by
  show (match look h (.l n) with
    | some d => match looks h r with
      | some ds => some (d :: ds)
      | none => none
    | none => none) = _
  cases look h (.l n) <;> first | rfl | skip
  cases looks h r <;> rfl
@[simp] theorem y_freezes_l {h : A} (n : Nat) (r : List W) : freezes h (.l n :: r) = (freeze h (.l n)).bind fun d h1 => (freezes h1 r).bind fun ds h2 => .ok (d :: ds) h2 := rfl
@[simp] theorem y_forIt_lo0 (xs : List D) (r : A) (f : D → Env → A → SRes) : forIt f (.lo 0) σ (.lst xs :: r) = forLo f 0 xs.length 0 σ (.lst xs :: r) := rfl
@[simp] theorem y_bindTg2 (i j : Nat) (a b : D) : bindTg (.tp [i, j]) (.c (.tup [a, b])) σ = some ((σ.set i (some (.c a))).set j (some (.c b))) := rfl
@[simp] theorem y_bindTg3 (i j k : Nat) (a b c : D) : bindTg (.tp [i, j, k]) (.c (.tup [a, b, c])) σ = some (((σ.set i (some (.c a))).set j (some (.c b))).set k (some (.c c))) := rfl
@[simp] theorem y_enums_nil (n : Nat) : enums [] n = [] := rfl
@[simp] theorem y_enums (x : D) (r : List D) (n : Nat) : enums (x :: r) n = .tup [.int n, x] :: enums r (n + 1) := rfl
@[simp] theorem y_opW_is (x : W) (h : A) (n : Nat) : opW .is_ (.l n) (.c .non) h = .ok (.c (.bl false)) h := rfl
theorem y_opW_l {o : Op} {h : A} {x y : W} {a b : D} (h1 : o ≠ .is_) (h2 : o ≠ .isnot) (ea : look h x = some a) (eb : look h y = some b) : opW o x y h = ofOpt (bin o a b) fun d => .ok (.c d) h := by
  cases o <;> first | exact absurd rfl h1 | exact absurd rfl h2 | (show (ofOpt (look h x) fun a => ofOpt (look h y) fun b => _) = _; rw [ea, eb]; rfl)
theorem storeW_c {c f : Nat} {d : D} {h : A} (hC : (G.C c).isSome = true) : storeW G c f (.c d) h = .ok (.c d) h := by
  obtain ⟨cl, e⟩ := Option.isSome_iff_exists.mp hC
  unfold storeW
  rw [e]
  show (match cl.own.contains f with
    | true => Res.ok (W.c d) h
    | false => (freeze h (.c d)).bind fun d h1 => .ok (.c d) h1) = _
  cases cl.own.contains f <;> rfl
theorem y_sat0 {c f : Nat} {fs : List (Nat × W)} {r : A} {d : D} (hC : (G.C c).isSome = true) (hl : fs.length < 1000) : setField G (.l 0) (.c d) f (.ins c fs :: r) = .ok () (.ins c (putN fs f (.c d)) :: r) := by
  show ((storeW G c f (.c d) (.ins c fs :: r)).bind fun w' (h1 : A) => match (h1[0]? : Option O) with
      | some (.ins c' fs) => must (decide (c' = c) && decide (fs.length < 1000)) (.ok () (h1.set 0 (.ins c' (putN fs f w'))))
      | _ => .stuck) = _
  rw [storeW_c hC]
  show must (decide (c = c) && decide (fs.length < 1000)) (Res.ok () (.ins c (putN fs f (.c d)) :: r)) = _
  rw [decide_eq_true hl, decide_eq_true rfl]
  rfl
@[simp] theorem y_putN_nil {α : Type} (g : Nat) (v : α) : putN [] g v = [(g, v)] := rfl
@[simp] theorem y_putN {α : Type} (f g : Nat) (w v : α) (r : List (Nat × α)) : putN ((f, w) :: r) g v = if f = g then (f, v) :: r else (f, w) :: putN r g v := by
  show (match decide (f = g) with
    | true => (f, v) :: r
    | false => (f, w) :: putN r g v) = _
  by_cases h : f = g <;> simp [h]
@[simp] theorem y_assocN {α : Type} (f g : Nat) (w : α) (r : List (Nat × α)) : assocN ((f, w) :: r) g = if f = g then some w else assocN r g := by
  show (match decide (f = g) with
    | true => some w
    | false => assocN r g) = _
  by_cases h : f = g <;> simp [h]
@[simp] theorem y_field (c f : Nat) (fs : List (Nat × D)) (h : A) : field h (.c (.ins c fs)) f = (assocN fs f).map .c := rfl
@[simp] theorem y_field0 (c f : Nat) (fs : List (Nat × W)) (r : A) : field (.ins c fs :: r) (.l 0) f = assocN fs f := rfl
@[simp] theorem y_cls_ins0 (c : Nat) (fs : List (Nat × W)) (r : A) : clsOf (.ins c fs :: r) (.l 0) = some c := rfl
@[simp] theorem ret_fz_l (m n : Nat) (h : A) : retB true m (.rt (.l n) h) = (freeze h (.l n)).bind fun d h1 => gc m (.c d) h1 := rfl
end
end B

set_option linter.all false
set_option maxRecDepth 100000
/-! names.py in the evaluator. Own work. -/
namespace B
open PySem (Str)
/-! ### lists of texts, dicts by texts -/
theorem inL_strs (s : Str) : ∀ l : List Str, inL (l.map D.str) (.str s) = some (decide (s ∈ l))
  | [] => rfl
  | t :: r => by
    simp [inL, inL_strs s r, eqD, D.pyok, D.depth, D.eqb]
    by_cases h : t = s
    · simp [h]
    · have : ¬ s = t := fun e => h e.symm
      simp [h, this]
theorem getK_strs {β : Type} (f : β → D) (s : Str) : ∀ l : List (Str × β), getK (l.map fun (p : Str × β) => (D.str p.1, f p.2)) (.str s) = (l.lookup s).map f
  | [] => rfl
  | (t, b) :: r => by
    show (match isEq (.str t) (.str s) with
      | true => some (f b)
      | false => getK (r.map fun (p : Str × β) => (D.str p.1, f p.2)) (.str s)) = _
    rw [getK_strs f s r]
    by_cases h : t = s
    · subst h; simp [isEq, D.eqb, List.lookup]
    · have : (s == t) = false := by simpa using fun e => h e.symm
      simp [isEq, D.eqb, List.lookup, h, this]
/-- neither an instance nor the script -/
def plain : D → Bool
  | .scr _ => false
  | .ins _ _ => false
  | _ => true
/-! ### methods -/
def METH : List Str := ["truth", "length", "item", "walk", "back", "has", "like", "unlike", "before", "behind", "hash", "grow", "plus", "call"]
theorem c_METH : c_METHODS = .tup (METH.map .str) := rfl
def KINDL : List (Str × Str) := [("truth", "flag"), ("length", "count"), ("item", "item"), ("walk", "walker"), ("back", "walker"), ("has", "flag"), ("like", "flag"), ("unlike", "flag"), ("before", "flag"), ("behind", "flag"), ("hash", "count"), ("grow", "any"), ("plus", "any"), ("call", "any")]
theorem c_KINDL : c_KINDS = .dct .s (KINDL.map fun (p : Str × Str) => (D.str p.1, D.str p.2)) := rfl
def kindS (s : Str) : Str := (KINDL.lookup s).getD ""
theorem kind_some : ∀ s ∈ METH, KINDL.lookup s = some (kindS s) := by decide +kernel
def TAKL : List Str := ["has", "like", "unlike", "before", "behind", "grow", "plus"]
theorem c_TAKL : c_TAKING = .tup (TAKL.map .str) := rfl
def DECL : List Str := ["like", "unlike", "before", "behind", "grow", "plus"]
theorem c_DECL : c_DECLINING = .tup (DECL.map .str) := rfl
def isMethod : D → Bool
  | .str s => decide (s ∈ METH)
  | _ => false
section
variable {k : Nat}
theorem r_is_number (hk : 1 ≤ k) (i lo hi : Int) : run PZ k 0 [.c (.int i), .c (.int lo), .c (.int hi)] [] = .ok (.c (.bl (decide (lo ≤ i) && decide (i ≤ hi)))) [] := by
  rw [run_go hk (F := F_0) rfl _ _ rfl]
  by_cases h1 : lo ≤ i <;> simp [F_0, sy_0, h1]
theorem r_is_method (hk : 1 ≤ k) (d : D) (hd : plain d = true) : run PZ k 1 [.c d] [] = .ok (.c (.bl (isMethod d))) [] := by
  rw [run_go hk (F := F_1) rfl _ _ rfl]
  cases d <;> first | (simp [plain] at hd; done) | simp [F_1, sy_1, c_METH, inL_strs, isMethod]
theorem r_look_at_method (hk : 2 ≤ k) (d : D) (hd : plain d = true) : run PZ k 2 [.c d] [] = if isMethod d then .ok (.c .non) [] else .err 1 d [] := by
  rw [run_go (by omega) (F := F_2) rfl _ _ rfl]
  have e := callF_pure (h := []) (show closed [W.c d] = true from rfl) (r_is_method (k := k - 1) (by omega) d hd)
  cases hm : isMethod d <;> simp [F_2, sy_2, e, hm]
theorem c_look (hk : 2 ≤ k) {s : Str} (hs : s ∈ METH) (h : A) : callF (run PZ k) 2 [.c (.str s)] h = .ok (.c .non) h :=
  callF_pure rfl (by rw [r_look_at_method hk _ rfl]; simp [isMethod, hs])
theorem r_kind_of (hk : 3 ≤ k) {s : Str} (hs : s ∈ METH) : run PZ k 3 [.c (.str s)] [] = .ok (.c (.str (kindS s))) [] := by
  rw [run_go (by omega) (F := F_3) rfl _ _ rfl]
  simp [F_3, sy_3, c_look (k := k - 1) (by omega) hs, c_KINDL, getK_strs, kind_some s hs]
theorem r_takes_other (hk : 3 ≤ k) {s : Str} (hs : s ∈ METH) : run PZ k 4 [.c (.str s)] [] = .ok (.c (.bl (decide (s ∈ TAKL)))) [] := by
  rw [run_go (by omega) (F := F_4) rfl _ _ rfl]
  simp [F_4, sy_4, c_look (k := k - 1) (by omega) hs, c_TAKL, inL_strs]
theorem r_may_decline (hk : 3 ≤ k) {s : Str} (hs : s ∈ METH) : run PZ k 5 [.c (.str s)] [] = .ok (.c (.bl (decide (s ∈ DECL)))) [] := by
  rw [run_go (by omega) (F := F_5) rfl _ _ rfl]
  simp [F_5, sy_5, c_look (k := k - 1) (by omega) hs, c_DECL, inL_strs]
theorem cl_is_method (hk : 1 ≤ k) (d : D) (hd : plain d = true) (h : A) : callF (run PZ k) 1 [.c d] h = .ok (.c (.bl (isMethod d))) h := callF_pure rfl (r_is_method hk d hd)
theorem cl_kind_of (hk : 3 ≤ k) {s : Str} (hs : s ∈ METH) (h : A) : callF (run PZ k) 3 [.c (.str s)] h = .ok (.c (.str (kindS s))) h := callF_pure rfl (r_kind_of hk hs)
theorem cl_takes_other (hk : 3 ≤ k) {s : Str} (hs : s ∈ METH) (h : A) : callF (run PZ k) 4 [.c (.str s)] h = .ok (.c (.bl (decide (s ∈ TAKL)))) h := callF_pure rfl (r_takes_other hk hs)
theorem cl_may_decline (hk : 3 ≤ k) {s : Str} (hs : s ∈ METH) (h : A) : callF (run PZ k) 5 [.c (.str s)] h = .ok (.c (.bl (decide (s ∈ DECL)))) h := callF_pure rfl (r_may_decline hk hs)
theorem cl_is_number (hk : 1 ≤ k) (i lo hi : Int) (h : A) : callF (run PZ k) 0 [.c (.int i), .c (.int lo), .c (.int hi)] h = .ok (.c (.bl (decide (lo ≤ i) && decide (i ≤ hi)))) h := callF_pure rfl (r_is_number hk i lo hi)
end
end B

set_option linter.all false
set_option maxRecDepth 100000
/-! bodies.py in the evaluator. Own work. -/
namespace B
open PySem (Str)
/-- leaves of one word -/
inductive Lf where
  | yes | no | rai | dec | fur
  deriving DecidableEq
def Lf.w : Lf → Str
  | .yes => "yes" | .no => "no" | .rai => "raise" | .dec => "decline" | .fur => "further"
/-- expressions; of an ask the words behind it, whatever they are -/
inductive Xp where
  | leaf (l : Lf) | cnt (n : Fin 5) | ask (ws : List Str) | not_ (a : Xp) | ife (a b c : Xp)
  deriving DecidableEq
def Xp.d : Xp → D
  | .leaf l => .tup [.str l.w]
  | .cnt n => .tup [.str "count", .int ((n.val : Nat) : Int)]
  | .ask ws => .tup (.str "ask" :: ws.map .str)
  | .not_ a => .tup [.str "not", a.d]
  | .ife a b c => .tup [.str "if", a.d, b.d, c.d]
def Xp.size : Xp → Nat
  | .not_ a => a.size + 1
  | .ife a b c => a.size + b.size + c.size + 1
  | _ => 1
def Xp.dep : Xp → Nat
  | .not_ a => a.dep + 1
  | .ife a b c => max a.dep (max b.dep c.dep) + 1
  | _ => 1
def ONE : List Str := ["truth", "size", "hash"]
def TWO : List Str := ["member", "like", "unlike", "before", "behind"]
theorem c_ONE : c_ASKED_OF_ONE = .tup (ONE.map .str) := rfl
theorem c_TWO : c_ASKED_OF_TWO = .tup (TWO.map .str) := rfl
def roleOk (m r : Str) : Bool := decide (r = "self") || (decide (r = "other") && decide (m ∈ TAKL))
def askOk (m : Str) : List Str → Bool
  | [] => false
  | o :: rs => rs.all (roleOk m) && (if o ∈ ONE then decide (rs.length = 1) else decide (o ∈ TWO) && (match rs with
    | [a, b] => !decide (a = b)
    | _ => false))
def leafOk (m : Str) (t : Bool) : Lf → Bool
  | .dec => t && decide (m ∈ DECL)
  | .fur => t
  | _ => true
def nodeOk (m : Str) (t : Bool) : Xp → Bool
  | .leaf l => leafOk m t l
  | .ask ws => askOk m ws
  | _ => true
section
variable {k : Nat} {m : Str}
theorem r_is_role (hk : 4 ≤ k) (hm : m ∈ METH) (r : Str) : run PZ k 6 [.c (.str m), .c (.str r)] [] = .ok (.c (.bl (roleOk m r))) [] := by
  rw [run_go (by omega) (F := F_6) rfl _ _ rfl]
  have e := cl_takes_other (k := k - 1) (by omega) hm []
  by_cases h1 : r = "self"
  · simp [F_6, sy_6, roleOk, h1]
  · by_cases h2 : r = "other"
    · subst h2; simp [F_6, sy_6, roleOk, h1, e]
    · simp [F_6, sy_6, roleOk, h1, h2, e]
theorem cl_is_role (hk : 4 ≤ k) (hm : m ∈ METH) (r : Str) (h : A) : callF (run PZ k) 6 [.c (.str m), .c (.str r)] h = .ok (.c (.bl (roleOk m r))) h := callF_pure rfl (r_is_role hk hm r)
theorem r_is_ask (hk : 5 ≤ k) (hm : m ∈ METH) (ws : List Str) (hl : ws.length ≤ 1000) : run PZ k 7 [.c (.str m), .c (.tup (ws.map .str))] [] = .ok (.c (.bl (askOk m ws))) [] := by
  rw [run_go (by omega) (F := F_7) rfl _ _ rfl]
  cases ws with
  | nil => simp [F_7, sy_7, eqD, D.pyok, D.pyoks, D.depth, D.depths, D.eqb, D.eqs, askOk]
  | cons o rs =>
    have step : ∀ d ∈ rs.map D.str, lcStep (gxOf PZ (k - 1)) [2] (.var 2) (.nm 2) (some (.not_ (.call 6 [.var 0, .var 2]))) [some (.c (.str m)), some (.c (.tup (.str o :: rs.map .str))), none] d [] = .ok (match d with
        | .str r => if roleOk m r then none else some (.str r)
        | _ => none) [] := by
      intro d hd
      obtain ⟨r, _, rfl⟩ := List.mem_map.mp hd
      have e := cl_is_role (k := k - 1) (by omega) hm r []
      cases hr : roleOk m r <;> simp [lcStep, wipeE, e, hr]
    have hlc := lcGo_pure (acc := []) step (by simp at hl ⊢; show rs.length ≤ 16777216; omega)
    have hb : (rs.map D.str).filterMap (fun d => match d with
        | .str r => if roleOk m r then none else some (.str r)
        | _ => none) = (rs.filter fun r => !roleOk m r).map D.str := filterMap_not D.str (roleOk m) _ (fun a => rfl) rs
    rw [List.nil_append, hb] at hlc
    have hne : eqD (.lst ((rs.filter fun r => !roleOk m r).map D.str)) (.lst []) = some (rs.all (roleOk m)) := by
      rw [eqD_nil (pyoks_strs _), List.isEmpty_map, filter_isEmpty]
    have hi : ∀ l : List Str, inL (l.map D.str) (.str o) = some (decide (o ∈ l)) := inL_strs o
    have h0 : eqD (.tup (D.str o :: rs.map D.str)) (.tup []) = some false := by
      have hp : D.pyok (.tup (D.str o :: rs.map D.str)) = true := pyoks_strs (o :: rs)
      unfold eqD
      rw [hp, show D.pyok (.tup []) = true from rfl, decide_eq_true (show min (D.depth (.tup (D.str o :: rs.map D.str))) (D.depth (.tup [])) ≤ 64 by have : D.depth (.tup []) = 1 := rfl; omega)]
      rfl
    cases ha : rs.all (roleOk m) with
    | false => simp [F_7, sy_7, h0, hlc, hne, ha, askOk]
    | true =>
      by_cases h1 : o ∈ ONE
      · have e1 : decide ((rs.length : Int) + 1 = 2) = decide (rs.length = 1) := by simp; omega
        simp [F_7, sy_7, h0, hlc, hne, ha, askOk, c_ONE, hi, h1, e1]
      · by_cases h2 : o ∈ TWO
        · by_cases h3 : rs.length = 2
          · obtain ⟨a, b, rfl⟩ : ∃ a b, rs = [a, b] := by
              match rs, h3 with
              | [a, b], _ => exact ⟨a, b, rfl⟩
            simp at hlc hne h0 ha
            simp [F_7, sy_7, h0, hlc, hne, ha, askOk, c_ONE, c_TWO, hi, h1, h2]
          · have e2 : decide ((rs.length : Int) + 1 = 3) = false := by simp; omega
            have e3 : (match rs with
              | [a, b] => !decide (a = b)
              | _ => false) = false := by
              match rs, h3 with
              | [], _ => rfl
              | [_], _ => rfl
              | [_, _], h => exact absurd rfl h
              | _ :: _ :: _ :: _, _ => rfl
            simp [F_7, sy_7, h0, hlc, hne, ha, askOk, c_ONE, c_TWO, hi, h1, h2, e2, e3]
        · simp [F_7, sy_7, h0, hlc, hne, ha, askOk, c_ONE, c_TWO, hi, h1, h2]
theorem cl_is_ask (hk : 5 ≤ k) (hm : m ∈ METH) (ws : List Str) (hl : ws.length ≤ 1000) (h : A) : callF (run PZ k) 7 [.c (.str m), .c (.tup (ws.map .str))] h = .ok (.c (.bl (askOk m ws))) h := callF_pure rfl (r_is_ask hk hm ws hl)
theorem c_SIZ (w : Str) (n : Int) (e : getK (match c_SIZES with | .dct _ kvs => kvs | _ => []) (.str w) = some (.int n)) : (match c_SIZES with | .dct t kvs => (dGet t kvs (.str w)).map (fun r => r.getD (.int 0)) | _ => none) = some (.int n) := by
  show (some (getK (match c_SIZES with | .dct _ kvs => kvs | _ => []) (.str w))).map (fun r => r.getD (.int 0)) = _
  rw [e]; rfl
/-- how long a part may be at most -/
def Xp.short : Xp → Bool
  | .ask ws => decide (ws.length ≤ 1000)
  | .not_ a => a.short
  | .ife a b c => a.short && b.short && c.short
  | _ => true
theorem eq_tnil {x : D} {r : List D} (hp : D.pyoks (x :: r) = true) : eqD (.tup (x :: r)) (.tup []) = some false := by
  have hp' : D.pyok (.tup (x :: r)) = true := hp
  unfold eqD
  rw [hp', show D.pyok (.tup []) = true from rfl, decide_eq_true (show min (D.depth (.tup (x :: r))) (D.depth (.tup [])) ≤ 64 by have : D.depth (.tup []) = 1 := rfl; omega)]
  rfl
theorem pyok_x : ∀ x : Xp, D.pyok x.d = true
  | .leaf l => rfl
  | .cnt n => rfl
  | .ask ws => pyoks_strs (("ask" : Str) :: ws)
  | .not_ a => by
    show (true && (D.pyok a.d && true)) = true
    rw [pyok_x a]; rfl
  | .ife a b c => by
    show (true && (D.pyok a.d && (D.pyok b.d && (D.pyok c.d && true)))) = true
    rw [pyok_x a, pyok_x b, pyok_x c]; rfl
def Xp.head : Xp → Str
  | .leaf l => l.w
  | .cnt _ => "count"
  | .ask _ => "ask"
  | .not_ _ => "not"
  | .ife _ _ _ => "if"
def Xp.tl : Xp → List D
  | .leaf _ => []
  | .cnt n => [.int ((n.val : Nat) : Int)]
  | .ask ws => ws.map .str
  | .not_ a => [a.d]
  | .ife a b c => [a.d, b.d, c.d]
theorem Xp.d_eq (x : Xp) : x.d = .tup (.str x.head :: x.tl) := by cases x <;> rfl
theorem r_is_node (hk : 6 ≤ k) (hm : m ∈ METH) (x : Xp) (hs : x.short = true) (t : Bool) : run PZ k 8 [.c (.str m), .c x.d, .c (.bl t)] [] = .ok (.c (.bl (nodeOk m t x))) [] := by
  rw [run_go (by omega) (F := F_8) rfl _ _ rfl]
  have h0 : eqD x.d (.tup []) = some false := by
    have := pyok_x x
    rw [x.d_eq] at this ⊢
    exact eq_tnil this
  cases x with
  | leaf l =>
    have e := cl_may_decline (k := k - 1) (by omega) hm []
    cases t <;> cases l <;> simp only [Xp.d, Lf.w] at h0 ⊢ <;> simp [F_8, sy_8, h0, nodeOk, leafOk, e, c_SIZES, getK, isEq, D.eqb]
  | cnt n =>
    have e := cl_is_number (k := k - 1) (by omega) ((n.val : Nat) : Int) 0 4 []
    have h4 : ((n.val : Nat) : Int) ≤ 4 := by have := n.isLt; omega
    simp only [Xp.d] at h0 ⊢
    simp [F_8, sy_8, h0, nodeOk, e, c_SIZES, c_MOST_COUNT, getK, isEq, D.eqb, h4]
  | ask ws =>
    have e := cl_is_ask (k := k - 1) (by omega) hm ws (of_decide_eq_true hs) []
    simp only [Xp.d] at h0 ⊢
    simp [F_8, sy_8, h0, nodeOk, e]
  | not_ a =>
    simp only [Xp.d] at h0 ⊢
    simp [F_8, sy_8, h0, nodeOk, c_SIZES, getK, isEq, D.eqb]
  | ife a b c =>
    simp only [Xp.d] at h0 ⊢
    simp [F_8, sy_8, h0, nodeOk, c_SIZES, getK, isEq, D.eqb]
theorem cl_is_node (hk : 6 ≤ k) (hm : m ∈ METH) (x : Xp) (hs : x.short = true) (t : Bool) (h : A) : callF (run PZ k) 8 [.c (.str m), .c x.d, .c (.bl t)] h = .ok (.c (.bl (nodeOk m t x))) h := callF_pure rfl (r_is_node hk hm x hs t)
/-! ### laying a body's nodes -/
def lay (m : Str) : Xp → Nat → Bool → Nat → Except Nat Nat
  | x, d, t, n => if n = 16 ∨ 6 < d ∨ nodeOk m t x = false then .error n else match x with
    | .not_ a => lay m a (d + 1) false (n + 1)
    | .ife a b c => match lay m a (d + 1) false (n + 1) with
      | .ok n1 => (match lay m b (d + 1) t n1 with
        | .ok n2 => lay m c (d + 1) t n2
        | .error p => .error p)
      | .error p => .error p
    | _ => .ok (n + 1)
/-- what laying a part promises -/
def LayR (k : Nat) (m : Str) (x : Xp) (d : Nat) (t : Bool) : Prop := ∀ ns : List D, ns.length ≤ 16 → match lay m x d t ns.length with
  | .ok n' => n' ≤ 16 ∧ ∃ ns', ns'.length = n' ∧ run PZ k 9 [.c (.str m), .c x.d, .c (.int ((d : Nat) : Int)), .c (.bl t), .l 0] [.lst ns] = .ok (.c (.int ((ns.length : Nat) : Int))) [.lst ns']
  | .error p => ∃ ns', run PZ k 9 [.c (.str m), .c x.d, .c (.int ((d : Nat) : Int)), .c (.bl t), .l 0] [.lst ns] = .err 2 (.int ((p : Nat) : Int)) [.lst ns']
theorem lay_eq (m : Str) (x : Xp) (d : Nat) (t : Bool) (n : Nat) : lay m x d t n = if n = 16 ∨ 6 < d ∨ nodeOk m t x = false then .error n else match x with
    | .not_ a => lay m a (d + 1) false (n + 1)
    | .ife a b c => match lay m a (d + 1) false (n + 1) with
      | .ok n1 => (match lay m b (d + 1) t n1 with
        | .ok n2 => lay m c (d + 1) t n2
        | .error p => .error p)
      | .error p => .error p
    | _ => .ok (n + 1) := by cases x <;> rfl
theorem sm16 {n : Nat} (h : n ≤ 16) : n < sizeMax := Nat.lt_of_le_of_lt h (by decide)
/-- where a node is refused -/
theorem lay_bad (hk : 7 ≤ k) (hm : m ∈ METH) (x : Xp) (hs : x.short = true) (d : Nat) (t : Bool) (ns : List D) (hb : ns.length = 16 ∨ 6 < d ∨ nodeOk m t x = false) :
    run PZ k 9 [.c (.str m), .c x.d, .c (.int ((d : Nat) : Int)), .c (.bl t), .l 0] [.lst ns] = .err 2 (.int ((ns.length : Nat) : Int)) [.lst ns] := by
  rw [run_go (by omega) (F := F_9) rfl _ _ rfl]
  have e := cl_is_node (k := k - 1) (by omega) hm x hs t [.lst ns]
  by_cases h1 : ns.length = 16
  · have h1' : ((ns.length : Nat) : Int) = 16 := by omega
    simp [F_9, sy_9, c_MOST_NODES, h1']
  · have h1' : ¬ ((ns.length : Nat) : Int) = 16 := by omega
    by_cases h2 : 6 < d
    · have h2' : (6 : Int) < (d : Int) := by omega
      simp [F_9, sy_9, c_MOST_NODES, c_MOST_DEEP, h1', h2']
    · have h2' : ¬ (6 : Int) < (d : Int) := by omega
      have h3 : nodeOk m t x = false := by
        rcases hb with h | h | h
        · exact absurd h h1
        · exact absurd h h2
        · exact h
      simp [F_9, sy_9, c_MOST_NODES, c_MOST_DEEP, h1', h2', e, h3]
/-- a node without parts -/
theorem lay_leaf (hk : 7 ≤ k) (hm : m ∈ METH) (x : Xp) (hs : x.short = true) (d : Nat) (t : Bool) (ns : List D) (hn : ns.length < 16) (hd : d ≤ 6) (ho : nodeOk m t x = true) (hh : x.head ≠ "not" ∧ x.head ≠ "if") :
    run PZ k 9 [.c (.str m), .c x.d, .c (.int ((d : Nat) : Int)), .c (.bl t), .l 0] [.lst ns] = .ok (.c (.int ((ns.length : Nat) : Int))) [.lst (ns ++ [x.d])] := by
  rw [run_go (by omega) (F := F_9) rfl _ _ rfl]
  have e := cl_is_node (k := k - 1) (by omega) hm x hs t [.lst ns]
  have h1' : ¬ ((ns.length : Nat) : Int) = 16 := by omega
  have h2' : ¬ (6 : Int) < (d : Int) := by omega
  rw [x.d_eq] at e ⊢
  have hi : inL [.str "not", .str "if"] (.str x.head) = some false := by
    have := inL_strs x.head ["not", "if"]
    simp only [List.map] at this
    rw [this]
    simp [hh.1, hh.2]
  simp [F_9, sy_9, c_MOST_NODES, c_MOST_DEEP, h1', h2', e, ho, hi, sm16 (Nat.le_of_lt hn)]
theorem lay_lt {m : Str} : ∀ {x : Xp} {d : Nat} {t : Bool} {n n' : Nat}, lay m x d t n = .ok n' → n < n' := by
  intro x
  induction x with
  | leaf l => intro d t n n' e; rw [lay_eq] at e; split at e <;> cases e; omega
  | cnt l => intro d t n n' e; rw [lay_eq] at e; split at e <;> cases e; omega
  | ask l => intro d t n n' e; rw [lay_eq] at e; split at e <;> cases e; omega
  | not_ a ih =>
    intro d t n n' e
    rw [lay_eq] at e
    split at e
    · cases e
    · have := ih e; omega
  | ife a b c iha ihb ihc =>
    intro d t n n' e
    rw [lay_eq] at e
    split at e
    · cases e
    · have e' : (match lay m a (d + 1) false (n + 1) with
        | .ok n1 => (match lay m b (d + 1) t n1 with
          | .ok n2 => lay m c (d + 1) t n2
          | .error p => .error p)
        | .error p => .error p) = .ok n' := e
      cases h1 : lay m a (d + 1) false (n + 1) with
      | error p => rw [h1] at e'; cases e'
      | ok n1 =>
        rw [h1] at e'
        have e2 : (match lay m b (d + 1) t n1 with
          | .ok n2 => lay m c (d + 1) t n2
          | .error p => .error p) = .ok n' := e'
        cases h2 : lay m b (d + 1) t n1 with
        | error p => rw [h2] at e2; cases e2
        | ok n2 =>
          rw [h2] at e2
          have := iha h1
          have := ihb h2
          have := ihc e2
          omega
theorem r_lay : ∀ (x : Xp) (d : Nat) (t : Bool) (k : Nat), x.dep + 7 ≤ k → m ∈ METH → x.short = true → LayR k m x d t
  | .leaf l, d, t, k, hk, hm, hs => by
    intro ns hn
    rw [lay_eq]
    by_cases hb : ns.length = 16 ∨ 6 < d ∨ nodeOk m t (.leaf l) = false
    · rw [if_pos hb]
      exact ⟨ns, lay_bad (by have : (Xp.leaf l).dep = 1 := rfl; omega) hm _ hs d t ns hb⟩
    · rw [if_neg hb]
      have h1 : ns.length < 16 := by omega
      exact ⟨by omega, ns ++ [Xp.d (.leaf l)], by simp, lay_leaf (by have : (Xp.leaf l).dep = 1 := rfl; omega) hm _ hs d t ns h1 (by omega) (by cases h : nodeOk m t (.leaf l) <;> simp_all) (by cases l <;> exact ⟨by decide, by decide⟩)⟩
  | .cnt n, d, t, k, hk, hm, hs => by
    intro ns hn
    rw [lay_eq]
    by_cases hb : ns.length = 16 ∨ 6 < d ∨ nodeOk m t (.cnt n) = false
    · rw [if_pos hb]
      exact ⟨ns, lay_bad (by have : (Xp.cnt n).dep = 1 := rfl; omega) hm _ hs d t ns hb⟩
    · rw [if_neg hb]
      exact ⟨by omega, ns ++ [Xp.d (.cnt n)], by simp, lay_leaf (by have : (Xp.cnt n).dep = 1 := rfl; omega) hm _ hs d t ns (by omega) (by omega) rfl ⟨by simp [Xp.head], by simp [Xp.head]⟩⟩
  | .ask ws, d, t, k, hk, hm, hs => by
    intro ns hn
    rw [lay_eq]
    by_cases hb : ns.length = 16 ∨ 6 < d ∨ nodeOk m t (.ask ws) = false
    · rw [if_pos hb]
      exact ⟨ns, lay_bad (by have : (Xp.ask ws).dep = 1 := rfl; omega) hm _ hs d t ns hb⟩
    · rw [if_neg hb]
      exact ⟨by omega, ns ++ [Xp.d (.ask ws)], by simp, lay_leaf (by have : (Xp.ask ws).dep = 1 := rfl; omega) hm _ hs d t ns (by omega) (by omega) (by cases h : nodeOk m t (.ask ws) <;> simp_all) ⟨by simp [Xp.head], by simp [Xp.head]⟩⟩
  | .not_ a, d, t, k, hk, hm, hs => by
    intro ns hn
    rw [lay_eq]
    have hdep : (Xp.not_ a).dep = a.dep + 1 := rfl
    by_cases hb : ns.length = 16 ∨ 6 < d ∨ nodeOk m t (.not_ a) = false
    · rw [if_pos hb]
      exact ⟨ns, lay_bad (by omega) hm _ hs d t ns hb⟩
    · rw [if_neg hb]
      have h1 : ns.length < 16 := by omega
      have ih := r_lay a (d + 1) false (k - 1) (by omega) hm hs (ns ++ [(Xp.not_ a).d]) (by simp; omega)
      have hl : (ns ++ [(Xp.not_ a).d]).length = ns.length + 1 := by simp
      rw [hl] at ih
      show match lay m a (d + 1) false (ns.length + 1) with
        | .ok n' => _
        | .error p => _
      have e := cl_is_node (k := k - 1) (by omega) hm (.not_ a) hs t [.lst ns]
      have h1' : ¬ ((ns.length : Nat) : Int) = 16 := by omega
      have h2' : ¬ (6 : Int) < (d : Int) := by omega
      have hi : inL [.str "not", .str "if"] (.str "not") = some true := rfl
      have hc : ((d + 1 : Nat) : Int) = (d : Int) + 1 := rfl
      rw [hc] at ih
      cases hq : lay m a (d + 1) false (ns.length + 1) with
      | ok n' =>
        rw [hq] at ih
        obtain ⟨hn', ns', hl', hr⟩ := ih
        refine ⟨hn', ns'.set ns.length (.tup [.str "not", .int ((ns.length + 1 : Nat) : Int)]), by simpa using hl', ?_⟩
        rw [run_go (by omega) (F := F_9) rfl _ _ rfl]
        have c := callF_loc (R := run PZ (k - 1)) (f := 9) (n := 0) (ws := [.c (.str m), .c a.d, .c (.int ((d : Int) + 1)), .c (.bl false), .l 0]) (h := [.lst (ns ++ [(Xp.not_ a).d]), .lst []]) rfl rfl rfl rfl hr rfl
        have hx : ixI ns'.length ((ns.length : Nat) : Int) = some ns.length := ixI_nat (by have := lay_lt hq; omega)
        simp only [Xp.d] at e c ⊢
        cases t <;> simp [F_9, sy_9, c_MOST_NODES, c_MOST_DEEP, h1', h2', e, nodeOk, hi, sm16 (Nat.le_of_lt h1), c, hx, z_bin_addT]
      | error p =>
        rw [hq] at ih
        obtain ⟨ns', hr⟩ := ih
        refine ⟨ns', ?_⟩
        rw [run_go (by omega) (F := F_9) rfl _ _ rfl]
        have c := callF_locE (R := run PZ (k - 1)) (f := 9) (n := 0) (ws := [.c (.str m), .c a.d, .c (.int ((d : Int) + 1)), .c (.bl false), .l 0]) (h := [.lst (ns ++ [(Xp.not_ a).d]), .lst []]) rfl rfl rfl rfl hr rfl
        simp only [Xp.d] at e c ⊢
        cases t <;> simp [F_9, sy_9, c_MOST_NODES, c_MOST_DEEP, h1', h2', e, nodeOk, hi, sm16 (Nat.le_of_lt h1), c]
  | .ife a b c, d, t, k, hk, hm, hs => by
    intro ns hn
    rw [lay_eq]
    have hdep : (Xp.ife a b c).dep = max a.dep (max b.dep c.dep) + 1 := rfl
    have hs' : (a.short && b.short && c.short) = true := hs
    simp only [Bool.and_eq_true] at hs'
    by_cases hb : ns.length = 16 ∨ 6 < d ∨ nodeOk m t (.ife a b c) = false
    · rw [if_pos hb]
      exact ⟨ns, lay_bad (by omega) hm _ hs d t ns hb⟩
    · rw [if_neg hb]
      have h1 : ns.length < 16 := by omega
      have iha := r_lay a (d + 1) false (k - 1) (by omega) hm hs'.1.1 (ns ++ [(Xp.ife a b c).d]) (by simp; omega)
      have hl : (ns ++ [(Xp.ife a b c).d]).length = ns.length + 1 := by simp
      rw [hl] at iha
      show match (match lay m a (d + 1) false (ns.length + 1) with
        | .ok n1 => (match lay m b (d + 1) t n1 with
          | .ok n2 => lay m c (d + 1) t n2
          | .error p => .error p)
        | .error p => .error p) with
        | .ok n' => _
        | .error p => _
      have e := cl_is_node (k := k - 1) (by omega) hm (.ife a b c) hs t [.lst ns]
      have h1' : ¬ ((ns.length : Nat) : Int) = 16 := by omega
      have h2' : ¬ (6 : Int) < (d : Int) := by omega
      have hi : inL [.str "not", .str "if"] (.str "if") = some true := rfl
      have hc : ((d + 1 : Nat) : Int) = (d : Int) + 1 := rfl
      rw [hc] at iha
      cases hqa : lay m a (d + 1) false (ns.length + 1) with
      | error p =>
        rw [hqa] at iha
        obtain ⟨ns', hr⟩ := iha
        refine ⟨ns', ?_⟩
        rw [run_go (by omega) (F := F_9) rfl _ _ rfl]
        have ca := callF_locE (R := run PZ (k - 1)) (f := 9) (n := 0) (ws := [.c (.str m), .c a.d, .c (.int ((d : Int) + 1)), .c (.bl false), .l 0]) (h := [.lst (ns ++ [(Xp.ife a b c).d]), .lst []]) rfl rfl rfl rfl hr rfl
        simp only [Xp.d] at e ca ⊢
        cases t <;> simp [F_9, sy_9, c_MOST_NODES, c_MOST_DEEP, h1', h2', e, nodeOk, hi, sm16 (Nat.le_of_lt h1), ca]
      | ok n1 =>
        rw [hqa] at iha
        obtain ⟨hn1, ns1, hl1, hra⟩ := iha
        have ca := callF_loc (R := run PZ (k - 1)) (f := 9) (n := 0) (ws := [.c (.str m), .c a.d, .c (.int ((d : Int) + 1)), .c (.bl false), .l 0]) (h := [.lst (ns ++ [(Xp.ife a b c).d]), .lst []]) rfl rfl rfl rfl hra rfl
        have ihb := r_lay b (d + 1) t (k - 1) (by omega) hm hs'.1.2 ns1 (by omega)
        rw [hl1, hc] at ihb
        show match (match lay m b (d + 1) t n1 with
          | .ok n2 => lay m c (d + 1) t n2
          | .error p => .error p) with
          | .ok n' => _
          | .error p => _
        cases hqb : lay m b (d + 1) t n1 with
        | error p =>
          rw [hqb] at ihb
          obtain ⟨ns', hr⟩ := ihb
          refine ⟨ns', ?_⟩
          rw [run_go (by omega) (F := F_9) rfl _ _ rfl]
          have cb := callF_locE (R := run PZ (k - 1)) (f := 9) (n := 0) (ws := [.c (.str m), .c b.d, .c (.int ((d : Int) + 1)), .c (.bl t), .l 0]) (h := [.lst ns1, .lst [.int ((ns.length : Int) + 1)]]) rfl rfl rfl rfl hr rfl
          simp only [Xp.d] at e ca ⊢
          cases t <;> simp [F_9, sy_9, c_MOST_NODES, c_MOST_DEEP, h1', h2', e, nodeOk, hi, sm16 (Nat.le_of_lt h1), ca, cb]
        | ok n2 =>
          rw [hqb] at ihb
          obtain ⟨hn2, ns2, hl2, hrb⟩ := ihb
          have cb := callF_loc (R := run PZ (k - 1)) (f := 9) (n := 0) (ws := [.c (.str m), .c b.d, .c (.int ((d : Int) + 1)), .c (.bl t), .l 0]) (h := [.lst ns1, .lst [.int ((ns.length : Int) + 1)]]) rfl rfl rfl rfl hrb rfl
          have ihc := r_lay c (d + 1) t (k - 1) (by omega) hm hs'.2 ns2 (by omega)
          rw [hl2, hc] at ihc
          show match lay m c (d + 1) t n2 with
            | .ok n' => _
            | .error p => _
          cases hqc : lay m c (d + 1) t n2 with
          | error p =>
            rw [hqc] at ihc
            obtain ⟨ns', hr⟩ := ihc
            refine ⟨ns', ?_⟩
            rw [run_go (by omega) (F := F_9) rfl _ _ rfl]
            have cc := callF_locE (R := run PZ (k - 1)) (f := 9) (n := 0) (ws := [.c (.str m), .c c.d, .c (.int ((d : Int) + 1)), .c (.bl t), .l 0]) (h := [.lst ns2, .lst [.int ((ns.length : Int) + 1), .int ((n1 : Nat) : Int)]]) rfl rfl rfl rfl hr rfl
            simp only [Xp.d] at e ca ⊢
            cases t <;> simp [F_9, sy_9, c_MOST_NODES, c_MOST_DEEP, h1', h2', e, nodeOk, hi, sm16 (Nat.le_of_lt h1), ca, cb, cc]
          | ok n3 =>
            rw [hqc] at ihc
            obtain ⟨hn3, ns3, hl3, hrc⟩ := ihc
            refine ⟨hn3, ns3.set ns.length (.tup [.str "if", .int ((ns.length + 1 : Nat) : Int), .int ((n1 : Nat) : Int), .int ((n2 : Nat) : Int)]), by simpa using hl3, ?_⟩
            rw [run_go (by omega) (F := F_9) rfl _ _ rfl]
            have cc := callF_loc (R := run PZ (k - 1)) (f := 9) (n := 0) (ws := [.c (.str m), .c c.d, .c (.int ((d : Int) + 1)), .c (.bl t), .l 0]) (h := [.lst ns2, .lst [.int ((ns.length : Int) + 1), .int ((n1 : Nat) : Int)]]) rfl rfl rfl rfl hrc rfl
            have hx : ixI ns3.length ((ns.length : Nat) : Int) = some ns.length := ixI_nat (by have := lay_lt hqa; have := lay_lt hqb; have := lay_lt hqc; omega)
            simp only [Xp.d] at e ca ⊢
            cases t <;> simp [F_9, sy_9, c_MOST_NODES, c_MOST_DEEP, h1', h2', e, nodeOk, hi, sm16 (Nat.le_of_lt h1), ca, cb, cc, hx, z_bin_addT]
end
end B

set_option linter.all false
set_option maxRecDepth 100000
/-! class Body in the evaluator. Own work. -/
namespace B
open PySem (Str)
section
variable {k : Nat} {m : Str}
/-- what a body is -/
def bodyD (m : Str) (x : Xp) (ns : List D) : D := .ins 0 [(0, .str m), (1, x.d), (2, .tup ns)]
def FC : List Str := ["truth", "length", "has", "like", "unlike", "before", "behind", "hash"]
theorem FC_METH : ∀ m ∈ FC, m ∈ METH := by decide +kernel
theorem FC_kind : ∀ m ∈ FC, kindS m = "flag" ∨ kindS m = "count" := by decide +kernel
theorem nFC_kind : ∀ m ∈ METH, m ∉ FC → ¬ (kindS m = "flag" ∨ kindS m = "count") := by decide +kernel
theorem PZ_cl0 : (PZ.cl 0).isSome = true := rfl
/-- Body(m, x) for a method of a flag or count -/
theorem r_body_init (x : Xp) (hk : x.dep + 9 ≤ k) (hm : m ∈ FC) (hs : x.short = true) : match lay m x 1 true 0 with
    | .ok _ => ∃ ns, run PZ k 28 [.l 0, .c (.str m), .c x.d] [.ins 0 []] = .ok (.c .non) [.ins 0 [(0, .c (.str m)), (1, .c x.d), (2, .c (.tup ns))]]
    | .error p => run PZ k 28 [.l 0, .c (.str m), .c x.d] [.ins 0 []] = .err 2 (.int ((p : Nat) : Int)) [.ins 0 []] := by
  have hM := FC_METH m hm
  have e1 := cl_is_method (k := k - 1) (by omega) (.str m) rfl [.ins 0 []]
  have e2 := cl_kind_of (k := k - 1) (by omega) hM [.ins 0 []]
  have h1 : isMethod (.str m) = true := by simp [isMethod, hM]
  rw [h1] at e1
  have h2 : inL [.str "flag", .str "count"] (.str (kindS m)) = some true := by
    have := inL_strs (kindS m) ["flag", "count"]
    simp only [List.map] at this
    rw [this]
    rcases FC_kind m hm with h | h <;> simp [h]
  have hl := r_lay x 1 true (k - 1) (by omega) hM hs [] (by simp)
  simp only [List.length_nil] at hl
  cases hq : lay m x 1 true 0 with
  | ok n' =>
    rw [hq] at hl
    obtain ⟨_, ns, _, hr⟩ := hl
    refine ⟨ns, ?_⟩
    rw [run_go (by omega) (F := F_28) rfl _ _ rfl]
    have c := callF_loc (R := run PZ (k - 1)) (f := 9) (n := 1) (ws := [.c (.str m), .c x.d, .c (.int ((1 : Nat) : Int)), .c (.bl true), .l 1]) (h := [.ins 0 [], .lst []]) rfl rfl rfl rfl hr rfl
    simp at c
    simp [F_28, sy_28, e1, e2, h2, c, y_sat0 (G := gxOf PZ (k - 1)) (c := 0) PZ_cl0]
    exact ret1n rfl
  | error p =>
    rw [hq] at hl
    obtain ⟨ns, hr⟩ := hl
    show run PZ k 28 [.l 0, .c (.str m), .c x.d] [.ins 0 []] = _
    rw [run_go (by omega) (F := F_28) rfl _ _ rfl]
    have c := callF_locE (R := run PZ (k - 1)) (f := 9) (n := 1) (ws := [.c (.str m), .c x.d, .c (.int ((1 : Nat) : Int)), .c (.bl true), .l 1]) (h := [.ins 0 [], .lst []]) rfl rfl rfl rfl hr rfl
    simp at c
    simp [F_28, sy_28, e1, e2, h2, c]
    exact ret1e rfl
theorem PZ_cl : PZ.cl 0 = some ⟨some 28, true, [], [(3, 29), (0, 30)], [0]⟩ := rfl
/-- Body(m, x) as an expression -/
theorem mk_body (x : Xp) (hk : x.dep + 10 ≤ k) (hm : m ∈ FC) (hs : x.short = true) (h : A) : match lay m x 1 true 0 with
    | .ok _ => ∃ ns, make (gxOf PZ k) 0 [.c (.str m), .c x.d] h = .ok (.c (bodyD m x ns)) (h ++ [.dead])
    | .error p => make (gxOf PZ k) 0 [.c (.str m), .c x.d] h = .err 2 (.int ((p : Nat) : Int)) (h ++ [.ins 0 []]) := by
  have r := r_body_init (k := k - 1) (m := m) x (by omega) hm hs
  cases hq : lay m x 1 true 0 with
  | ok n =>
    rw [hq] at r
    obtain ⟨ns, r⟩ := r
    exact ⟨ns, make_ok (fs := [(0, .str m), (1, x.d), (2, .tup ns)]) PZ_cl rfl rfl rfl r⟩
  | error p =>
    rw [hq] at r
    exact make_err PZ_cl rfl rfl r rfl
/-! ### == of two bodies -/
theorem eqs_strs : ∀ l l2 : List Str, D.eqs (l.map .str) (l2.map .str) = some (decide (l = l2))
  | [], [] => rfl
  | [], _ :: _ => rfl
  | _ :: _, [] => rfl
  | a :: r, b :: q => by
    show (match D.eqb (.str a) (.str b) with
      | some true => D.eqs (r.map .str) (q.map .str)
      | z => z) = _
    by_cases h : a = b
    · subst h
      have : D.eqb (.str a) (.str a) = some true := by simp [D.eqb]
      rw [this]
      show D.eqs (r.map .str) (q.map .str) = _
      rw [eqs_strs r q]
      simp
    · have : D.eqb (.str a) (.str b) = some false := by simp [D.eqb, h]
      rw [this]
      simp [h]
theorem eqs_cons {a b : D} {r q : List D} {v : Bool} (h : D.eqb a b = some v) : D.eqs (a :: r) (b :: q) = if v then D.eqs r q else some false := by
  show (match D.eqb a b with
      | some true => D.eqs r q
      | z => z) = _
  rw [h]
  cases v <;> rfl
theorem eqs_nn : D.eqs [] [] = some true := rfl
theorem eqs_nc (y : D) (r : List D) : D.eqs [] (y :: r) = some false := rfl
theorem eqs_cn (y : D) (r : List D) : D.eqs (y :: r) [] = some false := rfl
theorem eqb_tup (xs ys : List D) : D.eqb (.tup xs) (.tup ys) = D.eqs xs ys := rfl
theorem eqb_s (a b : Str) : D.eqb (.str a) (.str b) = some (decide (a = b)) := rfl
theorem eqb_i (a b : Int) : D.eqb (.int a) (.int b) = some (decide (a = b)) := rfl
theorem eqb_x : ∀ x y : Xp, D.eqb x.d y.d = some (decide (x = y)) := by
  intro x
  induction x with
  | leaf l =>
    intro y
    cases y with
    | leaf l2 => cases l <;> cases l2 <;> simp [Xp.d, eqb_tup, eqs_cons (eqb_s _ _), Lf.w, eqs_nn, eqs_nc, eqs_cn]
    | _ => cases l <;> simp [Xp.d, eqb_tup, eqs_cons (eqb_s _ _), Lf.w, eqs_nn, eqs_nc, eqs_cn]
  | cnt n =>
    intro y
    cases y with
    | cnt n2 =>
      simp [Xp.d, eqb_tup, eqs_cons (eqb_s _ _), eqs_cons (eqb_i _ _), eqs_nn, eqs_nc, eqs_cn]
      by_cases h : n = n2
      · subst h; simp
      · have h1 : ¬ n.val = n2.val := fun e => h (Fin.ext e)
        have h2 : ¬ ((n.val : Nat) : Int) = ((n2.val : Nat) : Int) := by omega
        simp [h, h2]
    | leaf l => cases l <;> simp [Xp.d, eqb_tup, eqs_cons (eqb_s _ _), Lf.w, eqs_nn, eqs_nc, eqs_cn]
    | _ => simp [Xp.d, eqb_tup, eqs_cons (eqb_s _ _), eqs_nn, eqs_nc, eqs_cn]
  | ask ws =>
    intro y
    cases y with
    | ask ws2 => simp [Xp.d, eqb_tup, eqs_cons (eqb_s _ _), eqs_strs]
    | leaf l => cases l <;> simp [Xp.d, eqb_tup, eqs_cons (eqb_s _ _), Lf.w, eqs_nn, eqs_nc, eqs_cn]
    | _ => simp [Xp.d, eqb_tup, eqs_cons (eqb_s _ _), eqs_nn, eqs_nc, eqs_cn]
  | not_ a ih =>
    intro y
    cases y with
    | not_ b =>
      simp [Xp.d, eqb_tup, eqs_cons (eqb_s _ _), eqs_cons (ih b), eqs_nn, eqs_nc, eqs_cn]
      by_cases h : a = b <;> simp [h]
    | leaf l => cases l <;> simp [Xp.d, eqb_tup, eqs_cons (eqb_s _ _), Lf.w, eqs_nn, eqs_nc, eqs_cn]
    | _ => simp [Xp.d, eqb_tup, eqs_cons (eqb_s _ _), eqs_nn, eqs_nc, eqs_cn]
  | ife a b c iha ihb ihc =>
    intro y
    cases y with
    | ife a2 b2 c2 =>
      simp [Xp.d, eqb_tup, eqs_cons (eqb_s _ _), eqs_cons (iha a2), eqs_cons (ihb b2), eqs_cons (ihc c2), eqs_nn, eqs_nc, eqs_cn]
      by_cases h : a = a2 <;> by_cases h2 : b = b2 <;> by_cases h3 : c = c2 <;> simp [h, h2, h3]
    | leaf l => cases l <;> simp [Xp.d, eqb_tup, eqs_cons (eqb_s _ _), Lf.w, eqs_nn, eqs_nc, eqs_cn]
    | _ => simp [Xp.d, eqb_tup, eqs_cons (eqb_s _ _), eqs_nn, eqs_nc, eqs_cn]
theorem depths_strs : ∀ l : List Str, D.depths (l.map .str) = 0
  | [] => rfl
  | s :: r => by
    show max (D.depth (.str s)) (D.depths (r.map .str)) = 0
    rw [depths_strs r]; rfl
theorem depth_x : ∀ x : Xp, D.depth x.d ≤ x.dep
  | .leaf l => Nat.le_refl _
  | .cnt n => Nat.le_refl _
  | .ask ws => by
    show D.depths (((("ask" : Str) :: ws).map D.str)) + 1 ≤ 1
    rw [depths_strs]
    exact Nat.le_refl _
  | .not_ a => by
    show max 0 (max (D.depth a.d) 0) + 1 ≤ a.dep + 1
    have := depth_x a
    omega
  | .ife a b c => by
    show max 0 (max (D.depth a.d) (max (D.depth b.d) (max (D.depth c.d) 0))) + 1 ≤ max a.dep (max b.dep c.dep) + 1
    have := depth_x a
    have := depth_x b
    have := depth_x c
    omega
theorem eqD_x (x y : Xp) (hd : x.dep ≤ 64) : eqD x.d y.d = some (decide (x = y)) := by
  unfold eqD
  have := depth_x x
  rw [pyok_x, pyok_x, decide_eq_true (show min (D.depth x.d) (D.depth y.d) ≤ 64 by omega)]
  exact eqb_x x y
theorem z_cmp_x (G : Gx) (x y : Xp) (h : A) (hd : x.dep ≤ 64) : cmpW G .eq (.c x.d) (.c y.d) h = .ok (.c (.bl (decide (x = y)))) h := by
  have e : clsOf h (.c x.d) = none := by cases x <;> rfl
  rw [z_cmp e, z_opW_eq, z_bin_eq, eqD_x x y hd]
  rfl
theorem z_cmpn_x (G : Gx) (x y : Xp) (h : A) (hd : x.dep ≤ 64) : cmpW G .ne (.c x.d) (.c y.d) h = .ok (.c (.bl (!decide (x = y)))) h := by
  have e : clsOf h (.c x.d) = none := by cases x <;> rfl
  rw [z_cmp e, z_opW_ne, z_bin_ne, eqD_x x y hd]
  rfl
theorem r_body_eq (hk : 1 ≤ k) (m m2 : Str) (x x2 : Xp) (ns ns2 : List D) (hd : x.dep ≤ 64) : run PZ k 30 [.c (bodyD m x ns), .c (bodyD m2 x2 ns2)] [] = .ok (.c (.bl (decide (m = m2) && decide (x = x2)))) [] := by
  rw [run_go (by omega) (F := F_30) rfl _ _ rfl]
  by_cases h : m = m2 <;> simp [F_30, sy_30, bodyD, h, PZ_cl, z_cmp_x _ _ _ _ hd]
/-- body != body -/
theorem cmp_body (hk : 2 ≤ k) (m m2 : Str) (x x2 : Xp) (ns ns2 : List D) (hd : x.dep ≤ 64) (h : A) : cmpW (gxOf PZ k) .ne (.c (bodyD m x ns)) (.c (bodyD m2 x2 ns2)) h = .ok (.c (.bl (!(decide (m = m2) && decide (x = x2))))) h := by
  have e := callF_pure (h := h) (R := run PZ (k - 1)) (f := 30) (ws := [.c (bodyD m x ns), .c (bodyD m2 x2 ns2)]) rfl (r_body_eq (k := k - 1) (by omega) m m2 x x2 ns ns2 hd)
  unfold bodyD at e ⊢
  simp [ownEq, PZ_cl, method, methOf, e]
end
end B

set_option linter.all false
set_option maxRecDepth 100000
/-! notes.py, bodies as texts, in the evaluator: writing. Own work. -/
namespace B
open PySem (Str)
def dig (n : Fin 5) : Str := match n with
  | 0 => "0" | 1 => "1" | 2 => "2" | 3 => "3" | 4 => "4"
def Xp.words : Xp → List Str
  | .leaf l => [l.w]
  | .cnt n => ["count", dig n]
  | .ask ws => "ask" :: ws
  | .not_ a => "not" :: a.words
  | .ife a b c => "if" :: (a.words ++ b.words ++ c.words)
theorem dig_eq : ∀ n : Fin 5, (Str.ofString (toString ((n.val : Nat) : Int))) = dig n := by decide +kernel
theorem small_dig (n : Fin 5) : small ((n.val : Nat) : Int) = true := by
  have := n.isLt
  simp only [small, decide_eq_true_eq]
  omega
theorem str_dig (n : Fin 5) : bi1 .str (.int ((n.val : Nat) : Int)) = some (.str (dig n)) :=
  (z_str_i _ (small_dig n)).trans (congrArg (fun s => some (D.str s)) (dig_eq n))
section
variable {k : Nat}
def wb (k : Nat) : D → Env → A → SRes := forB (.nm 2) (exs (gxOf PZ k) [.ife (.isi (.var 2) .tup) [.ex (.bm false .extend (.var 1) [.call 10 [.var 2]])] [.ex (.bm false .append (.var 1) [.bi false .str [.var 2]])]])
theorem wb_str (w : Str) (a v : Option W) (acc : List D) (hl : acc.length < sizeMax) : wb k (.str w) [a, some (.l 0), v] [.lst acc] = .nx [a, some (.l 0), some (.c (.str w))] [.lst (acc ++ [.str w])] := by
  simp [wb, hl]
theorem wb_intG (i : Int) (w : Str) (e : bi1 .str (.int i) = some (.str w)) (a v : Option W) (acc : List D) (hl : acc.length < sizeMax) : wb k (.int i) [a, some (.l 0), v] [.lst acc] = .nx [a, some (.l 0), some (.c (.int i))] [.lst (acc ++ [.str w])] := by
  simp [wb, hl, e]
theorem wb_int (n : Fin 5) (a v : Option W) (acc : List D) (hl : acc.length < sizeMax) : wb k (.int ((n.val : Nat) : Int)) [a, some (.l 0), v] [.lst acc] = .nx [a, some (.l 0), some (.c (.int ((n.val : Nat) : Int)))] [.lst (acc ++ [.str (dig n)])] :=
  wb_intG _ _ (str_dig n) a v acc hl
theorem wb_x (x : Xp) (a v : Option W) (acc : List D) (hl : acc.length + x.words.length ≤ sizeMax) (e : run PZ k 10 [.c x.d] [] = .ok (.c (.lst (x.words.map .str))) []) : wb k x.d [a, some (.l 0), v] [.lst acc] = .nx [a, some (.l 0), some (.c x.d)] [.lst (acc ++ x.words.map .str)] := by
  have c := callF_pure (R := run PZ k) (f := 10) (ws := [.c x.d]) (h := [.lst acc]) rfl e
  rw [x.d_eq] at c ⊢
  simp [wb, c, hl]
theorem wb_strs (a : Option W) : ∀ (ws : List Str) (v : Option W) (acc : List D), acc.length + ws.length ≤ sizeMax → ∃ v', forGo (wb k) (ws.map .str) [a, some (.l 0), v] [.lst acc] = .nx [a, some (.l 0), v'] [.lst (acc ++ ws.map .str)]
  | [], v, acc, _ => ⟨v, by simp⟩
  | w :: r, v, acc, h => by
    have h' : acc.length + (r.length + 1) ≤ sizeMax := h
    obtain ⟨v', e⟩ := wb_strs a r (some (.c (.str w))) (acc ++ [.str w]) (by simp; omega)
    refine ⟨v', ?_⟩
    rw [List.map_cons, z_forGo, wb_str w a v acc (by omega)]
    simp only [z_ln_nx, e, List.append_assoc, List.singleton_append, List.map_cons]
theorem words_small : ∀ x : Xp, 1 ≤ x.words.length
  | .leaf _ => Nat.le_refl _
  | .cnt _ => by show 1 ≤ 2; omega
  | .ask ws => by show 1 ≤ ws.length + 1; omega
  | .not_ a => by show 1 ≤ a.words.length + 1; omega
  | .ife a b c => by show 1 ≤ (a.words ++ b.words ++ c.words).length + 1; omega
theorem words_cnt (hk : 1 ≤ k) (i : Int) (w : Str) (e : bi1 .str (.int i) = some (.str w)) : run PZ k 10 [.c (.tup [.str "count", .int i])] [] = .ok (.c (.lst [.str "count", .str w])) [] := by
  rw [run_go hk (F := F_10) rfl _ _ rfl]
  simp [F_10, sy_10, e]
theorem y_cat0 (xs ys : List D) (r : A) : catW (.l 0) (.c (.lst ys)) (.lst xs :: r) = must (decide (xs.length + ys.length ≤ sizeMax)) (.ok (.l (r.length + 1)) (.lst xs :: (r ++ [.lst (xs ++ ys)]))) := rfl
theorem y_cat1 (o : O) (xs ys : List D) (r : A) : catW (.l 1) (.c (.lst ys)) (o :: .lst xs :: r) = must (decide (xs.length + ys.length ≤ sizeMax)) (.ok (.l (r.length + 2)) (o :: .lst xs :: (r ++ [.lst (xs ++ ys)]))) := rfl
theorem y_cat2 (o o' : O) (xs ys : List D) (r : A) : catW (.l 2) (.c (.lst ys)) (o :: o' :: .lst xs :: r) = must (decide (xs.length + ys.length ≤ sizeMax)) (.ok (.l (r.length + 3)) (o :: o' :: .lst xs :: (r ++ [.lst (xs ++ ys)]))) := rfl
def wf (k : Nat) : D → Env → A → SRes := forB (.nm 2) (exs (gxOf PZ k) [.ife (.isi (.var 2) .tup) [.set (.nm 1) (.cat (.var 1) (.call 21 [.var 2]))] [.ex (.bm false .append (.var 1) [.bi false .str [.var 2]])]])
theorem wf_str (w : Str) (a v : Option W) (acc : List D) (hl : acc.length < sizeMax) : wf k (.str w) [a, some (.l 0), v] [.lst acc] = .nx [a, some (.l 0), some (.c (.str w))] [.lst (acc ++ [.str w])] := by
  simp [wf, hl]
theorem wf_strs (a : Option W) : ∀ (ws : List Str) (v : Option W) (acc : List D), acc.length + ws.length ≤ sizeMax → ∃ v', forGo (wf k) (ws.map .str) [a, some (.l 0), v] [.lst acc] = .nx [a, some (.l 0), v'] [.lst (acc ++ ws.map .str)]
  | [], v, acc, _ => ⟨v, by simp⟩
  | w :: r, v, acc, h => by
    have h' : acc.length + (r.length + 1) ≤ sizeMax := h
    obtain ⟨v', e⟩ := wf_strs a r (some (.c (.str w))) (acc ++ [.str w]) (by simp; omega)
    refine ⟨v', ?_⟩
    rw [List.map_cons, z_forGo, wf_str w a v acc (by omega)]
    simp only [z_ln_nx, e, List.append_assoc, List.singleton_append, List.map_cons]
theorem flat_cnt (hk : 1 ≤ k) (i : Int) (w : Str) (e : bi1 .str (.int i) = some (.str w)) : run PZ k 21 [.c (.tup [.str "count", .int i])] [] = .ok (.c (.lst [.str "count", .str w])) [] := by
  rw [run_go hk (F := F_21) rfl _ _ rfl]
  simp [F_21, sy_21, e]
theorem r_words_of : ∀ (x : Xp) (k : Nat), x.dep ≤ k → x.words.length ≤ 1000 → run PZ k 10 [.c x.d] [] = .ok (.c (.lst (x.words.map .str))) []
  | .leaf l, k, hk, hl => by
    rw [run_go hk (F := F_10) rfl _ _ rfl]
    simp [F_10, sy_10, Xp.words, Xp.d]
  | .cnt n, k, hk, hl => by
    exact words_cnt hk _ _ (str_dig n)
  | .ask ws, k, hk, hl => by
    rw [run_go hk (F := F_10) rfl _ _ rfl]
    have hl' : ws.length + 1 ≤ 1000 := hl
    obtain ⟨v', e⟩ := wb_strs (k := k - 1) (some (.c (Xp.ask ws).d)) ws (some (.c (.str "ask"))) [.str "ask"] (sz_le (by simp; omega))
    simp only [Xp.d, wb] at e ⊢
    simp [F_10, sy_10, Xp.words, e]
  | .not_ a, k, hk, hl => by
    have hk' : a.dep + 1 ≤ k := hk
    have hl' : a.words.length + 1 ≤ 1000 := hl
    rw [run_go (by omega) (F := F_10) rfl _ _ rfl]
    have c := callF_pure (R := run PZ (k - 1)) (f := 10) (ws := [.c a.d]) (h := [.lst [.str "not"]]) rfl (r_words_of a (k - 1) (by omega) (by omega))
    simp only [Xp.d]
    rw [a.d_eq] at c ⊢
    have h1 : 1 + a.words.length ≤ 1000 := by omega
    simp [F_10, sy_10, Xp.words, c, h1]
  | .ife a b c, k, hk, hl => by
    have hk' : max a.dep (max b.dep c.dep) + 1 ≤ k := hk
    have hl' : (a.words ++ b.words ++ c.words).length + 1 ≤ 1000 := hl
    simp only [List.length_append] at hl'
    rw [run_go (by omega) (F := F_10) rfl _ _ rfl]
    have ca := callF_pure (R := run PZ (k - 1)) (f := 10) (ws := [.c a.d]) (h := [.lst [.str "if"]]) rfl (r_words_of a (k - 1) (by omega) (by omega))
    have cb := callF_pure (R := run PZ (k - 1)) (f := 10) (ws := [.c b.d]) (h := [.lst (.str "if" :: a.words.map .str)]) rfl (r_words_of b (k - 1) (by omega) (by omega))
    have cc := callF_pure (R := run PZ (k - 1)) (f := 10) (ws := [.c c.d]) (h := [.lst (.str "if" :: (a.words.map .str ++ b.words.map .str))]) rfl (r_words_of c (k - 1) (by omega) (by omega))
    simp only [Xp.d]
    rw [a.d_eq] at ca ⊢
    rw [b.d_eq] at cb ⊢
    rw [c.d_eq] at cc ⊢
    have h1 : 1 + a.words.length ≤ 1000 := by omega
    have h2 : a.words.length + 1 + b.words.length ≤ 1000 := by omega
    have h3 : a.words.length + b.words.length + 1 + c.words.length ≤ 1000 := by omega
    simp [F_10, sy_10, Xp.words, ca, cb, cc, h1, h2, h3]
theorem r_flat : ∀ (x : Xp) (k : Nat), x.dep ≤ k → x.words.length ≤ 1000 → run PZ k 21 [.c x.d] [] = .ok (.c (.lst (x.words.map .str))) []
  | .leaf l, k, hk, hl => by
    rw [run_go hk (F := F_21) rfl _ _ rfl]
    simp [F_21, sy_21, Xp.words, Xp.d]
  | .cnt n, k, hk, hl => by
    exact flat_cnt hk _ _ (str_dig n)
  | .ask ws, k, hk, hl => by
    rw [run_go hk (F := F_21) rfl _ _ rfl]
    have hl' : ws.length + 1 ≤ 1000 := hl
    obtain ⟨v', e⟩ := wf_strs (k := k - 1) (some (.c (Xp.ask ws).d)) ws (some (.c (.str "ask"))) [.str "ask"] (sz_le (by simp; omega))
    simp only [Xp.d, wf] at e ⊢
    simp [F_21, sy_21, Xp.words, e]
  | .not_ a, k, hk, hl => by
    have hk' : a.dep + 1 ≤ k := hk
    have hl' : a.words.length + 1 ≤ 1000 := hl
    rw [run_go (by omega) (F := F_21) rfl _ _ rfl]
    have c := callF_pure (R := run PZ (k - 1)) (f := 21) (ws := [.c a.d]) (h := [.lst [.str "not"]]) rfl (r_flat a (k - 1) (by omega) (by omega))
    simp only [Xp.d]
    rw [a.d_eq] at c ⊢
    have h1 : 1 + a.words.length ≤ 1000 := by omega
    simp [F_21, sy_21, Xp.words, c, h1, y_cat0]
  | .ife a b c, k, hk, hl => by
    have hk' : max a.dep (max b.dep c.dep) + 1 ≤ k := hk
    have hl' : (a.words ++ b.words ++ c.words).length + 1 ≤ 1000 := hl
    simp only [List.length_append] at hl'
    rw [run_go (by omega) (F := F_21) rfl _ _ rfl]
    have ca := callF_pure (R := run PZ (k - 1)) (f := 21) (ws := [.c a.d]) (h := [.lst [.str "if"]]) rfl (r_flat a (k - 1) (by omega) (by omega))
    have cb := callF_pure (R := run PZ (k - 1)) (f := 21) (ws := [.c b.d]) (h := [.lst [.str "if"], .lst (.str "if" :: a.words.map .str)]) rfl (r_flat b (k - 1) (by omega) (by omega))
    have cc := callF_pure (R := run PZ (k - 1)) (f := 21) (ws := [.c c.d]) (h := [.lst [.str "if"], .lst (.str "if" :: a.words.map .str), .lst (.str "if" :: (a.words.map .str ++ b.words.map .str))]) rfl (r_flat c (k - 1) (by omega) (by omega))
    simp only [Xp.d]
    rw [a.d_eq] at ca ⊢
    rw [b.d_eq] at cb ⊢
    rw [c.d_eq] at cc ⊢
    have h1 : 1 + a.words.length ≤ 1000 := by omega
    have h2 : a.words.length + 1 + b.words.length ≤ 1000 := by omega
    have h3 : a.words.length + b.words.length + 1 + c.words.length ≤ 1000 := by omega
    simp [F_21, sy_21, Xp.words, ca, cb, cc, h1, h2, h3, y_cat0, y_cat1, y_cat2]
end
end B

set_option linter.all false
set_option maxRecDepth 100000
/-! notes.py, bodies as texts, in the evaluator: reading words. Own work. -/
namespace B
open PySem (Str)
def SINGLE : List Str := ["yes", "no", "raise", "decline", "further"]
theorem c_SIN : c_SINGLE = .tup (SINGLE.map .str) := rfl
def DIGS : List Str := ["0", "1", "2", "3", "4"]
theorem c_DIG : c_DIGITS = .tup (DIGS.map .str) := rfl
def lfOf (w : Str) : Option Lf := if w = "yes" then some .yes else if w = "no" then some .no else if w = "raise" then some .rai else if w = "decline" then some .dec else if w = "further" then some .fur else none
def dgOf (w : Str) : Option (Fin 5) := if w = "0" then some 0 else if w = "1" then some 1 else if w = "2" then some 2 else if w = "3" then some 3 else if w = "4" then some 4 else none
theorem lfOf_w (l : Lf) : lfOf l.w = some l := by cases l <;> simp [lfOf, Lf.w]
theorem lfOf_some {w : Str} {l : Lf} (e : lfOf w = some l) : w = l.w := by
  unfold lfOf at e
  repeat' split at e
  all_goals first | (cases e; assumption) | cases e
theorem lfOf_mem {w : Str} (e : lfOf w = none) : w ∉ SINGLE := by
  unfold lfOf at e
  intro hm
  simp [SINGLE] at hm
  rcases hm with h | h | h | h | h <;> subst h <;> simp at e
theorem lf_mem (l : Lf) : l.w ∈ SINGLE := by cases l <;> simp [Lf.w, SINGLE]
theorem dgOf_w (n : Fin 5) : dgOf (dig n) = some n := by
  match n with
  | 0 => simp [dgOf, dig]
  | 1 => simp [dgOf, dig]
  | 2 => simp [dgOf, dig]
  | 3 => simp [dgOf, dig]
  | 4 => simp [dgOf, dig]
theorem dgOf_some {w : Str} {n : Fin 5} (e : dgOf w = some n) : w = dig n := by
  unfold dgOf at e
  repeat' split at e
  all_goals first | (cases e; assumption) | cases e
theorem dgOf_mem {w : Str} (e : dgOf w = none) : w ∉ DIGS := by
  unfold dgOf at e
  intro hm
  simp [DIGS] at hm
  rcases hm with h | h | h | h | h <;> subst h <;> simp at e
theorem dig_mem (n : Fin 5) : dig n ∈ DIGS := by
  match n with
  | 0 => simp [dig, DIGS]
  | 1 => simp [dig, DIGS]
  | 2 => simp [dig, DIGS]
  | 3 => simp [dig, DIGS]
  | 4 => simp [dig, DIGS]
theorem int_dig : ∀ n : Fin 5, bi1 .int (.str (dig n)) = some (.int ((n.val : Nat) : Int))
  | 0 => rfl
  | 1 => rfl
  | 2 => rfl
  | 3 => rfl
  | 4 => rfl
/-- reading an expression at a place: the expression and the place behind it -/
def rdW : Nat → List Str → Nat → Option (Xp × Nat)
  | 0, _, _ => none
  | f + 1, ws, i => match lfOf (ws.getD i "") with
    | some l => some (.leaf l, i + 1)
    | none => match (if ws.getD i "" = "count" then dgOf (ws.getD (i + 1) "") else none) with
      | some n => some (.cnt n, i + 2)
      | none => if ws.getD i "" = "ask" then
          (if ws.getD (i + 1) "" ∈ TWO then some (.ask ((ws.take (i + 4)).drop (i + 1)), i + 4) else some (.ask ((ws.take (i + 3)).drop (i + 1)), i + 3))
        else if ws.getD i "" = "not" then (match rdW f ws (i + 1) with
          | some (x, a) => some (.not_ x, a)
          | none => none)
        else if ws.getD i "" = "if" then (match rdW f ws (i + 1) with
          | some (x, a) => (match rdW f ws a with
            | some (y, b) => (match rdW f ws b with
              | some (z, c) => some (.ife x y z, c)
              | none => none)
            | none => none)
          | none => none)
        else none
def repR : Option (Xp × Nat) → D
  | none => .non
  | some (x, a) => .tup [x.d, .int ((a : Nat) : Int)]
theorem cut_nat {α : Type} (xs : List α) (i j : Nat) : cut xs (some ((i : Nat) : Int)) (some ((j : Nat) : Int)) = (xs.take j).drop i := by
  have e1 : ∀ (d v : Nat), clip xs.length d (some ((v : Nat) : Int)) = min v xs.length := by
    intro d v
    show (if ((v : Nat) : Int) < 0 then (((v : Nat) : Int) + ((xs.length : Nat) : Int)).toNat else min ((v : Nat) : Int).toNat xs.length) = _
    rw [if_neg (by omega)]
    rfl
  unfold cut
  rw [e1, e1, List.drop_take]
  apply List.ext_getElem?
  intro n
  simp only [List.getElem?_take, List.getElem?_drop]
  by_cases h : n < j - i
  · by_cases h2 : n < min j xs.length - min i xs.length
    · rw [if_pos h, if_pos h2]
      have : min i xs.length = i := by omega
      rw [this]
    · rw [if_pos h, if_neg h2]
      have : xs[i + n]? = none := List.getElem?_eq_none (by omega)
      rw [this]
  · rw [if_neg h, if_neg (by omega)]
section
variable {k : Nat}
/-- the word at a place -/
theorem ev_word {G : Gx} (ws : List Str) (i : Nat) (e : E) (r : Env) (h : A) (he : ev G e (some (.c (.lst (ws.map .str))) :: r) h = .ok (.c (.int ((i : Nat) : Int))) h) : ev G (.ife (.op .lt e (.bi false .len [.var 0])) (.ix (.var 0) e) (.k (.str ""))) (some (.c (.lst (ws.map .str))) :: r) h = .ok (.c (.str (ws.getD i ""))) h := by
  by_cases hi : i < ws.length
  · have h1 : ((i : Nat) : Int) < ((ws.length : Nat) : Int) := by omega
    have h2 : (ws.map D.str)[i]? = some (.str (ws.getD i "")) := by
      simp [List.getElem?_eq_getElem hi, List.getD]
    simp [he, h1, z_get_ln _ _ _ h2]
  · have h1 : ¬ ((i : Nat) : Int) < ((ws.length : Nat) : Int) := by omega
    have h2 : ws.getD i "" = "" := by simp [List.getD, List.getElem?_eq_none (show ws.length ≤ i by omega)]
    simp only [z_ife, z_op, he, z_bind_ok, h2]
    simp [h1]
def rest13 : List S := sy_13.drop 2
theorem rd_start (hk : 1 ≤ k) (ws : List Str) (i : Nat) : run PZ k 13 [.c (.lst (ws.map .str)), .c (.int ((i : Nat) : Int))] [] = retB true 0 (exs (gxOf PZ (k - 1)) rest13 [some (.c (.lst (ws.map .str))), some (.c (.int ((i : Nat) : Int))), some (.c (.str (ws.getD i ""))), some (.c (.str (ws.getD (i + 1) ""))), none, none] []) := by
  rw [run_go hk (F := F_13) rfl _ _ rfl]
  have e1 := ev_word (G := gxOf PZ (k - 1)) ws i (.var 1) [some (.c (.int ((i : Nat) : Int))), none, none, none, none] [] rfl
  have e2 := ev_word (G := gxOf PZ (k - 1)) ws (i + 1) (.op .add (.var 1) (.k (.int 1))) [some (.c (.int ((i : Nat) : Int))), some (.c (.str (ws.getD i ""))), none, none, none] [] rfl
  show retB true 0 (exs (gxOf PZ (k - 1)) (.set (.nm 2) _ :: .set (.nm 3) _ :: rest13) [some (.c (.lst (ws.map .str))), some (.c (.int ((i : Nat) : Int))), none, none, none, none] []) = _
  rw [z_exs, z_set]
  rw [e1]
  simp only [z_then_ok, z_nm, z_ofOptS_some, z_at_nx, List.set]
  rw [z_exs, z_set, e2]
  simp only [z_then_ok, z_nm, z_ofOptS_some, z_at_nx, List.set]
def repP : Option (List Xp × Nat) → D
  | none => .non
  | some (xs, a) => .tup [.tup (xs.map Xp.d), .int ((a : Nat) : Int)]
/-- three reads, one behind the other -/
def rd3 (f : Nat) (ws : List Str) (i : Nat) : Option (List Xp × Nat) := match rdW f ws i with
  | some (x, a) => (match rdW f ws a with
    | some (y, b) => (match rdW f ws b with
      | some (z, c) => some ([x, y, z], c)
      | none => none)
    | none => none)
  | none => none
def rd1 (f : Nat) (ws : List Str) (i : Nat) : Option (List Xp × Nat) := match rdW f ws i with
  | some (x, a) => some ([x], a)
  | none => none
theorem iN1 : intsN 0 1 = [.int 0] := rfl
theorem iN3 : intsN 0 3 = [.int 0, .int 1, .int 2] := rfl
theorem iR1 : inRange 1 = true := rfl
theorem iR3 : inRange 3 = true := rfl
/-- what reading at a level promises -/
def RdOk (k f : Nat) (ws : List Str) (i : Nat) : Prop := run PZ k 13 [.c (.lst (ws.map .str)), .c (.int ((i : Nat) : Int))] [] = .ok (.c (repR (rdW f ws i))) []
theorem r_parts1 (hk : 1 ≤ k) (f : Nat) (ws : List Str) (i : Nat) (e : RdOk (k - 1) f ws i) : run PZ k 12 [.c (.lst (ws.map .str)), .c (.int ((i : Nat) : Int)), .c (.int 1)] [] = .ok (.c (repP (rd1 f ws i))) [] := by
  rw [run_go hk (F := F_12) rfl _ _ rfl]
  have c := callF_pure (R := run PZ (k - 1)) (f := 13) (ws := [.c (.lst (ws.map .str)), .c (.int ((i : Nat) : Int))]) (h := [.lst []]) rfl e
  unfold rd1
  cases q : rdW f ws i with
  | none =>
    rw [q] at c
    simp only [repR] at c
    simp [F_12, sy_12, iN1, iR1, c, repP]
  | some p =>
    obtain ⟨x, a⟩ := p
    rw [q] at c
    simp only [repR] at c
    simp [F_12, sy_12, iN1, iR1, c, repP]
theorem r_parts3 (hk : 1 ≤ k) (f : Nat) (ws : List Str) (i : Nat) (e : RdOk (k - 1) f ws i) (e2 : ∀ x a, rdW f ws i = some (x, a) → RdOk (k - 1) f ws a) (e3 : ∀ x a y b, rdW f ws i = some (x, a) → rdW f ws a = some (y, b) → RdOk (k - 1) f ws b) : run PZ k 12 [.c (.lst (ws.map .str)), .c (.int ((i : Nat) : Int)), .c (.int 3)] [] = .ok (.c (repP (rd3 f ws i))) [] := by
  rw [run_go hk (F := F_12) rfl _ _ rfl]
  have c := callF_pure (R := run PZ (k - 1)) (f := 13) (ws := [.c (.lst (ws.map .str)), .c (.int ((i : Nat) : Int))]) (h := [.lst []]) rfl e
  unfold rd3
  cases q : rdW f ws i with
  | none =>
    rw [q] at c
    simp only [repR] at c
    simp [F_12, sy_12, iN3, iR3, c, repP]
  | some p =>
    obtain ⟨x, a⟩ := p
    rw [q] at c
    simp only [repR] at c
    have c2 := callF_pure (R := run PZ (k - 1)) (f := 13) (ws := [.c (.lst (ws.map .str)), .c (.int ((a : Nat) : Int))]) (h := [.lst [x.d]]) rfl (e2 x a q)
    show _ = Res.ok (W.c (repP (match rdW f ws a with
      | some (y, b) => (match rdW f ws b with
        | some (z, c) => some ([x, y, z], c)
        | none => none)
      | none => none))) []
    cases q2 : rdW f ws a with
    | none =>
      rw [q2] at c2
      simp only [repR] at c2
      simp [F_12, sy_12, iN3, iR3, c, c2, repP]
    | some p2 =>
      obtain ⟨y, b⟩ := p2
      rw [q2] at c2
      simp only [repR] at c2
      have c3 := callF_pure (R := run PZ (k - 1)) (f := 13) (ws := [.c (.lst (ws.map .str)), .c (.int ((b : Nat) : Int))]) (h := [.lst [x.d, y.d]]) rfl (e3 x a y b q q2)
      show _ = Res.ok (W.c (repP (match rdW f ws b with
        | some (z, c) => some ([x, y, z], c)
        | none => none))) []
      cases q3 : rdW f ws b with
      | none =>
        rw [q3] at c3
        simp only [repR] at c3
        simp [F_12, sy_12, iN3, iR3, c, c2, c3, repP]
      | some p3 =>
        obtain ⟨z, b3⟩ := p3
        rw [q3] at c3
        simp only [repR] at c3
        simp [F_12, sy_12, iN3, iR3, c, c2, c3, repP]
end
end B

set_option linter.all false
set_option maxRecDepth 100000
/-! notes.py: reading words, joined with the parser. Own work. -/
namespace B
open PySem (Str)
theorem rd_lt : ∀ {f : Nat} {ws : List Str} {i : Nat} {x : Xp} {a : Nat}, rdW f ws i = some (x, a) → i < a
  | 0, ws, i, x, a, e => by cases e
  | f + 1, ws, i, x, a, e => by
    unfold rdW at e
    split at e
    · cases e; omega
    · split at e
      · cases e; omega
      · split at e
        · split at e <;> (cases e; omega)
        · split at e
          · split at e
            · rename_i q
              cases e
              have := rd_lt q
              omega
            · cases e
          · split at e
            · split at e
              · rename_i q
                split at e
                · rename_i q2
                  split at e
                  · rename_i q3
                    cases e
                    have := rd_lt q
                    have := rd_lt q2
                    have := rd_lt q3
                    omega
                  · cases e
                · cases e
              · cases e
            · cases e
section
variable {k : Nat} (G : Gx) (ws : List Str) (i : Nat) (b : Str)
def sl (ws : List Str) (i : Nat) (w b : Str) : Env := [some (.c (.lst (ws.map .str))), some (.c (.int ((i : Nat) : Int))), some (.c (.str w)), some (.c (.str b)), none, none]
theorem rs_leaf (l : Lf) : retB true 0 (exs G rest13 (sl ws i l.w b) []) = .ok (.c (.tup [(Xp.leaf l).d, .int ((i + 1 : Nat) : Int)])) [] := by
  have hi : inL (SINGLE.map .str) (.str l.w) = some true := by rw [inL_strs]; simp [lf_mem]
  simp [rest13, sy_13, sl, c_SIN, hi, Xp.d]
theorem inL_no {l : List Str} {w : Str} (h : w ∉ l) : inL (l.map .str) (.str w) = some false := by rw [inL_strs]; simp [h]
theorem rs_cnt (n : Fin 5) : retB true 0 (exs G rest13 (sl ws i "count" (dig n)) []) = .ok (.c (.tup [(Xp.cnt n).d, .int ((i + 2 : Nat) : Int)])) [] := by
  have h1 : inL (SINGLE.map .str) (.str "count") = some false := inL_no (by simp [SINGLE])
  have h2 : inL (DIGS.map .str) (.str (dig n)) = some true := by rw [inL_strs]; simp [dig_mem]
  simp [rest13, sy_13, sl, c_SIN, c_DIG, h1, h2, int_dig, Xp.d]
theorem rs_ask (hw : ws[i]? = some "ask") : retB true 0 (exs G rest13 (sl ws i "ask" b) []) = .ok (.c (repR (if b ∈ TWO then some (.ask ((ws.take (i + 4)).drop (i + 1)), i + 4) else some (.ask ((ws.take (i + 3)).drop (i + 1)), i + 3)))) [] := by
  have h1 : inL (SINGLE.map .str) (.str "ask") = some false := inL_no (by simp [SINGLE])
  have hd : ∀ j, i < j → ((ws.map D.str).take j).drop i = .str "ask" :: (((ws.take j).drop (i + 1)).map .str) := by
    intro j hj
    rw [← List.map_take, ← List.map_drop]
    have hl : i < ws.length := (List.getElem?_eq_some_iff.mp hw).1
    have e : (ws.take j).drop i = ("ask" : Str) :: (ws.take j).drop (i + 1) := by
      have hl2 : i < (ws.take j).length := by simp; omega
      rw [List.drop_eq_getElem_cons hl2]
      have : (ws.take j)[i] = "ask" := by
        have := (List.getElem?_eq_some_iff.mp hw).2
        simpa using this
      rw [this]
    rw [e]
    rfl
  have c4 := cut_nat (ws.map D.str) i (i + 4)
  have c3 := cut_nat (ws.map D.str) i (i + 3)
  rw [hd _ (by omega)] at c4 c3
  have q4 : ((i + 4 : Nat) : Int) = (i : Int) + 4 := rfl
  have q3 : ((i + 3 : Nat) : Int) = (i : Int) + 3 := rfl
  rw [q4] at c4
  rw [q3] at c3
  by_cases hb : b ∈ TWO
  · have h2 : inL (TWO.map .str) (.str b) = some true := by rw [inL_strs]; simp [hb]
    simp [rest13, sy_13, sl, c_SIN, c_TWO, h1, h2, hb, repR, Xp.d, c4]
  · have h2 : inL (TWO.map .str) (.str b) = some false := inL_no hb
    simp [rest13, sy_13, sl, c_SIN, c_TWO, h1, h2, hb, repR, Xp.d, c3]
theorem rs_none (w : Str) (h1 : w ∉ SINGLE) (h2 : w = "count" → b ∉ DIGS) (h3 : w ≠ "ask") (h4 : w ≠ "not") (h5 : w ≠ "if") : retB true 0 (exs G rest13 (sl ws i w b) []) = .ok (.c .non) [] := by
  have e1 := inL_no h1
  have e4 : inL [.str "not", .str "if"] (.str w) = some false := inL_no (l := ["not", "if"]) (by simp [h4, h5])
  by_cases hc : w = "count"
  · subst hc
    have e2 := inL_no (h2 rfl)
    simp [rest13, sy_13, sl, c_SIN, c_DIG, e1, e2, e4]
  · simp [rest13, sy_13, sl, c_SIN, c_DIG, hc, e1, h3, e4]
end
section
variable {k : Nat} (ws : List Str) (i : Nat) (b : Str)
theorem rs_not (f : Nat) (hk : 1 ≤ k) (e : RdOk (k - 1) f ws (i + 1)) : retB true 0 (exs (gxOf PZ k) rest13 (sl ws i "not" b) []) = .ok (.c (repR (match rdW f ws (i + 1) with
    | some (x, a) => some (.not_ x, a)
    | none => none))) [] := by
  have e1 : inL (SINGLE.map .str) (.str "not") = some false := inL_no (by simp [SINGLE])
  have e4 : inL [.str "not", .str "if"] (.str "not") = some true := rfl
  have c := callF_pure (h := []) rfl (r_parts1 hk f ws (i + 1) e)
  have q1 : ((i + 1 : Nat) : Int) = (i : Int) + 1 := rfl
  rw [q1] at c
  unfold rd1 at c
  cases q : rdW f ws (i + 1) with
  | none =>
    rw [q] at c
    simp only [repP] at c
    simp [rest13, sy_13, sl, c_SIN, e1, e4, c, repR]
  | some p =>
    obtain ⟨x, a⟩ := p
    rw [q] at c
    simp only [repP, List.map] at c
    simp [rest13, sy_13, sl, c_SIN, e1, e4, c, repR, z_bin_addT, Xp.d]
theorem rs_if (f : Nat) (hk : 1 ≤ k) (e : RdOk (k - 1) f ws (i + 1)) (e2 : ∀ x a, rdW f ws (i + 1) = some (x, a) → RdOk (k - 1) f ws a) (e3 : ∀ x a y b, rdW f ws (i + 1) = some (x, a) → rdW f ws a = some (y, b) → RdOk (k - 1) f ws b) : retB true 0 (exs (gxOf PZ k) rest13 (sl ws i "if" b) []) = .ok (.c (repR (match rd3 f ws (i + 1) with
    | some ([x, y, z], c) => some (.ife x y z, c)
    | _ => none))) [] := by
  have e1 : inL (SINGLE.map .str) (.str "if") = some false := inL_no (by simp [SINGLE])
  have e4 : inL [.str "not", .str "if"] (.str "if") = some true := rfl
  have c := callF_pure (h := []) rfl (r_parts3 hk f ws (i + 1) e e2 e3)
  have q1 : ((i + 1 : Nat) : Int) = (i : Int) + 1 := rfl
  rw [q1] at c
  have h3 : rd3 f ws (i + 1) = none ∨ ∃ x y z c, rd3 f ws (i + 1) = some ([x, y, z], c) := by
    unfold rd3
    split
    · split
      · split
        · exact .inr ⟨_, _, _, _, rfl⟩
        · exact .inl rfl
      · exact .inl rfl
    · exact .inl rfl
  rcases h3 with q | ⟨x, y, z, a, q⟩
  · rw [q] at c ⊢
    simp only [repP] at c
    simp [rest13, sy_13, sl, c_SIN, e1, e4, c, repR]
  · rw [q] at c ⊢
    simp only [repP, List.map] at c
    simp [rest13, sy_13, sl, c_SIN, e1, e4, c, repR, z_bin_addT, Xp.d]
end
theorem getD_some {ws : List Str} {i : Nat} {w : Str} (h : ws.getD i "" = w) (hw : w ≠ "") : ws[i]? = some w := by
  cases q : ws[i]? with
  | none => simp [List.getD, q] at h; exact absurd h.symm hw
  | some v => simp [List.getD, q] at h; rw [h]
theorem r_read : ∀ (f k : Nat) (ws : List Str) (i : Nat), 2 * f + 1 ≤ k → ws.length ≤ i + f → RdOk k f ws i
  | 0, k, ws, i, hk, hl => by
    unfold RdOk
    rw [rd_start (by omega)]
    have h2 : ws.getD i "" = "" := by simp [List.getD, List.getElem?_eq_none (show ws.length ≤ i by omega)]
    rw [h2]
    exact rs_none _ ws i _ "" (by simp [SINGLE]) (by simp) (by simp) (by simp) (by simp)
  | f + 1, k, ws, i, hk, hl => by
    unfold RdOk
    rw [rd_start (by omega)]
    show retB true 0 (exs (gxOf PZ (k - 1)) rest13 (sl ws i (ws.getD i "") (ws.getD (i + 1) "")) []) = _
    unfold rdW
    generalize hw : ws.getD i "" = w
    generalize hb : ws.getD (i + 1) "" = b
    cases q1 : lfOf w with
    | some l =>
      rw [lfOf_some q1]
      exact rs_leaf _ ws i b l
    | none =>
      have n1 := lfOf_mem q1
      show _ = Res.ok (W.c (repR (match (if w = "count" then dgOf b else none) with
        | some n => _
        | none => _))) []
      cases q2 : (if w = "count" then dgOf b else none) with
      | some n =>
        split at q2
        · rename_i hc
          rw [hc, dgOf_some q2]
          exact rs_cnt _ ws i n
        · cases q2
      | none =>
        have n2 : w = "count" → b ∉ DIGS := by
          intro hc
          rw [if_pos hc] at q2
          exact dgOf_mem q2
        show _ = Res.ok (W.c (repR (if w = "ask" then _ else _))) []
        by_cases h3 : w = "ask"
        · rw [if_pos h3]
          rw [h3] at hw ⊢
          exact rs_ask _ ws i b (getD_some hw (by simp))
        · rw [if_neg h3]
          by_cases h4 : w = "not"
          · rw [if_pos h4, h4]
            exact rs_not ws i b f (by omega) (r_read f (k - 1 - 1) ws (i + 1) (by omega) (by omega))
          · rw [if_neg h4]
            by_cases h5 : w = "if"
            · rw [if_pos h5, h5, rs_if ws i b f (by omega) (r_read f (k - 1 - 1) ws (i + 1) (by omega) (by omega)) (fun x a q => r_read f (k - 1 - 1) ws a (by omega) (by have := rd_lt q; omega)) (fun x a y b q q2 => r_read f (k - 1 - 1) ws b (by omega) (by have := rd_lt q; have := rd_lt q2; omega))]
              unfold rd3
              cases t1 : rdW f ws (i + 1) with
              | none => rfl
              | some p =>
                obtain ⟨x, a⟩ := p
                show Res.ok (W.c (repR (match (match rdW f ws a with
                  | some (y, b) => (match rdW f ws b with
                    | some (z, c) => some ([x, y, z], c)
                    | none => none)
                  | none => none) with
                  | some ([x, y, z], c) => some (.ife x y z, c)
                  | _ => none))) [] = Res.ok (W.c (repR (match rdW f ws a with
                  | some (y, b) => (match rdW f ws b with
                    | some (z, c) => some (.ife x y z, c)
                    | none => none)
                  | none => none))) []
                cases t2 : rdW f ws a with
                | none => rfl
                | some p2 =>
                  obtain ⟨y, b2⟩ := p2
                  show Res.ok (W.c (repR (match (match rdW f ws b2 with
                    | some (z, c) => some ([x, y, z], c)
                    | none => none) with
                    | some ([x, y, z], c) => some (.ife x y z, c)
                    | _ => none))) [] = Res.ok (W.c (repR (match rdW f ws b2 with
                    | some (z, c) => some (.ife x y z, c)
                    | none => none))) []
                  cases t3 : rdW f ws b2 with
                  | none => rfl
                  | some p3 => rfl
            · rw [if_neg h5]
              exact rs_none _ ws i b w n1 n2 h3 h4 h5
end B

set_option linter.all false
set_option maxRecDepth 100000
/-! What the parser reads. Own work. -/
namespace B
open PySem (Str)
/-- asks that are as long as they must be -/
def askFull : List Str → Bool
  | [] => false
  | o :: r => if o ∈ TWO then decide (r.length = 2) else decide (r.length = 1)
def Xp.full : Xp → Bool
  | .ask ws => askFull ws
  | .not_ a => a.full
  | .ife a b c => a.full && b.full && c.full
  | _ => true
theorem drop_cons {ws : List Str} {i : Nat} {w : Str} {t : List Str} (h : ws.drop i = w :: t) : ws.getD i "" = w ∧ ws.drop (i + 1) = t := by
  constructor
  · have : (ws.drop i)[0]? = some w := by rw [h]; rfl
    rw [List.getElem?_drop] at this
    simp only [Nat.add_zero] at this
    simp [List.getD, this]
  · have : ws.drop (i + 1) = (ws.drop i).drop 1 := by rw [List.drop_drop]
    rw [this, h]
    rfl
theorem rdW_leaf {f : Nat} {ws : List Str} {i : Nat} {l : Lf} (h : ws.getD i "" = l.w) : rdW (f + 1) ws i = some (.leaf l, i + 1) := by
  unfold rdW
  rw [h, lfOf_w]
theorem rdW_cnt {f : Nat} {ws : List Str} {i : Nat} {n : Fin 5} (h : ws.getD i "" = "count") (h2 : ws.getD (i + 1) "" = dig n) : rdW (f + 1) ws i = some (.cnt n, i + 2) := by
  unfold rdW
  rw [h, h2, dgOf_w]
  simp [lfOf]
theorem rdW_ask {f : Nat} {ws : List Str} {i : Nat} (h : ws.getD i "" = "ask") : rdW (f + 1) ws i = (if ws.getD (i + 1) "" ∈ TWO then some (.ask ((ws.take (i + 4)).drop (i + 1)), i + 4) else some (.ask ((ws.take (i + 3)).drop (i + 1)), i + 3)) := by
  conv => lhs; unfold rdW
  rw [h]
  simp [lfOf]
theorem rdW_not {f : Nat} {ws : List Str} {i : Nat} (h : ws.getD i "" = "not") : rdW (f + 1) ws i = (match rdW f ws (i + 1) with
    | some (x, a) => some (.not_ x, a)
    | none => none) := by
  conv => lhs; unfold rdW
  rw [h]
  simp [lfOf]
  all_goals rfl
theorem rdW_if {f : Nat} {ws : List Str} {i : Nat} (h : ws.getD i "" = "if") : rdW (f + 1) ws i = (match rdW f ws (i + 1) with
          | some (x, a) => (match rdW f ws a with
            | some (y, b) => (match rdW f ws b with
              | some (z, c) => some (.ife x y z, c)
              | none => none)
            | none => none)
          | none => none) := by
  conv => lhs; unfold rdW
  rw [h]
  simp [lfOf]
  all_goals rfl
theorem rdW_full : ∀ (x : Xp) (f : Nat) (ws : List Str) (i : Nat) (r : List Str), x.full = true → x.dep ≤ f → ws.drop i = x.words ++ r → rdW f ws i = some (x, i + x.words.length)
  | .leaf l, f, ws, i, r, hf, hd, h => by
    obtain ⟨f, rfl⟩ : ∃ g, f = g + 1 := ⟨f - 1, by have : (Xp.leaf l).dep = 1 := rfl; omega⟩
    exact rdW_leaf (drop_cons (t := r) h).1
  | .cnt n, f, ws, i, r, hf, hd, h => by
    obtain ⟨f, rfl⟩ : ∃ g, f = g + 1 := ⟨f - 1, by have : (Xp.cnt n).dep = 1 := rfl; omega⟩
    obtain ⟨h1, h2⟩ := drop_cons (t := dig n :: r) h
    exact rdW_cnt h1 (drop_cons (t := r) h2).1
  | .ask us, f, ws, i, r, hf, hd, h => by
    obtain ⟨f, rfl⟩ : ∃ g, f = g + 1 := ⟨f - 1, by have : (Xp.ask us).dep = 1 := rfl; omega⟩
    obtain ⟨h1, h2⟩ := drop_cons (t := us ++ r) h
    rw [rdW_ask h1]
    cases us with
    | nil => cases hf
    | cons o q =>
      obtain ⟨h3, _⟩ := drop_cons (t := q ++ r) h2
      have hf' : (if o ∈ TWO then decide (q.length = 2) else decide (q.length = 1)) = true := hf
      rw [h3]
      by_cases ho : o ∈ TWO
      · rw [if_pos ho] at hf' ⊢
        have hq : q.length = 2 := of_decide_eq_true hf'
        rw [List.drop_take, h2, show i + 4 - (i + 1) = (o :: q).length by simp; omega, List.take_left']
        · show some (Xp.ask (o :: q), i + 4) = some (Xp.ask (o :: q), i + (q.length + 1 + 1))
          rw [hq]
        · rfl
      · rw [if_neg ho] at hf' ⊢
        have hq : q.length = 1 := of_decide_eq_true hf'
        rw [List.drop_take, h2, show i + 3 - (i + 1) = (o :: q).length by simp; omega, List.take_left']
        · show some (Xp.ask (o :: q), i + 3) = some (Xp.ask (o :: q), i + (q.length + 1 + 1))
          rw [hq]
        · rfl
  | .not_ a, f, ws, i, r, hf, hd, h => by
    have hd' : a.dep + 1 ≤ f := hd
    obtain ⟨f, rfl⟩ : ∃ g, f = g + 1 := ⟨f - 1, by omega⟩
    obtain ⟨h1, h2⟩ := drop_cons (t := a.words ++ r) h
    rw [rdW_not h1, rdW_full a f ws (i + 1) r hf (by omega) h2]
    show some (Xp.not_ a, i + 1 + a.words.length) = some (Xp.not_ a, i + (a.words.length + 1))
    rw [show i + 1 + a.words.length = i + (a.words.length + 1) by omega]
  | .ife a b c, f, ws, i, r, hf, hd, h => by
    have hd' : max a.dep (max b.dep c.dep) + 1 ≤ f := hd
    have hf' : (a.full && b.full && c.full) = true := hf
    simp only [Bool.and_eq_true] at hf'
    obtain ⟨f, rfl⟩ : ∃ g, f = g + 1 := ⟨f - 1, by omega⟩
    obtain ⟨h1, h2⟩ := drop_cons (t := a.words ++ b.words ++ c.words ++ r) h
    rw [List.append_assoc, List.append_assoc] at h2
    have e1 := rdW_full a f ws (i + 1) _ hf'.1.1 (by omega) h2
    have h3 : ws.drop (i + 1 + a.words.length) = b.words ++ (c.words ++ r) := by
      rw [← List.drop_drop, h2, List.drop_left']
      rfl
    have e2 := rdW_full b f ws _ _ hf'.1.2 (by omega) h3
    have h4 : ws.drop (i + 1 + a.words.length + b.words.length) = c.words ++ r := by
      rw [← List.drop_drop, h3, List.drop_left']
      rfl
    have e3 := rdW_full c f ws _ _ hf'.2 (by omega) h4
    rw [rdW_if h1, e1]
    show (match rdW f ws (i + 1 + a.words.length) with
            | some (y, b) => (match rdW f ws b with
              | some (z, c) => some (Xp.ife a y z, c)
              | none => none)
            | none => none) = _
    rw [e2]
    show (match rdW f ws (i + 1 + a.words.length + b.words.length) with
              | some (z, c) => some (Xp.ife a b z, c)
              | none => none) = _
    rw [e3]
    show some (Xp.ife a b c, i + 1 + a.words.length + b.words.length + c.words.length) = some (Xp.ife a b c, i + ((a.words ++ b.words ++ c.words).length + 1))
    rw [List.length_append, List.length_append, show i + 1 + a.words.length + b.words.length + c.words.length = i + (a.words.length + b.words.length + c.words.length + 1) by omega]
theorem take_one {ws : List Str} {i : Nat} {w : Str} (h : ws.getD i "" = w) (hw : i < ws.length) : ws.take (i + 1) = ws.take i ++ [w] := by
  have : ws[i]? = some w := by
    rw [List.getElem?_eq_getElem hw]
    simp [List.getD, List.getElem?_eq_getElem hw] at h
    rw [h]
  rw [List.take_add_one, this]
  rfl
/-- what is read are the words between -/
theorem rdW_words : ∀ {f : Nat} {ws : List Str} {i : Nat} {x : Xp} {a : Nat}, rdW f ws i = some (x, a) → a ≤ ws.length → ws.take a = ws.take i ++ x.words
  | 0, ws, i, x, a, e, _ => by cases e
  | f + 1, ws, i, x, a, e, ha => by
    have hlt := rd_lt e
    unfold rdW at e
    split at e
    · rename_i l q
      cases e
      rw [take_one (lfOf_some q) (by omega)]
      rfl
    · split at e
      · rename_i n q
        cases e
        split at q
        · rename_i hc
          rw [take_one (dgOf_some q) (by omega), take_one hc (by omega), List.append_assoc]
          rfl
        · cases q
      · split at e
        · rename_i hc
          have fin : ∀ j, i + 1 ≤ j → j ≤ ws.length → ws.take j = ws.take i ++ (("ask" : Str) :: (ws.take j).drop (i + 1)) := by
            intro j h1 h2
            have : ws.take j = (ws.take j).take (i + 1) ++ (ws.take j).drop (i + 1) := (List.take_append_drop _ _).symm
            rw [List.take_take, show min (i + 1) j = i + 1 by omega, take_one hc (by omega), List.append_assoc] at this
            exact this
          split at e <;> (cases e; exact fin _ (by omega) ha)
        · split at e
          · rename_i hc
            split at e
            · rename_i q
              cases e
              rw [rdW_words q ha, take_one hc (by have := rd_lt q; omega), List.append_assoc]
              rfl
            · cases e
          · split at e
            · rename_i hc
              split at e
              · rename_i q
                split at e
                · rename_i q2
                  split at e
                  · rename_i q3
                    cases e
                    have l1 := rd_lt q
                    have l2 := rd_lt q2
                    have l3 := rd_lt q3
                    rw [rdW_words q3 ha, rdW_words q2 (by omega), rdW_words q (by omega), take_one hc (by omega)]
                    simp [Xp.words]
                  · cases e
                · cases e
              · cases e
            · cases e
theorem rdW_dep : ∀ {f : Nat} {ws : List Str} {i : Nat} {x : Xp} {a : Nat}, rdW f ws i = some (x, a) → x.dep ≤ f ∧ x.short = true
  | 0, ws, i, x, a, e => by cases e
  | f + 1, ws, i, x, a, e => by
    unfold rdW at e
    split at e
    · cases e
      exact ⟨by show 1 ≤ f + 1; omega, rfl⟩
    · split at e
      · cases e
        exact ⟨by show 1 ≤ f + 1; omega, rfl⟩
      · split at e
        · split at e <;> (cases e; exact ⟨by show 1 ≤ f + 1; omega, by show decide _ = true; simp; omega⟩)
        · split at e
          · split at e
            · rename_i q
              cases e
              obtain ⟨h1, h2⟩ := rdW_dep q
              exact ⟨by show Xp.dep _ + 1 ≤ f + 1; omega, h2⟩
            · cases e
          · split at e
            · split at e
              · rename_i q
                split at e
                · rename_i q2
                  split at e
                  · rename_i q3
                    cases e
                    obtain ⟨h1, h2⟩ := rdW_dep q
                    obtain ⟨h3, h4⟩ := rdW_dep q2
                    obtain ⟨h5, h6⟩ := rdW_dep q3
                    exact ⟨by show max _ (max _ _) + 1 ≤ f + 1; omega, by simp [Xp.short, h2, h4, h6]⟩
                  · cases e
                · cases e
              · cases e
            · cases e
end B

set_option linter.all false
set_option maxRecDepth 100000
/-! Bodies as texts: joined, split, read. Own work. -/
namespace B
open PySem (Str)
theorem sz_leB {n : Nat} (h : n ≤ 100000) : n ≤ sizeMax := Nat.le_trans h (by decide)
def spc : Str := ⟨#[32]⟩
theorem spc_eq : (" " : Str) = spc := rfl
def splitS (s : Str) : List Str := (splitL 32 s.cps.toList).map fun l => ⟨l.toArray⟩
def joinS (ws : List Str) : Str := Str.join spc ws
/-- without a space -/
def free (w : Str) : Prop := 32 ∉ w.cps.toList
instance (w : Str) : Decidable (free w) := by unfold free; exact inferInstance
theorem splitS_join {ws : List Str} (hn : ws ≠ []) (hf : ∀ w ∈ ws, free w) : splitS (joinS ws) = ws := by
  unfold splitS joinS spc
  rw [splitL_join 32 ws hn hf, List.map_map]
  have : ∀ w : Str, ((fun l : List Nat => (⟨l.toArray⟩ : Str)) ∘ fun y : Str => y.cps.toList) w = w := fun w => rfl
  simp [Function.comp_def]
theorem strs_map : ∀ ws : List Str, strsD (ws.map .str) = some ws
  | [] => rfl
  | w :: r => by
    show (match strsD (r.map .str) with
      | some l => some (w :: l)
      | none => none) = _
    rw [strs_map r]
theorem sum_len : ∀ {ws : List Str}, (∀ w ∈ ws, w.length ≤ 16) → (ws.map (·.length)).sum ≤ 16 * ws.length
  | [], _ => Nat.le_refl _
  | w :: r, h => by
    have h1 := h w List.mem_cons_self
    have h2 := sum_len (ws := r) fun x hx => h x (List.mem_cons_of_mem _ hx)
    simp only [List.map_cons, List.sum_cons, List.length_cons]
    omega
theorem z_join {ws : List Str} (hl : ws.length ≤ 1300) (h : ∀ w ∈ ws, w.length ≤ 16) : bmR .join (.str " ") [.lst (ws.map .str)] = some (.str (joinS ws)) := by
  show joinD " " (ws.map .str) = _
  unfold joinD
  rw [strs_map]
  have h2 := sum_len h
  have h3 : (" " : Str).length = 1 := rfl
  show (match decide ((ws.map (·.length)).sum + ws.length * (" " : Str).length ≤ sizeMax) with
    | true => some (D.str (Str.join " " ws))
    | false => none) = _
  rw [h3, decide_eq_true (sz_leB (by omega))]
  rfl
theorem z_split {s : Str} (hl : s.length + 2 ≤ sizeMax) : bmR .split (.str s) [.str " "] = some (.lst ((splitS s).map .str)) := by
  have e : (" " : Str).cps.toList = [32] := rfl
  show (match (" " : Str).cps.toList with
    | [c] => match decide (s.length + 2 ≤ sizeMax) with
      | true => some (D.lst ((splitL c s.cps.toList).map fun (l : List Nat) => D.str ⟨l.toArray⟩))
      | false => none
    | _ => none) = _
  rw [e]
  show (match decide (s.length + 2 ≤ sizeMax) with
      | true => some (D.lst ((splitL 32 s.cps.toList).map fun (l : List Nat) => D.str ⟨l.toArray⟩))
      | false => none) = _
  rw [decide_eq_true hl]
  simp [splitS, Function.comp_def]
theorem app_len (a b : Str) : (a ++ b).length = a.length + b.length := by
  show (a.cps ++ b.cps).size = a.cps.size + b.cps.size
  simp
theorem join_cons (w v : Str) (r : List Str) : joinS (w :: v :: r) = w ++ spc ++ joinS (v :: r) := rfl
theorem join_len : ∀ {ws : List Str}, (∀ w ∈ ws, w.length ≤ 16) → (joinS ws).length ≤ 17 * ws.length
  | [], _ => Nat.le_refl _
  | [w], h => by
    have := h w List.mem_cons_self
    show w.length ≤ 17 * 1
    omega
  | w :: v :: r, h => by
    have h1 := h w List.mem_cons_self
    have h2 := join_len (ws := v :: r) fun x hx => h x (List.mem_cons_of_mem _ hx)
    rw [join_cons, app_len, app_len]
    have : spc.length = 1 := rfl
    simp only [List.length_cons] at h2 ⊢
    omega
/-- what a text tells as a body of a method -/
def readB (m : Str) (s : Str) : Option Xp := if (splitS s).length ≤ 64 then match rdW 64 (splitS s) 0 with
    | some (x, a) => if a = (splitS s).length then (match lay m x 1 true 0 with
      | .ok _ => some x
      | .error _ => none) else none
    | none => none
  else none
section
variable {k : Nat} {m : Str}
theorem xs22 : PZ.xs 2 2 = some true := rfl
theorem FC_in {m : Str} (hm : m ∈ FC) : inL [.str "flag", .str "count"] (.str (kindS m)) = some true := by
  have := inL_strs (kindS m) ["flag", "count"]
  simp only [List.map] at this
  rw [this]
  rcases FC_kind m hm with h | h <;> simp [h]
theorem r_read_body (hk : 140 ≤ k) (hm : m ∈ FC) (s : Str) (hs : s.length + 2 ≤ sizeMax) : match readB m s with
    | some x => ∃ ns, run PZ k 14 [.c (.str m), .c (.str s)] [] = .ok (.c (bodyD m x ns)) []
    | none => run PZ k 14 [.c (.str m), .c (.str s)] [] = .err 3 .non [] := by
  have hM := FC_METH m hm
  have e1 := cl_is_method (k := k - 1) (by omega) (.str m) rfl []
  have h1 : isMethod (.str m) = true := by simp [isMethod, hM]
  rw [h1] at e1
  have h2 := FC_in hm
  have hsp := z_split hs
  unfold readB
  by_cases hl : (splitS s).length ≤ 64
  · rw [if_pos hl]
    have hl' : ((splitS s).length : Int) ≤ 64 := by omega
    have c := callF_pure (R := run PZ (k - 1)) (h := []) rfl (r_read 64 (k - 1) (splitS s) 0 (by omega) (by omega))
    have z0 : (((0 : Nat) : Int)) = 0 := rfl
    rw [z0] at c
    cases q : rdW 64 (splitS s) 0 with
    | none =>
      rw [q] at c
      simp only [repR] at c
      show run PZ k 14 _ [] = _
      rw [run_go (by omega) (F := F_14) rfl _ _ rfl]
      simp [F_14, sy_14, e1, c_KINDL, getK_strs, kind_some m hM, h2, hsp, c_MOST_WORDS, hl', c]
    | some p =>
      obtain ⟨x, a⟩ := p
      rw [q] at c
      simp only [repR] at c
      show (match (if a = (splitS s).length then (match lay m x 1 true 0 with
        | .ok _ => some x
        | .error _ => none) else none) with
        | some x => ∃ ns, run PZ k 14 [.c (.str m), .c (.str s)] [] = .ok (.c (bodyD m x ns)) []
        | none => run PZ k 14 [.c (.str m), .c (.str s)] [] = .err 3 .non [])
      by_cases ha : a = (splitS s).length
      · rw [if_pos ha]
        obtain ⟨hd, hsh⟩ := rdW_dep q
        have mk := mk_body (k := k - 1) x (by omega) hm hsh []
        cases ql : lay m x 1 true 0 with
        | ok n =>
          rw [ql] at mk
          obtain ⟨ns, mk⟩ := mk
          refine ⟨ns, ?_⟩
          simp at mk
          rw [run_go (by omega) (F := F_14) rfl _ _ rfl]
          simp [F_14, sy_14, e1, c_KINDL, getK_strs, kind_some m hM, h2, hsp, c_MOST_WORDS, hl', c, ha, mk]
        | error p =>
          rw [ql] at mk
          show run PZ k 14 _ [] = _
          simp at mk
          rw [run_go (by omega) (F := F_14) rfl _ _ rfl]
          simp [F_14, sy_14, e1, c_KINDL, getK_strs, kind_some m hM, h2, hsp, c_MOST_WORDS, hl', c, ha, mk, xs22]
      · rw [if_neg ha]
        have ha' : ¬ ((a : Int) = ((splitS s).length : Int)) := by omega
        show run PZ k 14 _ [] = _
        rw [run_go (by omega) (F := F_14) rfl _ _ rfl]
        simp [F_14, sy_14, e1, c_KINDL, getK_strs, kind_some m hM, h2, hsp, c_MOST_WORDS, hl', c, ha']
  · rw [if_neg hl]
    have hl' : ¬ ((splitS s).length : Int) ≤ 64 := by omega
    show run PZ k 14 _ [] = _
    rw [run_go (by omega) (F := F_14) rfl _ _ rfl]
    simp [F_14, sy_14, e1, c_KINDL, getK_strs, kind_some m hM, h2, hsp, c_MOST_WORDS, hl']
/-- a value that is no text -/
def noText : D → Bool
  | .str _ => false
  | .scr _ => false
  | .ins _ _ => false
  | _ => true
theorem r_read_bodyN (hk : 140 ≤ k) (hm : m ∈ FC) (d : D) (hd : noText d = true) : run PZ k 14 [.c (.str m), .c d] [] = .err 3 .non [] := by
  have hM := FC_METH m hm
  have e1 := cl_is_method (k := k - 1) (by omega) (.str m) rfl []
  have h1 : isMethod (.str m) = true := by simp [isMethod, hM]
  rw [h1] at e1
  have h2 := FC_in hm
  have c := callF_pure (R := run PZ (k - 1)) (h := []) rfl (r_read 64 (k - 1) [] 0 (by omega) (by simp))
  have z0 : (((0 : Nat) : Int)) = 0 := rfl
  have q : rdW 64 [] 0 = none := by simp [rdW, lfOf]
  rw [z0, q] at c
  simp only [repR, List.map_nil] at c
  rw [run_go (by omega) (F := F_14) rfl _ _ rfl]
  cases d <;> first | (simp [noText] at hd; done) | simp [F_14, sy_14, e1, c_KINDL, getK_strs, kind_some m hM, h2, c_MOST_WORDS, c]
/-- a method that is none, or none of a flag or count -/
def badM : D → Bool
  | .str s => decide (s ∉ FC)
  | .scr _ => false
  | .ins _ _ => false
  | _ => true
theorem r_read_bodyM (hk : 140 ≤ k) (d t : D) (hd : badM d = true) : run PZ k 14 [.c d, .c t] [] = .err 1 d [] := by
  have hp : plain d = true := by cases d <;> first | rfl | (simp [badM] at hd; done)
  have e1 := cl_is_method (k := k - 1) (by omega) d hp []
  rw [run_go (by omega) (F := F_14) rfl _ _ rfl]
  cases hM : isMethod d with
  | false =>
    rw [hM] at e1
    simp [F_14, sy_14, e1]
  | true =>
    rw [hM] at e1
    obtain ⟨s, rfl⟩ : ∃ s, d = .str s := by
      cases d with
      | str s => exact ⟨s, rfl⟩
      | _ => cases hM
    have hM' : s ∈ METH := of_decide_eq_true hM
    have h2 : inL [.str "flag", .str "count"] (.str (kindS s)) = some false := by
      have := inL_strs (kindS s) ["flag", "count"]
      simp only [List.map] at this
      rw [this]
      have := nFC_kind s hM' (of_decide_eq_true hd)
      simp only [not_or] at this
      simp [this.1, this.2]
    simp [F_14, sy_14, e1, c_KINDL, getK_strs, kind_some s hM', h2]
end
end B

set_option linter.all false
set_option maxRecDepth 100000
/-! The law's pool and what it picks. Own work. -/
namespace B
open PySem (Str)
/-- a pool as it stands -/
def PO (o : O) : Prop := ∃ a b : Int, o = .lst [.int a, .int b] ∧ 0 ≤ a ∧ 0 ≤ b ∧ b < 2147483647
theorem PO_loc {o : O} (h : PO o) : locO o = [] := by obtain ⟨a, b, rfl, _⟩ := h; rfl
theorem y_ix0 (xs : List D) (r : A) (b : D) : ixW (.l 0) (.c b) (.lst xs :: r) = ofOpt (getI (.lst xs) b) fun d => .ok (.c d) (.lst xs :: r) := rfl
theorem ixI20 : ixI 2 0 = some 0 := rfl
theorem ixI21 : ixI 2 1 = some 1 := rfl
theorem z_get_sn (xs : List D) (i : Nat) (x : D) (e : xs[i]? = some x) : getI (.scr xs) (.int ((i : Nat) : Int)) = some x := by
  have hi : i < xs.length := (List.getElem?_eq_some_iff.mp e).1
  simp [getI, ixI_nat hi, e]
theorem small_of {i : Int} (h0 : 0 ≤ i) (h1 : i < 4611686014132420609) : small i = true := by
  simp only [small, decide_eq_true_eq]
  omega
section
variable {k : Nat}
theorem pow18 : bin .pow (.int 10) (.int 18) = some (.int 1000000000000000000) := rfl
theorem gc_l0 (xs : List D) : gc 0 (.l 0) [.lst xs] = .ok (.l 0) [.lst xs] := rfl
theorem ret0_l (xs : List D) : retB false 0 (.rt (.l 0) [.lst xs]) = .ok (.l 0) [.lst xs] := rfl
theorem m48 (j : Int) : bin .mul (.int j) (.int 48271) = some (.int (j * 48271)) := z_bin_mul _ _ (.inr rfl)
theorem m79 (j : Int) : bin .mul (.int 7919) (.int j) = some (.int (7919 * j)) := z_bin_mul _ _ (.inl rfl)
theorem md29 (j : Int) : bin .mod (.int j) (.int 2147483629) = some (.int (j % 2147483629)) := z_bin_mod _ _ (by decide)
theorem md47 (j : Int) : bin .mod (.int j) (.int 2147483647) = some (.int (j % 2147483647)) := z_bin_mod _ _ (by decide)
theorem mul_b (s : Int) (b : Bool) : bin .mul (.int s) (.int (if b = true then 1 else 0)) = some (.int (s * (if b = true then 1 else 0))) := z_bin_mul _ _ (.inr (by cases b <;> rfl))
theorem md47_lt (j : Int) : j % 2147483647 < 2147483647 := Int.emod_lt_of_pos _ (by decide)
theorem md47_ge (j : Int) : 0 ≤ j % 2147483647 := Int.emod_nonneg _ (by decide)
theorem pool_fin (hk : 1 ≤ k) (ns : List Int) (i c s big t : Int) (bb : Bool) (hmax : bi2 .max2 (.int c) (.int (-1 - c)) = some (.int s)) (hbig : bin .pow (.int 10) (.int 18) = some (.int big)) (hb : decide (big ≤ s) = bb) (ht : s * (if bb = true then 1 else 0) = t) : retB false 0 (exs (gxOf PZ (k - 1)) (sy_15.drop 2) [some (.c (.scr (ns.map .int))), some (.c (.int i)), some (.c (.int c)), none] []) = .ok (.l 0) [.lst [.int t, .int ((s % 2147483629 + 7919 * i + 104729) * 48271 % 2147483647)]] := by
  simp only [sy_15, List.drop, z_exs, z_set, z_bi, z_evs_cons, z_evs_nil, z_var, z_op, z_neg, z_k, z_bind_ok, List.getElem?_cons_zero, List.getElem?_cons_succ, Option.bind, id, z_ofOpt_some, z_cmp_int, z_opW_sub, z_bin_sub, z_looks, z_looks_nil, Option.map, z_bi2, z_bi1, hmax, z_born_f, z_then_ok, z_nm, z_ofOptS_some, z_at_nx, List.set, z_ret, z_lst, z_opW_mul, z_opW_pow, hbig, z_opW_ge, z_bin_ge, hb, z_int_b, mul_b, ht, z_opW_add, z_bin_add, z_opW_mod, md29, md47, m48, m79, z_int_i, z_freezes, z_freezes_nil, z_born_lst, z_at_rt, List.length_nil, List.nil_append, ret0_l]
theorem pool_e1 (ns : List Int) (i c : Int) (hi : i < ((ns.length : Nat) : Int)) (hg : getI (.scr (ns.map D.int)) (.int i) = some (.int c)) : exs (gxOf PZ (k - 1)) sy_15 [some (.c (.scr (ns.map .int))), some (.c (.int i)), none, none] [] = exs (gxOf PZ (k - 1)) (sy_15.drop 2) [some (.c (.scr (ns.map .int))), some (.c (.int i)), some (.c (.int c)), none] [] := by
  show exs (gxOf PZ (k - 1)) (.set (.nm 2) (.k (.int 0)) :: .ife (.op .lt (.var 1) (.bi false .len [.var 0])) [.set (.nm 2) (.ix (.var 0) (.var 1))] [] :: sy_15.drop 2) _ [] = _
  rw [z_exs, z_set, z_k, z_then_ok, z_nm, z_ofOptS_some, z_at_nx, z_exs]
  simp [hi, hg]
theorem pool_e2 (ns : List Int) (i : Int) (hi : ¬ i < ((ns.length : Nat) : Int)) : exs (gxOf PZ (k - 1)) sy_15 [some (.c (.scr (ns.map .int))), some (.c (.int i)), none, none] [] = exs (gxOf PZ (k - 1)) (sy_15.drop 2) [some (.c (.scr (ns.map .int))), some (.c (.int i)), some (.c (.int 0)), none] [] := by
  show exs (gxOf PZ (k - 1)) (.set (.nm 2) (.k (.int 0)) :: .ife (.op .lt (.var 1) (.bi false .len [.var 0])) [.set (.nm 2) (.ix (.var 0) (.var 1))] [] :: sy_15.drop 2) _ [] = _
  rw [z_exs, z_set, z_k, z_then_ok, z_nm, z_ofOptS_some, z_at_nx, z_exs]
  simp [hi]
theorem max_of (c : Int) : ∃ s, bi2 .max2 (.int c) (.int (-1 - c)) = some (.int s) ∧ 0 ≤ s := ⟨_, rfl, by split <;> omega⟩
theorem pool_go (hk : 1 ≤ k) (ns : List Int) (i : Int) : run PZ k 15 [.c (.scr (ns.map .int)), .c (.int i)] [] = retB false 0 (exs (gxOf PZ (k - 1)) sy_15 [some (.c (.scr (ns.map .int))), some (.c (.int i)), none, none] []) := run_go hk (F := F_15) rfl _ _ rfl
theorem pool_main (hk : 1 ≤ k) (ns : List Int) (i c : Int) (e : exs (gxOf PZ (k - 1)) sy_15 [some (.c (.scr (ns.map .int))), some (.c (.int i)), none, none] [] = exs (gxOf PZ (k - 1)) (sy_15.drop 2) [some (.c (.scr (ns.map .int))), some (.c (.int i)), some (.c (.int c)), none] []) : ∃ o, PO o ∧ run PZ k 15 [.c (.scr (ns.map .int)), .c (.int i)] [] = .ok (.l 0) [o] := by
  obtain ⟨s, hmax, hs0⟩ := max_of c
  obtain ⟨big, hbig⟩ : ∃ big, bin .pow (.int 10) (.int 18) = some (.int big) := ⟨_, pow18⟩
  rw [pool_go hk, e, pool_fin hk ns i c s big _ _ hmax hbig rfl rfl]
  refine ⟨_, ⟨_, _, rfl, ?_, md47_ge _, md47_lt _⟩, rfl⟩
  cases decide (big ≤ s)
  · simp
  · simpa using hs0
theorem r_pool (hk : 1 ≤ k) (ns : List Int) (i : Nat) : ∃ o, PO o ∧ run PZ k 15 [.c (.scr (ns.map .int)), .c (.int ((i : Nat) : Int))] [] = .ok (.l 0) [o] := by
  by_cases hi : i < ns.length
  · exact pool_main hk ns _ ns[i] (pool_e1 _ _ _ (by omega) (z_get_sn _ _ _ (by simp [List.getElem?_eq_getElem hi])))
  · exact pool_main hk ns _ 0 (pool_e2 _ _ (by omega))
theorem r_take (hk : 1 ≤ k) {o : O} (ho : PO o) {n : Int} (h1 : 1 ≤ n) (h2 : n ≤ 2000) : ∃ r o', PO o' ∧ 0 ≤ r ∧ r < n ∧ run PZ k 16 [.l 0, .c (.int n)] [o] = .ok (.c (.int r)) [o'] := by
  obtain ⟨a, b, rfl, ha, hb, hb2⟩ := ho
  have hmod : ∀ j : Int, bin .mod (.int j) (.int n) = some (.int (j % n)) := fun j => z_bin_mod _ _ (by omega)
  have hdiv : ∀ j : Int, bin .fdiv (.int j) (.int n) = some (.int (j / n)) := fun j => z_bin_fdiv _ _ (by omega) (by omega)
  by_cases h0 : 0 < a
  · refine ⟨a % n, .lst [.int (a / n), .int b], ⟨_, _, rfl, Int.ediv_nonneg ha (by omega), hb, hb2⟩, Int.emod_nonneg _ (by omega), Int.emod_lt_of_pos _ (by omega), ?_⟩
    rw [run_go hk (F := F_16) rfl _ _ rfl]
    simp [F_16, sy_16, y_ix0, h0, hmod, hdiv, ixI20]
  · generalize hq : (b * 48271 + 11) % 2147483647 = b'
    have hb' : 0 ≤ b' := by rw [← hq]; exact Int.emod_nonneg _ (by decide)
    have hb2' : b' < 2147483647 := by rw [← hq]; exact Int.emod_lt_of_pos _ (by decide)
    refine ⟨b' * b' % 2147483629 / 64 % n, .lst [.int a, .int b'], ⟨_, _, rfl, ha, hb', hb2'⟩, Int.emod_nonneg _ (by omega), Int.emod_lt_of_pos _ (by omega), ?_⟩
    have hm : ∀ j : Int, bin .mul (.int j) (.int 48271) = some (.int (j * 48271)) := fun j => z_bin_mul _ _ (.inr rfl)
    have hmod2 : ∀ j : Int, bin .mod (.int j) (.int 2147483647) = some (.int (j % 2147483647)) := fun j => z_bin_mod _ _ (by decide)
    have hmod3 : ∀ j : Int, bin .mod (.int j) (.int 2147483629) = some (.int (j % 2147483629)) := fun j => z_bin_mod _ _ (by decide)
    have hdiv2 : ∀ j : Int, bin .fdiv (.int j) (.int 64) = some (.int (j / 64)) := fun j => z_bin_fdiv _ _ (by decide) (by decide)
    have hmm : bin .mul (.int b') (.int b') = some (.int (b' * b')) := z_bin_mul _ _ (.inl (small_of hb' (by omega)))
    rw [run_go hk (F := F_16) rfl _ _ rfl]
    simp [F_16, sy_16, y_ix0, h0, hmod, hmod2, hmod3, hdiv2, hm, hq, hmm, ixI21]
theorem take_call (hk : 1 ≤ k) {o : O} (ho : PO o) {n : Int} (h1 : 1 ≤ n) (h2 : n ≤ 2000) : ∃ r o', PO o' ∧ 0 ≤ r ∧ r < n ∧ ∀ rest, callF (run PZ k) 16 [.l 0, .c (.int n)] (o :: rest) = .ok (.c (.int r)) (o' :: rest) := by
  obtain ⟨r, o', hp, h3, h4, e⟩ := r_take hk ho h1 h2
  exact ⟨r, o', hp, h3, h4, fun rest => callF_loc (n := 0) rfl rfl (PO_loc ho) rfl e (PO_loc hp)⟩
theorem one_call (hk : 2 ≤ k) {o : O} (ho : PO o) {items : List D} (hn : items ≠ []) (hl : items.length ≤ 100) : ∃ d o', d ∈ items ∧ PO o' ∧ ∀ rest, callF (run PZ k) 17 [.l 0, .c (.lst items)] (o :: rest) = .ok (.c d) (o' :: rest) := by
  have hpos : 1 ≤ items.length := by cases items <;> first | exact absurd rfl hn | simp
  obtain ⟨r, o', hp, h3, h4, e⟩ := take_call (k := k - 1) (by omega) ho (n := ((items.length : Nat) : Int)) (by omega) (by omega)
  obtain ⟨r, rfl⟩ : ∃ j : Nat, r = j := ⟨r.toNat, by omega⟩
  have hr : r < items.length := by omega
  have hg : getI (.lst items) (.int ((r : Nat) : Int)) = some items[r] := z_get_ln _ _ _ (List.getElem?_eq_getElem hr)
  refine ⟨items[r], o', List.getElem_mem hr, hp, fun rest => ?_⟩
  have e' := e []
  have q : run PZ k 17 [.l 0, .c (.lst items)] [o] = .ok (.c items[r]) [o'] := by
    rw [run_go (by omega) (F := F_17) rfl _ _ rfl]
    simp [F_17, sy_17, e', hg]
    exact ret1c (PO_loc hp)
  exact callF_loc (n := 0) rfl rfl (PO_loc ho) rfl q (PO_loc hp)
end
end B

set_option linter.all false
set_option maxRecDepth 100000
/-! What the law picks: leaves, asks, expressions. Own work. -/
namespace B
open PySem (Str)
/-- a whole expression that a method may hold -/
def allOk (m : Str) : Bool → Xp → Bool
  | t, .leaf l => leafOk m t l
  | _, .cnt _ => true
  | _, .ask ws => askOk m ws && askFull ws
  | _, .not_ a => allOk m false a
  | t, .ife a b c => allOk m false a && allOk m t b && allOk m t c
theorem FC_TAK : ∀ m ∈ FC, m ∉ (["truth", "length", "hash"] : List Str) → m ∈ TAKL := by decide +kernel
theorem LB_DEC : ∀ m ∈ (["like", "unlike", "before", "behind"] : List Str), m ∈ DECL := by decide +kernel
theorem one_x (hk : 2 ≤ k) {o : O} (ho : PO o) {xs : List Xp} {p : Xp → Prop} (hn : xs ≠ []) (hl : xs.length ≤ 100) (hp : ∀ x ∈ xs, p x) : ∃ x o', p x ∧ PO o' ∧ ∀ rest, callF (run PZ k) 17 [.l 0, .c (.lst (xs.map Xp.d))] (o :: rest) = .ok (.c x.d) (o' :: rest) := by
  obtain ⟨d, o', hd, hp', e⟩ := one_call hk ho (items := xs.map Xp.d) (by simpa using hn) (by simpa using hl)
  obtain ⟨x, hx, rfl⟩ := List.mem_map.mp hd
  exact ⟨x, o', hp x hx, hp', e⟩
theorem one_s (hk : 2 ≤ k) {o : O} (ho : PO o) (ws : List Str) (hn : ws ≠ []) (hl : ws.length ≤ 100) : ∃ w o', w ∈ ws ∧ PO o' ∧ ∀ rest, callF (run PZ k) 17 [.l 0, .c (.lst (ws.map .str))] (o :: rest) = .ok (.c (.str w)) (o' :: rest) := by
  obtain ⟨d, o', hd, hp', e⟩ := one_call hk ho (items := ws.map .str) (by simpa using hn) (by simpa using hl)
  obtain ⟨x, hx, rfl⟩ := List.mem_map.mp hd
  exact ⟨x, o', hx, hp', e⟩
section
variable {k : Nat} {m : Str}
/-- what is picked -/
def Pick (m : Str) (t : Bool) (x : Xp) : Prop := allOk m t x = true ∧ x.dep = 1 ∧ x.size = 1
def leavesA (n : Fin 5) : List Xp := [.leaf .yes, .leaf .no, .cnt n, .leaf .rai]
def leavesB (n : Fin 5) : List Xp := [.cnt n, .cnt 0, .leaf .no, .leaf .rai]
theorem lA_d (n : Fin 5) : (leavesA n).map Xp.d = [.tup [.str "yes"], .tup [.str "no"], .tup [.str "count", .int ((n.val : Nat) : Int)], .tup [.str "raise"]] := rfl
theorem lB_d (n : Fin 5) : (leavesB n).map Xp.d = [.tup [.str "count", .int ((n.val : Nat) : Int)], .tup [.str "count", .int 0], .tup [.str "no"], .tup [.str "raise"]] := rfl
theorem lA_ok (n : Fin 5) (t : Bool) : ∀ x ∈ leavesA n, Pick m t x := by
  intro x hx
  simp only [leavesA, List.mem_cons, List.not_mem_nil, or_false] at hx
  rcases hx with rfl | rfl | rfl | rfl <;> exact ⟨rfl, rfl, rfl⟩
theorem lB_ok (n : Fin 5) (t : Bool) : ∀ x ∈ leavesB n, Pick m t x := by
  intro x hx
  simp only [leavesB, List.mem_cons, List.not_mem_nil, or_false] at hx
  rcases hx with rfl | rfl | rfl | rfl <;> exact ⟨rfl, rfl, rfl⟩
def FF : List Xp := [.leaf .fur, .leaf .fur]
def DD : List Xp := [.leaf .dec, .leaf .dec]
theorem ONE_TWO : ∀ w ∈ ONE, w ∉ TWO := by decide +kernel
theorem SEV_TWO : ∀ w ∈ (["member", "like", "unlike", "like", "unlike", "before", "behind"] : List Str), w ∈ TWO ∧ w ∉ ONE := by decide +kernel
def rest18 : List S := sy_18.drop 2
/-- the end of the leaf's def, whatever was laid so far -/
theorem leaf_fin (hk : 3 ≤ k) {o : O} (ho : PO o) (t : Bool) (xs : List Xp) (hn : xs ≠ []) (hl : xs.length ≤ 10) (hp : ∀ x ∈ xs, Pick m t x) : ∃ x o', Pick m t x ∧ PO o' ∧ retB true 1 (exs (gxOf PZ k) rest18 [some (.l 0), some (.c (.str m)), some (.c (.bl t)), some (.c (.lst (xs.map Xp.d)))] [o]) = .ok (.c x.d) [o'] := by
  cases t with
  | false =>
    obtain ⟨x, o', hx, hp', e⟩ := one_x (k := k) (by omega) ho hn (by omega) hp
    refine ⟨x, o', hx, hp', ?_⟩
    have e' := e []
    simp [rest18, sy_18, e']
    exact ret1c (PO_loc hp')
  | true =>
    have hfur : ∀ x ∈ FF, Pick m true x := by
      intro x hx
      simp [FF] at hx
      subst hx
      exact ⟨rfl, rfl, rfl⟩
    have hfd : (FF).map Xp.d = [.tup [.str "further"], .tup [.str "further"]] := rfl
    have e1 : bin .add (.lst (xs.map Xp.d)) (.lst [.tup [.str "further"], .tup [.str "further"]]) = some (.lst ((xs ++ FF).map Xp.d)) := by
      rw [z_bin_addL _ _ (sz_le (by simp [FF, DD]; omega)), List.map_append, hfd]
    have hi : inL [.str "like", .str "unlike", .str "before", .str "behind"] (.str m) = some (decide (m ∈ (["like", "unlike", "before", "behind"] : List Str))) := inL_strs m ["like", "unlike", "before", "behind"]
    by_cases hm : m ∈ (["like", "unlike", "before", "behind"] : List Str)
    · rw [decide_eq_true hm] at hi
      have hdec : ∀ x ∈ DD, Pick m true x := by
        intro x hx
        simp [DD] at hx
        subst hx
        refine ⟨?_, rfl, rfl⟩
        show (true && decide (m ∈ DECL)) = true
        simp [LB_DEC m hm]
      have hdd : (DD).map Xp.d = [.tup [.str "decline"], .tup [.str "decline"]] := rfl
      have e2 : bin .add (.lst ((xs ++ FF).map Xp.d)) (.lst [.tup [.str "decline"], .tup [.str "decline"]]) = some (.lst ((xs ++ FF ++ DD).map Xp.d)) := by
        rw [z_bin_addL _ _ (sz_le (by simp [FF, DD]; omega)), List.map_append (l₂ := DD), hdd]
      obtain ⟨x, o', hx, hp', e⟩ := one_x (k := k) (p := Pick m true) (by omega) ho (xs := xs ++ FF ++ DD) (by simp [FF, DD]) (by simp [FF, DD]; omega) (by
        intro x hx
        rcases List.mem_append.mp hx with hx | hx
        · rcases List.mem_append.mp hx with hx | hx
          · exact hp x hx
          · exact hfur x hx
        · exact hdec x hx)
      refine ⟨x, o', hx, hp', ?_⟩
      have e' := e []
      generalize hA : ((xs ++ FF).map Xp.d) = A1 at e1 e2
      generalize hB : ((xs ++ FF ++ DD).map Xp.d) = A2 at e2 e'
      simp [rest18, sy_18, e1, e2, hi, e']
      exact ret1c (PO_loc hp')
    · rw [decide_eq_false hm] at hi
      obtain ⟨x, o', hx, hp', e⟩ := one_x (k := k) (p := Pick m true) (by omega) ho (xs := xs ++ FF) (by simp [FF, DD]) (by simp [FF, DD]; omega) (by
        intro x hx
        rcases List.mem_append.mp hx with hx | hx
        · exact hp x hx
        · exact hfur x hx)
      refine ⟨x, o', hx, hp', ?_⟩
      have e' := e []
      generalize hA : ((xs ++ FF).map Xp.d) = A1 at e1 e'
      simp [rest18, sy_18, e1, hi, e']
      exact ret1c (PO_loc hp')
theorem r_leaf (hk : 4 ≤ k) {o : O} (ho : PO o) (t : Bool) : ∃ x o', Pick m t x ∧ PO o' ∧ run PZ k 18 [.l 0, .c (.str m), .c (.bl t)] [o] = .ok (.c x.d) [o'] := by
  obtain ⟨r1, o1, ho1, h0, h5, c1⟩ := take_call (k := k - 1) (by omega) ho (n := 5) (by omega) (by omega)
  obtain ⟨n1, rfl⟩ : ∃ n : Nat, r1 = n := ⟨r1.toNat, by omega⟩
  have c1' := c1 []
  have hi : inL [.str "length", .str "hash"] (.str m) = some (decide (m ∈ (["length", "hash"] : List Str))) := inL_strs m ["length", "hash"]
  have go : run PZ k 18 [.l 0, .c (.str m), .c (.bl t)] [o] = retB true 1 (exs (gxOf PZ (k - 1)) sy_18 [some (.l 0), some (.c (.str m)), some (.c (.bl t)), none] [o]) := run_go (by omega) (F := F_18) rfl _ _ rfl
  rw [go]
  by_cases hm : m ∈ (["length", "hash"] : List Str)
  · rw [decide_eq_true hm] at hi
    obtain ⟨r2, o2, ho2, h0', h5', c2⟩ := take_call (k := k - 1) (by omega) ho1 (n := 5) (by omega) (by omega)
    obtain ⟨n2, rfl⟩ : ∃ n : Nat, r2 = n := ⟨r2.toNat, by omega⟩
    have c2' := c2 []
    obtain ⟨x, o', hx, ho', e⟩ := leaf_fin (k := k - 1) (by omega) ho2 t (leavesB ⟨n2, by omega⟩) (by simp [leavesB]) (by simp [leavesB]) (lB_ok (m := m) ⟨n2, by omega⟩ t)
    refine ⟨x, o', hx, ho', ?_⟩
    rw [lB_d] at e
    rw [← e]
    have e3 : exs (gxOf PZ (k - 1)) sy_18 [some (.l 0), some (.c (.str m)), some (.c (.bl t)), none] [o] = exs (gxOf PZ (k - 1)) (S.set (.nm 3) (.lst false [.tup [.k (.str "yes")], .tup [.k (.str "no")], .tup [.k (.str "count"), .call 16 [.var 0, .k (.int 5)]], .tup [.k (.str "raise")]]) ::
  .ife (.op .in_ (.var 1) (.lst false [.k (.str "length"), .k (.str "hash")])) [.set (.nm 3) (.lst false [.tup [.k (.str "count"), .call 16 [.var 0, .k (.int 5)]], .tup [.k (.str "count"), .k (.int 0)], .tup [.k (.str "no")], .tup [.k (.str "raise")]])] [] :: rest18) [some (.l 0), some (.c (.str m)), some (.c (.bl t)), none] [o] := rfl
    rw [e3]
    simp [c1', hi, c2']
  · rw [decide_eq_false hm] at hi
    obtain ⟨x, o', hx, ho', e⟩ := leaf_fin (k := k - 1) (by omega) ho1 t (leavesA ⟨n1, by omega⟩) (by simp [leavesA]) (by simp [leavesA]) (lA_ok (m := m) ⟨n1, by omega⟩ t)
    refine ⟨x, o', hx, ho', ?_⟩
    rw [lA_d] at e
    rw [← e]
    have e3 : exs (gxOf PZ (k - 1)) sy_18 [some (.l 0), some (.c (.str m)), some (.c (.bl t)), none] [o] = exs (gxOf PZ (k - 1)) (S.set (.nm 3) (.lst false [.tup [.k (.str "yes")], .tup [.k (.str "no")], .tup [.k (.str "count"), .call 16 [.var 0, .k (.int 5)]], .tup [.k (.str "raise")]]) ::
  .ife (.op .in_ (.var 1) (.lst false [.k (.str "length"), .k (.str "hash")])) [.set (.nm 3) (.lst false [.tup [.k (.str "count"), .call 16 [.var 0, .k (.int 5)]], .tup [.k (.str "count"), .k (.int 0)], .tup [.k (.str "no")], .tup [.k (.str "raise")]])] [] :: rest18) [some (.l 0), some (.c (.str m)), some (.c (.bl t)), none] [o] := rfl
    rw [e3]
    simp [c1', hi]
theorem r_asking (hk : 4 ≤ k) {o : O} (ho : PO o) (hm : m ∈ FC) (t : Bool) : ∃ x o', Pick m t x ∧ PO o' ∧ run PZ k 19 [.l 0, .c (.str m)] [o] = .ok (.c x.d) [o'] := by
  have hi : inL [.str "truth", .str "length", .str "hash"] (.str m) = some (decide (m ∈ (["truth", "length", "hash"] : List Str))) := inL_strs m ["truth", "length", "hash"]
  by_cases hM : m ∈ (["truth", "length", "hash"] : List Str)
  · rw [decide_eq_true hM] at hi
    obtain ⟨w, o', hw, ho', c⟩ := one_s (k := k - 1) (by omega) ho ONE (by simp [ONE]) (by simp [ONE])
    have c' := c []
    have hO : ONE.map D.str = [.str "truth", .str "size", .str "hash"] := rfl
    rw [hO] at c'
    refine ⟨.ask [w, "self"], o', ⟨?_, rfl, rfl⟩, ho', ?_⟩
    · have h1 : ∀ w ∈ ONE, (askOk m [w, "self"] && askFull [w, "self"]) = true := by
        intro w hw
        have h2 : w ∉ TWO := ONE_TWO w hw
        simp [askOk, askFull, roleOk, hw, h2]
      exact h1 w hw
    · rw [run_go (by omega) (F := F_19) rfl _ _ rfl]
      simp [F_19, sy_19, hi, c', Xp.d]
      exact ret1c (PO_loc ho')
  · rw [decide_eq_false hM] at hi
    have hT := FC_TAK m hm hM
    obtain ⟨r1, o1, ho1, h0, h4, c1⟩ := take_call (k := k - 1) (by omega) ho (n := 4) (by omega) (by omega)
    have c1' := c1 []
    by_cases hr : r1 = 0
    · obtain ⟨w, o2, hw, ho2, c⟩ := one_s (k := k - 1) (by omega) ho1 ONE (by simp [ONE]) (by simp [ONE])
      have c' := c []
      have hO : ONE.map D.str = [.str "truth", .str "size", .str "hash"] := rfl
      rw [hO] at c'
      obtain ⟨v, o3, hv, ho3, c3⟩ := one_s (k := k - 1) (by omega) ho2 ["self", "other"] (by simp) (by simp)
      have c3' := c3 []
      simp only [List.map] at c3'
      refine ⟨.ask [w, v], o3, ⟨?_, rfl, rfl⟩, ho3, ?_⟩
      · have h2 : w ∉ TWO := ONE_TWO w hw
        have hv' : roleOk m v = true := by
          simp at hv
          rcases hv with rfl | rfl <;> simp [roleOk, hT]
        show (askOk m [w, v] && askFull [w, v]) = true
        simp [askOk, askFull, hw, h2, hv']
      · rw [run_go (by omega) (F := F_19) rfl _ _ rfl]
        simp [F_19, sy_19, hi, c1', hr, c', c3', Xp.d]
        exact ret1c (PO_loc ho3)
    · obtain ⟨w, o2, hw, ho2, c⟩ := one_s (k := k - 1) (by omega) ho1 ["member", "like", "unlike", "like", "unlike", "before", "behind"] (by simp) (by simp)
      have c' := c []
      simp only [List.map] at c'
      have h2 : w ∈ TWO := (SEV_TWO w hw).1
      have h1 : w ∉ ONE := (SEV_TWO w hw).2
      obtain ⟨r2, o3, ho3, h0', h4', c3⟩ := take_call (k := k - 1) (by omega) ho2 (n := 2) (by omega) (by omega)
      have c3' := c3 []
      by_cases hr2 : r2 = 0
      · refine ⟨.ask [w, "self", "other"], o3, ⟨?_, rfl, rfl⟩, ho3, ?_⟩
        · show (askOk m [w, "self", "other"] && askFull [w, "self", "other"]) = true
          simp [askOk, askFull, roleOk, h1, h2, hT]
        · rw [run_go (by omega) (F := F_19) rfl _ _ rfl]
          simp [F_19, sy_19, hi, c1', hr, c', c3', hr2, Xp.d]
          exact ret1c (PO_loc ho3)
      · refine ⟨.ask [w, "other", "self"], o3, ⟨?_, rfl, rfl⟩, ho3, ?_⟩
        · show (askOk m [w, "other", "self"] && askFull [w, "other", "self"]) = true
          simp [askOk, askFull, roleOk, h1, h2, hT]
        · rw [run_go (by omega) (F := F_19) rfl _ _ rfl]
          simp [F_19, sy_19, hi, c1', hr, c', c3', hr2, Xp.d]
          exact ret1c (PO_loc ho3)
end
end B

set_option linter.all false
set_option maxRecDepth 100000
/-! Whole expressions: picked, laid, written, read. Own work. -/
namespace B
open PySem (Str)
def szD : Nat → Nat
  | 0 => 1
  | n + 1 => 3 * szD n + 1
section
variable {m : Str}
def Deep (m : Str) (n : Nat) (t : Bool) (x : Xp) : Prop := allOk m t x = true ∧ x.dep ≤ n + 1 ∧ x.size ≤ szD n
theorem szD_pos (n : Nat) : 1 ≤ szD n := by cases n <;> simp [szD]
theorem Pick.deep {t : Bool} {x : Xp} (h : Pick m t x) (n : Nat) : Deep m n t x := ⟨h.1, by rw [h.2.1]; omega, by rw [h.2.2]; exact szD_pos n⟩
theorem leaf_call {k : Nat} (hk : 4 ≤ k) {o : O} (ho : PO o) (t : Bool) : ∃ x o', Pick m t x ∧ PO o' ∧ ∀ rest, callF (run PZ k) 18 [.l 0, .c (.str m), .c (.bl t)] (o :: rest) = .ok (.c x.d) (o' :: rest) := by
  obtain ⟨x, o', hx, hp, e⟩ := r_leaf (m := m) hk ho t
  exact ⟨x, o', hx, hp, fun rest => callF_loc (n := 0) rfl rfl (PO_loc ho) rfl e (PO_loc hp)⟩
theorem ask_call {k : Nat} (hk : 4 ≤ k) {o : O} (ho : PO o) (hm : m ∈ FC) (t : Bool) : ∃ x o', Pick m t x ∧ PO o' ∧ ∀ rest, callF (run PZ k) 19 [.l 0, .c (.str m)] (o :: rest) = .ok (.c x.d) (o' :: rest) := by
  obtain ⟨x, o', hx, hp, e⟩ := r_asking hk ho hm t
  exact ⟨x, o', hx, hp, fun rest => callF_loc (n := 0) rfl rfl (PO_loc ho) rfl e (PO_loc hp)⟩
theorem r_deep (hm : m ∈ FC) : ∀ (n k : Nat) (o : O) (t : Bool), n + 6 ≤ k → PO o → ∃ x o', Deep m n t x ∧ PO o' ∧ run PZ k 20 [.l 0, .c (.str m), .c (.int ((n : Nat) : Int)), .c (.bl t)] [o] = .ok (.c x.d) [o'] := by
  intro n
  induction n with
  | zero =>
    intro k o t hk ho
    obtain ⟨w, o1, ho1, h0, h8, c⟩ := take_call (k := k - 1) (by omega) ho (n := 8) (by omega) (by omega)
    have c' := c []
    by_cases hw : w < 4
    · obtain ⟨x, o2, hx, ho2, c2⟩ := leaf_call (m := m) (k := k - 1) (by omega) ho1 t
      have c2' := c2 []
      refine ⟨x, o2, hx.deep 0, ho2, ?_⟩
      rw [run_go (by omega) (F := F_20) rfl _ _ rfl]
      by_cases hw2 : w < 2
      · simp [F_20, sy_20, c', hw2, c2']
        exact ret1c (PO_loc ho2)
      · simp [F_20, sy_20, c', hw2, hw, c2']
        exact ret1c (PO_loc ho2)
    · obtain ⟨x, o2, hx, ho2, c2⟩ := ask_call (m := m) (k := k - 1) (by omega) ho1 hm t
      have c2' := c2 []
      refine ⟨x, o2, hx.deep 0, ho2, ?_⟩
      rw [run_go (by omega) (F := F_20) rfl _ _ rfl]
      have hw2 : ¬ w < 2 := by omega
      by_cases hw5 : w < 5
      · simp [F_20, sy_20, c', hw2, hw, hw5, c2']
        exact ret1c (PO_loc ho2)
      · simp [F_20, sy_20, c', hw2, hw, hw5, c2']
        exact ret1c (PO_loc ho2)
  | succ n ih =>
    intro k o t hk ho
    have deep_call : ∀ (o : O) (t : Bool), PO o → ∃ x o', Deep m n t x ∧ PO o' ∧ ∀ rest, callF (run PZ (k - 1)) 20 [.l 0, .c (.str m), .c (.int ((n : Nat) : Int)), .c (.bl t)] (o :: rest) = .ok (.c x.d) (o' :: rest) := by
      intro o t ho
      obtain ⟨x, o', hx, hp, e⟩ := ih (k - 1) o t (by omega) ho
      exact ⟨x, o', hx, hp, fun rest => callF_loc (n := 0) rfl rfl (PO_loc ho) rfl e (PO_loc hp)⟩
    obtain ⟨w, o1, ho1, h0, h8, c⟩ := take_call (k := k - 1) (by omega) ho (n := 8) (by omega) (by omega)
    have c' := c []
    have hz : ¬ ((n : Nat) : Int) + 1 = 0 := by omega
    by_cases hw2 : w < 2
    · obtain ⟨x, o2, hx, ho2, c2⟩ := leaf_call (m := m) (k := k - 1) (by omega) ho1 t
      have c2' := c2 []
      refine ⟨x, o2, hx.deep _, ho2, ?_⟩
      rw [run_go (by omega) (F := F_20) rfl _ _ rfl]
      simp [F_20, sy_20, c', hw2, c2']
      exact ret1c (PO_loc ho2)
    · by_cases hw5 : w < 5
      · obtain ⟨x, o2, hx, ho2, c2⟩ := ask_call (m := m) (k := k - 1) (by omega) ho1 hm t
        have c2' := c2 []
        refine ⟨x, o2, hx.deep _, ho2, ?_⟩
        rw [run_go (by omega) (F := F_20) rfl _ _ rfl]
        simp [F_20, sy_20, c', hw2, hw5, hz, c2']
        exact ret1c (PO_loc ho2)
      · by_cases h5 : w = 5
        · obtain ⟨x, o2, hx, ho2, c2⟩ := deep_call o1 false ho1
          have c2' := c2 []
          refine ⟨.not_ x, o2, ⟨hx.1, by have := hx.2.1; show x.dep + 1 ≤ _; omega, by have := hx.2.2; show x.size + 1 ≤ 3 * szD n + 1; omega⟩, ho2, ?_⟩
          rw [run_go (by omega) (F := F_20) rfl _ _ rfl]
          subst h5
          simp [F_20, sy_20, c', hz, c2', Xp.d]
          exact ret1c (PO_loc ho2)
        · obtain ⟨x, o2, hx, ho2, c2⟩ := deep_call o1 false ho1
          have c2' := c2 []
          obtain ⟨y, o3, hy, ho3, c3⟩ := deep_call o2 t ho2
          have c3' := c3 []
          obtain ⟨z, o4, hz4, ho4, c4⟩ := deep_call o3 t ho3
          have c4' := c4 []
          refine ⟨.ife x y z, o4, ⟨by show (allOk m false x && allOk m t y && allOk m t z) = true; rw [hx.1, hy.1, hz4.1]; rfl, by have := hx.2.1; have := hy.2.1; have := hz4.2.1; show max x.dep (max y.dep z.dep) + 1 ≤ _; omega, by have := hx.2.2; have := hy.2.2; have := hz4.2.2; show x.size + y.size + z.size + 1 ≤ 3 * szD n + 1; omega⟩, ho4, ?_⟩
          rw [run_go (by omega) (F := F_20) rfl _ _ rfl]
          simp [F_20, sy_20, c', hw2, hw5, hz, h5, c2', c3', c4', Xp.d]
          exact ret1c (PO_loc ho4)
/-! ### what is laid -/
theorem allOk_node {t : Bool} {x : Xp} (h : allOk m t x = true) : nodeOk m t x = true := by
  cases x with
  | ask ws =>
    have h' : (askOk m ws && askFull ws) = true := h
    simp only [Bool.and_eq_true] at h'
    exact h'.1
  | leaf l => exact h
  | _ => rfl
theorem lay_ok : ∀ (x : Xp) (d : Nat) (t : Bool) (n : Nat), allOk m t x = true → d + x.dep ≤ 7 → n + x.size ≤ 16 → lay m x d t n = .ok (n + x.size) := by
  intro x
  have hpos : ∀ x : Xp, 1 ≤ x.size ∧ 1 ≤ x.dep := by
    intro x; cases x <;> simp [Xp.size, Xp.dep]
  induction x with
  | not_ a ih =>
    intro d t n ha hd hn
    have hd' : d + (a.dep + 1) ≤ 7 := hd
    have hn' : n + (a.size + 1) ≤ 16 := hn
    have := hpos a
    rw [lay_eq, if_neg (by rw [allOk_node ha]; simp; omega)]
    show lay m a (d + 1) false (n + 1) = _
    rw [ih (d + 1) false (n + 1) ha (by omega) (by omega)]
    show Except.ok (n + 1 + a.size) = Except.ok (n + (a.size + 1))
    congr 1; omega
  | ife a b c iha ihb ihc =>
    intro d t n ha hd hn
    have hd' : d + (max a.dep (max b.dep c.dep) + 1) ≤ 7 := hd
    have hn' : n + (a.size + b.size + c.size + 1) ≤ 16 := hn
    have ha' : (allOk m false a && allOk m t b && allOk m t c) = true := ha
    simp only [Bool.and_eq_true] at ha'
    have := hpos a
    rw [lay_eq, if_neg (by rw [allOk_node ha]; simp; omega)]
    show (match lay m a (d + 1) false (n + 1) with
      | .ok n1 => (match lay m b (d + 1) t n1 with
        | .ok n2 => lay m c (d + 1) t n2
        | .error p => .error p)
      | .error p => .error p) = _
    rw [iha (d + 1) false (n + 1) ha'.1.1 (by omega) (by omega)]
    show (match lay m b (d + 1) t (n + 1 + a.size) with
        | .ok n2 => lay m c (d + 1) t n2
        | .error p => .error p) = _
    rw [ihb (d + 1) t _ ha'.1.2 (by omega) (by omega)]
    show lay m c (d + 1) t (n + 1 + a.size + b.size) = _
    rw [ihc (d + 1) t _ ha'.2 (by omega) (by omega)]
    show Except.ok (n + 1 + a.size + b.size + c.size) = Except.ok (n + (a.size + b.size + c.size + 1))
    congr 1; omega
  | leaf l =>
    intro d t n ha hd hn
    have h1 : (Xp.leaf l).size = 1 := rfl
    have h2 : (Xp.leaf l).dep = 1 := rfl
    rw [lay_eq, if_neg (by rw [allOk_node ha]; simp; omega)]
    rfl
  | cnt l =>
    intro d t n ha hd hn
    have h1 : (Xp.cnt l).size = 1 := rfl
    have h2 : (Xp.cnt l).dep = 1 := rfl
    rw [lay_eq, if_neg (by rw [allOk_node ha]; simp; omega)]
    rfl
  | ask l =>
    intro d t n ha hd hn
    have h1 : (Xp.ask l).size = 1 := rfl
    have h2 : (Xp.ask l).dep = 1 := rfl
    rw [lay_eq, if_neg (by rw [allOk_node ha]; simp; omega)]
    rfl
def VALID : List Str := ["yes", "no", "raise", "decline", "further", "count", "0", "1", "2", "3", "4", "ask", "not", "if", "truth", "size", "hash", "member", "like", "unlike", "before", "behind", "self", "other"]
theorem lf_V (l : Lf) : l.w ∈ VALID := by cases l <;> simp [Lf.w, VALID]
theorem dig_V : ∀ n : Fin 5, dig n ∈ VALID := by decide +kernel
theorem ONE_V : ∀ w ∈ ONE, w ∈ VALID := by decide +kernel
theorem TWO_V : ∀ w ∈ TWO, w ∈ VALID := by decide +kernel
theorem role_V {r : Str} (h : roleOk m r = true) : r ∈ VALID := by
  unfold roleOk at h
  simp at h
  rcases h with rfl | ⟨rfl, _⟩ <;> simp [VALID]
theorem ask_V {ws : List Str} (h : askOk m ws = true) : (∀ w ∈ ws, w ∈ VALID) ∧ askFull ws = true ∧ ws.length ≤ 3 := by
  cases ws with
  | nil => cases h
  | cons o rs =>
    simp only [askOk, Bool.and_eq_true] at h
    obtain ⟨h1, h2⟩ := h
    have hr : ∀ w ∈ rs, w ∈ VALID := fun w hw => role_V (List.all_eq_true.mp h1 w hw)
    by_cases ho : o ∈ ONE
    · rw [if_pos ho] at h2
      have h3 : rs.length = 1 := of_decide_eq_true h2
      refine ⟨fun w hw => ?_, ?_, by simp; omega⟩
      · rcases List.mem_cons.mp hw with rfl | hw
        · exact ONE_V _ ho
        · exact hr w hw
      · show (if o ∈ TWO then decide (rs.length = 2) else decide (rs.length = 1)) = true
        rw [if_neg (ONE_TWO o ho), h3]
        rfl
    · rw [if_neg ho, Bool.and_eq_true] at h2
      have h3 : rs.length = 2 := by
        have h4 := h2.2
        clear h1 h2 hr
        rcases rs with _ | ⟨a, _ | ⟨b, _ | ⟨c, q⟩⟩⟩ <;> simp at h4 ⊢
      refine ⟨fun w hw => ?_, ?_, by simp; omega⟩
      · rcases List.mem_cons.mp hw with rfl | hw
        · exact TWO_V _ (of_decide_eq_true h2.1)
        · exact hr w hw
      · show (if o ∈ TWO then decide (rs.length = 2) else decide (rs.length = 1)) = true
        rw [if_pos (of_decide_eq_true h2.1), h3]
        rfl
/-- what is known of an expression that can be laid -/
def Wd (x : Xp) : Prop := (∀ w ∈ x.words, w ∈ VALID) ∧ x.full = true ∧ x.words.length ≤ 4 * x.size
theorem Wd.not_ {a : Xp} (h : Wd a) : Wd (.not_ a) := ⟨fun w hw => by
    rcases List.mem_cons.mp (show w ∈ ("not" : Str) :: a.words from hw) with rfl | hw
    · simp [VALID]
    · exact h.1 w hw, h.2.1, by have := h.2.2; show a.words.length + 1 ≤ 4 * (a.size + 1); omega⟩
theorem Wd.ife {a b c : Xp} (ha : Wd a) (hb : Wd b) (hc : Wd c) : Wd (.ife a b c) := ⟨fun w hw => by
    rcases List.mem_cons.mp (show w ∈ ("if" : Str) :: (a.words ++ b.words ++ c.words) from hw) with rfl | hw
    · simp [VALID]
    · rcases List.mem_append.mp hw with hw | hw
      · rcases List.mem_append.mp hw with hw | hw
        · exact ha.1 w hw
        · exact hb.1 w hw
      · exact hc.1 w hw, by show (a.full && b.full && c.full) = true; rw [ha.2.1, hb.2.1, hc.2.1]; rfl, by
    have := ha.2.2; have := hb.2.2; have := hc.2.2
    show (a.words ++ b.words ++ c.words).length + 1 ≤ 4 * (a.size + b.size + c.size + 1)
    simp only [List.length_append]; omega⟩
theorem Wd.one {t : Bool} {x : Xp} (h : nodeOk m t x = true) (h1 : x.head ≠ "not" ∧ x.head ≠ "if") : Wd x := by
  cases x with
  | leaf l => exact ⟨fun w hw => by rw [List.mem_singleton.mp (show w ∈ [l.w] from hw)]; exact lf_V l, rfl, by show 1 ≤ 4; omega⟩
  | cnt n => exact ⟨fun w hw => by
      rcases List.mem_cons.mp (show w ∈ [("count" : Str), dig n] from hw) with rfl | hw
      · simp [VALID]
      · rw [List.mem_singleton.mp hw]; exact dig_V n, rfl, by show 2 ≤ 4; omega⟩
  | ask ws =>
    obtain ⟨h1, h2, h3⟩ := ask_V (show askOk m ws = true from h)
    exact ⟨fun w hw => by
      rcases List.mem_cons.mp (show w ∈ ("ask" : Str) :: ws from hw) with rfl | hw
      · simp [VALID]
      · exact h1 w hw, h2, by show ws.length + 1 ≤ 4; omega⟩
  | not_ a => exact absurd rfl h1.1
  | ife a b c => exact absurd rfl h1.2
theorem allOk_Wd : ∀ (x : Xp) (t : Bool), allOk m t x = true → Wd x
  | .leaf l, t, h => Wd.one (m := m) (t := t) (allOk_node h) (by cases l <;> exact ⟨by simp [Xp.head, Lf.w], by simp [Xp.head, Lf.w]⟩)
  | .cnt n, t, h => Wd.one (m := m) (t := t) (allOk_node h) ⟨by simp [Xp.head], by simp [Xp.head]⟩
  | .ask ws, t, h => Wd.one (m := m) (t := t) (allOk_node h) ⟨by simp [Xp.head], by simp [Xp.head]⟩
  | .not_ a, t, h => (allOk_Wd a false h).not_
  | .ife a b c, t, h => by
    have ha' : (allOk m false a && allOk m t b && allOk m t c) = true := h
    simp only [Bool.and_eq_true] at ha'
    exact (allOk_Wd a _ ha'.1.1).ife (allOk_Wd b _ ha'.1.2) (allOk_Wd c _ ha'.2)
theorem lay_Wd : ∀ {x : Xp} {d : Nat} {t : Bool} {n n' : Nat}, lay m x d t n = .ok n' → Wd x := by
  intro x
  induction x with
  | leaf l =>
    intro d t n n' e
    rw [lay_eq] at e
    split at e
    · cases e
    · rename_i h
      simp only [not_or] at h
      exact Wd.one (m := m) (t := t) (by simpa using h.2.2) (by cases l <;> exact ⟨by simp [Xp.head, Lf.w], by simp [Xp.head, Lf.w]⟩)
  | cnt l =>
    intro d t n n' e
    exact Wd.one (m := m) (t := t) rfl ⟨by simp [Xp.head], by simp [Xp.head]⟩
  | ask l =>
    intro d t n n' e
    rw [lay_eq] at e
    split at e
    · cases e
    · rename_i h
      simp only [not_or] at h
      exact Wd.one (m := m) (t := t) (by simpa using h.2.2) ⟨by simp [Xp.head], by simp [Xp.head]⟩
  | not_ a ih =>
    intro d t n n' e
    rw [lay_eq] at e
    split at e
    · cases e
    · exact (ih e).not_
  | ife a b c iha ihb ihc =>
    intro d t n n' e
    rw [lay_eq] at e
    split at e
    · cases e
    · have e' : (match lay m a (d + 1) false (n + 1) with
        | .ok n1 => (match lay m b (d + 1) t n1 with
          | .ok n2 => lay m c (d + 1) t n2
          | .error p => .error p)
        | .error p => .error p) = .ok n' := e
      cases h1 : lay m a (d + 1) false (n + 1) with
      | error p => rw [h1] at e'; cases e'
      | ok n1 =>
        rw [h1] at e'
        have e2 : (match lay m b (d + 1) t n1 with
          | .ok n2 => lay m c (d + 1) t n2
          | .error p => .error p) = .ok n' := e'
        cases h2 : lay m b (d + 1) t n1 with
        | error p => rw [h2] at e2; cases e2
        | ok n2 =>
          rw [h2] at e2
          exact (iha h1).ife (ihb h2) (ihc e2)
end
end B

set_option linter.all false
set_option maxRecDepth 100000
/-! Texts that tell no body. Own work. -/
namespace B
open PySem (Str)
theorem app_assoc (a b c : Str) : a ++ b ++ c = a ++ (b ++ c) := by
  show (⟨a.cps ++ b.cps ++ c.cps⟩ : Str) = ⟨a.cps ++ (b.cps ++ c.cps)⟩
  rw [Array.append_assoc]
theorem app_nil (a : Str) : a ++ ("" : Str) = a := by
  show (⟨a.cps ++ #[]⟩ : Str) = a
  rw [Array.append_empty]
theorem nil_app (a : Str) : ("" : Str) ++ a = a := by
  show (⟨#[] ++ a.cps⟩ : Str) = a
  rw [Array.empty_append]
theorem joinS_one (w : Str) : joinS [w] = w := rfl
theorem join_app : ∀ (A : List Str) (b : Str) (B : List Str), A ≠ [] → joinS A ++ spc ++ joinS (b :: B) = joinS (A ++ b :: B)
  | [a], b, B, _ => rfl
  | a :: a2 :: A, b, B, _ => by
    have ih := join_app (a2 :: A) b B (by simp)
    show a ++ spc ++ joinS (a2 :: A) ++ spc ++ joinS (b :: B) = a ++ spc ++ joinS (a2 :: A ++ b :: B)
    rw [← ih]
    simp only [app_assoc]
theorem join_last : ∀ (A : List Str) (w s : Str), joinS (A ++ [w]) ++ s = joinS (A ++ [w ++ s])
  | [], w, s => rfl
  | a :: A, w, s => by
    have h1 := join_app (a :: A) w [] (by simp)
    have h2 := join_app (a :: A) (w ++ s) [] (by simp)
    rw [← h1, ← h2, joinS_one, joinS_one]
    simp only [app_assoc]
theorem join_mid (A : List Str) (w v : Str) (B : List Str) : joinS (A ++ [w]) ++ joinS (v :: B) = joinS (A ++ (w ++ v) :: B) := by
  cases B with
  | nil => exact join_last A w v
  | cons b B =>
    have e : joinS (A ++ [w ++ v]) ++ spc ++ joinS (b :: B) = joinS (A ++ [w ++ v] ++ b :: B) := join_app (A ++ [w ++ v]) b B (by simp)
    rw [show A ++ (w ++ v) :: b :: B = A ++ [w ++ v] ++ b :: B by simp, ← e, ← join_last, join_cons]
    simp only [app_assoc]
theorem VALID_free : ∀ w ∈ VALID, free w := by decide +kernel
theorem VALID_len : ∀ w ∈ VALID, w.length ≤ 16 := by decide +kernel
theorem nil_V : ("" : Str) ∉ VALID := by decide +kernel
theorem nl_V : ∀ w ∈ VALID, w ++ ("\n" : Str) ∉ VALID := by decide +kernel
theorem two_V : ∀ w ∈ VALID, ∀ v ∈ VALID, w ++ v ∉ VALID := by decide +kernel
theorem free_nil : free ("" : Str) := by decide +kernel
theorem free_nl : free ("\n" : Str) := by decide +kernel
theorem free_app {a b : Str} (ha : free a) (hb : free b) : free (a ++ b) := by
  unfold free at *
  show 32 ∉ (a.cps ++ b.cps).toList
  simp only [Array.toList_append, List.mem_append, not_or]
  exact ⟨ha, hb⟩
theorem readB_some {m s : Str} {y : Xp} (h : readB m s = some y) : (splitS s).length ≤ 64 ∧ splitS s = y.words ∧ rdW 64 (splitS s) 0 = some (y, (splitS s).length) ∧ ∃ n, lay m y 1 true 0 = .ok n := by
  unfold readB at h
  split at h
  · rename_i hl
    split at h
    · rename_i x a q
      split at h
      · rename_i ha
        split at h
        · rename_i n e
          cases h
          subst ha
          have := rdW_words q (Nat.le_refl _)
          rw [List.take_length, List.take_zero, List.nil_append] at this
          exact ⟨hl, this, q, n, e⟩
        · cases h
      · cases h
    · cases h
  · cases h
theorem readB_eq {m : Str} {x : Xp} (hw : Wd x) (hd : x.dep ≤ 64) (hl : x.words.length ≤ 64) : readB m (joinS x.words) = match lay m x 1 true 0 with
    | .ok _ => some x
    | .error _ => none := by
  have hn : x.words ≠ [] := by
    have := words_small x
    intro e
    rw [e] at this
    simp at this
  have hs : splitS (joinS x.words) = x.words := splitS_join hn fun w h => VALID_free w (hw.1 w h)
  have q := rdW_full x 64 x.words 0 [] hw.2.1 hd (by simp)
  unfold readB
  rw [hs, if_pos hl, q]
  show (if 0 + x.words.length = x.words.length then _ else none) = _
  rw [if_pos (Nat.zero_add _)]
  all_goals rfl
section
variable {m : Str}
theorem none_bad {ws : List Str} (hn : ws ≠ []) (hf : ∀ w ∈ ws, free w) {w : Str} (hw : w ∈ ws) (hv : w ∉ VALID) : readB m (joinS ws) = none := by
  cases h : readB m (joinS ws) with
  | none => rfl
  | some y =>
    obtain ⟨_, h2, _, n, e⟩ := readB_some h
    rw [splitS_join hn hf] at h2
    exact absurd ((lay_Wd e).1 w (h2 ▸ hw)) hv
theorem none_more {x : Xp} (hx : Wd x) (hd : x.dep ≤ 64) {r : List Str} (hr : r ≠ []) (hf : ∀ w ∈ x.words ++ r, free w) : readB m (joinS (x.words ++ r)) = none := by
  cases h : readB m (joinS (x.words ++ r)) with
  | none => rfl
  | some y =>
    obtain ⟨_, h2, h3, _⟩ := readB_some h
    rw [splitS_join (by simp [hr]) hf] at h2 h3
    have q := rdW_full x 64 (x.words ++ r) 0 r hx.2.1 hd (by simp)
    rw [q] at h3
    have h4 := (Prod.mk.inj (Option.some.inj h3)).2
    simp at h4
    exact absurd h4 hr
theorem none_less {x : Xp} (hx : Wd x) (hd : x.dep ≤ 64) {ws r : List Str} (hr : r ≠ []) (hn : ws ≠ []) (e : x.words = ws ++ r) : readB m (joinS ws) = none := by
  have hf : ∀ w ∈ ws, free w := fun w hw => VALID_free w (hx.1 w (by rw [e]; exact List.mem_append_left _ hw))
  cases h : readB m (joinS ws) with
  | none => rfl
  | some y =>
    obtain ⟨_, h2, h3, n, hl⟩ := readB_some h
    rw [splitS_join hn hf] at h2 h3
    have q := rdW_full x 64 x.words 0 [] hx.2.1 hd (by simp)
    have q2 := rdW_full y 64 x.words 0 r (lay_Wd hl).2.1 (rdW_dep h3).1 (by rw [List.drop_zero, e, h2])
    rw [q] at q2
    have h4 := (Prod.mk.inj (Option.some.inj q2)).2
    rw [e, ← h2] at h4
    simp at h4
    exact absurd h4 hr
/-- texts that are read short, or not at all -/
theorem none_read {ws : List Str} (hn : ws ≠ []) (hf : ∀ w ∈ ws, free w) (h : ∀ x a, rdW 64 ws 0 = some (x, a) → a ≠ ws.length) : readB m (joinS ws) = none := by
  cases h2 : readB m (joinS ws) with
  | none => rfl
  | some y =>
    obtain ⟨_, _, h3, _⟩ := readB_some h2
    rw [splitS_join hn hf] at h3
    exact absurd rfl (h _ _ h3)
theorem none_long {ws : List Str} (hn : ws ≠ []) (hf : ∀ w ∈ ws, free w) (h : 64 < ws.length) : readB m (joinS ws) = none := by
  cases h2 : readB m (joinS ws) with
  | none => rfl
  | some y =>
    obtain ⟨h3, _⟩ := readB_some h2
    rw [splitS_join hn hf] at h3
    omega
/-- the bent texts -/
def bentA (W : List Str) : List Str := [joinS W ++ " ", " " ++ joinS W, joinS W ++ " yes", joinS W ++ "\n", "", joinS W.dropLast, joinS W ++ joinS W]
def bentB (W : List Str) (i : Nat) : Str := joinS (W.take i) ++ "  " ++ joinS (W.drop i)
def bentC : List Str := ["count 5", "count", "count 03", "count -1", "not", "if yes no", "ask", "ask truth", "maybe"]
def bentD (n : Nat) : Str := joinS (List.replicate (n + 1) ("not" : Str) ++ [("maybe" : Str)])
def bentE : List Str := [joinS (List.replicate 1200 ("not" : Str) ++ [("yes" : Str)]), "Yes", "(yes)"]
theorem bentA_none {x : Xp} (hx : Wd x) (hd : x.dep ≤ 64) : ∀ s ∈ bentA x.words, readB m s = none := by
  have hV := hx.1
  have hF : ∀ w ∈ x.words, free w := fun w h => VALID_free w (hV w h)
  have hn : x.words ≠ [] := by
    have := words_small x
    intro e
    rw [e] at this
    simp at this
  obtain ⟨f, r, hfr⟩ : ∃ f r, x.words = f :: r := by
    cases h : x.words with
    | nil => exact absurd h hn
    | cons f r => exact ⟨f, r, rfl⟩
  have hdl : x.words = x.words.dropLast ++ [x.words.getLast hn] := (List.dropLast_concat_getLast hn).symm
  generalize hA : x.words.dropLast = A at hdl
  generalize hL : x.words.getLast hn = l at hdl
  have hlV : l ∈ VALID := hV l (by rw [hdl]; simp)
  have hfV : f ∈ VALID := hV f (by rw [hfr]; simp)
  intro s hs
  simp only [bentA, List.mem_cons, List.not_mem_nil, or_false] at hs
  rcases hs with rfl | rfl | rfl | rfl | rfl | rfl | rfl
  · have e : joinS x.words ++ (" " : Str) = joinS (x.words ++ [("" : Str)]) := by
      rw [← join_app x.words "" [] hn, joinS_one, app_nil]; rfl
    rw [e]
    exact none_bad (by simp) (fun w hw => by
      rcases List.mem_append.mp hw with hw | hw
      · exact hF w hw
      · rw [List.mem_singleton.mp hw]; exact free_nil) (w := "") (by simp) nil_V
  · have e : (" " : Str) ++ joinS x.words = joinS (("" : Str) :: x.words) := by
      rw [hfr, join_cons, nil_app]; rfl
    rw [e]
    exact none_bad (by simp) (fun w hw => by
      rcases List.mem_cons.mp hw with rfl | hw
      · exact free_nil
      · exact hF w hw) (w := "") (by simp) nil_V
  · have e : joinS x.words ++ (" yes" : Str) = joinS (x.words ++ [("yes" : Str)]) := by
      rw [← join_app x.words "yes" [] hn, joinS_one, app_assoc]; rfl
    rw [e]
    exact none_more hx hd (by simp) (fun w hw => by
      rcases List.mem_append.mp hw with hw | hw
      · exact hF w hw
      · rw [List.mem_singleton.mp hw]; exact VALID_free _ (by simp [VALID]))
  · have e : joinS x.words ++ ("\n" : Str) = joinS (A ++ [l ++ ("\n" : Str)]) := by
      rw [hdl, join_last]
    rw [e]
    exact none_bad (by simp) (fun w hw => by
      rcases List.mem_append.mp hw with hw | hw
      · exact hF w (by rw [hdl]; exact List.mem_append_left _ hw)
      · rw [List.mem_singleton.mp hw]; exact free_app (VALID_free l hlV) free_nl) (w := l ++ ("\n" : Str)) (by simp) (nl_V l hlV)
  · exact none_bad (ws := [""]) (by simp) (fun w hw => by rw [List.mem_singleton.mp hw]; exact free_nil) (w := "") (by simp) nil_V
  · rw [hA]
    cases hA2 : A with
    | nil => exact none_bad (ws := [""]) (by simp) (fun w hw => by rw [List.mem_singleton.mp hw]; exact free_nil) (w := "") (by simp) nil_V
    | cons a A2 =>
      rw [hA2] at hdl
      exact none_less hx hd (r := [l]) (by simp) (by simp) hdl
  · have e : joinS x.words ++ joinS x.words = joinS (A ++ (l ++ f) :: r) := by
      conv => lhs; rw [hfr]
      rw [← join_mid, ← hdl, hfr]
    rw [e]
    exact none_bad (by simp) (fun w hw => by
      rcases List.mem_append.mp hw with hw | hw
      · exact hF w (by rw [hdl]; exact List.mem_append_left _ hw)
      · rcases List.mem_cons.mp hw with rfl | hw
        · exact free_app (VALID_free l hlV) (VALID_free f hfV)
        · exact hF w (by rw [hfr]; exact List.mem_cons_of_mem _ hw)) (w := l ++ f) (by simp) (two_V l hlV f hfV)
theorem bentB_none {x : Xp} (hx : Wd x) (i : Nat) : readB m (bentB x.words i) = none := by
  have hF : ∀ w ∈ x.words, free w := fun w h => VALID_free w (hx.1 w h)
  obtain ⟨A, hA, hAe, hAf⟩ : ∃ A, A ≠ [] ∧ joinS (x.words.take i) = joinS A ∧ ∀ w ∈ A, free w := by
    cases h : x.words.take i with
    | nil => exact ⟨[""], by simp, rfl, fun w hw => by rw [List.mem_singleton.mp hw]; exact free_nil⟩
    | cons a A => exact ⟨a :: A, by simp, rfl, fun w hw => hF w (List.mem_of_mem_take (i := i) (by rw [h]; exact hw))⟩
  obtain ⟨b, B, hBe, hBf⟩ : ∃ b B, joinS (x.words.drop i) = joinS (b :: B) ∧ ∀ w ∈ b :: B, free w := by
    cases h : x.words.drop i with
    | nil => exact ⟨"", [], rfl, fun w hw => by rw [List.mem_singleton.mp hw]; exact free_nil⟩
    | cons b B => exact ⟨b, B, rfl, fun w hw => hF w (List.mem_of_mem_drop (i := i) (by rw [h]; exact hw))⟩
  have e : bentB x.words i = joinS (A ++ ("" : Str) :: b :: B) := by
    unfold bentB
    rw [hAe, hBe, ← join_app A "" (b :: B) hA, join_cons, nil_app]
    show joinS A ++ (spc ++ spc) ++ joinS (b :: B) = _
    simp only [app_assoc]
  rw [e]
  exact none_bad (by simp) (fun w hw => by
    rcases List.mem_append.mp hw with hw | hw
    · exact hAf w hw
    · rcases List.mem_cons.mp hw with rfl | hw
      · exact free_nil
      · exact hBf w hw) (w := "") (by simp) nil_V
theorem bentC_none : ∀ s ∈ bentC, readB m s = none := by
  intro s hs
  simp only [bentC, List.mem_cons, List.not_mem_nil, or_false] at hs
  rcases hs with rfl | rfl | rfl | rfl | rfl | rfl | rfl | rfl | rfl
  · exact none_bad (ws := ["count", "5"]) (by simp) (by decide +kernel) (w := "5") (by simp) (by decide +kernel)
  · exact none_read (ws := ["count"]) (by simp) (by decide +kernel) (by rw [show rdW 64 ["count"] 0 = none by decide +kernel]; simp)
  · exact none_bad (ws := ["count", "03"]) (by simp) (by decide +kernel) (w := "03") (by simp) (by decide +kernel)
  · exact none_bad (ws := ["count", "-1"]) (by simp) (by decide +kernel) (w := "-1") (by simp) (by decide +kernel)
  · exact none_read (ws := ["not"]) (by simp) (by decide +kernel) (by rw [show rdW 64 ["not"] 0 = none by decide +kernel]; simp)
  · exact none_read (ws := ["if", "yes", "no"]) (by simp) (by decide +kernel) (by rw [show rdW 64 ["if", "yes", "no"] 0 = none by decide +kernel]; simp)
  · exact none_read (ws := ["ask"]) (by simp) (by decide +kernel) (by rw [show rdW 64 ["ask"] 0 = some (.ask [], 3) by decide +kernel]; simp)
  · exact none_read (ws := ["ask", "truth"]) (by simp) (by decide +kernel) (by rw [show rdW 64 ["ask", "truth"] 0 = some (.ask ["truth"], 3) by decide +kernel]; simp)
  · exact none_bad (ws := ["maybe"]) (by simp) (by decide +kernel) (w := "maybe") (by simp) (by decide +kernel)
theorem not_V : ("not" : Str) ∈ VALID := by simp [VALID]
theorem rep_free {n : Nat} {v : Str} (hv : free v) : ∀ w ∈ List.replicate n ("not" : Str) ++ [v], free w := by
  intro w hw
  rcases List.mem_append.mp hw with hw | hw
  · rw [(List.mem_replicate.mp hw).2]; exact VALID_free _ not_V
  · rw [List.mem_singleton.mp hw]; exact hv
theorem bentD_none (n : Nat) : readB m (bentD n) = none :=
  none_bad (by simp) (rep_free (by decide +kernel)) (w := "maybe") (by simp) (by decide +kernel)
theorem bentE_none : ∀ s ∈ bentE, readB m s = none := by
  intro s hs
  simp only [bentE, List.mem_cons, List.not_mem_nil, or_false] at hs
  rcases hs with rfl | rfl | rfl
  · exact none_long (by simp) (rep_free (VALID_free _ (by simp [VALID]))) (by simp)
  · exact none_bad (ws := ["Yes"]) (by simp) (by decide +kernel) (w := "Yes") (by simp) (by decide +kernel)
  · exact none_bad (ws := ["(yes)"]) (by simp) (by decide +kernel) (w := "(yes)") (by simp) (by decide +kernel)
end
end B

set_option linter.all false
set_option maxRecDepth 100000
/-! The law's readings, and its bent texts, in the evaluator. Own work. -/
namespace B
open PySem (Str)
def noteD : D := .lst [.str "note", .non, .bl true, .bl false]
def nameD (d : D) : D := .lst [.str "name", d, .bl true, .bl false]
section
variable {G : Gx} {σ : Env} {h : A} {x c : Nat} {d : D}
theorem exh_some {i : Option Nat} {b : List S} {xs : List XI} {r : List (Nat × Option Nat × List S × Option (List XI))} (hx : G.xs x c = some true) : exh G ((c, i, b, some xs) :: r) x d σ h = mustS (slotIn i σ) (ofOptS (xis G x d xs) fun ds => .rt (.c (.lst ds)) h) := by
  show (match G.xs x c with
    | some true => mustS (slotIn i σ) (ofOptS (xis G x d xs) fun ds => .rt (.c (.lst ds)) h)
    | some false => exh G r x d σ h
    | none => .stuck) = _
  rw [hx]
theorem exh_none {i : Option Nat} {b : List S} {r : List (Nat × Option Nat × List S × Option (List XI))} (hx : G.xs x c = some true) : exh G ((c, i, b, none) :: r) x d σ h = aft i (exs G b (unset i σ) h) := by
  show (match G.xs x c with
    | some true => aft i (exs G b (unset i σ) h)
    | some false => exh G r x d σ h
    | none => .stuck) = _
  rw [hx]
theorem exh_next {i : Option Nat} {b : List S} {t : Option (List XI)} {r : List (Nat × Option Nat × List S × Option (List XI))} (hx : G.xs x c = some false) : exh G ((c, i, b, t) :: r) x d σ h = exh G r x d σ h := by
  show (match G.xs x c with
    | some true => _
    | some false => exh G r x d σ h
    | none => .stuck) = _
  rw [hx]
end
section
variable {k : Nat} {m : Str}
theorem xs33 : (gxOf PZ k).xs 3 3 = some true := rfl
theorem xs13 : (gxOf PZ k).xs 1 3 = some false := rfl
theorem xs11 : (gxOf PZ k).xs 1 1 = some true := rfl
theorem xs22' : (gxOf PZ k).xs 2 2 = some true := rfl
theorem xis3 : xis (gxOf PZ k) 3 .non [.k (.str "note"), .fld "line", .is 0, .is 1] = some [.str "note", .non, .bl true, .bl false] := rfl
theorem xis1 (d : D) : xis (gxOf PZ k) 1 d [.k (.str "name"), .fld "value", .is 0, .is 3] = some [.str "name", d, .bl true, .bl false] := rfl
theorem r_law_note (hk : 1 ≤ k) {a b : D} (e : run PZ (k - 1) 14 [.c a, .c b] [] = .err 3 .non []) : run PZ k 22 [.c a, .c b] [] = .ok (.c noteD) [] := by
  have c := callF_err (h := []) rfl e
  rw [run_go hk (F := F_22) rfl _ _ rfl]
  simp [F_22, sy_22, c, exh_some xs33, slotIn]
  rw [xis3]
  exact ret0_c
theorem r_law_name (hk : 1 ≤ k) {a b : D} (e : run PZ (k - 1) 14 [.c a, .c b] [] = .err 1 a []) : run PZ k 22 [.c a, .c b] [] = .ok (.c (nameD a)) [] := by
  have c := callF_err (h := []) rfl e
  rw [run_go hk (F := F_22) rfl _ _ rfl]
  simp [F_22, sy_22, c, exh_next xs13, exh_some xs11, slotIn]
  rw [xis1]
  exact ret0_c
theorem r_law_body (hk : 1 ≤ k) {a b w : D} (e : run PZ (k - 1) 14 [.c a, .c b] [] = .ok (.c w) []) : run PZ k 22 [.c a, .c b] [] = .ok (.c w) [] := by
  have c := callF_pure (h := []) rfl e
  rw [run_go hk (F := F_22) rfl _ _ rfl]
  simp [F_22, sy_22, c]
theorem r_due (x : Xp) (hk : x.dep + 12 ≤ k) (hm : m ∈ FC) (hs : x.short = true) : match lay m x 1 true 0 with
    | .ok _ => ∃ ns, run PZ k 23 [.c (.str m), .c x.d] [] = .ok (.c (bodyD m x ns)) []
    | .error _ => run PZ k 23 [.c (.str m), .c x.d] [] = .ok (.c noteD) [] := by
  have mk := mk_body (k := k - 1) x (by omega) hm hs []
  cases q : lay m x 1 true 0 with
  | ok n =>
    rw [q] at mk
    obtain ⟨ns, mk⟩ := mk
    refine ⟨ns, ?_⟩
    simp at mk
    rw [run_go (by omega) (F := F_23) rfl _ _ rfl]
    simp [F_23, sy_23, mk]
  | error p =>
    rw [q] at mk
    simp at mk
    show run PZ k 23 _ [] = _
    rw [run_go (by omega) (F := F_23) rfl _ _ rfl]
    simp [F_23, sy_23, mk, exh_none xs22', unset, aft, noteD]
theorem r_write (x : Xp) (ns : List D) (hk : x.dep + 1 ≤ k) (hx : Wd x) (hl : x.words.length ≤ 64) : run PZ k 11 [.c (bodyD m x ns)] [] = .ok (.c (.str (joinS x.words))) [] := by
  have c := callF_pure (h := []) rfl (r_words_of x (k - 1) (by omega) (by omega))
  have j := z_join (ws := x.words) (by omega) fun w hw => VALID_len w (hx.1 w hw)
  rw [run_go (by omega) (F := F_11) rfl _ _ rfl]
  simp [F_11, sy_11, bodyD, c, j]
/-! ### the bent texts -/
theorem y_addL2 {G : Gx} (o0 o1 : O) (xs ys : List D) (r : A) : cmpW G .add (.l 2) (.c (.lst ys)) (o0 :: o1 :: .lst xs :: r) = ofOpt (bin .add (.lst xs) (.lst ys)) fun d => .ok (.c d) (o0 :: o1 :: .lst xs :: r) := by
  rw [z_cmp rfl]; rfl
theorem bent_go (hk : 1 ≤ k) {o o1 o2 : O} (ho2 : PO o2) {t t1 t2 t3 t4 t6 t7 ta tb tc t8 t17 t18 : Str} {Ws L1 L2 L3 R1 R2 R3 R4 : List D} {i n : Int}
    (hsp : bmR .split (.str t) [.str " "] = some (.lst Ws))
    (ca : callF (run PZ (k - 1)) 16 [.l 0, .c (.int (((Ws.length : Nat) : Int) + 1))] [o] = .ok (.c (.int i)) [o1])
    (a1 : bin .add (.str t) (.str " ") = some (.str t1)) (a2 : bin .add (.str " ") (.str t) = some (.str t2))
    (a3 : bin .add (.str t) (.str " yes") = some (.str t3)) (a4 : bin .add (.str t) (.str "\n") = some (.str t4))
    (hc1 : cut Ws none (some (-1)) = L1) (j1 : bmR .join (.str " ") [.lst L1] = some (.str t6))
    (a7 : bin .add (.str t) (.str t) = some (.str t7))
    (hc2 : cut Ws none (some i) = L2) (j2 : bmR .join (.str " ") [.lst L2] = some (.str ta))
    (hc3 : cut Ws (some i) none = L3) (j3 : bmR .join (.str " ") [.lst L3] = some (.str tb))
    (a8 : bin .add (.str ta) (.str "  ") = some (.str tc)) (a8' : bin .add (.str tc) (.str tb) = some (.str t8))
    (cb : ∀ rest, callF (run PZ (k - 1)) 16 [.l 0, .c (.int 1200)] (o1 :: rest) = .ok (.c (.int n)) (o2 :: rest))
    (m1 : bin .mul (.lst [.str "not"]) (.int (1 + n)) = some (.lst R1)) (b1 : bin .add (.lst R1) (.lst [.str "maybe"]) = some (.lst R2)) (j4 : bmR .join (.str " ") [.lst R2] = some (.str t17))
    (m2 : bin .mul (.lst [.str "not"]) (.int 1200) = some (.lst R3)) (b2 : bin .add (.lst R3) (.lst [.str "yes"]) = some (.lst R4)) (j5 : bmR .join (.str " ") [.lst R4] = some (.str t18)) :
    run PZ k 24 [.l 0, .c (.str t)] [o] = .ok (.c (.lst ((([t1, t2, t3, t4, "", t6, t7] : List Str) ++ t8 :: (bentC ++ t17 :: [t18, "Yes", "(yes)"])).map .str))) [o2] := by
  rw [run_go hk (F := F_24) rfl _ _ rfl]
  simp [F_24, sy_24, hsp, ca, a1, a2, a3, a4, hc1, j1, a7, hc2, j2, hc3, j3, a8, a8', cb, m1, b1, j4, m2, b2, j5, y_cat1, y_addL2, z_bin_addL, bentC]
  exact ret1c (PO_loc ho2)
end
end B

set_option linter.all false
set_option maxRecDepth 100000
/-! The law itself, in the evaluator. Own work. -/
namespace B
open PySem (Str)
theorem flat_rep (x : D) : ∀ n : Nat, (List.replicate n [x]).flatten = List.replicate n x
  | 0 => rfl
  | n + 1 => by
    rw [List.replicate_succ, List.flatten_cons, flat_rep x n, List.replicate_succ]
    rfl
theorem z_bin_mulL (x : D) (n : Nat) (hn : n ≤ 2000) : bin .mul (.lst [x]) (.int ((n : Nat) : Int)) = some (.lst (List.replicate n x)) := by
  show (match decide ([x].length * ((n : Nat) : Int).toNat ≤ sizeMax ∧ -(9223372036854775808) ≤ ((n : Nat) : Int) ∧ ((n : Nat) : Int) < 9223372036854775808) with
    | true => some (D.lst (List.replicate ((n : Nat) : Int).toNat [x]).flatten)
    | false => none) = _
  have h1 : [x].length * ((n : Nat) : Int).toNat ≤ sizeMax := sz_leB (by simp; omega)
  rw [decide_eq_true ⟨h1, by omega, by omega⟩]
  show some (D.lst (List.replicate ((n : Nat) : Int).toNat [x]).flatten) = _
  rw [Int.toNat_natCast, flat_rep]
theorem cut_last (Ws : List D) : cut Ws none (some (-1)) = Ws.dropLast := by
  show (Ws.drop 0).take ((-1 + ((Ws.length : Nat) : Int)).toNat - 0) = _
  rw [List.drop_zero, List.dropLast_eq_take]
  congr 1
  omega
theorem cut_take (Ws : List D) (i : Nat) : cut Ws none (some ((i : Nat) : Int)) = Ws.take i := by
  show (Ws.drop 0).take ((if ((i : Nat) : Int) < 0 then (((i : Nat) : Int) + ((Ws.length : Nat) : Int)).toNat else min ((i : Nat) : Int).toNat Ws.length) - 0) = _
  rw [if_neg (by omega), List.drop_zero, Int.toNat_natCast, Nat.sub_zero]
  apply List.ext_getElem?
  intro n
  simp only [List.getElem?_take]
  by_cases h : n < i
  · rw [if_pos h]
    by_cases h2 : n < min i Ws.length
    · rw [if_pos h2]
    · rw [if_neg h2, List.getElem?_eq_none (by omega)]
  · rw [if_neg h, if_neg (by omega)]
theorem cut_drop (Ws : List D) (i : Nat) : cut Ws (some ((i : Nat) : Int)) none = Ws.drop i := by
  show (Ws.drop (if ((i : Nat) : Int) < 0 then (((i : Nat) : Int) + ((Ws.length : Nat) : Int)).toNat else min ((i : Nat) : Int).toNat Ws.length)).take (Ws.length - (if ((i : Nat) : Int) < 0 then (((i : Nat) : Int) + ((Ws.length : Nat) : Int)).toNat else min ((i : Nat) : Int).toNat Ws.length)) = _
  rw [if_neg (by omega), Int.toNat_natCast]
  by_cases h : i ≤ Ws.length
  · rw [Nat.min_eq_left h]
    exact List.take_of_length_le (by simp)
  · rw [Nat.min_eq_right (by omega), List.drop_length, List.drop_eq_nil_of_le (by omega), List.take_nil]
def bentAll (W : List Str) (i n : Nat) : List Str := bentA W ++ bentB W i :: (bentC ++ bentD n :: bentE)
section
variable {k : Nat} {m : Str}
theorem bent_none {x : Xp} (hx : Wd x) (hd : x.dep ≤ 64) (i n : Nat) : ∀ s ∈ bentAll x.words i n, readB m s = none := by
  intro s hs
  unfold bentAll at hs
  rcases List.mem_append.mp hs with hs | hs
  · exact bentA_none hx hd s hs
  · rcases List.mem_cons.mp hs with rfl | hs
    · exact bentB_none hx i
    · rcases List.mem_append.mp hs with hs | hs
      · exact bentC_none s hs
      · rcases List.mem_cons.mp hs with rfl | hs
        · exact bentD_none n
        · exact bentE_none s hs
theorem bentC_len : ∀ s ∈ bentC, s.length ≤ 16 := by decide +kernel
theorem rep_len {n : Nat} {v : Str} (hv : v.length ≤ 16) : ∀ w ∈ List.replicate n ("not" : Str) ++ [v], w.length ≤ 16 := by
  intro w hw
  rcases List.mem_append.mp hw with hw | hw
  · rw [(List.mem_replicate.mp hw).2]; exact VALID_len _ not_V
  · rw [List.mem_singleton.mp hw]; exact hv
theorem rep_join {n : Nat} {v : Str} (hn : n ≤ 1201) (hv : v.length ≤ 16) : (joinS (List.replicate n ("not" : Str) ++ [v])).length ≤ 30000 := by
  have := join_len (rep_len (n := n) hv)
  simp at this
  omega
theorem bent_len {x : Xp} (hx : Wd x) (hl : x.words.length ≤ 64) (i n : Nat) (hn : n ≤ 1200) : ∀ s ∈ bentAll x.words i n, s.length + 2 ≤ sizeMax := by
  have hF : ∀ w ∈ x.words, w.length ≤ 16 := fun w h => VALID_len w (hx.1 w h)
  have hJ := join_len hF
  have h1 : (" " : Str).length = 1 := rfl
  have h2 : (" yes" : Str).length = 4 := rfl
  have h3 : ("\n" : Str).length = 1 := rfl
  have h4 : ("  " : Str).length = 2 := rfl
  have h5 : ("" : Str).length = 0 := rfl
  have hT := join_len (ws := x.words.take i) fun w h => hF w (List.mem_of_mem_take h)
  have hD := join_len (ws := x.words.drop i) fun w h => hF w (List.mem_of_mem_drop h)
  have hLl := join_len (ws := x.words.dropLast) fun w h => hF w (List.dropLast_subset _ h)
  simp only [List.length_take, List.length_drop, List.length_dropLast] at hT hD hLl
  intro s hs
  refine sz_leB ?_
  unfold bentAll at hs
  rcases List.mem_append.mp hs with hs | hs
  · simp only [bentA, List.mem_cons, List.not_mem_nil, or_false] at hs
    rcases hs with rfl | rfl | rfl | rfl | rfl | rfl | rfl <;> (try simp only [app_len, h1, h2, h3, h4, h5]) <;> omega
  · rcases List.mem_cons.mp hs with rfl | hs
    · simp only [bentB, app_len, h4]; omega
    · rcases List.mem_append.mp hs with hs | hs
      · have := bentC_len s hs; omega
      · rcases List.mem_cons.mp hs with rfl | hs
        · have := rep_join (n := n + 1) (v := "maybe") (by omega) (by decide +kernel); unfold bentD; omega
        · simp only [bentE, List.mem_cons, List.not_mem_nil, or_false] at hs
          rcases hs with rfl | rfl | rfl
          · have := rep_join (n := 1200) (v := "yes") (by omega) (by decide +kernel); omega
          · have : ("Yes" : Str).length = 3 := rfl
            omega
          · have : ("(yes)" : Str).length = 5 := rfl
            omega
theorem r_bent (hk : 2 ≤ k) {o : O} (ho : PO o) {x : Xp} (hx : Wd x) (hl : x.words.length ≤ 64) : ∃ i n o', n ≤ 1200 ∧ PO o' ∧ ∀ rest, callF (run PZ k) 24 [.l 0, .c (.str (joinS x.words))] (o :: rest) = .ok (.c (.lst ((bentAll x.words i n).map .str))) (o' :: rest) := by
  have hF : ∀ w ∈ x.words, w.length ≤ 16 := fun w h => VALID_len w (hx.1 w h)
  have hn : x.words ≠ [] := by
    have := words_small x
    intro e
    rw [e] at this
    simp at this
  have hJ := join_len hF
  have hsp := z_split (s := joinS x.words) (sz_leB (by omega))
  rw [splitS_join hn fun w h => VALID_free w (hx.1 w h)] at hsp
  obtain ⟨r1, o1, ho1, h0, h5, c1⟩ := take_call (k := k - 1) (by omega) ho (n := ((x.words.length : Nat) : Int) + 1) (by omega) (by omega)
  obtain ⟨i, rfl⟩ : ∃ j : Nat, r1 = j := ⟨r1.toNat, by omega⟩
  obtain ⟨r2, o2, ho2, h0', h5', c2⟩ := take_call (k := k - 1) (by omega) ho1 (n := 1200) (by omega) (by omega)
  obtain ⟨n, rfl⟩ : ∃ j : Nat, r2 = j := ⟨r2.toNat, by omega⟩
  refine ⟨i, n, o2, by omega, ho2, fun rest => ?_⟩
  have h1 : (" " : Str).length = 1 := rfl
  have h2 : (" yes" : Str).length = 4 := rfl
  have h3 : ("\n" : Str).length = 1 := rfl
  have h4 : ("  " : Str).length = 2 := rfl
  have hT := join_len (ws := x.words.take i) fun w h => hF w (List.mem_of_mem_take h)
  have hD := join_len (ws := x.words.drop i) fun w h => hF w (List.mem_of_mem_drop h)
  simp only [List.length_take, List.length_drop] at hT hD
  have m1 : bin .mul (.lst [.str "not"]) (.int (1 + ((n : Nat) : Int))) = some (.lst (List.replicate (n + 1) (.str "not"))) := by
    rw [show (1 : Int) + ((n : Nat) : Int) = ((n + 1 : Nat) : Int) by omega]
    exact z_bin_mulL _ _ (by omega)
  have m2 : bin .mul (.lst [.str "not"]) (.int 1200) = some (.lst (List.replicate 1200 (.str "not"))) := z_bin_mulL _ 1200 (by omega)
  have rm : ∀ (n : Nat) (v : Str), (List.replicate n (D.str "not") ++ [.str v]) = (List.replicate n ("not" : Str) ++ [v]).map .str := by
    intro n v
    rw [List.map_append, List.map_replicate]
    rfl
  have b1 : bin .add (.lst (List.replicate (n + 1) (.str "not"))) (.lst [.str "maybe"]) = some (.lst ((List.replicate (n + 1) ("not" : Str) ++ [("maybe" : Str)]).map .str)) := by
    rw [z_bin_addL _ _ (sz_leB (by simp; omega)), rm]
  have b2 : bin .add (.lst (List.replicate 1200 (.str "not"))) (.lst [.str "yes"]) = some (.lst ((List.replicate 1200 ("not" : Str) ++ [("yes" : Str)]).map .str)) := by
    rw [z_bin_addL _ _ (sz_leB (by rw [List.length_replicate]; decide)), rm]
  have j4 := z_join (ws := List.replicate (n + 1) ("not" : Str) ++ [("maybe" : Str)]) (by simp; omega) (rep_len (by decide +kernel))
  have j5 := z_join (ws := List.replicate 1200 ("not" : Str) ++ [("yes" : Str)]) (by rw [List.length_append, List.length_replicate]; decide) (rep_len (by decide +kernel))
  have ca := c1 []
  rw [show x.words.length = (x.words.map D.str).length by simp] at ca
  have q := bent_go (k := k) (by omega) ho2 hsp ca
    (z_bin_addS _ _ (sz_leB (by rw [h1]; omega))) (z_bin_addS _ _ (sz_leB (by rw [h1]; omega))) (z_bin_addS _ _ (sz_leB (by rw [h2]; omega))) (z_bin_addS _ _ (sz_leB (by rw [h3]; omega)))
    (by rw [cut_last, ← List.map_dropLast]) (z_join (ws := x.words.dropLast) (by simp; omega) fun w h => hF w (List.dropLast_subset _ h))
    (z_bin_addS _ _ (sz_leB (by omega)))
    (by rw [cut_take, ← List.map_take]) (z_join (ws := x.words.take i) (by simp; omega) fun w h => hF w (List.mem_of_mem_take h))
    (by rw [cut_drop, ← List.map_drop]) (z_join (ws := x.words.drop i) (by simp; omega) fun w h => hF w (List.mem_of_mem_drop h))
    (z_bin_addS _ _ (sz_leB (by rw [h4]; omega))) (z_bin_addS _ _ (sz_leB (by rw [app_len, h4]; omega)))
    c2 m1 b1 j4 m2 b2 j5
  exact callF_loc (n := 0) rfl rfl (PO_loc ho) rfl q (PO_loc ho2)
end
end B

set_option linter.all false
set_option maxRecDepth 100000
/-! The law itself, in the evaluator: what is right. Own work. -/
namespace B
open PySem (Str)
theorem forGo_all {f : D → Env → A → SRes} (σ : Option W → Env) (h : A) : ∀ (xs : List D) (v : Option W), (∀ d ∈ xs, ∀ v, f d (σ v) h = .nx (σ (some (.c d))) h) → ∃ v', forGo f xs (σ v) h = .nx (σ v') h
  | [], v, _ => ⟨v, rfl⟩
  | d :: r, v, hf => by
    obtain ⟨v', e⟩ := forGo_all σ h r (some (.c d)) fun x hx => hf x (List.mem_cons_of_mem _ hx)
    exact ⟨v', by rw [z_forGo, hf d List.mem_cons_self, z_ln_nx, e]⟩
def Good (m : Str) (x : Xp) : Prop := allOk m true x = true ∧ x.dep ≤ 6 ∧ x.size ≤ 16
theorem Wd_short : ∀ x : Xp, x.full = true → x.short = true
  | .leaf _, _ => rfl
  | .cnt _, _ => rfl
  | .ask [], h => by cases h
  | .ask (o :: r), h => by
    have h' : (if o ∈ TWO then decide (r.length = 2) else decide (r.length = 1)) = true := h
    show decide ((o :: r).length ≤ 1000) = true
    apply decide_eq_true
    show r.length + 1 ≤ 1000
    split at h' <;> (have := of_decide_eq_true h'; omega)
  | .not_ a, h => Wd_short a h
  | .ife a b c, h => by
    have h' : (a.full && b.full && c.full) = true := h
    simp only [Bool.and_eq_true] at h'
    show (a.short && b.short && c.short) = true
    rw [Wd_short a h'.1.1, Wd_short b h'.1.2, Wd_short c h'.2]
    rfl
section
variable {k : Nat} {m : Str}
theorem nn_note (G : Gx) (h : A) : cmpW G .ne (.c noteD) (.c (.lst [.str "note", .non, .bl true, .bl false])) h = .ok (.c (.bl false)) h := by
  unfold noteD
  rw [z_cmp_lst, z_opW_ne, z_bin_ne, show eqD (.lst [.str "note", .non, .bl true, .bl false]) (.lst [.str "note", .non, .bl true, .bl false]) = some true by decide +kernel]
  rfl
theorem nn_note2 (G : Gx) (h : A) : cmpW G .ne (.c noteD) (.c noteD) h = .ok (.c (.bl false)) h := nn_note G h
def lb1 (k : Nat) : D → Env → A → SRes := forB (.nm 6) (exs (gxOf PZ k) [.ife (.op .ne (.call 22 [.var 1, .var 6]) (.lst false [.k (.str "note"), .k .non, .k (.bl true), .k (.bl false)])) [.ret (.k (.bl false))] []])
def lb2 (k : Nat) : D → Env → A → SRes := forB (.nm 7) (exs (gxOf PZ k) [.ife (.op .ne (.call 22 [.var 7, .var 4]) (.call 23 [.var 7, .var 2])) [.ret (.k (.bl false))] []])
def lb3 (k : Nat) : D → Env → A → SRes := forB (.nm 6) (exs (gxOf PZ k) [.ife (.bo false [.op .ne (.call 22 [.var 6, .var 4]) (.lst false [.k (.str "name"), .var 6, .k (.bl true), .k (.bl false)]), .op .ne (.ix (.call 22 [.var 6, .k (.int 0)]) (.k (.int 0))) (.k (.str "name"))]) [.ret (.k (.bl false))] []])
theorem lb1_go {a0 a2 a3 a4 a5 v a7 : Option W} {h : A} {d : D} (e : run PZ k 22 [.c (.str m), .c d] [] = .ok (.c noteD) []) : lb1 k d [a0, some (.c (.str m)), a2, a3, a4, a5, v, a7] h = .nx [a0, some (.c (.str m)), a2, a3, a4, a5, some (.c d), a7] h := by
  have c := callF_pure (h := h) rfl e
  simp [lb1, c, nn_note]
theorem lb2_go {a0 a1 a3 a5 a6 v : Option W} {h : A} {m2 s : Str} {x : Xp} {r1 r2 : D} (e1 : run PZ k 22 [.c (.str m2), .c (.str s)] [] = .ok (.c r1) []) (e2 : run PZ k 23 [.c (.str m2), .c x.d] [] = .ok (.c r2) []) (he : cmpW (gxOf PZ k) .ne (.c r1) (.c r2) h = .ok (.c (.bl false)) h) : lb2 k (.str m2) [a0, a1, some (.c x.d), a3, some (.c (.str s)), a5, a6, v] h = .nx [a0, a1, some (.c x.d), a3, some (.c (.str s)), a5, a6, some (.c (.str m2))] h := by
  have c1 := callF_pure (h := h) rfl e1
  have c2 := callF_pure (h := h) rfl e2
  simp [lb2, c1, c2, he]
theorem lb3_go {a0 a1 a2 a3 a5 v a7 : Option W} {h : A} {d : D} {s : Str} (e1 : run PZ k 22 [.c d, .c (.str s)] [] = .ok (.c (nameD d)) []) (e2 : run PZ k 22 [.c d, .c (.int 0)] [] = .ok (.c (nameD d)) []) (hq : eqD (nameD d) (nameD d) = some true) : lb3 k d [a0, a1, a2, a3, some (.c (.str s)), a5, v, a7] h = .nx [a0, a1, a2, a3, some (.c (.str s)), a5, some (.c d), a7] h := by
  have c1 := callF_pure (h := h) rfl e1
  have c2 := callF_pure (h := h) rfl e2
  unfold nameD at c1 c2 hq
  simp [lb3, c1, c2, hq]
def nonT : List D := [.non, .int 0, .lst [.str "yes"], .tup [.str "yes"], .bl true]
def meths : List D := [.str "truth", .str "length", .str "has", .str "like", .str "behind", .str "hash"]
def wrongs : List D := [.non, .str "item", .str "walk", .str "grow", .str "call", .str "size", .int 0, .lst [], .str "step"]
theorem nonT_ok : ∀ d ∈ nonT, noText d = true := by
  intro d hd
  simp only [nonT, List.mem_cons, List.not_mem_nil, or_false] at hd
  rcases hd with rfl | rfl | rfl | rfl | rfl <;> rfl
theorem wrongs_ok : ∀ d ∈ wrongs, badM d = true ∧ eqD (nameD d) (nameD d) = some true := by
  intro d hd
  simp only [wrongs, List.mem_cons, List.not_mem_nil, or_false] at hd
  rcases hd with rfl | rfl | rfl | rfl | rfl | rfl | rfl | rfl | rfl <;> exact ⟨by decide +kernel, by decide +kernel⟩
theorem meths_ok : ∀ d ∈ meths, ∃ m, d = .str m ∧ m ∈ FC := by
  intro d hd
  simp only [meths, List.mem_cons, List.not_mem_nil, or_false] at hd
  rcases hd with rfl | rfl | rfl | rfl | rfl | rfl <;> exact ⟨_, rfl, by decide +kernel⟩
theorem b_shape (x : Xp) (ns : List D) (h : A) : shape h (.c (bodyD m x ns)) = some (bodyD m x ns) := rfl
theorem b_known (x : Xp) (ns : List D) : known (gxOf PZ k) (bodyD m x ns) = true := rfl
theorem b_ty (x : Xp) (ns : List D) : isTy PZ.cl (bodyD m x ns) (.own 0) = true := rfl
theorem b_f1 (x : Xp) (ns : List D) (h : A) : field h (.c (bodyD m x ns)) 1 = some (.c x.d) := rfl
theorem b_f0 (x : Xp) (ns : List D) (h : A) : field h (.c (bodyD m x ns)) 0 = some (.c (.str m)) := rfl
theorem r_right (hk : 160 ≤ k) (hm : m ∈ FC) {x : Xp} (hg : Good m x) {o : O} (ho : PO o) : ∃ o', PO o' ∧ run PZ k 25 [.l 0, .c (.str m), .c x.d] [o] = .ok (.c (.bl true)) [o'] := by
  obtain ⟨hall, hdep, hsize⟩ := hg
  have hW := allOk_Wd x true hall
  have hwl : x.words.length ≤ 64 := by have := hW.2.2; omega
  have hsh := Wd_short x hW.2.1
  have hF : ∀ w ∈ x.words, w.length ≤ 16 := fun w h => VALID_len w (hW.1 w h)
  have hJ := join_len hF
  have hlen : (joinS x.words).length + 2 ≤ sizeMax := sz_leB (by omega)
  have hlay := lay_ok x 1 true 0 hall (by omega) (by omega)
  have mk := mk_body (k := k - 1) x (by omega) hm hsh [o]
  rw [hlay] at mk
  obtain ⟨ns, mk⟩ := mk
  simp only [List.singleton_append] at mk
  have wr := callF_pure (h := [o, .dead]) rfl (r_write (k := k - 1) (m := m) x ns (by omega) hW hwl)
  have fl := callF_pure (h := [o, .dead]) rfl (r_flat x (k - 1) (by omega) (by omega))
  have jn := z_join (ws := x.words) (by omega) hF
  have rd := r_read_body (k := k - 2) (m := m) (by omega) hm (joinS x.words) hlen
  rw [readB_eq hW (by omega) hwl, hlay] at rd
  obtain ⟨ns2, rd⟩ := rd
  have ag := callF_pure (h := [o, .dead]) rfl (r_law_body (k := k - 1) (by omega) rd)
  have cb := cmp_body (k := k - 1) (by omega) m m x x ns2 ns (by omega) [o, .dead]
  simp only [decide_true, Bool.and_self, Bool.not_true] at cb
  have cx := z_cmpn_x (gxOf PZ (k - 1)) x x [o, .dead] (by omega)
  simp only [decide_true, Bool.not_true] at cx
  obtain ⟨i, n, o2, hn, ho2, bt⟩ := r_bent (k := k - 1) (by omega) ho hW hwl
  have bt' := bt [.dead]
  have hadd : bin .add (.lst ((bentAll x.words i n).map .str)) (.lst nonT) = some (.lst ((bentAll x.words i n).map .str ++ nonT)) := z_bin_addL _ _ (sz_leB (by simp [bentAll, bentA, bentC, bentE, nonT]))
  have l1 : ∀ d ∈ (bentAll x.words i n).map .str ++ nonT, run PZ (k - 1) 22 [.c (.str m), .c d] [] = .ok (.c noteD) [] := by
    intro d hd
    rcases List.mem_append.mp hd with hd | hd
    · obtain ⟨s, hs, rfl⟩ := List.mem_map.mp hd
      have q := r_read_body (k := k - 2) (m := m) (by omega) hm s (bent_len hW hwl i n hn s hs)
      rw [bent_none hW (by omega) i n s hs] at q
      exact r_law_note (k := k - 1) (by omega) q
    · exact r_law_note (k := k - 1) (by omega) (r_read_bodyN (k := k - 2) (by omega) hm d (nonT_ok d hd))
  generalize hBL : (bentAll x.words i n).map .str ++ nonT = BL at hadd l1
  have l2 : ∀ d ∈ meths, ∀ v a0 a1 a3 a5 a6 h, lb2 (k - 1) d [a0, a1, some (.c x.d), a3, some (.c (.str (joinS x.words))), a5, a6, v] h = .nx [a0, a1, some (.c x.d), a3, some (.c (.str (joinS x.words))), a5, a6, some (.c d)] h := by
    intro d hd v a0 a1 a3 a5 a6 h
    obtain ⟨m2, rfl, hm2⟩ := meths_ok d hd
    have q := r_read_body (k := k - 2) (m := m2) (by omega) hm2 (joinS x.words) hlen
    rw [readB_eq hW (by omega) hwl] at q
    have du := r_due (k := k - 1) (m := m2) x (by omega) hm2 hsh
    cases hl2 : lay m2 x 1 true 0 with
    | ok n2 =>
      rw [hl2] at q du
      obtain ⟨n3, q⟩ := q
      obtain ⟨n4, du⟩ := du
      have cb2 := cmp_body (k := k - 1) (by omega) m2 m2 x x n3 n4 (by omega) h
      simp only [decide_true, Bool.and_self, Bool.not_true] at cb2
      exact lb2_go (r_law_body (k := k - 1) (by omega) q) du cb2
    | error p =>
      rw [hl2] at q du
      exact lb2_go (r_law_note (k := k - 1) (by omega) q) du (nn_note2 _ _)
  have l3 : ∀ d ∈ wrongs, ∀ v a0 a1 a2 a3 a5 a7 h, lb3 (k - 1) d [a0, a1, a2, a3, some (.c (.str (joinS x.words))), a5, v, a7] h = .nx [a0, a1, a2, a3, some (.c (.str (joinS x.words))), a5, some (.c d), a7] h := by
    intro d hd v a0 a1 a2 a3 a5 a7 h
    obtain ⟨h1, h2⟩ := wrongs_ok d hd
    exact lb3_go (r_law_name (k := k - 1) (by omega) (r_read_bodyM (k := k - 2) (by omega) d _ h1)) (r_law_name (k := k - 1) (by omega) (r_read_bodyM (k := k - 2) (by omega) d _ h1)) h2
  generalize hT : joinS x.words = T at wr ag bt' l2 l3 jn
  obtain ⟨v1, g1⟩ := forGo_all (f := lb1 (k - 1)) (fun v => [some (.l 0), some (.c (.str m)), some (.c x.d), some (.c (bodyD m x ns)), some (.c (.str T)), some (.c (bodyD m x ns2)), v, none]) [o2, .dead] BL none (fun d hd v => lb1_go (l1 d hd))
  obtain ⟨v2, g2⟩ := forGo_all (f := lb2 (k - 1)) (fun v => [some (.l 0), some (.c (.str m)), some (.c x.d), some (.c (bodyD m x ns)), some (.c (.str T)), some (.c (bodyD m x ns2)), v1, v]) [o2, .dead] meths none (fun d hd v => l2 d hd v _ _ _ _ _ _)
  obtain ⟨v3, g3⟩ := forGo_all (f := lb3 (k - 1)) (fun v => [some (.l 0), some (.c (.str m)), some (.c x.d), some (.c (bodyD m x ns)), some (.c (.str T)), some (.c (bodyD m x ns2)), v, v2]) [o2, .dead] wrongs v1 (fun d hd v => l3 d hd v _ _ _ _ _ _ _)
  refine ⟨o2, ho2, ?_⟩
  unfold lb1 at g1
  unfold lb2 meths at g2
  unfold lb3 wrongs at g3
  unfold nonT at hadd
  rw [run_go (by omega) (F := F_25) rfl _ _ rfl]
  simp [-z_forGo, F_25, sy_25, mk, wr, fl, jn, ag, cb, cx, bt', hadd, b_shape, b_known, b_ty, b_f1, b_f0, g1, g2, g3]
  exact ret1c (PO_loc ho2)
end
end B

set_option linter.all false
set_option maxRecDepth 100000
/-! The law of bodies as texts, in the evaluator. Own work. -/
namespace B
open PySem (Str)
def gAsk : Xp := .ask ["like", "self", "other"]
def gOf (x : Xp) : Xp := .ife gAsk gAsk x
def great : Xp := gOf (gOf (gOf (gOf (gOf gAsk))))
theorem great_len : great.words.length = 49 := by decide +kernel
theorem great_good : Good "unlike" great := ⟨by decide +kernel, by decide +kernel, by decide +kernel⟩
theorem great_Wd : Wd great := allOk_Wd great true great_good.1
theorem iN4 : intsN 0 4 = [.int 0, .int 1, .int 2, .int 3] := rfl
theorem iR4 : inRange 4 = true := rfl
theorem callF_new {R : Nat → List W → A → Res W} {f : Nat} {ws : List W} {h : A} {o : O} (hc : closed ws = true) (hz : locO o = []) (e : R f ws [] = .ok (.l 0) [o]) : callF R f ws h = .ok (.l h.length) (h ++ [o]) := by
  rw [callF_closed hc, e]
  show Res.ok (bakW [] h.length (.l 0)) (back [] h [o]) = _
  have h1 : bakW [] h.length (.l 0) = .l h.length := by simp [bakW, bakN]
  have h2 : back [] h [o] = h ++ [o] := by
    unfold back
    simp [putL, bakO_no hz]
  rw [h1, h2]
theorem call_at {R : Nat → List W → A → Res W} {f : Nat} {ws : List W} {h : A} {o o' : O} {d : D} (hc : closed ws = true) (hz : locO o = []) (hz' : locO o' = []) (e : R f (.l 0 :: ws) [o] = .ok (.c d) [o']) : callF R f (.l h.length :: ws) (h ++ [o]) = .ok (.c d) (h ++ [o']) := by
  have hn : (h ++ [o] : A)[h.length]? = some o := by simp
  have q := callF_loc (R := R) (f := f) (h := h ++ [o]) (n := h.length) (ws := .l h.length :: ws) (locs_l hc) hn hz (renWs_l hc) e hz'
  rw [q]
  simp
theorem mem_intsN : ∀ {n : Nat} {lo : Nat} {d : D}, d ∈ intsN ((lo : Nat) : Int) n → ∃ i : Nat, d = .int ((i : Nat) : Int)
  | 0, lo, d, h => by cases h
  | n + 1, lo, d, h => by
    have h' : d ∈ D.int ((lo : Nat) : Int) :: intsN (((lo + 1 : Nat)) : Int) n := h
    rcases List.mem_cons.mp h' with rfl | h'
    · exact ⟨lo, rfl⟩
    · exact mem_intsN h'
theorem forGo_any {f : D → Env → A → SRes} (P : Env → Prop) : ∀ (xs : List D) (σ : Env) (h : A), P σ → (∀ d ∈ xs, ∀ σ h, P σ → ∃ σ' h', f d σ h = .nx σ' h' ∧ P σ') → ∃ σ' h', forGo f xs σ h = .nx σ' h' ∧ P σ'
  | [], σ, h, hp, _ => ⟨σ, h, rfl, hp⟩
  | d :: r, σ, h, hp, hf => by
    obtain ⟨σ1, h1, e1, hp1⟩ := hf d List.mem_cons_self σ h hp
    obtain ⟨σ2, h2, e2, hp2⟩ := forGo_any P r σ1 h1 hp1 fun x hx => hf x (List.mem_cons_of_mem _ hx)
    exact ⟨σ2, h2, by rw [z_forGo, e1, z_ln_nx, e2], hp2⟩
section
variable {k : Nat}
theorem r_great (hk : 1 ≤ k) : run PZ k 26 [] [] = .ok (.c great.d) [] := by
  rw [run_go hk (F := F_26) rfl _ _ rfl]
  simp [F_26, sy_26, iN4, iR4, great, gOf, gAsk, Xp.d]
theorem r_one (hk : 2 ≤ k) {o : O} (ho : PO o) {items : List D} (hn : items ≠ []) (hl : items.length ≤ 100) : ∃ d o', d ∈ items ∧ PO o' ∧ run PZ k 17 [.l 0, .c (.lst items)] [o] = .ok (.c d) [o'] := by
  have hpos : 1 ≤ items.length := by cases items <;> first | exact absurd rfl hn | simp
  obtain ⟨r, o', hp, h3, h4, e⟩ := take_call (k := k - 1) (by omega) ho (n := ((items.length : Nat) : Int)) (by omega) (by omega)
  obtain ⟨r, rfl⟩ : ∃ j : Nat, r = j := ⟨r.toNat, by omega⟩
  have hr : r < items.length := by omega
  have hg : getI (.lst items) (.int ((r : Nat) : Int)) = some items[r] := z_get_ln _ _ _ (List.getElem?_eq_getElem hr)
  refine ⟨items[r], o', List.getElem_mem hr, hp, ?_⟩
  have e' := e []
  rw [run_go (by omega) (F := F_17) rfl _ _ rfl]
  simp [F_17, sy_17, e', hg]
  exact ret1c (PO_loc hp)
def lbody (k : Nat) : D → Env → A → SRes := forB (.nm 1) (exs (gxOf PZ k) [.set (.nm 2) (.call 15 [.var 0, .var 1]),
  .set (.nm 3) (.lst false [.k (.str "truth"), .k (.str "length"), .k (.str "has"), .k (.str "like"), .k (.str "unlike"), .k (.str "before"), .k (.str "behind"), .k (.str "hash")]),
  .set (.nm 4) (.call 17 [.var 2, .var 3]),
  .ife (.not_ (.call 25 [.var 2, .var 4, .call 20 [.var 2, .var 4, .k (.int 2), .k (.bl true)]])) [.ret (.k (.bl false))] []])
def LP (ns : List Int) (σ : Env) : Prop := ∃ v1 v2 v3 v4, σ = [some (.c (.scr (ns.map .int))), v1, v2, v3, v4]
theorem lbody_go (hk : 160 ≤ k) (ns : List Int) (i : Nat) (σ : Env) (h : A) (hp : LP ns σ) : ∃ σ' h', lbody k (.int ((i : Nat) : Int)) σ h = .nx σ' h' ∧ LP ns σ' := by
  obtain ⟨v1, v2, v3, v4, rfl⟩ := hp
  obtain ⟨o, ho, e⟩ := r_pool (k := k) (by omega) ns i
  have c1 := callF_new (h := h) rfl (PO_loc ho) e
  obtain ⟨d, o1, hd, ho1, e1⟩ := r_one (k := k) (by omega) ho (items := FC.map .str) (by simp [FC]) (by simp [FC])
  obtain ⟨m, hm, rfl⟩ := List.mem_map.mp hd
  have c2 := call_at (h := h) rfl (PO_loc ho) (PO_loc ho1) e1
  have hFC : FC.map D.str = [.str "truth", .str "length", .str "has", .str "like", .str "unlike", .str "before", .str "behind", .str "hash"] := rfl
  rw [hFC] at c2
  obtain ⟨x, o2, hx, ho2, e2⟩ := r_deep hm 2 k o1 true (by omega) ho1
  have c3 := call_at (h := h) rfl (PO_loc ho1) (PO_loc ho2) e2
  have z2 : (((2 : Nat)) : Int) = 2 := rfl
  rw [z2] at c3
  obtain ⟨o3, ho3, e3⟩ := r_right (k := k) hk hm (x := x) ⟨hx.1, by have := hx.2.1; omega, by have : x.size ≤ 13 := hx.2.2; omega⟩ ho2
  have c4 := call_at (h := h) rfl (PO_loc ho2) (PO_loc ho3) e3
  refine ⟨[some (.c (.scr (ns.map .int))), some (.c (.int ((i : Nat) : Int))), some (.l h.length), some (.c (.lst [.str "truth", .str "length", .str "has", .str "like", .str "unlike", .str "before", .str "behind", .str "hash"])), some (.c (.str m))], h ++ [o3], ?_, ⟨_, _, _, _, rfl⟩⟩
  simp [lbody, c1, c2, c3, c4]
theorem range_of (ns : List Int) : ∃ N : Int, (∀ h : A, (ofOpt (bi2 .min2 (.int 20) (.int ((ns.length : Nat) : Int))) fun d => ofOpt (bi2 .max2 (.int 1) d) fun d => (Res.ok (W.c d) h : Res W)) = .ok (.c (.int N)) h) ∧ inRange N = true := by
  by_cases h1 : ((ns.length : Nat) : Int) < 20
  · by_cases h2 : ((ns.length : Nat) : Int) > 1
    · exact ⟨((ns.length : Nat) : Int), fun h => by simp [h1, h2], by unfold inRange; exact decide_eq_true (by omega)⟩
    · exact ⟨1, fun h => by simp [h1, h2], rfl⟩
  · exact ⟨20, fun h => by simp [h1], rfl⟩
theorem r_law (hk : 161 ≤ k) (ns : List Int) : run PZ k 27 [.c (.scr (ns.map .int))] [] = .ok (.c (.bl true)) [] := by
  have g := r_great (k := k - 1) (by omega)
  have g0 := callF_pure (h := []) (show closed [] = true from rfl) g
  have fl := callF_pure (h := []) rfl (r_flat great (k - 1) (by have : great.dep = 6 := rfl; omega) (by rw [great_len]; omega))
  obtain ⟨o, ho, e⟩ := r_pool (k := k - 1) (by omega) ns 0
  have c1 := callF_new (h := []) rfl (PO_loc ho) e
  have z0 : (((0 : Nat)) : Int) = 0 := rfl
  rw [z0] at c1
  have g1 := callF_pure (h := [o]) (show closed [] = true from rfl) g
  obtain ⟨o3, ho3, e3⟩ := r_right (k := k - 1) (m := "unlike") (by omega) (by decide +kernel) great_good ho
  have c4 := call_at (h := []) rfl (PO_loc ho) (PO_loc ho3) e3
  simp only [List.length_nil, List.nil_append] at c1 c4
  obtain ⟨N, hN, hR⟩ := range_of ns
  obtain ⟨σ', h', lp, _⟩ := forGo_any (f := lbody (k - 1)) (LP ns) (intsN 0 N.toNat) [some (.c (.scr (ns.map .int))), none, none, none, none] [o3] ⟨_, _, _, _, rfl⟩ (fun d hd σ h hp => by
    obtain ⟨i, rfl⟩ := mem_intsN (lo := 0) hd
    exact lbody_go (k := k - 1) (by omega) ns i σ h hp)
  unfold lbody at lp
  generalize great.d = gd at g0 fl g1 c4
  have hlen : (great.words.map D.str).length = 49 := by rw [List.length_map, great_len]
  generalize great.words.map D.str = gw at fl hlen
  rw [run_go (by omega) (F := F_27) rfl _ _ rfl]
  have src : ∀ (σ : Env) (h : A), σ[0]? = some (some (.c (.scr (ns.map .int)))) → evi (gxOf PZ (k - 1)) (.rg (.bi false .max2 [.k (.int 1), .bi false .min2 [.k (.int 20), .bi false .len [.var 0]]])) σ h = .ok (.cl (intsN 0 N.toNat)) h := by
    intro σ h hσ
    have hN' := hN h
    cases q1 : bi2 .min2 (.int 20) (.int ((ns.length : Nat) : Int)) with
    | none => rw [q1] at hN'; simp at hN'
    | some d1 =>
      rw [q1] at hN'
      simp only [z_ofOpt_some] at hN'
      cases q2 : bi2 .max2 (.int 1) d1 with
      | none => rw [q2] at hN'; simp at hN'
      | some d2 =>
        rw [q2] at hN'
        simp only [z_ofOpt_some, Res.ok.injEq, W.c.injEq, and_true] at hN'
        subst hN'
        simp [-z_min, -z_max, hσ, q1, q2, hR]
  have fin : exs (gxOf PZ (k - 1)) sy_27 [some (.c (.scr (ns.map .int))), none, none, none, none] [] = .rt (.c (.bl true)) h' := by
    simp [-z_forGo, -z_rg, sy_27, g0, fl, hlen, c1, g1, c4, src, lp]
  exact (congrArg (retB true 0) fin).trans ret0_c
theorem hlaw (ns : List Int) (_ : ns.length ≤ 63) : run PZ 221 27 [.c (.scr (ns.map .int))] [] = .ok (.c (.bl true)) [] := r_law (by omega) ns
end
end B
theorem PySem.Challenge.cw_answersby_k88_bodies_written_holds : PySem.Challenge.rw_answersby_k88_bodies_written.Holds :=
  B.holdsZ B.hlaw
